import PyProof.Rows.All
import Wide.All
import OpenK.AllK
import Wide.FinOn
import PySem.Challenge.RW_xw0154_01
set_option Elab.async false

/- part Hd -/
namespace Mine
section
open PySem PySem.W PyProof.Rows
set_option maxRecDepth 100000
set_option maxHeartbeats 8000000
open_top hd for PySem.Challenge.rw_xw0154_01
end
end Mine

namespace Mine
section
open PySem PySem.W PyProof.Rows
/-- lays the written part for the walks below -/
theorem fillAll (h : PySem.Challenge.rw_xw0154_01.Holds) : PySem.Challenge.rw_xw0154_01.Holds := by
  first
  | (refine hd ?_; k_fill; fail)
  | exact h
end
end Mine

/- part K0 -/
namespace Mine
section
open PySem PySem.W PyProof.Rows
theorem lS {a : Nat} : a < a + 1 := Nat.lt_succ_self a
theorem lU {a b : Nat} (h : a < b) : a < b + 1 := Nat.lt_succ_of_lt h
theorem lD {a c : Nat} (h : a + 1 < c) : a < c := Nat.lt_of_succ_lt h
theorem cut_lt {b n : Int} {i : Nat} (h : i < (n - b).toNat) : b + (i : Int) < n := by omega
theorem cut_len {d : Int} {n k : Nat} (h : n = (d - 0).toNat) (h2 : d < (k : Int) + 1) : n ≤ k := by omega
theorem cut_end {b n : Int} (h : b ≤ n) : b + ((n - b).toNat : Int) = n := by omega
theorem cut_mul {x l k : Nat} (h : x ≤ l * 1) (h2 : l ≤ k) : x ≤ k := Nat.le_trans h ((Nat.mul_one l).symm ▸ h2)
theorem small_d {d : Int} (h0 : 0 ≤ d) (h1 : d < 20) : Builtin.Range.small 0 d 1 = true := small_one (by decide) (by decide) (by omega) (by omega)
theorem size_d {d : Int} (h1 : d < 20) : (d - 0).toNat ≤ sizeLine := by rw [sizeLine_eq]; omega
theorem allN {α : Type} {P : α → Prop} : ∀ v ∈ ([] : List α), P v := fun _ h => nomatch h
theorem allK {α : Type} {P : α → Prop} {a : α} {l : List α} (h : P a) (t : ∀ v ∈ l, P v) : ∀ v ∈ a :: l, P v := List.forall_mem_cons.mpr ⟨h, t⟩
theorem oneOf {α : Type} {P : α → Prop} {v : α} {l : List α} (hv : v ∈ l) (h : ∀ v ∈ l, P v) : P v := h v hv
theorem offK {q : Addr × Obj} {l : List (Addr × Obj)} {a : Addr} (h : q.1 ≠ a) (t : ∀ p ∈ l, p.1 ≠ a) : ∀ p ∈ q :: l, p.1 ≠ a := List.forall_mem_cons.mpr ⟨h, t⟩
theorem dec_lt {n k k2 : Int} (h : k < k2) (h2 : k < n) : (n - k2).toNat < (n - k).toNat := by omega
/-- the walk of a body under any continuations that the true ones reach -/
theorem gen_QE {α : Type} {M : Model} {A : Around} {x : Sem α} {Q : α → Shared → Prop} {E : Value → Shared → Prop} {s : Shared} (h : ∀ Q2 : α → Shared → Prop, (∀ a s2, Q a s2 → Q2 a s2) → wpAny M A x Q2 (fun _ _ => False) s) : wpAny M A x Q E s := wpAny_noRaise (h Q fun _ _ h => h)
/-- a statement under any continuation that goes on with the rest -/
theorem gen_st {M : Model} {A : Around} {env : Env} {st st2 : Stmt} {rest : List Stmt} {Q : Flow → Shared → Prop} {E : Value → Shared → Prop} {s : Shared} (h : ∀ Q3 : Flow → Shared → Prop, (∀ s2, wpAny M A (execs (st2 :: rest) env) Q E s2 → Q3 .next s2) → (∀ v s2, Q (.ret v) s2 → Q3 (.ret v) s2) → wpAny M A (exec st env) Q3 E s) : wpAny M A (execs (st :: st2 :: rest) env) Q E s :=
  wpAny_execs_cons (h _ (fun _ h => h) (fun _ _ h => h))
theorem gen_nx {P : Shared → Prop} {Q3 : Flow → Shared → Prop} {s : Shared} (g : ∀ s2, P s2 → Q3 .next s2) (h : P s) : Q3 .next s := g s h
theorem gen_rt {P : Value → Shared → Prop} {Q3 : Flow → Shared → Prop} {v : Value} {s : Shared} (g : ∀ v s2, P v s2 → Q3 (.ret v) s2) (h : P v s) : Q3 (.ret v) s := g v s h
theorem gen_T {α : Type} {M : Model} {A : Around} {x : Sem α} {Q : α → Shared → Prop} {E : Value → Shared → Prop} {hp : Heap} {g : Array GenState} {d : Drawn} {t : Nat} {o : OsState} (h : ∀ t : Nat, wpAny M A x Q E ⟨hp, g, d, t, o⟩) : wpAny M A x Q E ⟨hp, g, d, t, o⟩ := h t
theorem gen_QT {α : Type} {M : Model} {A : Around} {x : Sem α} {Q : α → Shared → Prop} {E : Value → Shared → Prop} {hp : Heap} {g : Array GenState} {d : Drawn} {t : Nat} {o : OsState} (h : ∀ (Q2 : α → Shared → Prop) (t : Nat), (∀ a s2, Q a s2 → Q2 a s2) → wpAny M A x Q2 (fun _ _ => False) ⟨hp, g, d, t, o⟩) : wpAny M A x Q E ⟨hp, g, d, t, o⟩ := wpAny_noRaise (h Q t fun _ _ h => h)
theorem gen_goal {G : Prop} (h : ∀ P : Prop, (G → P) → P) : G := h G fun x => x
end
end Mine

/- part T0 -/
namespace Mine
section
open PySem PySem.W PyProof.Rows

noncomputable abbrev cl (x : Str) : List Nat := x.cps.toList

theorem len_cl (x : Str) : x.length = (cl x).length := by
  unfold Str.length; simp [cl]

theorem idx_beyond {i j : Int} {n : Nat} (h1 : i ≤ n) (h : (n : Int) ≤ j) (h0 : 0 ≤ i) : Builtin.Str.strSliceIndices (some i) (some j) 1 n = Builtin.Str.strSliceIndices (some i) (some (n : Int)) 1 n := by
  unfold Builtin.Str.strSliceIndices
  have e1 : ¬ j < 0 := by omega
  have e2 : ¬ ((n : Int) < 0) := by omega
  simp only [show (1 : Int) > 0 by decide, if_true, e1, e2, if_false]
  congr 1
  rw [Int.min_eq_right h, Int.min_eq_right (Int.le_refl _)]

theorem slice2 (x : Str) (k : Int) (h0 : 0 ≤ k) (h1 : k ≤ x.length) : Txt.slice x (some k) (some (k + 2)) = ⟨(((cl x).drop k.toNat).take 2).toArray⟩ := by
  by_cases h2 : k + 2 ≤ x.length
  · have h3 := slice_closesL (x := x) (i := k) (j := k + 2) h0 (by omega) h2
    rw [eq_of_beq h3]
    congr 3
    rw [Int.add_comm k 2, Int.add_sub_cancel]; rfl
  · have h3 := slice_closesL (x := x) (i := k) (j := (x.length : Int)) h0 h1 (Int.le_refl _)
    have h4 : Txt.slice x (some k) (some (k + 2)) = Txt.slice x (some k) (some (x.length : Int)) := by
      unfold Txt.slice
      rw [idx_beyond h1 (by omega) h0]
    rw [h4, eq_of_beq h3]
    congr 2
    obtain ⟨m, rfl⟩ := Int.eq_ofNat_of_zero_le h0
    have h7 : x.cps.toList.length = x.length := (len_cl x).symm
    have h5 : ((x.cps.toList.drop (m : Int).toNat)).length ≤ ((x.length : Int) - (m : Int)).toNat := by
      rw [List.length_drop, h7, Int.toNat_natCast, Int.toNat_sub]; exact Nat.le_refl _
    have h6 : ((x.cps.toList.drop (m : Int).toNat)).length ≤ 2 := by
      rw [List.length_drop, h7, Int.toNat_natCast]
      clear h3 h4 h5 h7 h0 h1
      omega
    rw [List.take_of_length_le h5, List.take_of_length_le h6]

theorem item_eq (x : Str) (k : Int) (h0 : 0 ≤ k) (h1 : k < x.length) : Txt.item x k = ⟨#[(cl x).getD k.toNat 0]⟩ := by
  rw [item_meets ⟨h0, h1⟩]
  congr 2
  have h7 : x.length = x.cps.size := rfl
  have h8 : k.toNat < x.cps.size := by omega
  simp [cl, Array.getD, h8]

theorem in_item (x y : Str) (k : Int) (h0 : 0 ≤ k) (h1 : k < x.length) : (Builtin.Str.occurrences y (Txt.item x k) 0 y.length 1).isEmpty = !decide ((cl x).getD k.toNat 0 ∈ cl y) := by
  rw [item_eq x k h0 h1, ← StrLaws.found_one, Bool.not_not]

theorem drop_cons {l : List Nat} {k : Nat} (h : k < l.length) : l.drop k = l.getD k 0 :: l.drop (k + 1) := by
  rw [List.drop_eq_getElem_cons h]
  congr 1
  simp [List.getD, h]

/-- how many signs stand at the head that are in y -/
noncomputable def runLen (y : List Nat) : List Nat → Nat
  | [] => 0
  | c :: r => if c ∈ y then runLen y r + 1 else 0

theorem runLen_le (y l : List Nat) : runLen y l ≤ l.length := by
  induction l with
  | nil => simp [runLen]
  | cons c r ih => simp only [runLen]; split <;> simp <;> omega

noncomputable def runEnd (x y : Str) (k : Int) : Int := k + runLen (cl y) ((cl x).drop k.toNat)

theorem runEnd_in {x y : Str} {k : Int} (h0 : 0 ≤ k) (h1 : k < x.length) (h : (Builtin.Str.occurrences y (Txt.item x k) 0 y.length 1).isEmpty = false) : runEnd x y k = runEnd x y (k + 1) := by
  rw [in_item x y k h0 h1] at h
  have hm : (cl x).getD k.toNat 0 ∈ cl y := by simpa using h
  have hl : k.toNat < (cl x).length := by rw [len_cl] at h1; omega
  unfold runEnd
  rw [drop_cons hl]
  simp only [runLen]
  rw [if_pos hm]
  have : (k + 1).toNat = k.toNat + 1 := Int.toNat_add h0 (by decide)
  rw [this]
  omega
theorem runEnd_out {x y : Str} {k : Int} (h0 : 0 ≤ k) (h1 : k < x.length) (h : (Builtin.Str.occurrences y (Txt.item x k) 0 y.length 1).isEmpty = true) : runEnd x y k = k := by
  rw [in_item x y k h0 h1] at h
  have hm : ¬ (cl x).getD k.toNat 0 ∈ cl y := by simpa using h
  have hl : k.toNat < (cl x).length := by rw [len_cl] at h1; omega
  unfold runEnd
  rw [drop_cons hl]
  simp only [runLen]
  rw [if_neg hm]
  omega
theorem runEnd_end {x y : Str} {k : Int} (h0 : 0 ≤ k) (h1 : ¬ k < x.length) : runEnd x y k = k := by
  have hl : (cl x).length ≤ k.toNat := by rw [len_cl] at h1; omega
  unfold runEnd
  rw [List.drop_eq_nil_of_le hl]
  simp [runLen]
theorem runEnd_le {x y : Str} {k : Int} (h0 : 0 ≤ k) (h1 : k ≤ x.length) : k ≤ runEnd x y k ∧ runEnd x y k ≤ x.length := by
  unfold runEnd
  have h2 := runLen_le (cl y) ((cl x).drop k.toNat)
  rw [List.length_drop] at h2
  rw [len_cl] at h1 ⊢
  omega

/-- how far the remark that stands at the head, d deep, reaches -/
noncomputable def remScan : Int → List Nat → Option Nat
  | _, [] => none
  | _, [_] => none
  | d, a :: b :: r =>
    if a = 47 ∧ b = 42 then (remScan (d + 1) r).map (· + 2)
    else if a = 42 ∧ b = 47 then (if d - 1 = 0 then some 2 else (remScan (d - 1) r).map (· + 2))
    else (remScan d (b :: r)).map (· + 1)

noncomputable def remFrom (x : Str) (d k : Int) : Option Int := (remScan d ((cl x).drop k.toNat)).map fun n : Nat => k + (n : Int)

theorem two_eq {x : Str} {k : Int} {a b : Nat} {s : Str} (hs : s = ⟨#[a, b]⟩) (h0 : 0 ≤ k) (h1 : k < x.length) (h : (Txt.slice x (some k) (some (k + 2)) == s) = true) :
    ∃ r, (cl x).drop k.toNat = a :: b :: r ∧ (cl x).drop (k + 2).toNat = r ∧ k + 2 ≤ x.length := by
  have h2 := eq_of_beq h
  rw [slice2 x k h0 (by omega), hs] at h2
  have h3 : ((cl x).drop k.toNat).take 2 = [a, b] := by
    have := congrArg (fun s : Str => s.cps.toList) h2
    simpa using this
  have hl : (((cl x).drop k.toNat).take 2).length = 2 := by rw [h3]; rfl
  rw [List.length_take, List.length_drop] at hl
  have h7 := len_cl x
  refine ⟨(cl x).drop (k + 2).toNat, ?_, rfl, by omega⟩
  rw [← List.take_append_drop 2 ((cl x).drop k.toNat), h3, List.drop_drop]
  have : (k + 2).toNat = k.toNat + 2 := Int.toNat_add h0 (by decide)
  rw [this]; rfl
theorem two_ne {x : Str} {k : Int} {a b : Nat} {s : Str} (hs : s = ⟨#[a, b]⟩) (h0 : 0 ≤ k) (h1 : k < x.length) (h : (Txt.slice x (some k) (some (k + 2)) == s) = false) :
    ∀ r, (cl x).drop k.toNat ≠ a :: b :: r := by
  intro r hr
  have h2 := slice2 x k h0 (by omega)
  rw [hr] at h2
  rw [h2, hs] at h
  simp at h

theorem optmap_add {o : Option Nat} {k : Int} {c : Nat} : (o.map (· + c)).map (fun n : Nat => k + n) = o.map (fun n : Nat => (k + c) + n) := by
  cases o with
  | none => rfl
  | some n => simp; omega

theorem rem_open {x : Str} {d k : Int} {s : Str} (hs : s = ⟨#[47, 42]⟩) (h0 : 0 ≤ k) (h1 : k < x.length) (h : (Txt.slice x (some k) (some (k + 2)) == s) = true) : remFrom x d k = remFrom x (d + 1) (k + 2) ∧ k + 2 ≤ x.length := by
  obtain ⟨r, e1, e2, e3⟩ := two_eq hs h0 h1 h
  refine ⟨?_, e3⟩
  unfold remFrom
  rw [e1, e2]
  simp only [remScan]
  rw [if_pos ⟨trivial, trivial⟩, optmap_add]; rfl
theorem rem_close0 {x : Str} {d k : Int} {s : Str} (hs : s = ⟨#[42, 47]⟩) (h0 : 0 ≤ k) (h1 : k < x.length) (h : (Txt.slice x (some k) (some (k + 2)) == s) = true) (hd : d - 1 = 0) : remFrom x d k = some (k + 2) ∧ k + 2 ≤ x.length := by
  obtain ⟨r, e1, e2, e3⟩ := two_eq hs h0 h1 h
  refine ⟨?_, e3⟩
  unfold remFrom
  rw [e1]
  simp only [remScan]
  rw [if_neg (by decide), if_pos ⟨trivial, trivial⟩, if_pos hd]; rfl
theorem rem_close {x : Str} {d k : Int} {s : Str} (hs : s = ⟨#[42, 47]⟩) (h0 : 0 ≤ k) (h1 : k < x.length) (h : (Txt.slice x (some k) (some (k + 2)) == s) = true) (hd : d - 1 ≠ 0) : remFrom x d k = remFrom x (d - 1) (k + 2) ∧ k + 2 ≤ x.length := by
  obtain ⟨r, e1, e2, e3⟩ := two_eq hs h0 h1 h
  refine ⟨?_, e3⟩
  unfold remFrom
  rw [e1, e2]
  simp only [remScan]
  rw [if_neg (by decide), if_pos ⟨trivial, trivial⟩, if_neg hd, optmap_add]; rfl
theorem rem_skip {x : Str} {d k : Int} {s u : Str} (hs : s = ⟨#[47, 42]⟩) (hu : u = ⟨#[42, 47]⟩) (h0 : 0 ≤ k) (h1 : k < x.length) (h : (Txt.slice x (some k) (some (k + 2)) == s) = false) (h2 : (Txt.slice x (some k) (some (k + 2)) == u) = false) : remFrom x d k = remFrom x d (k + 1) := by
  have n1 := two_ne hs h0 h1 h
  have n2 := two_ne hu h0 h1 h2
  have hl : k.toNat < (cl x).length := by rw [len_cl] at h1; omega
  have e : (k + 1).toNat = k.toNat + 1 := Int.toNat_add h0 (by decide)
  unfold remFrom
  rw [e]
  rw [drop_cons hl] at n1 n2 ⊢
  cases hr : (cl x).drop (k.toNat + 1) with
  | nil => rfl
  | cons b r =>
    rw [hr] at n1 n2
    simp only [remScan]
    rw [if_neg (fun z => n1 r (by rw [z.1, z.2])), if_neg (fun z => n2 r (by rw [z.1, z.2])), optmap_add]; rfl
theorem rem_over {x : Str} {d k : Int} (h0 : 0 ≤ k) (h1 : ¬ k < x.length) : remFrom x d k = none := by
  unfold remFrom
  rw [List.drop_eq_nil_of_le (by rw [len_cl] at h1; omega)]; rfl
theorem remScan_le : ∀ (l : List Nat) (d : Int) (n : Nat), remScan d l = some n → n ≤ l.length
  | [], _, _, h => by simp [remScan] at h
  | [_], _, _, h => by simp [remScan] at h
  | a :: b :: r, d, n, h => by
    simp only [remScan] at h
    split at h
    · obtain ⟨m, hm, rfl⟩ := Option.map_eq_some_iff.mp h
      have := remScan_le r _ _ hm
      simp; omega
    · split at h
      · split at h
        · cases h; simp
        · obtain ⟨m, hm, rfl⟩ := Option.map_eq_some_iff.mp h
          have := remScan_le r _ _ hm
          simp; omega
      · obtain ⟨m, hm, rfl⟩ := Option.map_eq_some_iff.mp h
        have := remScan_le (b :: r) _ _ hm
        simp at this ⊢; omega
theorem remFrom_le {x : Str} {d k n : Int} (h0 : 0 ≤ k) (h1 : k ≤ x.length) (h : remFrom x d k = some n) : k ≤ n ∧ n ≤ x.length := by
  unfold remFrom at h
  obtain ⟨m, hm, rfl⟩ := Option.map_eq_some_iff.mp h
  have := remScan_le _ _ _ hm
  rw [List.length_drop] at this
  rw [len_cl] at h1 ⊢
  omega
theorem lit_open : (Str.ofString "/*") = ⟨#[47, 42]⟩ := by decide
theorem lit_close : (Str.ofString "*/") = ⟨#[42, 47]⟩ := by decide
theorem lit_row : (Str.ofString "//") = ⟨#[47, 47]⟩ := by decide
end
end Mine

/- part T1 -/
namespace Mine
section
open PySem PySem.W PyProof.Rows

noncomputable def BL : List Nat := [32, 9, 13, 10, 11, 12, 133, 8206, 8207, 8232, 8233]
/-- the place of the first row's end, or the length -/
noncomputable def nlAt : List Nat → Nat
  | [] => 0
  | c :: r => if c = 10 then 0 else nlAt r + 1
theorem nlAt_le (l : List Nat) : nlAt l ≤ l.length := by
  induction l with
  | nil => simp [nlAt]
  | cons c r ih => simp only [nlAt]; split <;> simp <;> omega

noncomputable def sh (n : Nat) : Nat ⊕ Nat → Nat ⊕ Nat := Sum.map (n + ·) (n + ·)
theorem sh_sh (a b : Nat) (r : Nat ⊕ Nat) : sh a (sh b r) = sh (a + b) r := by
  cases r <;> simp [sh] <;> omega
theorem sh_zero (r : Nat ⊕ Nat) : sh 0 r = r := by
  cases r <;> simp [sh]

/-- blanks and remarks from the head on: where they end, or where one begins that has no end -/
noncomputable def bs : Nat → List Nat → Nat ⊕ Nat
  | 0, _ => .inl 0
  | _ + 1, [] => .inl 0
  | f + 1, c :: r =>
    if c ∈ BL then sh 1 (bs f r)
    else if c = 47 ∧ r.head? = some 47 then sh (nlAt (c :: r)) (bs f ((c :: r).drop (nlAt (c :: r))))
    else if c = 47 ∧ r.head? = some 42 then (match remScan 0 (c :: r) with | some n => sh n (bs f ((c :: r).drop n)) | none => .inr 0)
    else .inl 0

theorem remScan_two {l : List Nat} {d : Int} {n : Nat} (h : remScan d l = some n) : 2 ≤ n := by
  match l, h with
  | [], h => simp [remScan] at h
  | [_], h => simp [remScan] at h
  | a :: b :: r, h =>
    simp only [remScan] at h
    split at h
    · obtain ⟨m, hm, rfl⟩ := Option.map_eq_some_iff.mp h; omega
    · split at h
      · split at h
        · cases h; omega
        · obtain ⟨m, hm, rfl⟩ := Option.map_eq_some_iff.mp h; omega
      · obtain ⟨m, hm, rfl⟩ := Option.map_eq_some_iff.mp h
        have := remScan_two hm
        omega

theorem bs_enough : ∀ (n : Nat) (l : List Nat), l.length ≤ n → ∀ f, l.length ≤ f → bs f l = bs l.length l
  | n, [], _, f, _ => by cases f <;> rfl
  | 0, c :: r, h, _, _ => by simp at h
  | n + 1, c :: r, h, f, hf => by
    have hr : r.length ≤ n := by simpa using h
    obtain ⟨f', rfl⟩ : ∃ f', f = f' + 1 := ⟨f - 1, by simp at hf; omega⟩
    have hf' : r.length ≤ f' := by simpa using hf
    have key : ∀ k, 1 ≤ k → bs f' ((c :: r).drop k) = bs r.length ((c :: r).drop k) := by
      intro k hk
      have hl : ((c :: r).drop k).length ≤ r.length := by rw [List.length_drop]; simp; omega
      rw [bs_enough n _ (by omega) f' (by omega), bs_enough n _ (by omega) r.length hl]
    show bs (f' + 1) (c :: r) = bs (r.length + 1) (c :: r)
    simp only [bs]
    split
    · rw [bs_enough n r hr f' hf']
    · split
      · rename_i h2
        have : 1 ≤ nlAt (c :: r) := by
          simp only [nlAt, h2.1]
          rw [if_neg (by decide)]; omega
        rw [key _ this]
      · split
        · split
          · rename_i m hm
            rw [key _ (by have := remScan_two hm; omega)]
          · rfl
        · rfl

noncomputable def bsp (l : List Nat) : Nat ⊕ Nat := bs l.length l
theorem bs_bsp {f : Nat} {l : List Nat} (h : l.length ≤ f) : bs f l = bsp l := bs_enough _ l (Nat.le_refl _) f h

theorem bsp_nil : bsp [] = .inl 0 := rfl
theorem bsp_blank {c : Nat} {r : List Nat} (h : c ∈ BL) : bsp (c :: r) = sh 1 (bsp r) := by
  show bs (r.length + 1) (c :: r) = _
  simp only [bs]
  rw [if_pos h]; rfl
theorem bsp_row {r : List Nat} : bsp (47 :: 47 :: r) = sh (nlAt (47 :: 47 :: r)) (bsp ((47 :: 47 :: r).drop (nlAt (47 :: 47 :: r)))) := by
  show bs ((47 :: r).length + 1) (47 :: 47 :: r) = _
  have h1 : ¬ 47 ∈ BL := by decide
  rw [bs]
  rw [if_neg h1, if_pos ⟨rfl, rfl⟩]
  rw [bs_bsp]
  rw [List.length_drop]
  simp only [nlAt]
  rw [if_neg (by decide), if_neg (by decide)]
  simp; omega
theorem bsp_rem {r : List Nat} {n : Nat} (h : remScan 0 (47 :: 42 :: r) = some n) : bsp (47 :: 42 :: r) = sh n (bsp ((47 :: 42 :: r).drop n)) := by
  show bs ((42 :: r).length + 1) (47 :: 42 :: r) = _
  have h1 : ¬ 47 ∈ BL := by decide
  have h2 := remScan_two h
  rw [bs]
  rw [if_neg h1, if_neg (by simp), if_pos ⟨rfl, rfl⟩, h]
  dsimp only
  rw [bs_bsp]
  rw [List.length_drop]
  simp; omega
theorem bsp_bad {r : List Nat} (h : remScan 0 (47 :: 42 :: r) = none) : bsp (47 :: 42 :: r) = .inr 0 := by
  show bs ((42 :: r).length + 1) (47 :: 42 :: r) = _
  have h1 : ¬ 47 ∈ BL := by decide
  rw [bs]
  rw [if_neg h1, if_neg (by simp), if_pos ⟨rfl, rfl⟩, h]
theorem bsp_stop {c : Nat} {r : List Nat} (h : ¬ c ∈ BL) (h1 : ¬ (c = 47 ∧ r.head? = some 47)) (h2 : ¬ (c = 47 ∧ r.head? = some 42)) : bsp (c :: r) = .inl 0 := by
  show bs (r.length + 1) (c :: r) = _
  rw [bs]
  rw [if_neg h, if_neg h1, if_neg h2]
theorem bsp_run : ∀ l : List Nat, bsp l = sh (runLen BL l) (bsp (l.drop (runLen BL l)))
  | [] => (sh_zero _).symm
  | c :: r => by
    simp only [runLen]
    split
    · rename_i h
      rw [bsp_blank h, bsp_run r, sh_sh]
      have : r.length + 1 = (c :: r).length := rfl
      rw [Nat.add_comm 1, List.drop_succ_cons]
    · rw [sh_zero]; rfl

noncomputable def blankAt (x : Str) (k : Int) : Int ⊕ Int := (bsp ((cl x).drop k.toNat)).map (fun n : Nat => k + (n : Int)) (fun n : Nat => k + (n : Int))

theorem blankAt_sh {x : Str} {k : Int} {n : Nat} (h0 : 0 ≤ k) (h : bsp ((cl x).drop k.toNat) = sh n (bsp (((cl x).drop k.toNat).drop n))) : blankAt x k = blankAt x (k + n) := by
  unfold blankAt
  rw [h, List.drop_drop]
  have e : (k + (n : Int)).toNat = k.toNat + n := Int.toNat_add_nat h0 n
  rw [e]
  cases bsp (List.drop (k.toNat + n) (cl x)) <;> simp [sh] <;> omega

theorem B_done {x : Str} {k : Int} (_h0 : 0 ≤ k) (h1 : ¬ k < x.length) : blankAt x k = .inl k := by
  unfold blankAt
  rw [List.drop_eq_nil_of_le (by rw [len_cl] at h1; omega), bsp_nil]
  simp
theorem B_blank {x y : Str} {k : Int} (hy : y = ⟨BL.toArray⟩) (h0 : 0 ≤ k) (h1 : k < x.length) (h : (Builtin.Str.occurrences y (Txt.item x k) 0 y.length 1).isEmpty = false) :
    blankAt x k = blankAt x (runEnd x y k) ∧ k < runEnd x y k := by
  have hc : cl y = BL := by rw [hy]
  constructor
  · unfold runEnd
    rw [hc]
    exact blankAt_sh h0 (bsp_run _)
  · have h2 := runEnd_in h0 h1 h
    have h3 := runEnd_le (x := x) (y := y) (k := k + 1) (by omega) (by omega)
    omega
theorem B_at {x y : Str} {k : Int} (hy : y = ⟨BL.toArray⟩) (h0 : 0 ≤ k) (h1 : k < x.length) (h : (Builtin.Str.occurrences y (Txt.item x k) 0 y.length 1).isEmpty = true) :
    ∃ c r, (cl x).drop k.toNat = c :: r ∧ ¬ c ∈ BL := by
  have hc : cl y = BL := by rw [hy]
  rw [in_item x y k h0 h1, hc] at h
  exact ⟨_, _, drop_cons (by rw [len_cl] at h1; omega), by simpa using h⟩

theorem nlAt_spec : ∀ (l : List Nat), (∀ v, v < nlAt l → l.getD v 0 ≠ 10) ∧ (nlAt l < l.length → l.getD (nlAt l) 0 = 10)
  | [] => ⟨fun v h => absurd h (by simp [nlAt]), fun h => absurd h (by simp)⟩
  | c :: r => by
    obtain ⟨i1, i2⟩ := nlAt_spec r
    simp only [nlAt]
    by_cases h : c = 10
    · rw [if_pos h]
      exact ⟨fun v hv => absurd hv (by omega), fun _ => by simp [h]⟩
    · rw [if_neg h]
      refine ⟨fun v hv => ?_, fun hv => ?_⟩
      · cases v with
        | zero => simpa using h
        | succ v => simpa using i1 v (by omega)
      · simpa using i2 (by simpa using hv)
theorem nlAt_of {l : List Nat} {n : Nat} (h1 : ∀ v, v < n → l.getD v 0 ≠ 10) (h2 : n < l.length → l.getD n 0 = 10) (h3 : n ≤ l.length) : nlAt l = n := by
  obtain ⟨i1, i2⟩ := nlAt_spec l
  have hl := nlAt_le l
  rcases Nat.lt_trichotomy (nlAt l) n with h | h | h
  · exact absurd (i2 (by omega)) (h1 _ h)
  · exact h
  · exact absurd (h2 (by omega)) (i1 _ h)

theorem from_at {n : Nat} {k : Int} (h0 : 0 ≤ k) (h1 : k ≤ n) : fromIndex n k = k.toNat := by
  unfold fromIndex
  rw [if_neg (Int.not_lt.mpr h0), Int.max_eq_right h0]

theorem getD_cl (x : Str) (v : Nat) : x.cps.getD v 0 = (cl x).getD v 0 := by
  obtain ⟨⟨l⟩⟩ := x
  simp [cl, Array.getD, List.getD]
  split
  · rename_i h; simp [h]
  · rename_i h; simp at h; rw [List.getElem?_eq_none h]; rfl
theorem getD_drop (l : List Nat) (k v : Nat) : (l.drop k).getD v 0 = l.getD (k + v) 0 := by
  simp [List.getD, List.getElem?_drop]

theorem B_rowLen {x z : Str} {k : Int} (hz : z = ⟨#[10]⟩) (h0 : 0 ≤ k) (h1 : k < x.length) :
    (Txt.find3 x z k < 0 → nlAt ((cl x).drop k.toNat) = ((x.length : Int) - k).toNat) ∧ (¬ Txt.find3 x z k < 0 → k + nlAt ((cl x).drop k.toNat) = Txt.find3 x z k ∧ Txt.find3 x z k < x.length) := by
  obtain ⟨m, rfl⟩ := Int.eq_ofNat_of_zero_le h0
  have h2 : m < x.length := Int.ofNat_lt.mp h1
  have hd : ((cl x).drop m).length = x.length - m := by rw [List.length_drop, ← len_cl]
  have e0 : ((x.length : Int) - (m : Int)).toNat = x.length - m := Int.toNat_sub ..
  rw [hz, Int.toNat_natCast, e0]
  have hf : fromIndex x.length (m : Int) = m := from_at h0 (Int.le_of_lt h1)
  rcases StrLaws.find3_spec x 10 (m : Int) with ⟨e, hn⟩ | ⟨n, e, hlo, hlt, hc, hn⟩
  · rw [e]
    refine ⟨fun _ => nlAt_of (fun v hv => ?_) (fun h => absurd h (by rw [hd]; exact Nat.lt_irrefl _)) (by rw [hd]; exact Nat.le_refl _), fun h => absurd (by decide) h⟩
    rw [getD_drop, ← getD_cl]
    exact hn _ (by rw [hf]; exact Nat.le_add_right _ _) (Nat.add_lt_of_lt_sub' hv)
  · rw [hf] at hlo hn
    rw [e]
    refine ⟨fun h => absurd h (by omega), fun _ => ⟨?_, Int.ofNat_lt.mpr hlt⟩⟩
    have h3 : m + (n - m) = n := Nat.add_sub_cancel' hlo
    have : nlAt ((cl x).drop m) = n - m := nlAt_of (fun v hv => by
      rw [getD_drop, ← getD_cl]; exact hn _ (Nat.le_add_right _ _) (Nat.add_lt_of_lt_sub' hv)) (fun _ => by
      rw [getD_drop, ← getD_cl, h3]; exact hc) (by rw [hd]; exact Nat.sub_le_sub_right (Nat.le_of_lt hlt) _)
    rw [this, ← Int.natCast_add, h3]

theorem B_row {x z s : Str} {k : Int} (hz : z = ⟨#[10]⟩) (hs : s = ⟨#[47, 47]⟩) (h0 : 0 ≤ k) (h1 : k < x.length) (h : (Txt.slice x (some k) (some (k + 2)) == s) = true) :
    (Txt.find3 x z k < 0 → blankAt x k = blankAt x x.length) ∧ (¬ Txt.find3 x z k < 0 → blankAt x k = blankAt x (Txt.find3 x z k) ∧ k < Txt.find3 x z k ∧ Txt.find3 x z k ≤ x.length) := by
  obtain ⟨r, e1, e2, e3⟩ := two_eq hs h0 h1 h
  obtain ⟨a1, a2⟩ := B_rowLen hz h0 h1
  have hb : bsp ((cl x).drop k.toNat) = sh (nlAt ((cl x).drop k.toNat)) (bsp (((cl x).drop k.toNat).drop (nlAt ((cl x).drop k.toNat)))) := by
    rw [e1]; exact bsp_row
  have hpos : 1 ≤ nlAt ((cl x).drop k.toNat) := by
    rw [e1]; simp only [nlAt]; rw [if_neg (by decide)]; omega
  have hsh := blankAt_sh h0 hb
  refine ⟨fun hn => ?_, fun hn => ?_⟩
  · rw [a1 hn] at hsh
    rw [hsh]
    congr 1
    omega
  · obtain ⟨b1, b2⟩ := a2 hn
    rw [b1] at hsh
    exact ⟨hsh, by omega, by omega⟩

theorem B_rem {x s : Str} {k n : Int} (hs : s = ⟨#[47, 42]⟩) (h0 : 0 ≤ k) (h1 : k < x.length) (h : (Txt.slice x (some k) (some (k + 2)) == s) = true) (hr : remFrom x 0 k = some n) : blankAt x k = blankAt x n ∧ k < n ∧ n ≤ x.length := by
  obtain ⟨r, e1, e2, e3⟩ := two_eq hs h0 h1 h
  have hle := remFrom_le h0 (by omega) hr
  unfold remFrom at hr
  obtain ⟨m, hm, rfl⟩ := Option.map_eq_some_iff.mp hr
  have h2 := remScan_two hm
  refine ⟨blankAt_sh h0 ?_, by omega, hle.2⟩
  rw [e1] at hm ⊢
  exact bsp_rem hm
theorem B_bad {x s : Str} {k : Int} (hs : s = ⟨#[47, 42]⟩) (h0 : 0 ≤ k) (h1 : k < x.length) (h : (Txt.slice x (some k) (some (k + 2)) == s) = true) (hr : remFrom x 0 k = none) : blankAt x k = .inr k := by
  obtain ⟨r, e1, e2, e3⟩ := two_eq hs h0 h1 h
  unfold remFrom at hr
  have hm : remScan 0 ((cl x).drop k.toNat) = none := by simpa using hr
  unfold blankAt
  rw [e1] at hm ⊢
  rw [bsp_bad hm]
  simp
theorem B_stop {x y s u : Str} {k : Int} (hy : y = ⟨BL.toArray⟩) (hs : s = ⟨#[47, 47]⟩) (hu : u = ⟨#[47, 42]⟩) (h0 : 0 ≤ k) (h1 : k < x.length) (h : (Builtin.Str.occurrences y (Txt.item x k) 0 y.length 1).isEmpty = true)
    (h2 : (Txt.slice x (some k) (some (k + 2)) == s) = false) (h3 : (Txt.slice x (some k) (some (k + 2)) == u) = false) : blankAt x k = .inl k := by
  obtain ⟨c, r, e, hc⟩ := B_at hy h0 h1 h
  have n1 := two_ne hs h0 h1 h2
  have n2 := two_ne hu h0 h1 h3
  unfold blankAt
  rw [e] at n1 n2 ⊢
  rw [bsp_stop hc]
  · simp
  · rintro ⟨rfl, q⟩
    cases r with
    | nil => simp at q
    | cons b r' => simp at q; exact n1 r' (by rw [q])
  · rintro ⟨rfl, q⟩
    cases r with
    | nil => simp at q
    | cons b r' => simp at q; exact n2 r' (by rw [q])
end
end Mine

/- part C0 -/
namespace Mine
section
open PySem PySem.W PyProof.Rows
set_option maxRecDepth 100000

noncomputable abbrev Mp (l : List (Str × Value)) : Str → Option Value := fun z => List.lookup z l

noncomputable def setL (x : Str) (v : Value) : List (Str × Value) → List (Str × Value)
  | [] => [(x, v)]
  | (y, u) :: r => if y = x then (y, v) :: r else (y, u) :: setL x v r

theorem mp_set (x : Str) (v : Value) : ∀ l : List (Str × Value), (fun y => if y = x then some v else Mp l y) = Mp (setL x v l) := by
  intro l
  funext z
  induction l with
  | nil =>
    show (if z = x then some v else none) = List.lookup z [(x, v)]
    by_cases h : z = x
    · subst h; simp [List.lookup]
    · have : (z == x) = false := by simpa using h
      simp [List.lookup, h, this]
  | cons q r ih =>
    obtain ⟨y, u⟩ := q
    show (if z = x then some v else List.lookup z ((y, u) :: r)) = List.lookup z (setL x v ((y, u) :: r))
    unfold setL
    by_cases h1 : y = x
    · subst h1
      simp only [if_true]
      by_cases h : z = y
      · subst h; simp [List.lookup]
      · have : (z == y) = false := by simpa using h
        simp [List.lookup, h, this]
    · rw [if_neg h1]
      by_cases h : z = y
      · subst h; simp [List.lookup, h1]
      · have e : (z == y) = false := by simpa using h
        simp only [List.lookup, e]
        exact ih

theorem fr_set {h₀ h : Heap} {L : Addr} {x : Str} {v : Value} {l l' : List (Str × Value)} (F : Fr h₀ L h (fun y => if y = x then some v else Mp l y)) (e : setL x v l = l' := by rfl) : Fr h₀ L h (Mp l') := by
  rw [mp_set, e] at F; exact F

theorem mp_upd {m : Str → Option Value} {x : Str} {v : Value} {l l' : List (Str × Value)} (h : m = Mp l) (e : setL x v l = l') : (fun y => if y = x then some v else m y) = Mp l' := by
  subst h; rw [mp_set, e]
theorem fr_to {h₀ h : Heap} {L : Addr} {m m' : Str → Option Value} (F : Fr h₀ L h m) (e : m = m') : Fr h₀ L h m' := e ▸ F

/-- a contract of a def: from any caller's frame -/
noncomputable abbrev Ctr (w : World) (f : Addr) (vs : List Value) (need : Nat) (news : List (Addr × Obj)) (Ret : Value → List (Addr × Obj) → Prop) : Prop :=
  ∀ (p : Program) (loose : List Str) (mean : ExcName → Option Value) (mg mb : Str → Option Value)
    (dp un : Nat) (gd : Option (List Code)) (cn : Str) (cs : Scope) (a : Addr) (ccd : Value) (cl : List (Str × Addr)) (outer : List Env) (A₀ : Around) (base h₀ : Heap) (L : Addr) (m : Str → Option Value) (s : Shared) (Q E : Value → Shared → Prop),
    Below A₀ base outer h₀ → Fr h₀ L s.heap m → (hd.heap_39 w.params).In h₀ → News h₀ L s.heap news → Top p loose mean mg mb h₀ → cs.kind = .function →
    dp + need < recursionLimit → un + 8 * need < cLine →
    (∀ v news' h' tk', Ret v news' → Fr h₀ L h' m → News h₀ L h' news' → Q v { s with heap := h', toks := tk' }) →
    wpAny (model PySem.Challenge.rw_xw0154_01.row.prog w) (ktrTop dp un gd cn cs L a ccd cl outer) (call (.ref f) vs) Q E s

theorem ctr_use {w : World} {f : Addr} {vs : List Value} {need : Nat} {news : List (Addr × Obj)} {Ret : Value → List (Addr × Obj) → Prop} (C : Ctr w f vs need news Ret) {p : Program} {loose : List Str} {mean : ExcName → Option Value} {mg mb : Str → Option Value}
    {dp un : Nat} {gd : Option (List Code)} {cn : Str} {cs : Scope} {a : Addr} {ccd : Value} {cl : List (Str × Addr)} {outer : List Env} {A₀ : Around} {base h₀ : Heap} {L : Addr} {m : Str → Option Value} {s : Shared} {Q E : Value → Shared → Prop}
    (B : Below A₀ base outer h₀) (F : Fr h₀ L s.heap m) (X : (hd.heap_39 w.params).In h₀) (N : News h₀ L s.heap news) (T : Top p loose mean mg mb h₀) (hk : cs.kind = .function) (hd : dp + need < recursionLimit) (hu : un + 8 * need < cLine)
    (ret : ∀ v news' h' tk', Ret v news' → Fr h₀ L h' m → News h₀ L h' news' → Q v { s with heap := h', toks := tk' }) :
    wpAny (model PySem.Challenge.rw_xw0154_01.row.prog w) (ktrTop dp un gd cn cs L a ccd cl outer) (call (.ref f) vs) Q E s := C _ _ _ _ _ _ _ _ _ _ _ _ _ _ _ _ _ _ _ _ _ _ B F X N T hk hd hu ret

theorem ctr_gen {w : World} {f : Addr} {vs : List Value} {need : Nat} {news : List (Addr × Obj)} {Ret : Value → List (Addr × Obj) → Prop} (C : Ctr w f vs need news Ret) {p : Program} {loose : List Str} {mean : ExcName → Option Value} {mg mb : Str → Option Value}
    {dp un : Nat} {gd : Option (List Code)} {cn : Str} {cs : Scope} {a : Addr} {ccd : Value} {cl : List (Str × Addr)} {outer : List Env} {A₀ : Around} {base h₀ : Heap} {L : Addr} {m : Str → Option Value} {s : Shared} {Q E : Value → Shared → Prop}
    (B : Below A₀ base outer h₀) (F : Fr h₀ L s.heap m) (X : (hd.heap_39 w.params).In h₀) (N : News h₀ L s.heap news) (T : Top p loose mean mg mb h₀) (hk : cs.kind = .function) (hd : dp + need < recursionLimit) (hu : un + 8 * need < cLine)
    (ret : ∀ Q3 : Value → Shared → Prop, (∀ v s2, Q v s2 → Q3 v s2) → ∀ v news' h' tk', Ret v news' → Fr h₀ L h' m → News h₀ L h' news' → Q3 v { s with heap := h', toks := tk' }) :
    wpAny (model PySem.Challenge.rw_xw0154_01.row.prog w) (ktrTop dp un gd cn cs L a ccd cl outer) (call (.ref f) vs) Q E s := C _ _ _ _ _ _ _ _ _ _ _ _ _ _ _ _ _ _ _ _ _ _ B F X N T hk hd hu (ret Q fun _ _ h => h)
theorem sbR {α : Type} {l : List α} : ∀ p ∈ l, p ∈ l := fun _ h => h
theorem sbK {α : Type} {x : α} {l l' : List α} (h : ∀ p ∈ l, p ∈ l') : ∀ p ∈ x :: l, p ∈ x :: l' := List.forall_mem_cons.mpr ⟨.head _, fun p q => .tail _ (h p q)⟩
theorem sbC {α : Type} {x : α} {l l' : List α} (h : x ∈ l') (t : ∀ p ∈ l, p ∈ l') : ∀ p ∈ x :: l, p ∈ l' := List.forall_mem_cons.mpr ⟨h, t⟩
theorem sbT {α : Type} {x : α} {l l' : List α} (h : ∀ p ∈ l, p ∈ l') : ∀ p ∈ l, p ∈ x :: l' := fun p q => .tail _ (h p q)
theorem rmD {x dp a b : Nat} (h : dp + a < recursionLimit) (hx : x = dp + 1 := by rfl) (e : b + 1 ≤ a := by decide) : x + b < recursionLimit := by omega
theorem rmU {x un a b : Nat} (h : un + 8 * a < cLine) (hx : x = un + 3 := by rfl) (e : b + 1 ≤ a := by decide) : x + 8 * b < cLine := by omega

theorem rmE {dp a b : Nat} (h : dp + a < recursionLimit) (e : b ≤ a := by decide) : dp + b < recursionLimit := Nat.lt_of_le_of_lt (Nat.add_le_add_left e dp) h
theorem rmF {un a b : Nat} (h : un + 8 * a < cLine) (e : b ≤ a := by decide) : un + 8 * b < cLine := Nat.lt_of_le_of_lt (Nat.add_le_add_left (Nat.mul_le_mul_left 8 e) un) h
theorem rmV {un a u : Nat} (h : un + 8 * a < cLine) (ha : 9 ≤ a := by decide) (e : u = un + 3 := by rfl) : u + 64 < cLine := by omega

noncomputable abbrev faultD (w : World) (x : Str) (k : Int) (t1 ux t2 t3 : Tok) : Obj := dictOf [⟨PyData.keyHash w.params "message", .str "message" t1, .str x ux⟩, ⟨PyData.keyHash w.params "spot", .str "spot" t2, .int k t3⟩] 2

end
end Mine

/- part C1 -/
namespace Mine
section
open PySem PySem.W PyProof.Rows
set_option maxRecDepth 100000
set_option maxHeartbeats 4000000

noncomputable abbrev RunJ (x y : Str) (ux uy : Tok) (k : Int) (news : List (Addr × Obj)) (n : Nat) (m : Str → Option Value) (nx : List (Addr × Obj)) : Prop :=
  ∃ (k' : Int) (t' : Tok), n = ((x.length : Int) - k').toNat ∧ m = Mp [("signs", .str y uy), ("at", .int k' t'), ("text", .str x ux)] ∧ nx = news ∧ 0 ≤ k' ∧ k' ≤ x.length ∧ runEnd x y k = runEnd x y k'

theorem whl_next {h₀ : Heap} {L : Addr} {s : Shared} {J : Nat → (Str → Option Value) → List (Addr × Obj) → Prop} {Q : Flow → Shared → Prop} {n n' : Nat} {h' : Heap} {tk : Nat} {m₂ : Str → Option Value} {news₂ : List (Addr × Obj)} (F : Fr h₀ L h' m₂) (N : News h₀ L h' news₂) (hn : n' < n) (hJ : J n' m₂ news₂) :
    WhileStep2 h₀ L s J Q n .next { s with heap := h', toks := tk } := ⟨h', tk, m₂, news₂, n', rfl, F, N, hn, hJ⟩
theorem run_end_C (w : World) (x y : Str) (k : Int) (ux uy uk : Tok) (hx : x.length ≤ 1000) (hk0 : 0 ≤ k) (hk : k ≤ x.length) (news : List (Addr × Obj)) :
    Ctr w 54 [.str x ux, .int k uk, .str y uy] 1 news (fun v news' => (∃ t, v = .int (runEnd x y k) t) ∧ news' = news) := by
  intro p loose mean mg mb dp un gd cn cs a ccd cl outer A₀ base h₀ L m s Q E B F X N T hkd hdp hun hret
  w_on
  k_with_none
  refine wpAny_call ?_
  k_dflt cell_enter
  refine gen_QT fun Q2 tkE hQ2 => ?_
  walk1
  rename Fr _ _ _ _ => F1
  rename News _ _ _ _ => N1
  (with_unfolding_all change Fr _ _ _ (Mp [("signs", .str y uy), ("at", .int k uk), ("text", .str x ux)]) at F1)
  refine While_inv2 (RunJ x y ux uy k news) F1 N1 ⟨k, uk, rfl, rfl, rfl, hk0, hk, rfl⟩ ?_
  clear F1 N1
  rintro n m₁ news₁ h₁ tk₁ F1 N1 ⟨k', t', rfl, rfl, rfl, hk1, hk2, hk3⟩
  k_steps
  · rename (_ = true) => ho
    refine hQ2 _ _ ?_
    k_steps
    rename Fr h₀ L _ m => kF
    rename News h₀ L _ _ => kN
    exact hret _ _ _ _ ⟨⟨_, by rw [hk3, runEnd_out hk1 (by assumption) ho]⟩, rfl⟩ kF kN
  · rename (_ = false) => ho
    rename Fr _ _ _ _ => F2
    rename News _ _ _ _ => N2
    exact whl_next (J := RunJ x y ux uy k _) (fr_set F2) (N2) (dec_lt (by omega) (by first | assumption | omega)) ⟨k' + 1, _, rfl, rfl, rfl, by omega, by omega, by rw [hk3, runEnd_in hk1 (by assumption) ho]⟩
  · refine hQ2 _ _ ?_
    k_steps
    rename Fr h₀ L _ m => kF
    rename News h₀ L _ _ => kN
    exact hret _ _ _ _ ⟨⟨_, by rw [hk3, runEnd_end hk1 (by assumption)]⟩, rfl⟩ kF kN
end
end Mine

/- part X0 -/
namespace Mine
section
open PySem PySem.W PyProof.Rows PySem.Calls
set_option maxRecDepth 100000
set_option maxHeartbeats 4000000

section
variable {prog : Program} {w : World} {A : Around} {R : Result → Shared → Prop} {E : Value → Shared → Prop} {h : Heap} {g : Array GenState} {d : Drawn} {t : Nat} {os : OsState}
variable {nm q : Str} {C N : Addr} {bs bm : List Value} {hdct : Bool} {sn : List Str} {sub : List Value} {ab : Bool} {col : Option Bool} {dd : Option Addr} {k0 k1 k2 k3 k5 : Option Value}

structure Tailed (bm : List Value) : Prop where
  hasB : bm.contains (.type "Exception") = true
  hasBase : bm.contains (.type "BaseException") = true
  noAttr : bm.contains (.type "AttributeError") = false
  noName : bm.contains (.type "NameError") = false

theorem ref_type {C : Addr} {X : String} {b : Bool} {bm : List Value} (h : bm.contains (.type X) = b) : (Value.ref C :: bm).contains (.type X) = b := by
  rw [List.contains_cons, h]; rfl

theorem check_newX (T : Tailed bm) {M : Model} {rest : List Value} {Q : Unit → Shared → Prop} (hC : h.get? C = some (excClassObj nm q C N bs bm hdct sn sub ab col dd k0 k1 k2 k3 k5 "Exception.__new__"))
    (hq : Q () ⟨h, g, d, t, os⟩) : wpAny M A (checkBuiltinCall "Exception.__new__" ⟨.ref C :: rest, []⟩) Q E ⟨h, g, d, t, os⟩ := by
  have F := PySem.F.excBase_Exception
  have hcont := ref_type (C := C) T.hasB
  have hstar := F.noStar
  simp only [checkBuiltinCall, F.newKind, F.newSplit, F.newRow]
  repeat (first | refine wpAny_loadPart_at hC ?_ | (refine wpAny_isSubtype_exc hC ?_; rw [hcont]) | refine wpAny_staticBase_exc hC ?_ | refine wpAny_madeBy_exc hC ?_ | simp only [bne_self_eq_false, Bool.false_eq_true, if_false] | wp_step)
  exact hq

theorem exc_newX (T : Tailed bm) {rest : List Value} (hC : h.get? C = some (excClassObj nm q C N bs bm hdct sn sub ab col dd k0 k1 k2 k3 k5 "Exception.__new__"))
    (hq : R (.ok (.ret (.ref (h.objs.size + 1)))) ⟨(h.push { cls := .type "tuple", data := .seq rest.toArray }).push
      { cls := .ref C, data := .fields #[.ref h.objs.size, .none, .none, .none, .bool false, .none] }, g, d, t, os⟩) (hrest : rest.length ≤ sizeLine) :
    codeAny (model prog w) A (.builtin "Exception.__new__" ⟨.ref C :: rest, []⟩) R ⟨h, g, d, t, os⟩ := by
  have F := PySem.F.excBase_Exception
  have hends := F.ends
  have hcB := ref_type (C := C) T.hasB
  have hcA := ref_type (C := C) T.noAttr
  have hcN := ref_type (C := C) T.noName
  refine codeAny_builtinAt F.entry ?_
  unfold Builtin.«BaseException.__new__»
  refine PySem.wpAt_bind ?_
  show PySem.wpAt _ _ _ (stack >>= _) _ _ _
  refine PySem.wpAt_bind (PySem.wpAt_stack fun p below => PySem.wpAt_of_wpAny ?_)
  wp_walk
  refine PySem.wpAt_of_wpAny ?_
  rw [F.owner]
  repeat (first | with_reducible refine wpAny_madeHere_exc F.canon hC ?_ | with_reducible refine wpAny_loadPart_at hC ?_ | (with_reducible refine wpAny_isSubtype_exc hC ?_; first | rw [hcB] | rw [hcA] | rw [hcN]) | wp_step)
  show R _ _
  rw [Heap.size_push]
  exact hq

theorem type_callX (T : Tailed bm) {rest : List Value} {fI : Addr} {oI : Obj} {Q : Fin → Shared → Prop}
    (hC : h.get? C = some (excClassObj nm q C N bs bm hdct sn sub ab col dd k0 k1 k2 k3 k5 "Exception.__new__")) (hi : Looks (model prog w) h (typeLookup (.ref C) "__init__") (some (.ref fI)))
    (hfI : h.get? fI = some oI) (hfc : oI.cls = .type "function")
    (hq : ∀ h' e, Heap.MadeExcOf h h' e (.ref C) rest →
      wpAny (model prog w) A (call (.ref fI) (.ref e :: rest)) (fun r s' => r = .none ∧ Q (.done (.ret (.ref e))) s') E ⟨h', g, d, t, os⟩) (hrest : rest.length ≤ sizeLine) :
    wpAny (model prog w) A (Builtin.«type.__call__» ⟨.ref C :: rest, []⟩) Q E ⟨h, g, d, t, os⟩ := by
  have F := PySem.F.excBase_Exception
  repeat (first | with_reducible refine wpAny_loadPart_at hC ?_ | with_reducible refine wpAny_madeBy_exc hC ?_ | wp_step)
  refine codeAny_call_builtin_code (Code.quiet_builtin _ F.quiet) (check_newX T hC ?_)
  refine exc_newX T hC ?_ hrest
  show wpAny _ _ _ _ _ _
  have up : ∀ b o, h.get? b = some o → ((h.push { cls := .type "tuple", data := .seq rest.toArray }).push
      { cls := .ref C, data := .fields #[.ref h.objs.size, .none, .none, .none, .bool false, .none] }).get? b = some o := fun b o e => Heap.get?_push_of_some _ (Heap.get?_push_of_some _ e)
  have hC₁ := up _ _ hC
  have hfI₁ := up _ _ hfI
  have hget : ((h.push { cls := .type "tuple", data := .seq rest.toArray }).push
      { cls := .ref C, data := .fields #[.ref h.objs.size, .none, .none, .none, .bool false, .none] }).get? (h.objs.size + 1) = some
      { cls := .ref C, data := .fields #[.ref h.objs.size, .none, .none, .none, .bool false, .none] } := by heap_get
  have hcC : (Value.ref C :: bm).contains (.ref C) = true := by simp
  unfold isInstance
  repeat (first | with_reducible refine wpAny_loadPart_at hget ?_ | (with_reducible refine wpAny_isSubtype_exc hC₁ ?_; rw [hcC]) | wp_step)
  show wpAny _ _ (typeLookup (.ref C) _) _ _ _
  refine (hi.keeps up).here ?_
  refine wpAny_holding (wpAny_bind ?_)
  unfold bindSpecial
  refine wpAny_bind (wpAny_typeOf (T := "function") ⟨_, hfI₁, hfc⟩ ?_)
  rw [if_pos (by decide)]
  refine wpAny_pure (wpAny_bind (wpAny_mono (hq _ (h.objs.size + 1) ⟨up, Heap.get?_none_of_le (Nat.le_succ _), h.objs.size, hget, Heap.get?_none_of_le (Nat.le_refl _), ?_⟩) (fun r s' hr => ?_) fun _ _ x => x))
  · exact Heap.get?_push_of_some _ (Heap.get?_push_at rfl rfl)
  · obtain ⟨rfl, hQ⟩ := hr
    wp_walk
    exact hQ

theorem call_excX (T : Tailed bm) {rest : List Value} {fI : Addr} {oI : Obj} {Q : Value → Shared → Prop}
    (hC : h.get? C = some (excClassObj nm q C N bs bm hdct sn sub ab col dd k0 k1 k2 k3 k5 "Exception.__new__")) (hi : Looks (model prog w) h (typeLookup (.ref C) "__init__") (some (.ref fI)))
    (hfI : h.get? fI = some oI) (hfc : oI.cls = .type "function")
    (hq : ∀ h' e, Heap.MadeExcOf h h' e (.ref C) rest →
      wpAny (model prog w) (A.under (.builtin "type.__call__" ⟨.ref C :: rest, []⟩)) (call (.ref fI) (.ref e :: rest)) (fun r s' => r = .none ∧ Q (.ref e) s') E ⟨h', g, d, t, os⟩) (hrest : rest.length ≤ sizeLine) :
    wpAny (model prog w) A (call (.ref C) rest) Q E ⟨h, g, d, t, os⟩ := by
  have f1 := tc_lookup
  have f2 := tc_bind (.ref C)
  have hT : (⟨h, g, d, t, os⟩ : Shared).TypeIs (.ref C) "type" := ⟨_, hC, rfl⟩
  refine wpAny_call (codeAny_of_tree ?_)
  show wpAny _ _ (callAny (.ref C) _) _ _ _
  repeat (any_goals (first | assumption | with_reducible refine wpAny_loadPart_at hC ?_ | wp_step))
  refine ⟨rfl, ?_⟩
  exact codeAny_call_builtin_at (Code.quiet_builtin _ (by decide +kernel)) entry_typeCall (wpAny_check_type_call_sub hC (type_callX (hrest := hrest) T hC hi hfI hfc fun h' e hm => hq h' e hm))
end
end
end Mine

/- part X1 -/
namespace Mine
section
open PySem PySem.W PyProof.Rows PySem.Calls
set_option maxRecDepth 100000
set_option maxHeartbeats 4000000

noncomputable abbrev excO (t : Addr) (d : Option Addr) : Obj := { cls := .ref 45, dict := d, data := .fields #[.ref t, .none, .none, .none, .bool false, .none] }
noncomputable abbrev tupO (vs : List Value) : Obj := { cls := .type "tuple", data := .seq vs.toArray }
noncomputable abbrev bm45 : List Value := [.ref 32, .type "Exception", .type "BaseException", .type "object"]
theorem tailed45 : Tailed bm45 := ⟨by decide +kernel, by decide +kernel, by decide +kernel, by decide +kernel⟩

theorem cls45 {w : World} {h : Heap} (X : (hd.heap_39 w.params).In h) : ∃ nm q N bs hdct sn sub ab col dd k0 k1 k2 k3 k5, h.get? 45 = some (excClassObj nm q 45 N bs bm45 hdct sn sub ab col dd k0 k1 k2 k3 k5 "Exception.__new__") :=
  ⟨_, _, _, _, _, _, _, _, _, _, _, _, _, _, _, X _ _ (by k_is)⟩

section
variable {prog : Program} {w : World} {A : Around} {R : Result → Shared → Prop} {E : Value → Shared → Prop} {h : Heap} {g : Array GenState} {d : Drawn} {t : Nat} {os : OsState}
theorem check_initX {M : Model} {e : Addr} {oe : Obj} {rest : List Value} {Q : Unit → Shared → Prop} (X : (hd.heap_39 w.params).In h)
    (he : h.get? e = some oe) (hcls : oe.cls = .ref 45) (hq : Q () ⟨h, g, d, t, os⟩) :
    wpAny M A (checkBuiltinCall "Exception.__init__" ⟨.ref e :: rest, []⟩) Q E ⟨h, g, d, t, os⟩ := by
  have F := PySem.F.excBase_Exception
  obtain ⟨nm, q, N, bs, hdct, sn, sub, ab, col, dd, k0, k1, k2, k3, k5, hC⟩ := cls45 X
  have hcB := ref_type (C := 45) tailed45.hasB
  have hshort := F.noStar
  simp only [checkBuiltinCall, F.initKind, F.initSplit, F.initRow]
  repeat (first | (with_reducible refine wpAny_loadPart_at he ?_; rw [hcls]) | with_reducible refine wpAny_loadPart_at hC ?_ | (with_reducible refine wpAny_isSubtype_exc hC ?_; rw [hcB]) | wp_step)
  refine wpAny_onRaise ?_
  rw [show ∀ (a b : String) (n : Nat), Bind.check ⟨.positional, "*", "Exception", .self, [⟨"args", .varPos, false⟩]⟩ a b n (List.map (fun x => x.fst) ({ pos := Value.ref e :: rest } : Args).kw) = pure () from
    fun a b n => check_star_args _ _ _ _ _ _]
  exact wpAny_pure hq

theorem exc_init_at {e t₀ : Addr} {rest : List Value} {Q : Value → Shared → Prop} (X : (hd.heap_39 w.params).In h)
    (he : h.get? e = some (excO t₀ none)) (hrest : rest.length ≤ sizeLine)
    (hq : Q .none ⟨(h.push (tupO rest)).update e (Obj.mapFields (·.setIfInBounds 0 (.ref h.objs.size))), g, d, t, os⟩) :
    wpAny (model prog w) A (call (.builtin "Exception.__init__") (.ref e :: rest)) Q E ⟨h, g, d, t, os⟩ := by
  have F := PySem.F.excBase_Exception
  refine wpAny_call (codeAny_call_builtin F.init.plain F.initEntry (check_initX X he rfl ?_))
  wp_walk
  exact hq
end
end
end Mine

/- part X2 -/
namespace Mine
section
open PySem PySem.W PyProof.Rows PySem.Calls PySem.Builtin PySem.Builtin.ObjectAttr
set_option maxRecDepth 100000
set_option maxHeartbeats 4000000

section
variable {prog : Program} {w : World} {A : Around} {R : Result → Shared → Prop} {E : Value → Shared → Prop} {s : Shared} {x : Addr} {ox : Obj} {od : Option Obj} {name : Str} {tk : Tok} {v : Value}

theorem osa_openX (X : (hd.heap_39 w.params).In s.heap) (I : W.InstAt s.heap x ox 45 od) (ht : takerIn (hd.heap_39 w.params) 45 name = some none)
    (h : ∀ b, wpAny (model prog w) A.in1 (storeInOwnDict (.ref x) (.ref 45) (.str name tk) name v b)
      (fun fin s' => match fin with | .done f => R (.ok f) s' | .again c' => c'.quiet = true ∧ codeAny (model prog w) A c' R s') (fun e s' => R (.error e) s') s) :
    codeAny (model prog w) A (.call (.builtin "object.__setattr__") ⟨[.ref x, .str name tk, v], []⟩) R s := by
  have SF := PySem.F.store_Exception
  obtain ⟨nm, q, N, bs, hdct, sn, sub, ab, col, dd, k0, k1, k2, k3, k5, hC⟩ := cls45 X
  have hm : Looks (model prog w) s.heap (mroOf (.ref 45)) (.ref 45 :: bm45) := fun A Q E s' k q => wpAny_mroOf_exc (k _ _ hC) q
  have sub : Looks (model prog w) s.heap (isInstance (.ref x) (.type "object")) true := I.type.andThen fun A Q E s' k q => wpAny_isSubtype_exc (k _ _ hC) q
  refine codeAny_call_builtin SF.slot.plain SF.entry (@check_slot (model prog w) _ _ s "object.__setattr__" "object" "__setattr__" (.ref x) [.str name tk, v] [] _ SF.kind SF.split sub (SF.args (.ref x) (.str name tk) v) ?_)
  obtain ⟨attr, ha, hr⟩ := Option.bind_eq_some_iff.mp ht
  have L3 : Looks (model prog w) s.heap (storeTaker? attr) none := by
    cases attr with
    | none => exact .now
    | some a =>
      obtain ⟨b, hb, hb2⟩ := Option.map_eq_some_iff.mp hr
      refine (looks_takesIn X hb).andThen ?_
      cases b with
      | false => exact .now
      | true => cases hb2
  rw [osa_eq, refuse_eq]
  refine wpAny_bind (wpAny_bind (I.type.here (wpAny_bind (hm.here ?_))))
  rw [refuseLoop_ref, refuseLoop_ref, SF.passes]
  refine wpAny_pure (wpAny_bind (I.type.here (wpAny_bind ((looks_findIn X ha).here (wpAny_bind (L3.here ?_))))))
  exact h _

theorem store_tailX {h₀ : Heap} {L d : Addr} {m : Str → Option Value} {post : List (Addr × Obj)} {es es' : List DictEntry} {n n' : Nat} {Q : Fin → Shared → Prop}
    (F : Fr h₀ L s.heap m) (N : News h₀ L s.heap ((d, dictOf es n) :: post)) (off : ∀ p ∈ post, p.1 ≠ d) (hl : (getL name es).isSome = true)
    (e : (putL name (PyData.keyHash w.params name) (.str name s.toks) v es, putN name es n) = (es', n')) (hz : es'.length ≤ 1000)
    (h : ∀ h', Fr h₀ L h' m → News h₀ L h' ((d, dictOf es' n') :: post) → Q (.done (.ret .none)) { s with heap := h', toks := s.toks + 1 }) :
    wpAny (model prog w) A (storeInDict d (.str name tk) name v) Q E s := by
  obtain ⟨e1, e2⟩ := Prod.mk.inj e
  have ee : Obj.putName name (PyData.keyHash w.params name) (.str name s.toks) v (dictOf es n) = dictOf es' n' := by rw [putName_dict, e1, e2]
  obtain ⟨U1, U2⟩ := news_upd (pre := []) (f := Obj.putName name (PyData.keyHash w.params name) (.str name s.toks) v) F N (fun _ h => nomatch h) off ee rfl
  have D := (N _ (.head _)).1
  have D' := (U2 _ (.head _)).1
  unfold storeInDict newKeyGuard
  refine wpAny_bind (wpAny_pure (wpAny_bind ?_))
  unfold nsSet
  refine wpAny_bind (wpAny_bind (wpAny_askSetting (wpAny_pure (wpAny_bind (wpAny_mkText (wpAny_bind (wpAny_loadPart D ?_)))))))
  dsimp only
  have c : aRefKeyMayBeTheName name es.toArray = false := by
    rw [aRefKeyMayBeTheName_at]
    rw [← Array.any_toList, ← Array.any_toList]
    unfold getL at hl
    split at hl
    · rename_i en he
      rw [List.any_eq_true.mpr ⟨en, List.mem_of_find?_eq_some he, List.find?_some he⟩]; rfl
    · split at hl
      · cases hl
      · rename_i z; rw [Bool.not_eq_true] at z; rw [z, Bool.and_false]
  rw [c]
  refine wpAny_updatePart D ?_
  refine wpAny_bind (wpAny_lookBehind D' (pastItsLine_dict (by rw [List.size_toArray, sizeLine_eq]; omega)) ?_)
  exact wpAny_pure (h _ U1 U2)

variable {h₀ : Heap} {L e t : Addr} {m : Str → Option Value} {news : List (Addr × Obj)}

theorem hasDict45 {h : Heap} (X : (hd.heap_39 w.params).In h) : ∃ cd, clsIn (hd.heap_39 w.params) 45 = some cd ∧ cd.hasDict = true := any_some (show hasDictIn (hd.heap_39 w.params) 45 = true by k_is)

theorem inst45n {h : Heap} (he : h.get? e = some (excO t none)) : W.InstAt h e (excO t none) 45 none := ⟨he, rfl, rfl, trivial⟩
theorem inst45s {h : Heap} {d : Addr} {o : Obj} (he : h.get? e = some (excO t (some d))) (hd : h.get? d = some o) : W.InstAt h e (excO t (some d)) 45 (some o) := ⟨he, rfl, rfl, hd⟩

theorem setA_none {Q : Unit → Shared → Prop} {es' : List DictEntry} {n' : Nat} (F : Fr h₀ L s.heap m) (X : (hd.heap_39 w.params).In h₀) (N : News h₀ L s.heap ((e, excO t none) :: news)) (off : ∀ p ∈ news, p.1 ≠ e)
    (ht : takerIn (hd.heap_39 w.params) 45 name = some none)
    (ee : (putL name (PyData.keyHash w.params name) (.str name (s.toks + 1)) v [], putN name [] 0) = (es', n')) (hz : es'.length ≤ 1000)
    (h : ∀ d h', Fr h₀ L h' m → News h₀ L h' ((d, dictOf es' n') :: (e, excO t (some d)) :: news) → (∀ p ∈ (e, excO t none) :: news, p.1 < d) → Q () { s with heap := h', toks := s.toks + 1 + 1 }) :
    wpAny (model prog w) A (setAttr (.ref e) name v) Q E s := by
  have X' := X.keeps F.keep
  have he := (N _ (.head _)).1
  have I : W.InstAt s.heap e (excO t none) 45 none := inst45n he
  obtain ⟨cd, hc, hdct⟩ := hasDict45 X'
  refine set_plain X' I (by k_is) (osa_openX (s := { s with toks := s.toks + 1 }) X' I ht fun b => ?_)
  unfold storeInOwnDict ownDictForStores instanceDict
  refine wpAny_bind (wpAny_pure (wpAny_bind (wpAny_bind (wpAny_loadPart he (wpAny_bind (looks_clsIn X' hc _ _ _ _ (fun _ _ e => e) ?_))))))
  rw [hdct]
  refine wpAny_bind (wpAny_alloc ?_)
  refine wpAny_bind (wpAny_update (Heap.get?_push_of_some _ he) ?_)
  have F1 := F.push (dictOf [] 0)
  have N1 := N.push F (dictOf [] 0)
  have lt : ∀ p ∈ (e, excO t none) :: news, p.1 < s.heap.objs.size := fun p hp => Heap.lt_size (N p hp).1
  obtain ⟨F2, N2⟩ := news_upd (pre := [(s.heap.objs.size, dictOf [] 0)]) (post := news) (d := e) (o := excO t none) (o' := excO t (some s.heap.objs.size)) (f := fun o => { o with dict := some s.heap.objs.size }) F1 N1
    (fun p hp => by rw [List.mem_singleton.mp hp]; exact Nat.ne_of_gt (lt _ (.head _))) off rfl rfl
  refine wpAny_pure ?_
  refine store_tailX (s := ⟨_, s.gens, s.drawn, s.toks + 1, s.os⟩) (es := []) (n := 0) F2 N2 (fun p hp => ?_) rfl ee hz fun h' F' N' => ?_
  · rcases List.mem_cons.mp hp with rfl | hp
    · exact Nat.ne_of_lt (lt (e, excO t none) (.head _))
    · exact Nat.ne_of_lt (lt _ (.tail _ hp))
  · exact h _ h' F' N' lt

theorem setA_some {Q : Unit → Shared → Prop} {d : Addr} {es es' : List DictEntry} {n n' : Nat} (F : Fr h₀ L s.heap m) (X : (hd.heap_39 w.params).In h₀) (N : News h₀ L s.heap ((d, dictOf es n) :: (e, excO t (some d)) :: news)) (off : ∀ p ∈ (e, excO t (some d)) :: news, p.1 ≠ d)
    (ht : takerIn (hd.heap_39 w.params) 45 name = some none) (hl : (getL name es).isSome = true)
    (ee : (putL name (PyData.keyHash w.params name) (.str name (s.toks + 1)) v es, putN name es n) = (es', n')) (hz : es'.length ≤ 1000)
    (h : ∀ h', Fr h₀ L h' m → News h₀ L h' ((d, dictOf es' n') :: (e, excO t (some d)) :: news) → Q () { s with heap := h', toks := s.toks + 1 + 1 }) :
    wpAny (model prog w) A (setAttr (.ref e) name v) Q E s := by
  have X' := X.keeps F.keep
  have he := (N _ (.tail _ (.head _))).1
  have I : W.InstAt s.heap e (excO t (some d)) 45 (some (dictOf es n)) := inst45s he (N _ (.head _)).1
  obtain ⟨cd, hc, hdct⟩ := hasDict45 X'
  refine set_plain X' I (by k_is) (osa_openX (s := { s with toks := s.toks + 1 }) X' I ht fun b => ?_)
  unfold storeInOwnDict ownDictForStores instanceDict
  refine wpAny_bind (wpAny_pure (wpAny_bind (wpAny_bind (wpAny_loadPart he (wpAny_bind (looks_clsIn X' hc _ _ _ _ (fun _ _ e => e) ?_))))))
  rw [hdct]
  refine wpAny_pure ?_
  exact store_tailX (s := ⟨_, s.gens, s.drawn, s.toks + 1, s.os⟩) F N off hl ee hz fun h' F' N' => h h' F' N'

theorem exc_init_K {rest : List Value} {Q : Value → Shared → Prop} (F : Fr h₀ L s.heap m) (X : (hd.heap_39 w.params).In h₀) (N : News h₀ L s.heap ((e, excO t none) :: news)) (off : ∀ p ∈ news, p.1 ≠ e) (hrest : rest.length ≤ sizeLine)
    (h : ∀ t' h', Fr h₀ L h' m → News h₀ L h' ((e, excO t' none) :: news) → Q .none { s with heap := h' }) :
    wpAny (model prog w) A (call (.builtin "Exception.__init__") (.ref e :: rest)) Q E s := by
  obtain ⟨hp, g, d, tk, os⟩ := s
  have he := (N _ (.head _)).1
  refine exc_init_at (X.keeps F.keep) he hrest ?_
  have F1 := F.push (tupO rest)
  have N1 := N.grown (h' := hp.push (tupO rest)) fun _ _ e => Heap.get?_push_of_some _ e
  obtain ⟨F2, N2⟩ := news_upd (pre := []) (d := e) (o := excO t none) (o' := excO hp.objs.size none) (f := Obj.mapFields (·.setIfInBounds 0 (.ref hp.objs.size))) F1 N1 (fun _ h => nomatch h) off rfl rfl
  exact h _ _ F2 N2
end

theorem init_C (w : World) (e t : Addr) (x : Str) (k : Int) (ux uk : Tok) (news : List (Addr × Obj)) (off : ∀ p ∈ news, p.1 ≠ e) :
    Ctr w 29 [.ref e, .str x ux, .int k uk] 2 ((e, excO t none) :: news) (fun v news' => v = .none ∧ ∃ t' d t1 t2 t3, (∀ p ∈ (e, excO t none) :: news, p.1 < d) ∧ news' = (d, dictOf [⟨PyData.keyHash w.params "message", .str "message" t1, .str x ux⟩, ⟨PyData.keyHash w.params "spot", .str "spot" t2, .int k t3⟩] 2) :: (e, excO t' (some d)) :: news) := by
  intro p loose mean mg mb dp un gd cn cs a ccd cl outer A₀ base h₀ L m s Q E B F X N T hkd hdp hun hret
  w_on
  k_with_none
  refine wpAny_call ?_
  k_dflt (refine' code_def ?k1 ?k2 ?k3 ?k4 ?k5 ?kA ?kF ?kK ?k6 ?k7 ?k8 ?k9 ?kB ?_ ?c2 ?c3 ?c4 ?c5; (case kA => exact rfl); (case kF => exact rfl); (case kK => assumption); (case k1 => k_asm); (case k2 => k_asm); (case k3 => k_asm); (case k4 => k_asm); (case k5 => k_asm); (case k6 => k_is); (case k7 => k_is); (case k8 => ktr_room); (case k9 => exact binds_K (by k_in) rfl (by k_is) rfl rfl rfl); (case c5 => decide); (case kB => exact locs rfl); (case c2 => exact rfl); (case c3 => exact rfl); (case c4 => exact rfl); k_whole; intro g' L' h' FG' F' N' B' X' T'; (try dsimp only); (try k_lift B'); (try k_fold))
  k_steps
  (refine' method_type ?F ?X ?m (by decide +kernel) ?e ?h ?_; (case F => k_asm); (case X => k_asm); (case m => kernel_rfl); (case e => k_dflt k_is); (case h => k_handed))
  (try dsimp only)
  k_steps
  refine exc_init_K F' X' N' off (show 1 ≤ sizeLine by decide) fun t' h2 F2 N2 => ?_
  clear F' N'
  k_steps
  refine setA_none F2 X' N2 off (by k_is) rfl (show 1 ≤ 1000 by decide) fun d h3 F3 N3 hlt => ?_
  have off2 : ∀ p ∈ (e, excO t' (some d)) :: news, p.1 ≠ d := fun p hp => by
    rcases List.mem_cons.mp hp with rfl | hp
    · exact Nat.ne_of_lt (hlt (e, excO t' none) (.head _))
    · exact Nat.ne_of_lt (hlt _ (.tail _ hp))
  clear F2 N2
  k_steps
  refine setA_some F3 X' N3 off2 (by k_is) rfl rfl (show 2 ≤ 1000 by decide) fun h4 F4 N4 => ?_
  clear F3 N3
  k_steps
  rename Fr h₀ L _ m => kF
  rename News h₀ L _ _ => kN
  refine hret _ _ _ _ ⟨rfl, t', d, _, _, _, fun p hp => ?_, rfl⟩ kF kN
  rcases List.mem_cons.mp hp with rfl | hp
  · exact hlt (e, excO t' none) (.head _)
  · exact hlt _ (.tail _ hp)
end
end Mine

/- part X3 -/
namespace Mine
section
open PySem PySem.W PyProof.Rows PySem.Calls PySem.Builtin PySem.Builtin.ObjectAttr
set_option maxRecDepth 100000
set_option maxHeartbeats 4000000


theorem fault_made (w : World) (x : Str) (k : Int) (ux uk : Tok) {p : Program} {loose : List Str} {mean : ExcName → Option Value} {mg mb : Str → Option Value}
    {dp un : Nat} {gd : Option (List Code)} {cn : Str} {cs : Scope} {a : Addr} {ccd : Value} {cl : List (Str × Addr)} {outer : List Env} {A₀ : Around} {base h₀ : Heap} {L : Addr} {m : Str → Option Value} {s : Shared} {Q E : Value → Shared → Prop} {news : List (Addr × Obj)}
    (B : Below A₀ base outer h₀) (F : Fr h₀ L s.heap m) (X : (hd.heap_39 w.params).In h₀) (N : News h₀ L s.heap news) (T : Top p loose mean mg mb h₀) (hkd : cs.kind = .function) (hdp : dp + 3 < recursionLimit) (hun : un + 8 * 3 < cLine)
    (h : ∀ e t d t1 t2 t3 h' tk', (∀ p ∈ news, p.1 ≠ e) → (∀ p ∈ (e, excO t (some d)) :: news, p.1 ≠ d) → Fr h₀ L h' m → News h₀ L h' ((d, faultD w x k t1 ux t2 t3) :: (e, excO t (some d)) :: news) → Q (.ref e) { s with heap := h', toks := tk' }) :
    wpAny (model PySem.Challenge.rw_xw0154_01.row.prog w) (ktrTop dp un gd cn cs L a ccd cl outer) (call (.ref 45) [.str x ux, .int k uk]) Q E s := by
  obtain ⟨hp, g, dr, tk, os⟩ := s
  have X' := X.keeps F.keep
  refine gen_goal fun P hP => ?_
  obtain ⟨nm, q, N', bs, hdct, sn, sub, ab, col, dd, k0, k1, k2, k3, k5, hC⟩ := cls45 X'
  have hfn : isFn (hd.heap_39 w.params) (.ref 29) = true := by k_is
  obtain ⟨oI, hoI, hcI⟩ := Option.map_eq_some_iff.mp (show (List.lookup 29 (hd.heap_39 w.params)).map (·.cls) = some (.type "function") from beq_iff_eq.mp hfn)
  refine hP ?_
  clear hP P
  refine call_excX tailed45 hC (looks_findIn X' (by k_is)) (X' _ _ hoI) hcI (fun h1 e hm => ?_) (show 2 ≤ sizeLine by decide)
  obtain ⟨t, he, ht0, ht⟩ := hm.there
  have hne : ∀ p ∈ news, p.1 ≠ e := fun p hp q => by have := (N p hp).1; rw [q, hm.new] at this; cases this
  have F1 : Fr h₀ L h1 m := F.keeps hm.keeps
  have N1 : News h₀ L h1 ((e, excO t none) :: news) := fun p hp => by
    rcases List.mem_cons.mp hp with rfl | hp
    · refine ⟨he, fun q => ?_, ?_⟩
      · obtain ⟨oL, _, _, hL, _⟩ := F.ns
        rw [← q, hm.new] at hL; cases hL
      · cases hq : h₀.get? e with
        | none => rfl
        | some o => have := F.keep _ _ hq; rw [hm.new] at this; cases this
    · exact ⟨hm.keeps _ _ (N p hp).1, (N p hp).2⟩
  refine init_C w e t x k ux uk news hne p loose mean mg mb (dp + 1) (un + 1) _ cn cs a ccd cl outer A₀ base h₀ L m ⟨h1, g, dr, tk, os⟩ _ E B F1 X N1 T hkd (by omega) (by omega) ?_
  rintro v news' h2 tk2 ⟨rfl, t', d, t1, t2, t3, hlt, rfl⟩ F2 N2
  refine ⟨rfl, h e t' d t1 t2 t3 h2 tk2 hne (fun p hp => ?_) F2 N2⟩
  rcases List.mem_cons.mp hp with rfl | hp
  · exact Nat.ne_of_lt (hlt (e, excO t none) (.head _))
  · exact Nat.ne_of_lt (hlt _ (.tail _ hp))
end
end Mine

/- part X4 -/
namespace Mine
section
open PySem PySem.W PyProof.Rows PySem.Calls PySem.Builtin PySem.Builtin.ObjectAttr
set_option maxRecDepth 100000
set_option maxHeartbeats 4000000

noncomputable def RaisX (w : World) (E : Value → Shared → Prop) (v : Value) (s₁ : Shared) : Prop :=
  ∃ x t d, v = .ref x ∧ (hd.heap_39 w.params).In s₁.heap ∧ s₁.heap.get? x = some (excO t d) ∧ E (.ref x) s₁

theorem raise_stmtX {M : Model} {A : Around} {E : Value → Shared → Prop} {s : Shared} {env : Env} {w : World} {x : Sem Value} {Q : Flow → Shared → Prop} (hh : A.handled = none)
    (h : wpAny M A x (RaisX w E) E s) : wpAny M A (raiseStmt env (some x) none) Q E s := by
  unfold raiseStmt
  refine wpAny_bind (wpAny_mono h (fun v s₁ h₁ => ?_) fun _ _ x => x)
  obtain ⟨e, t, d, rfl, X, he, hE⟩ := h₁
  refine gen_goal fun P hP => ?_
  obtain ⟨nm, q, N', bs, hdct, sn, sub, ab, col, dd, k0, k1, k2, k3, k5, hC⟩ := cls45 X
  refine hP ?_
  clear hP P
  have hcB := ref_type (C := 45) tailed45.hasBase
  obtain ⟨hp, g, d, tk, os⟩ := s₁
  repeat (first | with_reducible refine wpAny_loadPart_at he ?_ | with_reducible refine wpAny_loadPart_at hC ?_ | (with_reducible refine wpAny_isSubtype_exc hC ?_; rw [hcB]) | wp_step)
  exact wpAny_raiseNew_none hh hE

theorem raise_fault {M : Model} {A : Around} {E : Value → Shared → Prop} {s : Shared} {env : Env} {w : World} {e : Expr} {pos : Pos} {Q : Flow → Shared → Prop} (hh : A.handled = none)
    (h : wpAny M A (eval e env) (RaisX w E) E s) : wpAny M A (exec (.Raise (some e) none pos) env) Q E s := by
  show wpAny M A (do standAt pos; raiseStmt env (some (do let v ← eval e env; standAt pos; pure v)) none) Q E s
  refine wpAny_bind (wpAny_standAt ?_)
  exact raise_stmtX hh (wpAny_bind (wpAny_mono h (fun v s₁ h₁ => wpAny_bind (wpAny_standAt (wpAny_pure h₁))) fun _ _ x => x))
end
end Mine

/- part X5 -/
namespace Mine
section
open PySem PySem.W PyProof.Rows PySem.Calls
set_option maxRecDepth 100000
set_option maxHeartbeats 4000000

theorem dict_mapF (f : Array Value → Array Value) (o : Obj) : (Obj.mapFields f o).dict = o.dict := by
  obtain ⟨c, d, dt, sl⟩ := o
  cases dt <;> rfl

/-- the fault e, its dict d, its newest entry's flight fl -/
noncomputable def TrX (h base : Heap) (e d : Addr) (fl : Value) : Prop :=
  ∃ oe vs T oT ts, h.get? e = some oe ∧ (oe.cls = .ref 45 ∧ oe.dict = some d) ∧ oe.data = .fields vs ∧ vs[1]? = some (.ref T) ∧ base.get? T = none ∧ T ≠ e ∧ h.get? T = some oT ∧ oT.data = .fields ts ∧ ts[3]? = some fl

structure InX (base : Heap) (l : List Env) (e d : Addr) (fl : Value) (h : Heap) : Prop where
  stays : base.StaysIn h
  new : base.get? e = none
  frames : h.FunFrames base l
  tr : TrX h base e d fl

section
variable {M : Model} {A : Around} {E : Value → Shared → Prop} {s : Shared} {base : Heap} {env : Env} {outer l : List Env} {L e d : Addr} {Q : Unit → Shared → Prop}

theorem entryX {oe : Obj} {vs : Array Value} {head : Value} {hadNext : Bool}
    (hfr : A.frames = some (env :: outer)) (hl : s.heap.FunFrames base (env :: outer)) (hf : env.frame = some L)
    (he : s.heap.get? e = some oe) (hc : oe.cls = .ref 45 ∧ oe.dict = some d) (hkb : base.StaysIn s.heap) (hen : base.get? e = none) (hd : oe.data = .fields vs) (hsz : 1 < vs.size)
    (h : ∀ h', InX base (env :: outer) e d (rawInt L) h' → s.heap.UpToSlots h' → Q () { s with heap := h' }) :
    wpAny M A (do let a ← frameOf env; let pl ← entryPlaceOf L hadNext; let b ← EntryCells.newEntry head a .none (rawInt L) .none pl; setField (.ref e) 1 b) Q E s := by
  have hene : e ∉ (env :: outer).filterMap (·.frame) := fun hm => by
    obtain ⟨_, o, ho, hnf⟩ := hl.mem hm
    rw [he] at ho; injection ho with ho; subst ho; exact hnf vs hd
  refine wpAny_bind (wpAny_frameOf_fun hfr hl hf fun h₁ hs₁ => ?_)
  refine wpAny_bind (wpAny_entryPlaceOf fun pl hpl => ?_)
  unfold EntryCells.newEntry newFields
  refine wpAny_bind (wpAny_newObj_type ?_ (hpl.sizeOk5 _ _ _ _ _))
  generalize hO : ({ cls := .type "traceback", dict := none, data := .fields ([head, .ref L, .none, rawInt L, .none] ++ (if pl.isEmpty then List.replicate 6 Value.none else pl)).toArray } : Obj) = O
  have he₁ : h₁.get? e = some oe := (hs₁.2.1 e hene).trans he
  have kb₁ : base.StaysIn h₁ := fun b o hbo => (hs₁.2.1 b fun hm => by rw [(hl.mem hm).1] at hbo; cases hbo).trans (hkb b o hbo)
  have he₂ : (h₁.push O).get? e = some oe := Heap.get?_push_of_some O he₁
  have hOf : O.isFreed = false := by rw [← hO]; rfl
  have hTe : h₁.objs.size ≠ e := Nat.ne_of_gt (Heap.lt_size he₁)
  have hd₃ := Obj.data_mapFields hd (·.setIfInBounds 1 (Value.ref h₁.objs.size))
  have he₃ := Heap.get?_update_self (Obj.mapFields (·.setIfInBounds 1 (Value.ref h₁.objs.size))) he₂ (Obj.isFreed_of_fields hd₃)
  have hT₃ := (Heap.get?_update_other (h₁.push O) (Obj.mapFields (·.setIfInBounds 1 (Value.ref h₁.objs.size))) (Ne.symm hTe)).trans (Heap.get?_push_size h₁ hOf)
  have keep : ∀ b o, b ≠ e → h₁.get? b = some o → ((h₁.push O).update e (Obj.mapFields (·.setIfInBounds 1 (Value.ref h₁.objs.size)))).get? b = some o := fun b o hbe hb => by
    rw [Heap.get?_update_other _ _ (Ne.symm hbe)]
    exact Heap.get?_push_of_some _ hb
  have noRec : ∀ b o, s.heap.get? b = some o → (∀ vs, o.data ≠ .fields vs) → b ≠ e := fun b o hb hnf q => by
    rw [q, he] at hb; injection hb with hb; subst hb; exact hnf vs hd
  refine wpAny_setField he₂ hd hsz (h _ ⟨?_, hen, ?_, ?_⟩ ?_)
  · exact fun b o hbo => keep b o (fun q => by rw [q, hen] at hbo; cases hbo) (kb₁ b o hbo)
  · refine hl.of_keeps fun b o hb hnf => ?_
    obtain ⟨sl, hs⟩ := hs₁.2.2 b o hb
    exact ⟨_, keep b _ (noRec b o hb hnf) hs, rfl⟩
  · refine ⟨_, _, h₁.objs.size, _, _, he₃, ⟨(Obj.cls_mapFields _ _).trans hc.1, (dict_mapF _ _).trans hc.2⟩, hd₃, by simp [hsz], kb₁.fresh, hTe, hT₃, by rw [← hO], ?_⟩
    first | (simp; done) | (rcases hpl with rfl | ⟨_, _, _, _, _, _, _, rfl⟩ <;> simp)
  · intro b o hb hnf
    obtain ⟨sl, hs⟩ := hs₁.2.2 b o hb
    exact ⟨sl, keep b _ (noRec b o hb hnf) hs⟩

theorem note_firstX {oe : Obj} {vs : Array Value}
    (hfr : A.frames = some (env :: outer)) (hl : s.heap.FunFrames base (env :: outer)) (hf : env.frame = some L)
    (he : s.heap.get? e = some oe) (hc : oe.cls = .ref 45 ∧ oe.dict = some d) (hkb : base.StaysIn s.heap) (hen : base.get? e = none) (hd : oe.data = .fields vs) (h1 : vs[1]? = some .none)
    (h : ∀ h', InX base (env :: outer) e d (rawInt L) h' → s.heap.UpToSlots h' → Q () { s with heap := h' }) : wpAny M A (noteFrame (.ref e) env) Q E s := by
  unfold noteFrame
  simp only [hf]
  refine wpAny_bind (wpAny_field he hd h1 ?_)
  rw [if_neg (by decide)]
  exact entryX hfr hl hf he hc hkb hen hd (Array.getElem?_eq_some_iff.mp h1).1 h

theorem note_nextX (hfr : A.frames = some (env :: outer)) (hf : env.frame = some L) (I : InX base (env :: outer) e d .none s.heap)
    (h : ∀ h', InX base (env :: outer) e d (rawInt L) h' → s.heap.UpToSlots h' → Q () { s with heap := h' }) : wpAny M A (noteFrame (.ref e) env) Q E s := by
  obtain ⟨hkb, hen, hl, oe, vs, T, oT, ts, he, hc, hd, h1, hnT, hTe, hT, hdT, h3⟩ := I
  unfold noteFrame
  simp only [hf]
  refine wpAny_bind (wpAny_field he hd h1 ?_)
  rw [if_pos (show (Value.ref T != Value.none) = true from by simp)]
  refine wpAny_bind (wpAny_field hT hdT h3 ?_)
  rw [if_neg (show ¬ ((Value.none == rawInt L) = true) from by simp [rawInt])]
  refine wpAny_bind (wpAny_setField hT hdT (Array.getElem?_eq_some_iff.mp h3).1 ?_)
  have other : ∀ b, b ≠ T → (s.heap.update T (Obj.mapFields (·.setIfInBounds 3 Value.none))).get? b = s.heap.get? b := fun b hb => Heap.get?_update_other _ _ (Ne.symm hb)
  have noRec : ∀ b o, s.heap.get? b = some o → (∀ vs, o.data ≠ .fields vs) → b ≠ T := fun b o hb hnf q => by
    rw [q, hT] at hb; injection hb with hb; subst hb; exact hnf ts hdT
  refine entryX hfr (hl.of_keeps fun b o hb hnf => ⟨o, (other b (noRec b o hb hnf)).trans hb, rfl⟩) hf ((other e (Ne.symm hTe)).trans he) hc
    (fun b o hbo => (other b fun q => by rw [q, hnT] at hbo; cases hbo).trans (hkb b o hbo)) hen hd (Array.getElem?_eq_some_iff.mp h1).1
    fun h' I' U' => h h' I' fun b o hb hnf => U' b o ((other b (noRec b o hb hnf)).trans hb) hnf

theorem landX {fl : Value} (I : InX base l e d fl s.heap)
    (h : ∀ h', InX base l e d .none h' → s.heap.UpToSlots h' → Q () { s with heap := h' }) : wpAny M A (setFlight (.ref e) none) Q E s := by
  obtain ⟨hkb, hen, hl, oe, vs, T, oT, ts, he, hc, hd, h1, hnT, hTe, hT, hdT, h3⟩ := I
  have hsz3 : 3 < ts.size := (Array.getElem?_eq_some_iff.mp h3).1
  have other : ∀ b, b ≠ T → (s.heap.update T (Obj.mapFields (·.setIfInBounds 3 ((none : Option Addr).elim Value.none fun f => rawInt f)))).get? b = s.heap.get? b :=
    fun b hb => Heap.get?_update_other _ _ (Ne.symm hb)
  have noRec : ∀ b o, s.heap.get? b = some o → (∀ vs, o.data ≠ .fields vs) → b ≠ T := fun b o hb hnf q => by
    rw [q, hT] at hb; injection hb with hb; subst hb; exact hnf ts hdT
  unfold setFlight
  refine wpAny_bind (wpAny_field he hd h1 ?_)
  rw [if_pos (show (Value.ref T != Value.none) = true from by simp)]
  refine wpAny_setField hT hdT hsz3 (h _ ⟨fun b o hbo => (other b fun q => by rw [q, hnT] at hbo; cases hbo).trans (hkb b o hbo), hen,
    hl.of_keeps fun b o hb hnf => ⟨o, (other b (noRec b o hb hnf)).trans hb, rfl⟩, ?_⟩ fun b o hb hnf => ⟨o.slots, (other b (noRec b o hb hnf)).trans hb⟩)
  exact ⟨oe, vs, T, _, _, (other e (Ne.symm hTe)).trans he, hc, hd, h1, hnT, hTe, Heap.get?_update_self _ hT (Obj.isFreed_of_fields (Obj.data_mapFields hdT _)), Obj.data_mapFields hdT _, by simp [hsz3]⟩

theorem leave_firstX {oe : Obj} {vs : Array Value}
    (hfr : A.frames = some (env :: outer)) (hl : s.heap.FunFrames base (env :: outer)) (hf : env.frame = some L)
    (he : s.heap.get? e = some oe) (hc : oe.cls = .ref 45 ∧ oe.dict = some d) (hkb : base.StaysIn s.heap) (hen : base.get? e = none) (hd : oe.data = .fields vs) (h1 : vs[1]? = some .none)
    (h : ∀ h', InX base outer e d .none h' → s.heap.UpToSlots h' → Q () { s with heap := h' }) : wpAny M A (leaving env (.ref e)) Q E s := by
  unfold leaving
  refine wpAny_bind (note_firstX hfr hl hf he hc hkb hen hd h1 fun h₁ I₁ U₁ => landX I₁ fun h₂ I₂ U₂ => ?_)
  exact h h₂ ⟨I₂.stays, I₂.new, I₂.frames.2.2, I₂.tr⟩ (U₁.trans U₂)

theorem leave_nextX (hfr : A.frames = some (env :: outer)) (hf : env.frame = some L) (I : InX base (env :: outer) e d .none s.heap)
    (h : ∀ h', InX base outer e d .none h' → s.heap.UpToSlots h' → Q () { s with heap := h' }) : wpAny M A (leaving env (.ref e)) Q E s := by
  unfold leaving
  refine wpAny_bind (note_nextX hfr hf I fun h₁ I₁ U₁ => landX I₁ fun h₂ I₂ U₂ => ?_)
  exact h h₂ ⟨I₂.stays, I₂.new, I₂.frames.2.2, I₂.tr⟩ (U₁.trans U₂)
end
end
end Mine

/- part Y0 -/
namespace Mine
section
open PySem PySem.W PyProof.Rows PySem.Calls PySem.Spec
set_option maxRecDepth 100000
set_option maxHeartbeats 4000000

noncomputable abbrev frs (l : List Env) : List Addr := l.filterMap (·.frame)

/-- the end of a def below which a fault was caught: the frames' slots may have turned -/
noncomputable def LeaveT (A₀ : Around) (base : Heap) (outer : List Env) (env : Env) (h₀ : Heap) (L : Addr) (m : Str → Option Value) (g : Heap) (R : Result → Shared → Prop) (v : Value) (s' : Shared) : Prop :=
  ∃ g' L' m' news', KtsTurn (frs (env :: outer)) g g' ∧ Fr g' L' s'.heap m' ∧ News g' L' s'.heap news' ∧
    ∀ h₀', KtsTurn (frs outer) h₀ h₀' → Fr h₀' L s'.heap m → News h₀' L s'.heap news' → Below A₀ base outer h₀' → R (.ok (.ret v)) s'

section
variable {prog : Program} {w : World} {A₀ A : Around} {s : Shared} {base h₀ : Heap} {outer : List Env} {L : Addr} {m : Str → Option Value} {env : Env} {news : List (Addr × Obj)} {K : Frag}
  {R : Result → Shared → Prop} {name qual : Str} {params : Arguments} {body : List Stmt} {scope : Scope} {dV kV doc pm cdv ct : Value} {an : Option Addr} {fo : Obj} {f : Addr} {args : Args} {binds : List (Str × Value)} {cl : List (Str × Addr)}

theorem frs_mem {b : Addr} (hf : env.frame = some L) (hm : b ∈ frs (env :: outer)) : b = L ∨ b ∈ frs outer := by
  obtain ⟨e, he, hb⟩ := List.mem_filterMap.mp hm
  cases he with
  | head => exact .inl (Option.some.inj (hf.symm.trans hb)).symm
  | tail _ he => exact .inr (List.mem_filterMap.mpr ⟨e, he, hb⟩)

theorem groundT (B : Below A₀ base outer h₀) (F : Fr h₀ L s.heap m) (N : News h₀ L s.heap news) (hA : A.frames = some (env :: outer)) (hf : env.frame = some L) (hke : env.scope.kind = .function) :
    Fr h₀ L (hideAll s.heap (news.map (·.1))) m ∧ Below A base (env :: outer) (hideAll s.heap (news.map (·.1))) ∧ h₀.StaysIn (hideAll s.heap (news.map (·.1))) ∧
      ∀ v s', LeaveT A₀ base outer env h₀ L m (hideAll s.heap (news.map (·.1))) R v s' → R (.ok (.ret v)) s' := by
  obtain ⟨FG, BG, st, _⟩ := groundX (R := R) B F N hA hf hke
  refine ⟨FG, BG, st, fun v s' hl => ?_⟩
  obtain ⟨g', L', m', news', T', F', N', k⟩ := hl
  obtain ⟨oL, es, ep, hLg, hLd, hLk, hLf⟩ := FG.ns
  have nL₀ : h₀.get? L = none := kts_self F
  obtain ⟨sl, hs⟩ := T'.up hLg
  obtain ⟨T₁, S₁⟩ := kts_turn_at (h := s'.heap) (fs := frs outer) (g := h₀)
    (fun b hb => by
      obtain ⟨_, o, ho', _⟩ := B.frames.mem hb
      exact ⟨o, ho'⟩)
    (fun b o e nmem => F'.keep b o (T'.other b o (st b o e) (fun q => by
      rcases frs_mem hf q with z | z
      · rw [z, nL₀] at e
        cases e
      · exact nmem z)))
    (fun b o e hm => by
      obtain ⟨sl', hs'⟩ := T'.up (st b o e)
      exact ⟨sl', F'.keep _ _ hs'⟩)
  have B₃ : Below A₀ base outer (ktsHeap s'.heap (frs outer) h₀) := ⟨B.stack, fun b o e => T₁.other b o (B.stays b o e) (fun hm => by
    rw [(B.frames.mem hm).1] at e
    cases e), B.frames.of_keeps fun b o e _ => by
    obtain ⟨sl', hs'⟩ := T₁.up e
    exact ⟨_, hs', rfl⟩⟩
  refine k _ T₁ ⟨⟨_, es, ep, F'.keep _ _ hs, hLd, hLk, hLf⟩, S₁, by rw [T₁.size]; exact F.above⟩ (fun p hp => ⟨(N' p hp).1, fun q => ?_, ?_⟩) B₃
  · have := (N' p hp).2.2; rw [q, hs] at this; cases this
  · refine T₁.none_ _ ?_
    cases q : h₀.get? p.1 with
    | none => rfl
    | some o =>
      obtain ⟨sl', hs'⟩ := T'.up (st _ _ q)
      have := (N' p hp).2.2
      rw [hs'] at this
      cases this

theorem callT_plain (B : Below A₀ base outer h₀) (F : Fr h₀ L s.heap m) (N : News h₀ L s.heap news) (hlim : h₀.NoLimit) (hA : A.frames = some (env :: outer)) (hf : env.frame = some L) (hke : env.scope.kind = .function)
    (ho : s.heap.get? f = some fo) (hd : fo.data = .func (fnX name qual params body scope cl dV kV doc pm an cdv ct)) (hcd : s.heap.CodeRec cdv qual) (hroom : A.depth < recursionLimit)
    (hbind : BindsTo s (fnX name qual params body scope cl dV kV doc pm an cdv ct) args binds) (hloc : ∀ y ∈ binds, scope.names.lookup y.1 = some .local)
    (h : ∀ g L' h₁, Fr h₀ L g m → Fr g L' h₁ (fun y => binds.reverse.lookup y) → News g L' h₁ news → Below A base (env :: outer) g → h₀.StaysIn g → (∀ p ∈ news, p.1 < L') →
      wpAny (model prog w) (A.deeper (envX qual scope L' f cdv cl)) (execs body (envX qual scope L' f cdv cl))
        (fun fl s' => LeaveT A₀ base outer env h₀ L m g R (match fl with | .ret v => v | _ => .none) s')
        (fun e s' => wpAny (model prog w) (A.deeper (envX qual scope L' f cdv cl)) (leaving (envX qual scope L' f cdv cl) e) (fun _ s'' => R (.error e) s'') (fun e' s'' => R (.error e') s'') s')
        { s with heap := h₁, toks := s.toks + binds.length })
    (hcell : ∀ x ∈ scope.names, x.2 ≠ .cell) (hco : scope.isCoroutine = false) (hgen : scope.isGenerator = false) (hk : scope.kind = .function) : codeAny (model prog w) A (.call (.ref f) args) R s := by
  obtain ⟨FG, BG, st, lv⟩ := groundT (R := R) B F N hA hf hke
  refine codeAny_call_def (fd := fnX name qual params body scope cl dV kV doc pm an cdv ct) (body := body) (binds := binds) hroom ho hd (hlim.keeps F.keep) hcd rfl hbind hcell hloc (fun h₁ hns hk₁ => ?_) hco hgen hk
  exact wpAny_mono (h _ s.heap.objs.size h₁ FG ⟨hns, fun b o e => hk₁ b o (of_hideAll _ e), Nat.le_of_eq (hideAll_size _ _)⟩
    (fun p hp => ⟨hk₁ _ _ (N p hp).1, Nat.ne_of_lt (Heap.lt_size (N p hp).1), hideAll_none _ (List.mem_map_of_mem hp)⟩) BG st (fun p hp => Heap.lt_size (N p hp).1)) (fun fl s' hl => lv _ _ hl) fun _ _ y => y

theorem callT_cells (B : Below A₀ base outer h₀) (F : Fr h₀ L s.heap m) (N : News h₀ L s.heap news) (hlim : h₀.NoLimit) (hA : A.frames = some (env :: outer)) (hf : env.frame = some L) (hke : env.scope.kind = .function)
    (ho : s.heap.get? f = some fo) (hd : fo.data = .func (fnX name qual params body scope [] dV kV doc pm an cdv ct)) (hcd : s.heap.CodeRec cdv qual) (hroom : A.depth < recursionLimit)
    (hbind : BindsTo s (fnX name qual params body scope [] dV kV doc pm an cdv ct) args binds)
    (hkind : ∀ n, ∀ x ∈ binds, scope.names.lookup x.1 = some .local ∨ (scope.names.lookup x.1 = some .cell ∧ ((cellsFrom n scope.names []).lookup x.1).isSome = true))
    (hnd : ((cellsFrom 0 scope.names []).map (·.1)).Nodup)
    (h : ∀ g L' h₁ tk cells, Fr h₀ L g m → Fr g L' h₁ (bindL (envOfC qual scope L' f cdv).kindOf binds fun _ => none) → News g L' h₁ (cells ++ news) →
      CellsAre (bindC (envOfC qual scope L' f cdv).kindOf binds fun _ => none) (cellsFrom (L' + 1) scope.names []) cells → Below A base (env :: outer) g → h₀.StaysIn g → (∀ p ∈ news, p.1 < L') →
      wpAny (model prog w) (A.deeper (envOfC qual scope L' f cdv)) (execs body (envOfC qual scope L' f cdv))
        (fun fl s' => LeaveT A₀ base outer env h₀ L m g R (match fl with | .ret v => v | _ => .none) s')
        (fun e s' => wpAny (model prog w) (A.deeper (envOfC qual scope L' f cdv)) (leaving (envOfC qual scope L' f cdv) e) (fun _ s'' => R (.error e) s'') (fun e' s'' => R (.error e') s'') s')
        { s with heap := h₁, toks := tk })
    (hco : scope.isCoroutine = false) (hgen : scope.isGenerator = false) (hk : scope.kind = .function) : codeAny (model prog w) A (.call (.ref f) args) R s := by
  obtain ⟨FG, BG, st, lv⟩ := groundT (R := R) B F N hA hf hke
  refine codeAny_call_function hroom ho hd hco hgen rfl hcd (hbind _ _ _ _ ?_)
  refine wpAny_newFunctionEnv_cells hk (hkind _) fun env' he s' x => ?_
  subst he
  refine ⟨(hlim.keeps F.keep).keeps x.toInCall.keep, codeAny_func ?_⟩
  obtain ⟨h₁, tk, rfl, _⟩ := x.done
  have hk₁ := x.toInCall.keep
  obtain ⟨cells, NC, Y⟩ := Cl.news (h₀ := s.heap) (Nat.le_refl _) fun n c hm => ⟨x.cell n c (lookup_of_mem_nodup (cellsFrom_names scope.names 0 (s.heap.objs.size + 1) [] [] rfl ▸ hnd) hm), x.above n c hm⟩
  refine wpAny_mono (h _ s.heap.objs.size h₁ tk cells FG ⟨x.toInCall.ns, fun b o e => hk₁ b o (of_hideAll _ e), Nat.le_of_eq (hideAll_size _ _)⟩ (fun p hp => ?_) Y BG st (fun p hp => Heap.lt_size (N p hp).1)) (fun fl s' hl => lv _ _ hl) fun _ _ y => y
  rcases List.mem_append.mp hp with hp | hp
  · refine ⟨(NC p hp).1, (NC p hp).2.1, ?_⟩
    cases q : (hideAll s.heap (news.map (·.1))).get? p.1 with
    | none => rfl
    | some o => have := of_hideAll _ q; rw [(NC p hp).2.2] at this; cases this
  · exact ⟨hk₁ _ _ (N p hp).1, Nat.ne_of_lt (Heap.lt_size (N p hp).1), hideAll_none _ (List.mem_map_of_mem hp)⟩
end

/-- a fault in flight, out of the frames that stood on G -/
noncomputable def FliesT (base G : Heap) (l : List Env) (e d : Addr) (dO : Obj) (news : List (Addr × Obj)) (h : Heap) : Prop :=
  ∃ B, base.StaysIn B ∧ (∀ b o, G.get? b = some o → b ∉ frs l → B.get? b = some o) ∧ (∀ q ∈ (d, dO) :: news, B.get? q.1 = some q.2 ∧ G.get? q.1 = none ∧ base.get? q.1 = none) ∧ InX B l e d .none h

section
variable {M : Model} {A : Around} {E : Value → Shared → Prop} {s' : Shared} {base g g₂ : Heap} {outer : List Env} {L e d t : Addr} {dO : Obj} {m : Str → Option Value} {env : Env} {Q : Unit → Shared → Prop} {news : List (Addr × Obj)}

theorem leave_raiseT (K : Below A base outer g) (F : Fr g L s'.heap m) (N : News g L s'.heap ((d, dO) :: (e, excO t (some d)) :: news)) (hne : ∀ p ∈ news, p.1 ≠ e) (hde : ∀ p ∈ (e, excO t (some d)) :: news, p.1 ≠ d)
    (hf : env.frame = some L) (hk : env.scope.kind = .function)
    (hQ : ∀ h', FliesT base g outer e d dO news h' → g.UpToSlots h' → Q () { s' with heap := h' }) :
    wpAny M (A.deeper env) (leaving env (.ref e)) Q E s' := by
  have K' := pushX K F hf hk
  have he := N (e, excO t (some d)) (.tail _ (.head _))
  have hid : ∀ b o, s'.heap.get? b = some o → b ∉ frs (env :: outer) → b ≠ e → (hideAll s'.heap (e :: frs (env :: outer))).get? b = some o := fun b o q n1 n2 =>
    hideAll_get _ q fun hm => by
      rcases List.mem_cons.mp hm with z | z
      · exact n2 z
      · exact n1 z
  have ge : g.get? e = none := he.2.2
  have be : base.get? e = none := fresh_of_stays K.stays ge
  have st : base.StaysIn (hideAll s'.heap (e :: frs (env :: outer))) := fun b o q => hid b o (K'.stays b o q) (fun hm => by
    rw [(K'.frames.mem hm).1] at q; cases q) fun z => by rw [z, be] at q; cases q
  have sg : ∀ b o, g.get? b = some o → b ∉ frs outer → (hideAll s'.heap (e :: frs (env :: outer))).get? b = some o := fun b o q nm => hid b o (F.keep b o q) (fun hm => by
    rcases frs_mem hf hm with z | z
    · rw [z, kts_self F] at q
      cases q
    · exact nm z) fun z => by rw [z, ge] at q; cases q
  have notfr : ∀ q ∈ (d, dO) :: (e, excO t (some d)) :: news, q.1 ∉ frs (env :: outer) := fun q hq hm => by
    rcases frs_mem hf hm with z | z
    · exact (N q hq).2.1 z
    · obtain ⟨o, ho, _⟩ := (K.frames.mem z).2
      rw [(N q hq).2.2] at ho; cases ho
  have hl : ∀ q ∈ (d, dO) :: news, (hideAll s'.heap (e :: frs (env :: outer))).get? q.1 = some q.2 ∧ g.get? q.1 = none ∧ base.get? q.1 = none := fun q hq => by
    have hq' : q ∈ (d, dO) :: (e, excO t (some d)) :: news := by
      rcases List.mem_cons.mp hq with rfl | hq
      · exact .head _
      · exact .tail _ (.tail _ hq)
    refine ⟨hid _ _ (N q hq').1 (notfr q hq') ?_, (N q hq').2.2, fresh_of_stays K.stays (N q hq').2.2⟩
    rcases List.mem_cons.mp hq with rfl | hq
    · exact Ne.symm (hde (e, excO t (some d)) (.head _))
    · exact hne q hq
  have hfr : s'.heap.FunFrames (hideAll s'.heap (e :: frs (env :: outer))) (env :: outer) := funFrames_hide K'.frames fun env' he' b hb => .tail _ (List.mem_filterMap.mpr ⟨env', he', hb⟩)
  refine leave_firstX (d := d) K'.stack hfr hf he.1 ⟨rfl, rfl⟩ (fun b o q => of_hideAll _ q) (hideAll_none _ (.head _)) rfl rfl fun h' I U => hQ h' ⟨_, st, sg, hl, I⟩ ((Heap.UpToSlots.of_keeps F.keep).trans U)

theorem leave_onT (K : Below A base outer g) (F : Fr g L g₂ m) (R : FliesT base g₂ (env :: outer) e d dO news s'.heap) (hsm : g₂.UpToSlots s'.heap) (hf : env.frame = some L)
    (hQ : ∀ h', FliesT base g outer e d dO news h' → g.UpToSlots h' → Q () { s' with heap := h' }) :
    wpAny M (A.deeper env) (leaving env (.ref e)) Q E s' := by
  obtain ⟨B, hB, hBG, hl, I⟩ := R
  refine leave_nextX (Around.frames_deeper K.stack) hf I fun h' I' U => hQ h' ⟨B, hB, fun b o q nm => hBG b o (F.keep b o q) (fun hm => ?_), fun q hq => ⟨(hl q hq).1, kts_none F.keep (hl q hq).2.1, (hl q hq).2.2⟩, I'⟩ ((Heap.UpToSlots.of_keeps F.keep).trans (hsm.trans U))
  rcases frs_mem hf hm with z | z
  · rw [z, kts_self F] at q
    cases q
  · exact nm z
end

/-- a contract of a def that may raise the fault, at the places that Bad says -/
noncomputable abbrev CtrR (w : World) (f : Addr) (vs : List Value) (need : Nat) (news : List (Addr × Obj)) (Ret : Value → List (Addr × Obj) → Prop) (msg : Str) (Bad : Int → Prop) : Prop :=
  ∀ (p : Program) (loose : List Str) (mean : ExcName → Option Value) (mg mb : Str → Option Value)
    (dp un : Nat) (gd : Option (List Code)) (cn : Str) (cs : Scope) (a : Addr) (ccd : Value) (cl : List (Str × Addr)) (outer : List Env) (A₀ : Around) (base h₀ : Heap) (L : Addr) (m : Str → Option Value) (s : Shared) (Q E : Value → Shared → Prop),
    Below A₀ base outer h₀ → Fr h₀ L s.heap m → (hd.heap_39 w.params).In h₀ → News h₀ L s.heap news → Top p loose mean mg mb h₀ → cs.kind = .function →
    dp + need < recursionLimit → un + 8 * need < cLine →
    (∀ v news' h' tk', Ret v news' → Fr h₀ L h' m → News h₀ L h' news' → Q v { s with heap := h', toks := tk' }) →
    (∀ k e d t1 ux t2 t3 g h' tk', Bad k → Fr h₀ L g m → g.UpToSlots h' → FliesT base g (envX cn cs L a ccd cl :: outer) e d (faultD w msg k t1 ux t2 t3) news h' → E (.ref e) { s with heap := h', toks := tk' }) →
    wpAny (model PySem.Challenge.rw_xw0154_01.row.prog w) (ktrTop dp un gd cn cs L a ccd cl outer) (call (.ref f) vs) Q E s
theorem ctrR_use {w : World} {f : Addr} {vs : List Value} {need : Nat} {news : List (Addr × Obj)} {Ret : Value → List (Addr × Obj) → Prop} {msg : Str} {Bad : Int → Prop} (C : CtrR w f vs need news Ret msg Bad) {p : Program} {loose : List Str} {mean : ExcName → Option Value} {mg mb : Str → Option Value}
    {dp un : Nat} {gd : Option (List Code)} {cn : Str} {cs : Scope} {a : Addr} {ccd : Value} {cl : List (Str × Addr)} {outer : List Env} {A₀ : Around} {base h₀ : Heap} {L : Addr} {m : Str → Option Value} {s : Shared} {Q E : Value → Shared → Prop}
    (B : Below A₀ base outer h₀) (F : Fr h₀ L s.heap m) (X : (hd.heap_39 w.params).In h₀) (N : News h₀ L s.heap news) (T : Top p loose mean mg mb h₀) (hk : cs.kind = .function) (hd : dp + need < recursionLimit) (hu : un + 8 * need < cLine)
    (ret : ∀ v news' h' tk', Ret v news' → Fr h₀ L h' m → News h₀ L h' news' → Q v { s with heap := h', toks := tk' })
    (bad : ∀ k e d t1 ux t2 t3 g h' tk', Bad k → Fr h₀ L g m → g.UpToSlots h' → FliesT base g (envX cn cs L a ccd cl :: outer) e d (faultD w msg k t1 ux t2 t3) news h' → E (.ref e) { s with heap := h', toks := tk' }) :
    wpAny (model PySem.Challenge.rw_xw0154_01.row.prog w) (ktrTop dp un gd cn cs L a ccd cl outer) (call (.ref f) vs) Q E s := C _ _ _ _ _ _ _ _ _ _ _ _ _ _ _ _ _ _ _ _ _ _ B F X N T hk hd hu ret bad
end
end Mine

/- part C2 -/
namespace Mine
section
open PySem PySem.W PyProof.Rows
set_option maxRecDepth 100000
set_option maxHeartbeats 4000000

noncomputable abbrev RemJ (x : Str) (ux ub : Tok) (k : Int) (news : List (Addr × Obj)) (n : Nat) (m : Str → Option Value) (nx : List (Addr × Obj)) : Prop :=
  ∃ (k' d : Int) (t' t2 : Tok), n = ((x.length : Int) - k').toNat ∧ m = Mp [("at", .int k' t'), ("text", .str x ux), ("depth", .int d t2), ("begin", .int k ub)] ∧ nx = news ∧ 0 ≤ k' ∧ k' ≤ x.length ∧ remFrom x 0 k = remFrom x d k'

noncomputable abbrev MSG : Str := Str.ofString "a remark without an end"

theorem remark_end_C (w : World) (x : Str) (k : Int) (ux uk : Tok) (hx : x.length ≤ 1000) (hk0 : 0 ≤ k) (hk : k ≤ x.length) (news : List (Addr × Obj)) :
    CtrR w 61 [.str x ux, .int k uk] 4 news (fun v news' => (∃ n t, remFrom x 0 k = some n ∧ v = .int n t) ∧ news' = news) MSG (fun b => remFrom x 0 k = none ∧ b = k) := by
  intro p loose mean mg mb dp un gd cn cs a ccd cl outer A₀ base h₀ L m s Q E B F X N T hkd hdp hun hret herr
  w_on
  k_with_none
  refine wpAny_call ?_
  k_dflt cell_enter
  refine gen_T fun tkE => ?_
  (repeat' ((fail_if_success (with_reducible show wpAny _ _ (exec (Stmt.While _ _ _ _) _) _ _ _)); (fail_if_success (with_reducible show wpAny _ _ (exec (Stmt.Raise _ _ _) _) _ _ _)); first | (k_unfold; (try dsimp only)) | (k_end; wrow_close) | walk1 | (dsimp only; walk1) | (leave1; (try dsimp only))))
  (rename Fr _ _ _ _ => F1)
  (rename News _ _ _ _ => N1)
  (rename Below _ _ _ _ => B1)
  (rename Frag.In _ _ => X1)
  (rename Top _ _ _ _ _ _ => T1)
  (refine While_inv2 (RemJ x ux uk k news) (fr_to F1 (mp_upd (mp_upd (l := [("at", .int k uk), ("text", .str x ux)]) rfl rfl) rfl)) (cb_drop N1 (fun p hp => .tail _ hp)) ⟨k, _, uk, _, rfl, rfl, rfl, hk0, hk, rfl⟩ ?_)
  (clear F1 N1)
  (rintro n m₁ news₁ h₁ tk₁ F1 N1 ⟨k', d, t', t2, e1, e2, e3, hk1, hk2, hk3⟩)
  subst e1 e2
  rw [e3] at N1
  clear e3
  (repeat' ((fail_if_success (with_reducible show wpAny _ _ (exec (Stmt.While _ _ _ _) _) _ _ _)); (fail_if_success (with_reducible show wpAny _ _ (exec (Stmt.Raise _ _ _) _) _ _ _)); first | (k_unfold; (try dsimp only)) | (k_end; wrow_close) | walk1 | (dsimp only; walk1) | (leave1; (try dsimp only))))
  · have hlt : k' < x.length := by assumption
    rename ((_ == Str.ofString "/*") = true) => ho
    rename Fr _ _ _ _ => F2
    rename News _ _ _ _ => N2
    have hr := rem_open (d := d) lit_open hk1 hlt ho
    exact whl_next (J := RemJ x ux uk k _) (F2) (cb_drop N2 (fun p hp => .tail _ hp)) (dec_lt (by omega) (by first | assumption | omega)) ⟨k' + 2, d + 1, _, _, rfl, mp_upd (mp_upd rfl rfl) rfl, rfl, by omega, hr.2, by rw [hk3, hr.1]⟩
  · have hlt : k' < x.length := by assumption
    rename ((_ == Str.ofString "*/") = true) => ho
    have hz : d - 1 = 0 := by assumption
    have hr := rem_close0 (d := d) lit_close hk1 hlt ho hz
    dsimp only
    unfold WhileStep2
    dsimp only
    (repeat' ((fail_if_success (with_reducible show wpAny _ _ (exec (Stmt.While _ _ _ _) _) _ _ _)); (fail_if_success (with_reducible show wpAny _ _ (exec (Stmt.Raise _ _ _) _) _ _ _)); first | (k_unfold; (try dsimp only)) | (k_end; wrow_close) | walk1 | (dsimp only; walk1) | (leave1; (try dsimp only))))
    rename Fr h₀ L _ m => kF
    rename News h₀ L _ _ => kN
    exact hret _ _ _ _ ⟨⟨_, _, by rw [hk3, hr.1], rfl⟩, rfl⟩ kF (cb_drop kN (fun p hp => .tail _ hp))
  · have hlt : k' < x.length := by assumption
    rename ((_ == Str.ofString "*/") = true) => ho
    have hz : d - 1 ≠ 0 := by assumption
    rename Fr _ _ _ _ => F2
    rename News _ _ _ _ => N2
    have hr := rem_close (d := d) lit_close hk1 hlt ho hz
    exact whl_next (J := RemJ x ux uk k _) (F2) (cb_drop N2 (fun p hp => .tail _ hp)) (dec_lt (by omega) (by first | assumption | omega)) ⟨k' + 2, d - 1, _, _, rfl, mp_upd (mp_upd rfl rfl) rfl, rfl, by omega, hr.2, by rw [hk3, hr.1]⟩
  · have hlt : k' < x.length := by assumption
    rename ((_ == Str.ofString "*/") = false) => ho2
    rename ((_ == Str.ofString "/*") = false) => ho
    rename Fr _ _ _ _ => F2
    rename News _ _ _ _ => N2
    have hr := rem_skip (d := d) lit_open lit_close hk1 hlt ho ho2
    exact whl_next (J := RemJ x ux uk k _) (F2) (N2) (dec_lt (by omega) (by first | assumption | omega)) ⟨k' + 1, d, _, _, rfl, mp_upd rfl rfl, rfl, by omega, by omega, by rw [hk3, hr]⟩
  · have hge : ¬ k' < x.length := by assumption
    refine raise_fault (w := w) rfl ?_
    (repeat' ((fail_if_success (with_reducible show wpAny _ _ (exec (Stmt.While _ _ _ _) _) _ _ _)); (fail_if_success (with_reducible show wpAny _ _ (exec (Stmt.Raise _ _ _) _) _ _ _)); first | (k_unfold; (try dsimp only)) | (k_end; wrow_close) | walk1 | (dsimp only; walk1) | (leave1; (try dsimp only))))
    refine fault_made w MSG k _ uk B1 F1 X1 N1 T1 rfl ?_ ?_ ?_
    · exact rmD hdp
    · exact rmU hun
    · intro e t d2 t1 t2' t3 h2 tk2 hne hde F2 N2
      refine ⟨e, t, some d2, rfl, X1.keeps F2.keep, (N2 _ (.tail _ (.head _))).1, ?_⟩
      k_unfold
      dsimp only
      refine leave_raiseT B1 F2 N2 hne hde rfl rfl fun h3 R3 U3 => ?_
      exact herr k e d2 _ _ _ _ _ _ _ ⟨by rw [hk3, rem_over hk1 hge], rfl⟩ (by assumption) U3 R3
end
end Mine

/- part C3 -/
namespace Mine
section
open PySem PySem.W PyProof.Rows
set_option maxRecDepth 100000
set_option maxHeartbeats 4000000

noncomputable abbrev MpE (ve : Option Value) (l : List (Str × Value)) : Str → Option Value := fun z => if z = Str.ofString "end" then ve else Mp l z
theorem mpE_none {l : List (Str × Value)} (h : Mp l (Str.ofString "end") = none) : Mp l = MpE none l := by
  funext z
  show Mp l z = if z = Str.ofString "end" then none else Mp l z
  by_cases q : z = Str.ofString "end"
  · rw [if_pos q, q, h]
  · rw [if_neg q]
theorem mpE_end {m : Str → Option Value} {ve : Option Value} {v : Value} {l : List (Str × Value)} (h : m = MpE ve l) : (fun y => if y = Str.ofString "end" then some v else m y) = MpE (some v) l := by
  subst h
  funext z
  show (if z = Str.ofString "end" then some v else if z = Str.ofString "end" then ve else Mp l z) = if z = Str.ofString "end" then some v else Mp l z
  by_cases q : z = Str.ofString "end"
  · rw [if_pos q, if_pos q]
  · rw [if_neg q, if_neg q, if_neg q]
theorem mpE_upd {m : Str → Option Value} {x : Str} {v : Value} {ve : Option Value} {l l' : List (Str × Value)} (h : m = MpE ve l) (hx : x ≠ Str.ofString "end") (e : setL x v l = l') : (fun y => if y = x then some v else m y) = MpE ve l' := by
  subst h
  funext z
  have := congrFun (mp_upd (m := Mp l) (x := x) (v := v) rfl e) z
  show (if z = x then some v else if z = Str.ofString "end" then ve else Mp l z) = if z = Str.ofString "end" then ve else Mp l' z
  by_cases q : z = Str.ofString "end"
  · rw [if_pos q, if_pos q, if_neg (fun r => hx (r.symm.trans q))]
  · rw [if_neg q, if_neg q]; exact this

noncomputable abbrev BlkJ (x : Str) (ux : Tok) (k : Int) (news : List (Addr × Obj)) (n : Nat) (m : Str → Option Value) (nx : List (Addr × Obj)) : Prop :=
  ∃ (k' : Int) (t' : Tok) (ve : Option Value), n = ((x.length : Int) - k').toNat ∧ m = MpE ve [("at", .int k' t'), ("text", .str x ux)] ∧ nx = news ∧ 0 ≤ k' ∧ k' ≤ x.length ∧ blankAt x k = blankAt x k'

theorem lit_nl : (Str.ofString "\n") = ⟨#[10]⟩ := by decide

theorem blank_end_C (w : World) (x : Str) (k : Int) (ux uk : Tok) (hx : x.length ≤ 1000) (hk0 : 0 ≤ k) (hk : k ≤ x.length) (news : List (Addr × Obj)) :
    CtrR w 68 [.str x ux, .int k uk] 5 news (fun v news' => (∃ n t, blankAt x k = .inl n ∧ v = .int n t) ∧ news' = news) MSG (fun b => blankAt x k = .inr b) := by
  intro p loose mean mg mb dp un gd cn cs a ccd cl outer A₀ base h₀ L m s Q E B F X N T hkd hdp hun hret herr
  w_on
  k_with_none
  refine wpAny_call ?_
  k_dflt cell_enter
  refine gen_T fun tkE => ?_
  (repeat' ((fail_if_success (with_reducible show wpAny _ _ (exec (Stmt.While _ _ _ _) _) _ _ _)); (fail_if_success (with_reducible show wpAny _ _ (exec (Stmt.Raise _ _ _) _) _ _ _)); (fail_if_success (with_reducible show wpAny _ _ (call (Value.ref _) _) _ _ _)); first | (k_unfold; (try dsimp only)) | (k_end; wrow_close) | walk1 | (dsimp only; walk1) | (leave1; (try dsimp only))))
  (rename Fr _ _ _ _ => F1)
  (rename News _ _ _ _ => N1)
  (rename Below _ _ _ _ => B1)
  (rename Frag.In _ _ => X1)
  (rename Top _ _ _ _ _ _ => T1)
  (refine While_inv2 (BlkJ x ux k news) F1 N1 ⟨k, uk, none, rfl, mpE_none (l := [("at", .int k uk), ("text", .str x ux)]) rfl, rfl, hk0, hk, rfl⟩ ?_)
  (clear F1 N1)
  (rintro n m₁ news₁ h₁ tk₁ F1 N1 ⟨k', t', ve, e1, e2, e3, hk1, hk2, hk3⟩)
  subst e1 e2
  rw [e3] at N1
  clear e3
  (repeat' ((fail_if_success (with_reducible show wpAny _ _ (exec (Stmt.While _ _ _ _) _) _ _ _)); (fail_if_success (with_reducible show wpAny _ _ (exec (Stmt.Raise _ _ _) _) _ _ _)); (fail_if_success (with_reducible show wpAny _ _ (call (Value.ref _) _) _ _ _)); first | (k_unfold; (try dsimp only)) | (k_end; wrow_close) | walk1 | (dsimp only; walk1) | (leave1; (try dsimp only))))
  · have hlt : k' < x.length := by assumption
    rename ((_ == Str.ofString "//") = true) => ho
    rename (Txt.find3 _ _ _ < 0) => hf
    rename Fr _ _ _ _ => F2
    rename News _ _ _ _ => N2
    have hr := (B_row lit_nl lit_row hk1 hlt ho).1 hf
    exact whl_next (J := BlkJ x ux k _) (F2) (N2) (dec_lt (by omega) (by first | assumption | omega)) ⟨x.length, _, _, rfl, mpE_upd (mpE_end rfl) (by decide) rfl, rfl, by omega, by omega, by rw [hk3, hr]⟩
  · have hlt : k' < x.length := by assumption
    rename ((_ == Str.ofString "//") = true) => ho
    rename (¬ Txt.find3 _ _ _ < 0) => hf
    rename Fr _ _ _ _ => F2
    rename News _ _ _ _ => N2
    have hr := (B_row lit_nl lit_row hk1 hlt ho).2 hf
    exact whl_next (J := BlkJ x ux k _) (F2) (N2) (dec_lt (by omega) (by first | assumption | omega)) ⟨_, _, _, rfl, mpE_upd (mpE_end rfl) (by decide) rfl, rfl, by omega, hr.2.2, by rw [hk3, hr.1]⟩
  · have hlt : k' < x.length := by assumption
    rename ((_ == Str.ofString "/*") = true) => ho
    rename Fr _ _ _ _ => F2
    rename News _ _ _ _ => N2
    refine ctrR_use (remark_end_C w x k' ux t' hx hk1 hk2 news) B1 F2 X1 N2 T1 rfl ?_ ?_ ?_ ?_
    · exact rmD hdp
    · exact rmU hun
    · rintro v news' h3 tk3 ⟨⟨n, t, hn, rfl⟩, e⟩ F3 N3
      subst e
      clear F2 N2
      have hr := B_rem lit_open hk1 hlt ho hn
      (repeat' ((fail_if_success (with_reducible show wpAny _ _ (exec (Stmt.While _ _ _ _) _) _ _ _)); (fail_if_success (with_reducible show wpAny _ _ (exec (Stmt.Raise _ _ _) _) _ _ _)); (fail_if_success (with_reducible show wpAny _ _ (call (Value.ref _) _) _ _ _)); first | (k_unfold; (try dsimp only)) | (k_end; wrow_close) | walk1 | (dsimp only; walk1) | (leave1; (try dsimp only))))
      rename Fr _ _ _ _ => F2
      rename News _ _ _ _ => N2
      exact whl_next (J := BlkJ x ux k _) (F2) (N2) (dec_lt (by omega) (by first | assumption | omega)) ⟨n, t, _, rfl, mpE_upd rfl (by decide) rfl, rfl, by omega, hr.2.2, by rw [hk3, hr.1]⟩
    · rintro b e d t1 u1 t2 t3 g2 h3 tk3 ⟨hb, rfl⟩ F3 U3 R3
      have hr := B_bad lit_open hk1 hlt ho hb
      (try k_unfold)
      dsimp only
      refine leave_onT B1 F3 R3 U3 rfl fun h4 R4 U4 => ?_
      exact herr b e d _ _ _ _ _ _ _ (by rw [hk3, hr]) (by assumption) U4 R4
  · have hlt : k' < x.length := by assumption
    rename ((_ == Str.ofString "/*") = false) => ho
    rename ((_ == Str.ofString "//") = false) => ho2
    rename (List.isEmpty _ = true) => hb
    have hr := B_stop (by decide) lit_row lit_open hk1 hlt hb ho2 ho
    dsimp only
    unfold WhileStep2
    dsimp only
    (repeat' ((fail_if_success (with_reducible show wpAny _ _ (exec (Stmt.While _ _ _ _) _) _ _ _)); (fail_if_success (with_reducible show wpAny _ _ (exec (Stmt.Raise _ _ _) _) _ _ _)); (fail_if_success (with_reducible show wpAny _ _ (call (Value.ref _) _) _ _ _)); first | (k_unfold; (try dsimp only)) | (k_end; wrow_close) | walk1 | (dsimp only; walk1) | (leave1; (try dsimp only))))
    rename Fr h₀ L _ m => kF
    rename News h₀ L _ _ => kN
    exact hret _ _ _ _ ⟨⟨_, _, by rw [hk3, hr], rfl⟩, rfl⟩ kF kN
  · have hlt : k' < x.length := by assumption
    rename (List.isEmpty _ = false) => hb
    rename Fr _ _ _ _ => F2
    rename News _ _ _ _ => N2
    have hr := B_blank (by decide) hk1 hlt hb
    refine ctr_use (run_end_C w x _ k' ux _ t' hx hk1 hk2 news) B1 F2 X1 N2 T1 rfl ?_ ?_ ?_
    · exact rmD hdp
    · exact rmU hun
    · rintro v news' h3 tk3 ⟨⟨t, rfl⟩, e⟩ F3 N3
      subst e
      clear F2 N2
      (repeat' ((fail_if_success (with_reducible show wpAny _ _ (exec (Stmt.While _ _ _ _) _) _ _ _)); (fail_if_success (with_reducible show wpAny _ _ (exec (Stmt.Raise _ _ _) _) _ _ _)); (fail_if_success (with_reducible show wpAny _ _ (call (Value.ref _) _) _ _ _)); first | (k_unfold; (try dsimp only)) | (k_end; wrow_close) | walk1 | (dsimp only; walk1) | (leave1; (try dsimp only))))
      rename Fr _ _ _ _ => F2
      rename News _ _ _ _ => N2
      have hle := runEnd_le (x := x) (y := Str.ofString " \t\r\n\x0b\x0c\u0085\u200e\u200f\u2028\u2029") hk1 hk2
      exact whl_next (J := BlkJ x ux k _) (F2) (N2) (dec_lt (by omega) (by first | assumption | omega)) ⟨_, t, _, rfl, mpE_upd rfl (by decide) rfl, rfl, by omega, hle.2, by rw [hk3, hr.1]⟩
  · rename Fr h₀ L _ m => kF
    rename News h₀ L _ _ => kN
    exact hret _ _ _ _ ⟨⟨_, _, by rw [hk3, B_done hk1 (by assumption)], rfl⟩, rfl⟩ kF kN
end
end Mine

namespace Mine
section
open PySem PySem.W PyProof.Rows
local macro_rules | `(tactic| k_all) => `(tactic| assumption)
local macro_rules | `(tactic| k_ne) => `(tactic| (refine neN ?_; (try dsimp only); with_reducible ((iterate 2 (first | done | assumption | (apply Nat.ne_of_lt; (iterate 6 (first | done | assumption | exact lS | (apply And.left; (iterate 9 (first | done | assumption | apply And.right)); done) | apply lU | apply lD)); done) | apply Ne.symm)); done)))
local macro_rules | `(tactic| units_room) => `(tactic| exact rmV (by assumption))

/- part D0 -/
section
open PySem PySem.W PyProof.Rows
set_option maxRecDepth 100000
set_option maxHeartbeats 4000000


noncomputable abbrev srcO (a b : Int) (ta tb : Tok) (n : Nat) : Obj := { cls := .type "list", data := .seq #[.int a ta, .int b tb] n }

theorem take_C (w : World) (src : Addr) (a b : Int) (ta tb : Tok) (n : Nat) (top : Int) (tt : Tok) (rest : List (Addr × Obj)) (off : ∀ p ∈ rest, p.1 ≠ src) (ha : 0 ≤ a) (hb : 0 ≤ b) (hb2 : b < 2147483647) (ht : 0 < top) (ht2 : top ≤ 1000) :
    Ctr w 96 [.ref src, .int top tt] 2 ((src, srcO a b ta tb n) :: rest) (fun v news' => ∃ d t a' b' ta' tb' n', v = .int d t ∧ 0 ≤ d ∧ d < top ∧ 0 ≤ a' ∧ 0 ≤ b' ∧ b' < 2147483647 ∧ news' = (src, srcO a' b' ta' tb' n') :: rest) := by
  intro p loose mean mg mb dp un gd cn cs a0 ccd cl outer A₀ base h₀ L m s Q E B F X N T hkd hdp hun hret
  w_on
  k_with_none
  refine wpAny_call ?_
  k_dflt cell_enter
  refine gen_QT fun Q2 tkE hQ2 => ?_
  (repeat' ((fail_if_success (with_reducible show wpAny _ _ (exec (Stmt.While _ _ _ _) _) _ _ _)); (fail_if_success (with_reducible show wpAny _ _ (exec (Stmt.Raise _ _ _) _) _ _ _)); (fail_if_success (with_reducible show wpAny _ _ (call (Value.ref _) _) _ _ _)); first | (k_unfold; (try dsimp only)) | (k_end; wrow_close) | walk1 | (dsimp only; walk1) | (leave1; (try dsimp only))))
  · refine hQ2 _ _ ?_
    (repeat' ((fail_if_success (with_reducible show wpAny _ _ (exec (Stmt.While _ _ _ _) _) _ _ _)); (fail_if_success (with_reducible show wpAny _ _ (exec (Stmt.Raise _ _ _) _) _ _ _)); (fail_if_success (with_reducible show wpAny _ _ (call (Value.ref _) _) _ _ _)); first | (k_unfold; (try dsimp only)) | (k_end; wrow_close) | walk1 | (dsimp only; walk1) | (leave1; (try dsimp only))))
    rename (0 < _) => h0
    rename Fr h₀ L _ m => kF
    rename News h₀ L _ _ => kN
    change 0 < a at h0
    have h1 := fdiv_fmod_facts a top
    exact hret _ _ _ _ ⟨a.fmod top, _, a.fdiv top, b, _, _, _, rfl, Int.fmod_nonneg_of_pos _ ht, Int.fmod_lt_of_pos _ ht, Int.fdiv_nonneg ha (by omega), hb, hb2, rfl⟩ kF kN
  · rename Fr _ _ _ _ => F1
    rename News _ _ _ _ => N1
    have hy1 : 0 ≤ (b * 39373 + 7).fmod 2147483647 := Int.fmod_nonneg_of_pos _ (by decide)
    have hy2 : (b * 39373 + 7).fmod 2147483647 < 2147483647 := Int.fmod_lt_of_pos _ (by decide)
    change News _ _ _ ((src, srcO a ((b * 39373 + 7).fmod 2147483647) ta _ n) :: rest) at N1
    change wpAny _ _ (binaryOp .Mult (.int ((b * 39373 + 7).fmod 2147483647) _) (.int ((b * 39373 + 7).fmod 2147483647) _)) _ _ _
    generalize (b * 39373 + 7).fmod 2147483647 = y at *
    (repeat' ((fail_if_success (with_reducible show wpAny _ _ (exec (Stmt.While _ _ _ _) _) _ _ _)); (fail_if_success (with_reducible show wpAny _ _ (exec (Stmt.Raise _ _ _) _) _ _ _)); (fail_if_success (with_reducible show wpAny _ _ (call (Value.ref _) _) _ _ _)); first | (k_unfold; (try dsimp only)) | (k_end; wrow_close) | walk1 | (dsimp only; walk1) | (leave1; (try dsimp only))))
    refine hQ2 _ _ ?_
    (repeat' ((fail_if_success (with_reducible show wpAny _ _ (exec (Stmt.While _ _ _ _) _) _ _ _)); (fail_if_success (with_reducible show wpAny _ _ (exec (Stmt.Raise _ _ _) _) _ _ _)); (fail_if_success (with_reducible show wpAny _ _ (call (Value.ref _) _) _ _ _)); first | (k_unfold; (try dsimp only)) | (k_end; wrow_close) | walk1 | (dsimp only; walk1) | (leave1; (try dsimp only))))
    rename Fr h₀ L _ m => kF
    rename News h₀ L _ _ => kN
    exact hret _ _ _ _ ⟨_, _, a, y, _, _, _, rfl, Int.fmod_nonneg_of_pos _ ht, Int.fmod_lt_of_pos _ ht, ha, hy1, hy2, rfl⟩ kF kN

/-- the source of the draws -/
noncomputable def Src (o : Obj) : Prop := ∃ a b ta tb n, o = srcO a b ta tb n ∧ 0 ≤ a ∧ 0 ≤ b ∧ b < 2147483647

theorem draw_C (w : World) {src : Addr} {o : Obj} {top : Int} (tt : Tok) {rest : List (Addr × Obj)} (ho : Src o) (off : ∀ p ∈ rest, p.1 ≠ src) (ht : 0 < top) (ht2 : top ≤ 1000) :
    Ctr w 96 [.ref src, .int top tt] 2 ((src, o) :: rest) (fun v news' => ∃ d t o', v = .int d t ∧ 0 ≤ d ∧ d < top ∧ Src o' ∧ news' = (src, o') :: rest) := by
  obtain ⟨a, b, ta, tb, n, rfl, h1, h2, h3⟩ := ho
  intro p loose mean mg mb dp un gd cn cs a0 ccd cl outer A₀ base h₀ L m s Q E B F X N T hkd hdp hun hret
  refine take_C w src a b ta tb n top tt rest off h1 h2 h3 ht ht2 p loose mean mg mb dp un gd cn cs a0 ccd cl outer A₀ base h₀ L m s Q E B F X N T hkd hdp hun ?_
  rintro v news' h' tk' ⟨d, t, a', b', ta', tb', n', rfl, e1, e2, e3, e4, e5, rfl⟩ F' N'
  exact hret _ _ _ _ ⟨d, t, _, rfl, e1, e2, ⟨a', b', ta', tb', n', rfl, e3, e4, e5⟩, rfl⟩ F' N'

theorem item_any {prog : Program} {w : World} {A : Around} {E : Value → Shared → Prop} {s : Shared} {value slice : PySem.Expr} {l : Addr} {vs : List Value} {k : Int} {u : Tok} {Q : Value → Shared → Prop}
    (hl : s.heap.IsList l vs.toArray) (h0 : 0 ≤ k) (hhi : k < 1000) (hk : k < vs.length) (h : ∀ v, v ∈ vs → vs[k.toNat]? = some v → Q v s)
    (hs : subscripted slice false (.ref l) (.int k u) = operate [.ref l, .int k u] (getItem (.ref l) (.int k u)) := by with_unfolding_all rfl) :
    wpAny (model prog w) A (subscriptTail value slice (.ref l) (.int k u)) Q E s := by
  have hk' : k.toNat < vs.length := by omega
  have hx : vs[k.toNat]? = some vs[k.toNat] := List.getElem?_eq_getElem hk'
  exact tail_any hl.typeIs slot_list_getitem.lookup (wpAny_getItem_list hl h0 (by omega) (by simp) (h _ (List.getElem_mem hk') hx)) hs

theorem one_C (w : World) {src l : Addr} {o : Obj} {vs : List Value} {c : Nat} {rest : List (Addr × Obj)} (ho : Src o) (off : ∀ p ∈ rest, p.1 ≠ src) (hl : (l, W.listOf vs.toArray c) ∈ rest) (h0 : 0 < vs.length) (h1 : vs.length ≤ 1000) :
    Ctr w 103 [.ref src, .ref l] 4 ((src, o) :: rest) (fun v news' => v ∈ vs ∧ ∃ o', Src o' ∧ news' = (src, o') :: rest) := by
  intro p loose mean mg mb dp un gd cn cs a0 ccd cl outer A₀ base h₀ L m s Q E B F X N T hkd hdp hun hret
  w_on
  k_with_none
  refine wpAny_call ?_
  k_dflt cell_enter
  refine gen_QT fun Q2 tkE hQ2 => ?_
  (repeat' ((fail_if_success (with_reducible show wpAny _ _ (exec (Stmt.While _ _ _ _) _) _ _ _)); (fail_if_success (with_reducible show wpAny _ _ (exec (Stmt.Raise _ _ _) _) _ _ _)); (fail_if_success (with_reducible show wpAny _ _ (call (Value.ref _) _) _ _ _)); first | (k_unfold; (try dsimp only)) | (k_end; wrow_close) | walk1 | (dsimp only; walk1) | (leave1; (try dsimp only))))
  (rename Fr _ _ _ _ => F1)
  (rename News _ _ _ _ => N1)
  (rename Below _ _ _ _ => B1)
  (rename Frag.In _ _ => X1)
  (rename Top _ _ _ _ _ _ => T1)
  refine Calls.call_len_list (items := vs.toArray) ⟨_, (N1 _ (.tail _ hl)).1, rfl, _, rfl⟩ (by simp; omega) ?_
  (repeat' ((fail_if_success (with_reducible show wpAny _ _ (exec (Stmt.While _ _ _ _) _) _ _ _)); (fail_if_success (with_reducible show wpAny _ _ (exec (Stmt.Raise _ _ _) _) _ _ _)); (fail_if_success (with_reducible show wpAny _ _ (call (Value.ref _) _) _ _ _)); first | (k_unfold; (try dsimp only)) | (k_end; wrow_close) | walk1 | (dsimp only; walk1) | (leave1; (try dsimp only))))
  refine ctr_gen (draw_C w _ ho off (by simp; omega) (by simp; omega)) B1 F1 X1 N1 T1 rfl ?_ ?_ ?_
  · exact rmD hdp
  · exact rmU hun
  · rintro Q3 hQ3 v news' h3 tk3 ⟨d, t, o', rfl, hd1, hd2, ho', e⟩ F3 N3
    subst e
    refine hQ3 _ _ ?_
    clear hQ3 Q3
    clear F1 N1
    (repeat' ((fail_if_success (with_reducible show wpAny _ _ (exec (Stmt.While _ _ _ _) _) _ _ _)); (fail_if_success (with_reducible show wpAny _ _ (exec (Stmt.Raise _ _ _) _) _ _ _)); (fail_if_success (with_reducible show wpAny _ _ (call (Value.ref _) _) _ _ _)); first | (k_unfold; (try dsimp only)) | (k_end; wrow_close) | walk1 | (dsimp only; walk1) | (leave1; (try dsimp only))))
    refine item_any (vs := vs) ⟨_, (N3 _ (.tail _ hl)).1, rfl, _, rfl⟩ hd1 (by simp at hd2; omega) (by simp at hd2; omega) fun v hv hx => ?_
    (repeat' ((fail_if_success (with_reducible show wpAny _ _ (exec (Stmt.While _ _ _ _) _) _ _ _)); (fail_if_success (with_reducible show wpAny _ _ (exec (Stmt.Raise _ _ _) _) _ _ _)); (fail_if_success (with_reducible show wpAny _ _ (call (Value.ref _) _) _ _ _)); first | (k_unfold; (try dsimp only)) | (k_end; wrow_close) | walk1 | (dsimp only; walk1) | (leave1; (try dsimp only))))
    refine hQ2 _ _ ?_
    (repeat' ((fail_if_success (with_reducible show wpAny _ _ (exec (Stmt.While _ _ _ _) _) _ _ _)); (fail_if_success (with_reducible show wpAny _ _ (exec (Stmt.Raise _ _ _) _) _ _ _)); (fail_if_success (with_reducible show wpAny _ _ (call (Value.ref _) _) _ _ _)); first | (k_unfold; (try dsimp only)) | (k_end; wrow_close) | walk1 | (dsimp only; walk1) | (leave1; (try dsimp only))))
    rename Fr h₀ L _ m => kF
    rename News h₀ L _ _ => kN
    exact hret _ _ _ _ ⟨hv, o', ho', rfl⟩ kF kN
end

/- part G0 -/
section
open PySem PySem.W PyProof.Rows PySem.Calls
set_option maxRecDepth 100000
set_option maxHeartbeats 4000000

section
variable {h₀ h : Heap} {L : Addr} {p1 p2 p3 x : Addr × Obj} {r : List (Addr × Obj)}
theorem front1 (N : News h₀ L h (p1 :: x :: r)) : News h₀ L h (x :: p1 :: r) := fun p hp => N p (by simp only [List.mem_cons] at hp ⊢; rcases hp with h | h | h <;> simp [h])
theorem front3 (N : News h₀ L h (p1 :: p2 :: p3 :: x :: r)) : News h₀ L h (x :: p1 :: p2 :: p3 :: r) := fun p hp => N p (by simp only [List.mem_cons] at hp ⊢; rcases hp with h | h | h | h | h <;> simp [h])
theorem News.sub {l l' : List (Addr × Obj)} (N : News h₀ L h l) (e : ∀ p ∈ l', p ∈ l) : News h₀ L h l' := fun p hp => N p (e p hp)
theorem allLt_mem {d : Nat} {l : List (Addr × Obj)} (h : AllLt d l) : ∀ p ∈ l, @LT.lt Nat _ p.1 d := by
  induction l with
  | nil => intro p hp; cases hp
  | cons q r ih =>
    intro p hp
    cases hp with
    | head => exact h.1
    | tail _ hp => exact ih h.2 p hp
theorem News.drop2 (N : News h₀ L h (p1 :: p2 :: r)) : News h₀ L h (p1 :: r) := fun p hp => N p (by simp only [List.mem_cons] at hp ⊢; rcases hp with h | h <;> simp [h])
theorem News.tl (N : News h₀ L h (p1 :: r)) : News h₀ L h r := fun p hp => N p (.tail _ hp)
theorem news_mid (a : List (Addr × Obj)) (N : News h₀ L h (a ++ x :: r)) : News h₀ L h (x :: (a ++ r)) := fun p hp => N p (by simp only [List.mem_cons, List.mem_append] at hp ⊢; rcases hp with h | h | h <;> simp [h])
end

section
variable {prog : Program} {w : World} {A : Around} {s : Shared} {h₀ : Heap} {L : Addr} {m : Str → Option Value} {env : Env} {elt : PySem.Expr} {x : Str} {scope : Scope} {cl : List (Str × Addr)} {S : List (Addr × Obj) → Prop} {P : Nat → Value → Prop} {Fin : List Value → List (Addr × Obj) → Prop}

/-- a comprehension's turns by what holds of the items made and of the ledger -/
theorem compRest_inv {n : Nat} (J : Nat → List Value → List (Addr × Obj) → Prop)
    (step : ∀ i ys news v I oI C oC D m₂ h tk (E' : Value → Shared → Prop), i < n → J i ys news → P i v → LCg.NsObj oC m₂ → m₂ x = some v → Fr h₀ L h m → News h₀ L h ((I, oI) :: (C, oC) :: (D, LCg.lst ys) :: news) → LCg.Off3 I C D news → ((@Ne Nat I C) ∧ (@Ne Nat I D) ∧ (@Ne Nat C D)) →
      wpAny (model prog w) A (eval elt (compEnvC scope cl C env)) (LCg.CompEnd h₀ L m { s with heap := h, toks := tk } I oI C oC D (LCg.lst ys) S (fun y news' => J (i + 1) (ys ++ [y]) news')) E' { s with heap := h, toks := tk })
    (fin : ∀ ys news, J n ys news → Fin ys news) : ∀ k i ys news, i + k = n → J i ys news → LCg.CompRest prog w A h₀ L m env elt x scope cl s S P Fin k i ys news
  | 0, i, ys, news, e, j => by
    have : i = n := by omega
    subst this
    exact LCg.CompRest.zero (fin _ _ j)
  | k + 1, i, ys, news, e, j => by
    refine LCg.CompRest.succ fun v I oI C oC D m₂ h tk E' hv hC hx F N off ne => ?_
    refine wpAny_mono (step i ys news v I oI C oC D m₂ h tk E' (by omega) j hv hC hx F N off ne) (fun y s₂ hy => ?_) fun _ _ z => z
    obtain ⟨h', tk', news', rfl, F', N', off', hS, r⟩ := hy
    exact ⟨h', tk', news', rfl, F', N', off', hS, compRest_inv J step fin k (i + 1) (ys ++ [y]) news' (by omega) r⟩

open LCt in
theorem compRestT_inv {n : Nat} {ct : PySem.Expr} (J : Nat → List Value → List (Addr × Obj) → Prop)
    (step : ∀ i ys news v I oI C oC D m₂ h tk (E' : Value → Shared → Prop), i < n → J i ys news → P i v → LCg.NsObj oC m₂ → m₂ x = some v → Fr h₀ L h m → News h₀ L h ((I, oI) :: (C, oC) :: (D, LCg.lst ys) :: news) → LCg.Off3 I C D news → ((@Ne Nat I C) ∧ (@Ne Nat I D) ∧ (@Ne Nat C D)) →
      wpAny (model prog w) A (isTrue ct (compEnvC scope cl C env) (eval ct (compEnvC scope cl C env))) (fun ok s' => if ok = true then
        wpAny (model prog w) A (eval elt (compEnvC scope cl C env)) (LCg.CompEnd h₀ L m { s with heap := h, toks := tk } I oI C oC D (LCg.lst ys) S (fun y news' => J (i + 1) (ys ++ [y]) news')) E' s'
        else LCg.CompEnd h₀ L m { s with heap := h, toks := tk } I oI C oC D (LCg.lst ys) S (fun _ news' => J (i + 1) ys news') Value.none s') E' { s with heap := h, toks := tk })
    (fin : ∀ ys news, J n ys news → Fin ys news) : ∀ k i ys news, i + k = n → J i ys news → LCt.CompRestT prog w A h₀ L m env ct elt x scope cl s S P Fin k i ys news
  | 0, i, ys, news, e, j => by
    have : i = n := by omega
    subst this
    exact LCt.CompRestT.zero (fin _ _ j)
  | k + 1, i, ys, news, e, j => by
    refine LCt.CompRestT.succ fun v I oI C oC D m₂ h tk E' hv hC hx F N off ne => ?_
    refine wpAny_mono (step i ys news v I oI C oC D m₂ h tk E' (by omega) j hv hC hx F N off ne) (fun ok s₂ hy => ?_) fun _ _ z => z
    cases ok with
    | true =>
      simp only [if_true] at hy ⊢
      refine wpAny_mono hy (fun y s₃ hy => ?_) fun _ _ z => z
      obtain ⟨h', tk', news', rfl, F', N', off', hS, r⟩ := hy
      exact ⟨h', tk', news', rfl, F', N', off', hS, compRestT_inv J step fin k (i + 1) (ys ++ [y]) news' (by omega) r⟩
    | false =>
      simp only [Bool.false_eq_true, if_false] at hy ⊢
      obtain ⟨h', tk', news', rfl, F', N', off', hS, r⟩ := hy
      exact ⟨h', tk', news', rfl, F', N', off', hS, compRestT_inv J step fin k (i + 1) ys news' (by omega) r⟩
end

section
variable {prog : Program} {w : World} {A : Around} {E : Value → Shared → Prop} {s : Shared} {h₀ : Heap} {L : Addr} {news : List (Addr × Obj)} {Q : Value → Shared → Prop}
/-- the join of a list of texts that the ledger holds -/
theorem join_mem {sep : Str} {t : Tok} {D : Addr} {l : List (Str × Tok)} {c : Nat} (B : Nat) (N : News h₀ L s.heap news) (hm : (D, W.listOf (strValues l).toArray c) ∈ news) (hB : ∀ p ∈ l, p.1.length ≤ B) (hf : l.length * B + l.length * sep.length ≤ 16777216)
    (hq : ∀ t' k, Q (.str (Txt.join sep (l.map (·.1))) t') { s with toks := k }) : wpAny (model prog w) A (call (.builtin "str.join") [.str sep t, .ref D]) Q E s := by
  refine SC.join (l := l) ⟨_, (N _ hm).1, rfl, _, rfl⟩ rfl ?_ hq
  unfold JoinOk
  rw [StrLaws.joinFits (B := B) (by simpa using hB) (by simpa using hf)]
  rfl
end

theorem cl_append (x y : Str) : cl (x ++ y) = cl x ++ cl y := by
  show (x.cps ++ y.cps).toList = _
  simp [cl]

theorem glued_cl (sep : Str) : ∀ (rest : List Str) (a : List Nat), (rest.foldl (fun acc p => acc ++ sep.cps ++ p.cps) a.toArray).toList = a ++ (rest.map fun p => cl sep ++ cl p).flatten
  | [], a => by simp
  | p :: r, a => by
    have h : a.toArray ++ sep.cps ++ p.cps = (a ++ cl sep ++ cl p).toArray := by
      apply Array.toList_inj.mp; simp [cl]
    rw [List.foldl_cons, h, glued_cl sep r]
    simp

theorem join_cl (sep : Str) (x : Str) (r : List Str) : cl (Txt.join sep (x :: r)) = cl x ++ (r.map fun p => cl sep ++ cl p).flatten := by
  unfold Txt.join
  rw [StrLaws.glued_eq_join, ← StrLaws.glued_cons]
  have := glued_cl sep r (cl x)
  simpa [cl] using this
theorem join_cl_nil (sep : Str) : cl (Txt.join sep []) = [] := by
  unfold Txt.join
  rw [StrLaws.glued_eq_join]; rfl
/-- the join by nothing -/
theorem join0_cl (sep : Str) (h : cl sep = []) (l : List Str) : cl (Txt.join sep l) = (l.map cl).flatten := by
  cases l with
  | nil => rw [join_cl_nil]; rfl
  | cons x r => rw [join_cl, h]; simp
theorem flatten_le {B : Nat} : ∀ l : List (List Nat), (∀ p ∈ l, p.length ≤ B) → l.flatten.length ≤ l.length * B
  | [], _ => by simp
  | p :: r, h => by
    have h1 := h p (.head _)
    have h2 := flatten_le r fun q hq => h q (.tail _ hq)
    simp only [List.flatten_cons, List.length_append, List.length_cons, Nat.succ_mul]
    omega
theorem join0_len (sep : Str) (h : cl sep = []) (l : List Str) (B : Nat) (hB : ∀ p ∈ l, p.length ≤ B) : (Txt.join sep l).length ≤ l.length * B := by
  rw [len_cl, join0_cl sep h]
  have := flatten_le (B := B) (l.map cl) (by simpa [len_cl] using hB)
  simpa using this
theorem ints_snoc (n : Int) (t : Tok) : ∀ {vs : List Value} {ns : List Int}, IntsAre vs ns → IntsAre (vs ++ [.int n t]) (ns ++ [n])
  | _, _, .nil => .cons n t .nil
  | _, _, .cons k u r => .cons k u (ints_snoc n t r)
theorem strs_append (l : List (Str × Tok)) (x : Str) (t : Tok) : strValues l ++ [.str x t] = strValues (l ++ [(x, t)]) := by simp [strValues]
theorem strs_nil : ([] : List Value) = strValues [] := rfl
end

/- part F0 -/
section
open PySem PySem.W PyProof.Rows
set_option maxRecDepth 100000
set_option maxHeartbeats 4000000

noncomputable abbrev tup2 (a b : Int) (ta tb : Tok) : Obj := { cls := .type "tuple", data := .seq #[.int a ta, .int b tb] 0 }

noncomputable def worth (x : Str) : Int := if 0 ≤ Txt.find (Str.ofString "0123456789abcdef") (Txt.lower x) then Txt.find (Str.ofString "0123456789abcdef") (Txt.lower x) else 99

theorem worth_C (w : World) (x : Str) (ux : Tok) (hx : x.length ≤ 2) (news : List (Addr × Obj)) :
    Ctr w 75 [.str x ux] 4 news (fun v news' => (∃ t, v = .int (worth x) t) ∧ news' = news) := by
  intro p loose mean mg mb dp un gd cn cs a ccd cl outer A₀ base h₀ L m s Q E B F X N T hkd hdp hun hret
  w_on
  k_with_none
  refine wpAny_call ?_
  k_dflt cell_enter
  (repeat' ((fail_if_success (with_reducible show wpAny _ _ (exec (Stmt.While _ _ _ _) _) _ _ _)); (fail_if_success (with_reducible show wpAny _ _ (exec (Stmt.Raise _ _ _) _) _ _ _)); (fail_if_success (with_reducible show wpAny _ _ (call (Value.ref _) _) _ _ _)); first | (k_unfold; (try dsimp only)) | (k_end; wrow_close) | walk1 | (dsimp only; walk1) | (leave1; (try dsimp only))))
  · rename Fr h₀ L _ m => kF
    rename News h₀ L _ _ => kN
    exact hret _ _ _ _ ⟨⟨_, by unfold worth; rw [if_pos (by assumption)]⟩, rfl⟩ kF kN
  · rename Fr h₀ L _ m => kF
    rename News h₀ L _ _ => kN
    exact hret _ _ _ _ ⟨⟨_, by unfold worth; rw [if_neg (by assumption)]⟩, rfl⟩ kF kN

/-- the base that a mark tells, if it is one -/
noncomputable def markOf (y : Str) : Option Int := if y = Str.ofString "0x" then some 16 else if y = Str.ofString "0o" then some 8 else if y = Str.ofString "0b" then some 2 else none

theorem mark_none {y a b c : Str} {ta tb tc : Tok} {va vb vc : Value} (h : (Spec.lookup (PyData.str y) (strData [(.str a ta, va), (.str b tb, vb), (.str c tc, vc)])).isSome = false) : ¬ y = a ∧ ¬ y = b ∧ ¬ y = c := by
  simp only [strData, Spec.lookup, Spec.same] at h
  refine ⟨?_, ?_, ?_⟩ <;> (rintro rfl; revert h; simp; try (repeat' split) <;> simp)
theorem mark_some {y a b c : Str} {ta tb tc : Tok} {va vb vc : Value} (h : (Spec.lookup (PyData.str y) (strData [(.str a ta, va), (.str b tb, vb), (.str c tc, vc)])).isSome = true) (h1 : ¬ y = a) (h2 : ¬ y = b) (h3 : ¬ y = c) : False := by
  simp only [strData, Spec.lookup, Spec.same] at h
  have g1 : ¬ a = y := fun e => h1 e.symm
  have g2 : ¬ b = y := fun e => h2 e.symm
  have g3 : ¬ c = y := fun e => h3 e.symm
  simp [g1, g2, g3] at h

theorem base_C (w : World) (x : Str) (ux : Tok) (k : Int) (uk : Tok) (hx : x.length ≤ 20) (h0 : 0 ≤ k) (h1 : k ≤ x.length) (news : List (Addr × Obj)) :
    Ctr w 82 [.str x ux, .int k uk] 4 news (fun v news' => ∃ D ta tb, v = .ref D ∧ (∀ p ∈ news, p.1 ≠ D) ∧
      news' = (D, match markOf (Txt.slice x (some k) (some (k + 2))) with | some b => tup2 b (k + 2) ta tb | none => tup2 10 k ta tb) :: news) := by
  intro p loose mean mg mb dp un gd cn cs a ccd cl outer A₀ base h₀ L m s Q E B F X N T hkd hdp hun hret
  w_on
  k_with_none
  refine wpAny_call ?_
  k_dflt cell_enter
  (repeat' ((fail_if_success (with_reducible show wpAny _ _ (exec (Stmt.While _ _ _ _) _) _ _ _)); (fail_if_success (with_reducible show wpAny _ _ (exec (Stmt.Raise _ _ _) _) _ _ _)); (fail_if_success (with_reducible show wpAny _ _ (call (Value.ref _) _) _ _ _)); first | (k_unfold; (try dsimp only)) | (k_end; wrow_close) | walk1 | (dsimp only; walk1) | (leave1; (try dsimp only))))
  · rename Fr h₀ L _ m => kF
    rename News h₀ L _ _ => kN
    rename _ ∧ AllLt _ news => l9
    refine hret _ ((_, _) :: news) _ _ ?_ kF (News.drop2 kN)
    exact ⟨_, _, _, rfl, fun p hp => Nat.ne_of_lt (allLt_mem l9.2 p hp), by unfold markOf; rw [if_pos (by assumption)]⟩
  · rename Fr h₀ L _ m => kF
    rename News h₀ L _ _ => kN
    rename _ ∧ AllLt _ news => l9
    refine hret _ ((_, _) :: news) _ _ ?_ kF (News.drop2 kN)
    exact ⟨_, _, _, rfl, fun p hp => Nat.ne_of_lt (allLt_mem l9.2 p hp), by unfold markOf; rw [if_neg (by assumption), if_pos (by assumption)]⟩
  · rename Fr h₀ L _ m => kF
    rename News h₀ L _ _ => kN
    rename _ ∧ AllLt _ news => l9
    refine hret _ ((_, _) :: news) _ _ ?_ kF (News.drop2 kN)
    exact ⟨_, _, _, rfl, fun p hp => Nat.ne_of_lt (allLt_mem l9.2 p hp), by unfold markOf; rw [if_neg (by assumption), if_neg (by assumption), if_pos (by assumption)]⟩
  · rename (Option.isSome _ = true) => hs
    exact mark_some hs (by assumption) (by assumption) (by assumption)
  · rename Fr h₀ L _ m => kF
    rename News h₀ L _ _ => kN
    rename _ ∧ AllLt _ news => l9
    rename (Option.isSome _ = false) => hs
    have hz := mark_none hs
    refine hret _ ((_, _) :: news) _ _ ?_ kF (News.drop2 kN)
    exact ⟨_, _, _, rfl, fun p hp => Nat.ne_of_lt (allLt_mem l9.2 p hp), by unfold markOf; rw [if_neg hz.1, if_neg hz.2.1, if_neg hz.2.2]⟩
end

/- part E0 -/
section
open PySem PySem.W PyProof.Rows
set_option maxRecDepth 100000
set_option maxHeartbeats 4000000

theorem run_right_C (w : World) {src : Addr} {o : Obj} {rest : List (Addr × Obj)} (ho : Src o) (off : ∀ p ∈ rest, p.1 ≠ src) :
    Ctr w 127 [.ref src] 20 ((src, o) :: rest) (fun v news' => v = .bool true ∧ ∃ o', Src o' ∧ news' = (src, o') :: rest) := by
  intro p loose mean mg mb dp un gd cn cs a0 ccd cl outer A₀ base h₀ L m s Q E B F X N T hkd hdp hun hret
  w_on
  k_with_none
  refine wpAny_call ?_
  k_dflt (refine' code_defC ?k1 ?k2 ?k3 ?k4 ?k5 ?kA ?kF ?kK ?k6 ?k7 ?k8 ?k9 ?kB ?kD ?_ ?c2 ?c3 ?c4; (case kA => exact rfl); (case kF => exact rfl); (case kK => assumption); (case k1 => k_asm); (case k2 => k_asm); (case k3 => k_asm); (case k4 => k_asm); (case k5 => k_asm); (case k6 => k_is); (case k7 => k_is); (case k8 => ktr_room); (case k9 => exact BindsTo.of_eq rfl); (case kB => exact rfl); (case kD => decide +kernel); (case c2 => exact rfl); (case c3 => exact rfl); (case c4 => exact rfl); k_whole; intro g' L' h' tk' cells' FG' F' N' Y' B' X' T' l1; (try dsimp only); (try k_lift B'); (try k_fold))
  refine gen_QE fun Q2 hQ2 => ?_
  refine gen_goal fun P hP => ?_
  have hY := CellsAre.three Y'
  obtain ⟨oP, oT, oS, hE, dP, dT, dS⟩ := hY
  subst hE
  refine hP ?_
  clear Y' hP P
  (try dsimp only [List.cons_append, List.nil_append] at N')
  (repeat' ((fail_if_success (with_reducible show wpAny _ _ (exec (Stmt.While _ _ _ _) _) _ _ _)); (fail_if_success (with_reducible show wpAny _ _ (exec (Stmt.Raise _ _ _) _) _ _ _)); (fail_if_success (with_reducible show wpAny _ _ (call (Value.ref _) _) _ _ _)); (fail_if_success (with_reducible show LCg.CompSrc _ _ _ _ _ _ _ _ _ _ _ _ _ _)); (fail_if_success (with_reducible show wpAny _ _ (exec (Stmt.Assign _ (Expr.ListComp _ _ _ _) _) _) _ _ _)); (fail_if_success (with_reducible show LCt.CompSrcT _ _ _ _ _ _ _ _ _ _ _ _ _ _ _)); first | (with_reducible refine gen_st ?_; intro _ _ _) | (with_reducible refine gen_nx (by with_reducible assumption) ?_) | (with_reducible refine gen_rt (by with_reducible assumption) ?_) | (k_unfold; (try dsimp only)) | (k_end; wrow_close) | walk1 | (dsimp only; walk1) | (leave1; (try dsimp only))))
  have ls := ltN (l1 _ (.head _))
  dsimp only at ls
  have offc : ∀ p ∈ (L' + 1 + 1 + 1, oP) :: (L' + 1 + 1, oT) :: (L' + 1, oS) :: rest, p.1 ≠ src := by
    exact offK (by k_ne) (offK (by k_ne) (offK (by k_ne) off))
  have offS : ∀ p ∈ rest, p.1 ≠ L' + 1 := fun p hp => by have z := ltN (l1 _ (.tail _ hp)); k_ne
  have offT : ∀ p ∈ rest, p.1 ≠ L' + 1 + 1 := fun p hp => by have z := ltN (l1 _ (.tail _ hp)); k_ne
  have offP : ∀ p ∈ rest, p.1 ≠ L' + 1 + 1 + 1 := fun p hp => by have z := ltN (l1 _ (.tail _ hp)); k_ne
  refine ctr_gen (draw_C w _ ho offc (by decide) (by decide)) B' F' X' (front3 N') T' rfl ?_ ?_ ?_
  · exact rmD hdp
  · exact rmU hun
  rintro Q3 hQ3 v news' h3 tk3 ⟨d, t, o1, rfl, hd1, hd2, ho1, e⟩ F3 N3
  subst e
  refine hQ3 _ _ ?_
  clear hQ3 Q3
  clear F' N'
  (repeat' ((fail_if_success (with_reducible show wpAny _ _ (exec (Stmt.While _ _ _ _) _) _ _ _)); (fail_if_success (with_reducible show wpAny _ _ (exec (Stmt.Raise _ _ _) _) _ _ _)); (fail_if_success (with_reducible show wpAny _ _ (call (Value.ref _) _) _ _ _)); (fail_if_success (with_reducible show LCg.CompSrc _ _ _ _ _ _ _ _ _ _ _ _ _ _)); (fail_if_success (with_reducible show wpAny _ _ (exec (Stmt.Assign _ (Expr.ListComp _ _ _ _) _) _) _ _ _)); (fail_if_success (with_reducible show LCt.CompSrcT _ _ _ _ _ _ _ _ _ _ _ _ _ _ _)); first | (with_reducible refine gen_st ?_; intro _ _ _) | (with_reducible refine gen_nx (by with_reducible assumption) ?_) | (with_reducible refine gen_rt (by with_reducible assumption) ?_) | (k_unfold; (try dsimp only)) | (k_end; wrow_close) | walk1 | (dsimp only; walk1) | (leave1; (try dsimp only))))
  rename IsRange _ _ _ _ _ _ _ _ => hr
  dsimp only
  rename Fr _ _ _ _ => F4
  rename News _ _ _ _ => N4
  refine LCg.CompSrc.range (n := (d - 0).toNat) rfl F4 N4 hr (small_d hd1 (Int.lt_trans hd2 (by decide))) (rangeSize_nat 0 d) (size_d (Int.lt_trans hd2 (by decide))) ?_
  intro g''
  refine compRest_inv (n := (d - 0).toNat) (fun i ys news => (∃ l : List (Str × Tok), ys = strValues l ∧ l.length = i ∧ ∀ p ∈ l, p.1.length ≤ 1) ∧ ∃ o', Src o' ∧ news = (src, o') :: (L' + 1 + 1 + 1, oP) :: (L' + 1 + 1, oT) :: (L' + 1, oS) :: rest) ?st ?fn ((d - 0).toNat) 0 [] _ ?ee ?jj
  case ee => exact Nat.zero_add _
  case jj => exact ⟨⟨[], rfl, rfl, List.forall_mem_nil _⟩, o1, ho1, rfl⟩
  case st =>
    rintro i ys news v I oI C oC D m₂ h tk E' hi hJ hv hC hx F5 N5 off3 ne
    refine gen_goal fun P hP => ?_
    obtain ⟨⟨l, hyl, hli, hys⟩, o2, ho2, e⟩ := hJ
    refine hP ?_
    clear hP P
    rw [e] at N5 off3
    clear hr F4 N4
    dsimp only
    (repeat' ((fail_if_success (with_reducible show wpAny _ _ (exec (Stmt.While _ _ _ _) _) _ _ _)); (fail_if_success (with_reducible show wpAny _ _ (exec (Stmt.Raise _ _ _) _) _ _ _)); (fail_if_success (with_reducible show wpAny _ _ (call (Value.ref _) _) _ _ _)); (fail_if_success (with_reducible show LCg.CompSrc _ _ _ _ _ _ _ _ _ _ _ _ _ _)); (fail_if_success (with_reducible show wpAny _ _ (exec (Stmt.Assign _ (Expr.ListComp _ _ _ _) _) _) _ _ _)); (fail_if_success (with_reducible show LCt.CompSrcT _ _ _ _ _ _ _ _ _ _ _ _ _ _ _)); first | (with_reducible refine gen_st ?_; intro _ _ _) | (with_reducible refine gen_nx (by with_reducible assumption) ?_) | (with_reducible refine gen_rt (by with_reducible assumption) ?_) | (k_unfold; (try dsimp only)) | (k_end; wrow_close) | walk1 | (dsimp only; walk1) | (leave1; (try dsimp only))))
    rename Fr g' L' _ _ => F6
    rename News _ _ _ _ => N6
    rename Below _ _ _ _ => B6
    rename Frag.In _ _ => X6
    rename Top _ _ _ _ _ _ => T6
    have offd : ∀ p ∈ (I, oI) :: (C, oC) :: (D, LCg.lst ys) :: (L' + 1 + 1 + 1, oP) :: (L' + 1 + 1, oT) :: (L' + 1, oS) :: rest, p.1 ≠ src := by
      exact offK (Ne.symm off3.1.1) (offK (Ne.symm off3.1.2.1) (offK (Ne.symm off3.1.2.2) (offK (by k_ne) (offK (by k_ne) (offK (by k_ne) off)))))
    rename News _ _ _ _ => N6
    refine ctr_gen (one_C w ho2 (offK (by k_ne) (offd)) (.head _) (Nat.le_of_ble_eq_true rfl) (Nat.le_of_ble_eq_true rfl)) B6 F6 X6 (news_mid [_, (I, oI), (C, oC), (D, LCg.lst ys)] N6) T6 rfl ?_ ?_ ?_
    · exact rmD hdp
    · exact rmU hun
    rintro Q3 hQ3 v7 news7 h7 tk7 ⟨hv7, o7, ho7, e7⟩ F7 N7
    subst e7
    refine hQ3 _ _ ?_
    clear hQ3 Q3
    k_unfold
    dsimp only
    refine LCg.CompEnd.intro (news' := (src, o7) :: (L' + 1 + 1 + 1, oP) :: (L' + 1 + 1, oT) :: (L' + 1, oS) :: rest) F7 N7 ?_ off3 trivial ⟨?_, o7, ho7, rfl⟩
    · repeat' (first | exact sbR | refine sbK ?_ | exact .head _ | refine sbC ?_ ?_ | refine List.Mem.tail _ ?_ | refine sbT ?_)
    · have : ∃ x t, v7 = Value.str x t ∧ x.length ≤ 1 := oneOf (P := fun v => ∃ x t, v = Value.str x t ∧ x.length ≤ 1) hv7 (by repeat' (first | exact allN | refine allK ⟨_, _, rfl, by decide⟩ ?_))
      obtain ⟨x7, t7, e7, hx7⟩ := this
      exact ⟨l ++ [(x7, t7)], by rw [hyl, e7, strs_append], by simp [hli], List.forall_mem_append.mpr ⟨hys, List.forall_mem_singleton.mpr hx7⟩⟩
  case fn =>
    rintro ys news hJ
    refine gen_goal fun P hP => ?_
    obtain ⟨⟨l, hyl, hli, hys⟩, o2, ho2, e⟩ := hJ
    subst e hyl
    refine hP ?_
    clear hP P
    replace hli : l.length ≤ 12 := cut_len hli hd2
    clear hr F4 N4
    intro D h8 tk8 F8 N8 ⟨o8a, o8b, o8c, o8d, o8e⟩
    dsimp only at o8a o8b o8c o8d
    (repeat' ((fail_if_success (with_reducible show wpAny _ _ (exec (Stmt.While _ _ _ _) _) _ _ _)); (fail_if_success (with_reducible show wpAny _ _ (exec (Stmt.Raise _ _ _) _) _ _ _)); (fail_if_success (with_reducible show wpAny _ _ (call (Value.ref _) _) _ _ _)); (fail_if_success (with_reducible show LCg.CompSrc _ _ _ _ _ _ _ _ _ _ _ _ _ _)); (fail_if_success (with_reducible show wpAny _ _ (exec (Stmt.Assign _ (Expr.ListComp _ _ _ _) _) _) _ _ _)); (fail_if_success (with_reducible show LCt.CompSrcT _ _ _ _ _ _ _ _ _ _ _ _ _ _ _)); first | (with_reducible refine gen_st ?_; intro _ _ _) | (with_reducible refine gen_nx (by with_reducible assumption) ?_) | (with_reducible refine gen_rt (by with_reducible assumption) ?_) | (k_unfold; (try dsimp only)) | (k_end; wrow_close) | walk1 | (dsimp only; walk1) | (leave1; (try dsimp only))))
    refine join_mem 1 N8 (.head _) hys (by show l.length * 1 + l.length * 0 ≤ _; omega) ?_
    intro t9 k9
    have hlen := join0_len (Str.ofString "") rfl (l.map (·.1)) 1 (by simpa using hys)
    rw [List.length_map] at hlen
    replace hlen := cut_mul hlen hli
    generalize Txt.join _ (l.map (·.1)) = x at hlen ⊢
    clear hys
    (repeat' ((fail_if_success (with_reducible show wpAny _ _ (exec (Stmt.While _ _ _ _) _) _ _ _)); (fail_if_success (with_reducible show wpAny _ _ (exec (Stmt.Raise _ _ _) _) _ _ _)); (fail_if_success (with_reducible show wpAny _ _ (call (Value.ref _) _) _ _ _)); (fail_if_success (with_reducible show LCg.CompSrc _ _ _ _ _ _ _ _ _ _ _ _ _ _)); (fail_if_success (with_reducible show wpAny _ _ (exec (Stmt.Assign _ (Expr.ListComp _ _ _ _) _) _) _ _ _)); (fail_if_success (with_reducible show LCt.CompSrcT _ _ _ _ _ _ _ _ _ _ _ _ _ _ _)); first | (with_reducible refine gen_st ?_; intro _ _ _) | (with_reducible refine gen_nx (by with_reducible assumption) ?_) | (with_reducible refine gen_rt (by with_reducible assumption) ?_) | (k_unfold; (try dsimp only)) | (k_end; wrow_close) | walk1 | (dsimp only; walk1) | (leave1; (try dsimp only))))
    rename Fr g' L' _ _ => F9
    rename News _ _ _ _ => N9
    rename Below _ _ _ _ => B9
    rename Frag.In _ _ => X9
    rename Top _ _ _ _ _ _ => T9
    rename Obj => oT9
    rename oT9.data = _ => dT9
    have offc9 : ∀ p ∈ (L' + 1 + 1 + 1, oP) :: (L' + 1 + 1, oT9) :: (L' + 1, oS) :: rest, p.1 ≠ src := by
      exact offK (by k_ne) (offK (by k_ne) (offK (by k_ne) off))
    refine ctr_gen (draw_C w _ ho2 offc9 (by omega) (by omega)) B9 F9 X9 (News.tl N9) T9 rfl ?_ ?_ ?_
    · exact rmD hdp
    · exact rmU hun
    rintro Q3 hQ3 v news' h10 tk10 ⟨b, tb, o3, rfl, hb1, hb2, ho3, e⟩ F10 N10
    subst e
    refine hQ3 _ _ ?_
    clear hQ3 Q3
    clear F9 N9
    dsimp only
    (repeat' ((fail_if_success (with_reducible show wpAny _ _ (exec (Stmt.While _ _ _ _) _) _ _ _)); (fail_if_success (with_reducible show wpAny _ _ (exec (Stmt.Raise _ _ _) _) _ _ _)); (fail_if_success (with_reducible show wpAny _ _ (call (Value.ref _) _) _ _ _)); (fail_if_success (with_reducible show LCg.CompSrc _ _ _ _ _ _ _ _ _ _ _ _ _ _)); (fail_if_success (with_reducible show wpAny _ _ (exec (Stmt.Assign _ (Expr.ListComp _ _ _ _) _) _) _ _ _)); (fail_if_success (with_reducible show LCt.CompSrcT _ _ _ _ _ _ _ _ _ _ _ _ _ _ _)); first | (with_reducible refine gen_st ?_; intro _ _ _) | (with_reducible refine gen_nx (by with_reducible assumption) ?_) | (with_reducible refine gen_rt (by with_reducible assumption) ?_) | (k_unfold; (try dsimp only)) | (k_end; wrow_close) | walk1 | (dsimp only; walk1) | (leave1; (try dsimp only))))
    rename Fr g' L' _ _ => F9
    rename News _ _ _ _ => N9
    refine ctr_gen (one_C w ho3 (offK (by k_ne) (offc9)) (.head _) (Nat.le_of_ble_eq_true rfl) (Nat.le_of_ble_eq_true rfl)) B9 F9 X9 (front1 N9) T9 rfl ?_ ?_ ?_
    · exact rmD hdp
    · exact rmU hun
    rintro Q3 hQ3 v7 news7 h7 tk7 ⟨hv7, o7, ho7, e7⟩ F7 N7
    subst e7
    have : ∃ y t, v7 = Value.str y t := oneOf (P := fun v => ∃ y t, v = Value.str y t) hv7 (by repeat' (first | exact allN | refine allK ⟨_, _, rfl⟩ ?_))
    obtain ⟨y, ty, rfl⟩ := this
    refine hQ3 _ _ ?_
    clear hQ3 Q3
    clear F9 N9 hv7
    dsimp only
    (repeat' ((fail_if_success (with_reducible show wpAny _ _ (exec (Stmt.While _ _ _ _) _) _ _ _)); (fail_if_success (with_reducible show wpAny _ _ (exec (Stmt.Raise _ _ _) _) _ _ _)); (fail_if_success (with_reducible show wpAny _ _ (call (Value.ref _) _) _ _ _)); (fail_if_success (with_reducible show LCg.CompSrc _ _ _ _ _ _ _ _ _ _ _ _ _ _)); (fail_if_success (with_reducible show wpAny _ _ (exec (Stmt.Assign _ (Expr.ListComp _ _ _ _) _) _) _ _ _)); (fail_if_success (with_reducible show LCt.CompSrcT _ _ _ _ _ _ _ _ _ _ _ _ _ _ _)); first | (with_reducible refine gen_st ?_; intro _ _ _) | (with_reducible refine gen_nx (by with_reducible assumption) ?_) | (with_reducible refine gen_rt (by with_reducible assumption) ?_) | (k_unfold; (try dsimp only)) | (k_end; wrow_close) | walk1 | (dsimp only; walk1) | (leave1; (try dsimp only))))
    rename Fr g' L' _ _ => F9
    rename News _ _ _ _ => N9
    (k_dflt (refine LCt.Assign_ListComp_T F9 (by rfl) (by with_unfolding_all rfl) (by with_unfolding_all rfl) (by decide) (by rfl) (by decide) (by rfl) (by rfl) (by rfl) ?_))
    (repeat' ((fail_if_success (with_reducible show wpAny _ _ (exec (Stmt.While _ _ _ _) _) _ _ _)); (fail_if_success (with_reducible show wpAny _ _ (exec (Stmt.Raise _ _ _) _) _ _ _)); (fail_if_success (with_reducible show wpAny _ _ (call (Value.ref _) _) _ _ _)); (fail_if_success (with_reducible show LCg.CompSrc _ _ _ _ _ _ _ _ _ _ _ _ _ _)); (fail_if_success (with_reducible show wpAny _ _ (exec (Stmt.Assign _ (Expr.ListComp _ _ _ _) _) _) _ _ _)); (fail_if_success (with_reducible show LCt.CompSrcT _ _ _ _ _ _ _ _ _ _ _ _ _ _ _)); first | (with_reducible refine gen_st ?_; intro _ _ _) | (with_reducible refine gen_nx (by with_reducible assumption) ?_) | (with_reducible refine gen_rt (by with_reducible assumption) ?_) | (k_unfold; (try dsimp only)) | (k_end; wrow_close) | walk1 | (dsimp only; walk1) | (leave1; (try dsimp only))))
    rename IsRange _ _ _ _ _ _ _ _ => hr
    rename Fr g' L' _ _ => F11
    rename News g' L' _ _ => N11
    rename Obj => oP9
    rename oP9.data = _ => dP9
    dsimp only
    have hlen12 : x.length ≤ 12 := hlen
    refine LCt.CompSrcT.range (n := ((x.length : Int) - b).toNat) rfl F11 (News.sub N11 (l' := (src, o7) :: (L' + 1 + 1 + 1, oP9) :: (L' + 1 + 1, oT9) :: (L' + 1, oS) :: rest) ?_) hr (small_one (by omega) (by omega) (by omega) (by omega)) (rangeSize_nat b x.length) (by rw [sizeLine_eq]; omega) ?_
    · repeat' (first | exact sbR | refine sbK ?_ | exact .head _ | refine sbC ?_ ?_ | refine List.Mem.tail _ ?_ | refine sbT ?_)
    intro g''
    refine compRestT_inv (n := ((x.length : Int) - b).toNat) (fun i ys news => (∃ ns, IntsAre ys ns ∧ ((ns = [] ∧ runEnd x y b = runEnd x y (b + (i : Int))) ∨ ∃ r, ns = runEnd x y b :: r)) ∧ news = (src, o7) :: (L' + 1 + 1 + 1, oP9) :: (L' + 1 + 1, oT9) :: (L' + 1, oS) :: rest) ?st ?fn (((x.length : Int) - b).toNat) 0 [] _ ?ee ?jj
    case ee => exact Nat.zero_add _
    case jj => exact ⟨⟨[], .nil, .inl ⟨rfl, by simp⟩⟩, rfl⟩
    case st =>
      rintro i ys news v I oI C oC D m₂ h tk E' hi hJ hv hC hx F5 N5 off3 ne
      refine gen_goal fun P hP => ?_
      obtain ⟨hys, e⟩ := hJ
      obtain ⟨tv, rfl⟩ := hv
      subst e
      clear hr F11 N11
      replace hi := cut_lt hi
      obtain ⟨off3a, off3b, off3c, off3d, off3e⟩ := off3
      dsimp only at off3a off3b off3c off3d
      refine hP ?_
      clear hP P
      dsimp only
      (repeat' ((fail_if_success (with_reducible show wpAny _ _ (exec (Stmt.While _ _ _ _) _) _ _ _)); (fail_if_success (with_reducible show wpAny _ _ (exec (Stmt.Raise _ _ _) _) _ _ _)); (fail_if_success (with_reducible show wpAny _ _ (call (Value.ref _) _) _ _ _)); (fail_if_success (with_reducible show LCg.CompSrc _ _ _ _ _ _ _ _ _ _ _ _ _ _)); (fail_if_success (with_reducible show wpAny _ _ (exec (Stmt.Assign _ (Expr.ListComp _ _ _ _) _) _) _ _ _)); (fail_if_success (with_reducible show LCt.CompSrcT _ _ _ _ _ _ _ _ _ _ _ _ _ _ _)); first | (with_reducible refine gen_st ?_; intro _ _ _) | (with_reducible refine gen_nx (by with_reducible assumption) ?_) | (with_reducible refine gen_rt (by with_reducible assumption) ?_) | (k_unfold; (try dsimp only)) | (k_end; wrow_close) | walk1 | (dsimp only; walk1) | (leave1; (try dsimp only))))
      · rename (List.isEmpty _ = true) => ho
        have hr := runEnd_out (x := x) (y := y) (k := b + (i : Int)) (by omega) (by omega) ho
        (try k_unfold)
        (try dsimp only)
        refine LCg.CompEnd.intro (news' := (src, o7) :: (L' + 1 + 1 + 1, oP9) :: (L' + 1 + 1, oT9) :: (L' + 1, oS) :: rest) F5 N5 ?_ ⟨off3a, off3b, off3c, off3d, off3e⟩ trivial ⟨?_, rfl⟩
        · intro p hp; exact hp
        · obtain ⟨ns, hns, hc⟩ := hys
          refine ⟨_, ints_snoc _ _ hns, .inr ?_⟩
          rcases hc with ⟨e1, e2⟩ | ⟨r, e1⟩
          · exact ⟨[], by rw [e1, e2, hr]; rfl⟩
          · exact ⟨r ++ [b + (i : Int)], by rw [e1]; rfl⟩
      · rename (List.isEmpty _ = false) => ho
        have hr := runEnd_in (x := x) (y := y) (k := b + (i : Int)) (by omega) (by omega) ho
        (try k_unfold)
        (try dsimp only)
        refine LCg.CompEnd.intro (news' := (src, o7) :: (L' + 1 + 1 + 1, oP9) :: (L' + 1 + 1, oT9) :: (L' + 1, oS) :: rest) F5 N5 ?_ ⟨off3a, off3b, off3c, off3d, off3e⟩ trivial ⟨?_, rfl⟩
        · intro p hp; exact hp
        · obtain ⟨ns, hns, hc⟩ := hys
          refine ⟨ns, hns, ?_⟩
          rcases hc with ⟨e1, e2⟩ | ⟨r, e1⟩
          · exact .inl ⟨e1, by rw [e2, hr]; congr 1; omega⟩
          · exact .inr ⟨r, e1⟩
    case fn =>
      rintro ys news hJ
      refine gen_goal fun P hP => ?_
      obtain ⟨⟨ns, hns, hc⟩, e⟩ := hJ
      subst e
      refine hP ?_
      clear hP P
      clear hr F11 N11
      intro D h8 tk8 F8 N8 ⟨o8a, o8b, o8c, o8d, o8e⟩
      dsimp only at o8a o8b o8c o8d
      dsimp only
      (repeat' ((fail_if_success (with_reducible show wpAny _ _ (exec (Stmt.While _ _ _ _) _) _ _ _)); (fail_if_success (with_reducible show wpAny _ _ (exec (Stmt.Raise _ _ _) _) _ _ _)); (fail_if_success (with_reducible show wpAny _ _ (call (Value.ref _) _) _ _ _)); (fail_if_success (with_reducible show LCg.CompSrc _ _ _ _ _ _ _ _ _ _ _ _ _ _)); (fail_if_success (with_reducible show wpAny _ _ (exec (Stmt.Assign _ (Expr.ListComp _ _ _ _) _) _) _ _ _)); (fail_if_success (with_reducible show LCt.CompSrcT _ _ _ _ _ _ _ _ _ _ _ _ _ _ _)); first | (with_reducible refine gen_st ?_; intro _ _ _) | (with_reducible refine gen_nx (by with_reducible assumption) ?_) | (with_reducible refine gen_rt (by with_reducible assumption) ?_) | (k_unfold; (try dsimp only)) | (k_end; wrow_close) | walk1 | (dsimp only; walk1) | (leave1; (try dsimp only))))
      rename Fr g' L' _ _ => F12
      rename News g' L' _ _ => N12
      refine ctr_gen (run_end_C w x y b t9 ty tb (by omega) hb1 (by omega) _) B9 F12 X9 N12 T9 rfl ?_ ?_ ?_
      · exact rmD hdp
      · exact rmU hun
      rintro Q3 hQ3 v13 news13 h13 tk13 ⟨⟨t13, rfl⟩, e13⟩ F13 N13
      subst e13
      have hend : runEnd x y x.length = x.length := runEnd_end (by omega) (by omega)
      rcases hc with ⟨rfl, e2⟩ | ⟨r, rfl⟩
      · rw [cut_end (Int.le_of_lt_add_one hb2), hend] at e2
        rw [e2]
        cases hns
        refine hQ3 _ _ ?_
        clear hQ3 Q3
        (repeat' ((fail_if_success (with_reducible show wpAny _ _ (exec (Stmt.While _ _ _ _) _) _ _ _)); (fail_if_success (with_reducible show wpAny _ _ (exec (Stmt.Raise _ _ _) _) _ _ _)); (fail_if_success (with_reducible show wpAny _ _ (call (Value.ref _) _) _ _ _)); (fail_if_success (with_reducible show LCg.CompSrc _ _ _ _ _ _ _ _ _ _ _ _ _ _)); (fail_if_success (with_reducible show wpAny _ _ (exec (Stmt.Assign _ (Expr.ListComp _ _ _ _) _) _) _ _ _)); (fail_if_success (with_reducible show LCt.CompSrcT _ _ _ _ _ _ _ _ _ _ _ _ _ _ _)); first | (with_reducible refine gen_st ?_; intro _ _ _) | (with_reducible refine gen_nx (by with_reducible assumption) ?_) | (with_reducible refine gen_rt (by with_reducible assumption) ?_) | (k_unfold; (try dsimp only)) | (k_end; wrow_close) | walk1 | (dsimp only; walk1) | (leave1; (try dsimp only))))
        refine hQ2 _ _ ?_
        (repeat' ((fail_if_success (with_reducible show wpAny _ _ (exec (Stmt.While _ _ _ _) _) _ _ _)); (fail_if_success (with_reducible show wpAny _ _ (exec (Stmt.Raise _ _ _) _) _ _ _)); (fail_if_success (with_reducible show wpAny _ _ (call (Value.ref _) _) _ _ _)); (fail_if_success (with_reducible show LCg.CompSrc _ _ _ _ _ _ _ _ _ _ _ _ _ _)); (fail_if_success (with_reducible show wpAny _ _ (exec (Stmt.Assign _ (Expr.ListComp _ _ _ _) _) _) _ _ _)); (fail_if_success (with_reducible show LCt.CompSrcT _ _ _ _ _ _ _ _ _ _ _ _ _ _ _)); first | (with_reducible refine gen_st ?_; intro _ _ _) | (with_reducible refine gen_nx (by with_reducible assumption) ?_) | (with_reducible refine gen_rt (by with_reducible assumption) ?_) | (k_unfold; (try dsimp only)) | (k_end; wrow_close) | walk1 | (dsimp only; walk1) | (leave1; (try dsimp only))))
        rename Fr h₀ L _ m => kF
        rename News h₀ L _ _ => kN
        exact hret _ _ _ _ ⟨by simp, o7, ho7, rfl⟩ kF (News.sub kN (by repeat' (first | exact sbR | refine sbK ?_ | exact .head _ | refine sbC ?_ ?_ | refine List.Mem.tail _ ?_ | refine sbT ?_)))
      · cases hns
        refine hQ3 _ _ ?_
        clear hQ3 Q3
        (repeat' ((fail_if_success (with_reducible show wpAny _ _ (exec (Stmt.While _ _ _ _) _) _ _ _)); (fail_if_success (with_reducible show wpAny _ _ (exec (Stmt.Raise _ _ _) _) _ _ _)); (fail_if_success (with_reducible show wpAny _ _ (call (Value.ref _) _) _ _ _)); (fail_if_success (with_reducible show LCg.CompSrc _ _ _ _ _ _ _ _ _ _ _ _ _ _)); (fail_if_success (with_reducible show wpAny _ _ (exec (Stmt.Assign _ (Expr.ListComp _ _ _ _) _) _) _ _ _)); (fail_if_success (with_reducible show LCt.CompSrcT _ _ _ _ _ _ _ _ _ _ _ _ _ _ _)); first | (with_reducible refine gen_st ?_; intro _ _ _) | (with_reducible refine gen_nx (by with_reducible assumption) ?_) | (with_reducible refine gen_rt (by with_reducible assumption) ?_) | (k_unfold; (try dsimp only)) | (k_end; wrow_close) | walk1 | (dsimp only; walk1) | (leave1; (try dsimp only))))
        · rename (decide _ = true) => hq
          exact absurd (of_decide_eq_true hq) (List.cons_ne_nil _ _)
        · refine hQ2 _ _ ?_
          (repeat' ((fail_if_success (with_reducible show wpAny _ _ (exec (Stmt.While _ _ _ _) _) _ _ _)); (fail_if_success (with_reducible show wpAny _ _ (exec (Stmt.Raise _ _ _) _) _ _ _)); (fail_if_success (with_reducible show wpAny _ _ (call (Value.ref _) _) _ _ _)); (fail_if_success (with_reducible show LCg.CompSrc _ _ _ _ _ _ _ _ _ _ _ _ _ _)); (fail_if_success (with_reducible show wpAny _ _ (exec (Stmt.Assign _ (Expr.ListComp _ _ _ _) _) _) _ _ _)); (fail_if_success (with_reducible show LCt.CompSrcT _ _ _ _ _ _ _ _ _ _ _ _ _ _ _)); first | (with_reducible refine gen_st ?_; intro _ _ _) | (with_reducible refine gen_nx (by with_reducible assumption) ?_) | (with_reducible refine gen_rt (by with_reducible assumption) ?_) | (k_unfold; (try dsimp only)) | (k_end; wrow_close) | walk1 | (dsimp only; walk1) | (leave1; (try dsimp only))))
          rename Fr h₀ L _ m => kF
          rename News h₀ L _ _ => kN
          exact hret _ _ _ _ ⟨by show Value.bool (runEnd x y b == runEnd x y b) = _; simp, o7, ho7, rfl⟩ kF (News.sub kN (by repeat' (first | exact sbR | refine sbK ?_ | exact .head _ | refine sbC ?_ ?_ | refine List.Mem.tail _ ?_ | refine sbT ?_)))
end

/- part E1 -/
section
open PySem PySem.W PyProof.Rows
set_option maxRecDepth 100000
set_option maxHeartbeats 4000000

theorem pool_pos {g : Int} {c : Bool} (h : 0 ≤ g) : 0 ≤ g * (if c = true then 1 else 0) := Int.mul_nonneg h (by split <;> decide)
theorem pool_C (w : World) (l : Addr) (vs : List Value) (ns : List Int) (hi : IntsAre vs ns) (hlen : ns.length ≤ 63) (p : Program) (loose : List Str) (mean : ExcName → Option Value) (mg mb : Str → Option Value)
    (dp un : Nat) (gd : Option (List Code)) (cn : Str) (cs : Scope) (a : Addr) (ccd : Value) (cl : List (Str × Addr)) (outer : List Env) (A₀ : Around) (base h₀ : Heap) (L : Addr) (m : Str → Option Value) (s : Shared) (Q E : Value → Shared → Prop) (news : List (Addr × Obj))
    (hl : h₀.IsList l vs.toArray)
    (B : Below A₀ base outer h₀) (F : Fr h₀ L s.heap m) (X : (hd.heap_39 w.params).In h₀) (N : News h₀ L s.heap news) (T : Top p loose mean mg mb h₀) (hkd : cs.kind = .function)
    (hdp : dp + 8 < recursionLimit) (hun : un + 8 * 20 < cLine)
    (hret : ∀ v news' h' tk', (∃ src o, v = .ref src ∧ Src o ∧ (∀ p ∈ news, p.1 ≠ src) ∧ news' = (src, o) :: news) → Fr h₀ L h' m → News h₀ L h' news' → Q v { s with heap := h', toks := tk' }) :
    wpAny (model PySem.Challenge.rw_xw0154_01.row.prog w) (ktrTop dp un gd cn cs L a ccd cl outer) (call (.ref 89) [.ref l]) Q E s := by
  w_on
  k_with_none
  refine wpAny_call ?_
  k_dflt cell_enter
  refine gen_QT fun Q2 tkE hQ2 => ?_
  rename Fr h₀ L _ m => FG
  have hl2 := (show ∀ {g : Heap} {v : Array Value}, h₀.IsList l v → Fr h₀ L g m → g.IsList l v from fun h f => by obtain ⟨o, e, r⟩ := h; exact ⟨o, f.keep _ _ e, r⟩) hl FG
  refine gen_st fun Q3 hn hr => ?_
  rename Fr _ _ _ _ => F2
  rename News _ _ _ _ => N2
  rename Below _ _ _ _ => B2
  rename Frag.In _ _ => X2
  rename Top _ _ _ _ _ _ => T2
  rename_i g2 L2 h2
  (with_unfolding_all change Fr g2 L2 h2 (Mp [("script", .ref l)]) at F2)
  have tail : ∀ (c : Int) (t : Tok) (h : Heap) (tk : Nat), Fr g2 L2 h (Mp [("script", Value.ref l), ("cell", Value.int c t)]) → News g2 L2 h news → Q3 .next { s with heap := h, toks := tk } := by
    intro c t h tk F3 N3
    clear F2 N2 hi hl2
    refine hn _ ?_
    (repeat' ((fail_if_success (with_reducible show wpAny _ _ (exec (Stmt.While _ _ _ _) _) _ _ _)); (fail_if_success (with_reducible show wpAny _ _ (exec (Stmt.Raise _ _ _) _) _ _ _)); (fail_if_success (with_reducible show wpAny _ _ (call (Value.ref _) _) _ _ _)); first | (k_unfold; (try dsimp only)) | (k_end; wrow_close) | walk1 | (dsimp only; walk1) | (leave1; (try dsimp only))))
    all_goals
      refine hQ2 _ _ ?_
      (repeat' ((fail_if_success (with_reducible show wpAny _ _ (exec (Stmt.While _ _ _ _) _) _ _ _)); (fail_if_success (with_reducible show wpAny _ _ (exec (Stmt.Raise _ _ _) _) _ _ _)); (fail_if_success (with_reducible show wpAny _ _ (call (Value.ref _) _) _ _ _)); first | (k_unfold; (try dsimp only)) | (k_end; wrow_close) | walk1 | (dsimp only; walk1) | (leave1; (try dsimp only))))
      rename Fr h₀ L _ m => kF
      rename News h₀ L _ _ => kN
      rename ∀ (p : Addr × Obj), p ∈ news → _ => l9
      refine hret _ ((_, _) :: news) _ _ ?_ kF kN
      exact ⟨_, _, rfl, ⟨_, _, _, _, _, rfl, pool_pos (by omega), Int.fmod_nonneg_of_pos _ (by decide), Int.fmod_lt_of_pos _ (by decide)⟩, fun p hp => Nat.ne_of_lt (l9 p hp), rfl⟩
  clear hn hr hret hQ2
  cases hi with
  | nil =>
    (repeat' ((fail_if_success (with_reducible show wpAny _ _ (exec (Stmt.While _ _ _ _) _) _ _ _)); (fail_if_success (with_reducible show wpAny _ _ (exec (Stmt.Raise _ _ _) _) _ _ _)); (fail_if_success (with_reducible show wpAny _ _ (call (Value.ref _) _) _ _ _)); first | (k_unfold; (try dsimp only)) | (k_end; wrow_close) | walk1 | (dsimp only; walk1) | (leave1; (try dsimp only))))
    rename Fr g2 L2 _ _ => kF
    rename News g2 L2 _ _ => kN
    exact tail _ _ _ _ (fr_to kF (mp_upd rfl rfl)) (News.tl kN)
  | cons k t hr =>
    (repeat' ((fail_if_success (with_reducible show wpAny _ _ (exec (Stmt.While _ _ _ _) _) _ _ _)); (fail_if_success (with_reducible show wpAny _ _ (exec (Stmt.Raise _ _ _) _) _ _ _)); (fail_if_success (with_reducible show wpAny _ _ (call (Value.ref _) _) _ _ _)); first | (k_unfold; (try dsimp only)) | (k_end; wrow_close) | walk1 | (dsimp only; walk1) | (leave1; (try dsimp only))))
    all_goals
      rename Fr g2 L2 _ _ => kF
      rename News g2 L2 _ _ => kN
      exact tail _ _ _ _ (fr_to kF (mp_upd rfl rfl)) (News.tl kN)
end

/- part H0 -/
section
open PySem PySem.W PyProof.Rows PySem.Calls PySem.Spec
set_option maxRecDepth 100000
set_option maxHeartbeats 4000000

section
variable {prog : Program} {w : World} {A₀ : Around} {E : Value → Shared → Prop} {s' : Shared} {base g G : Heap} {outer : List Env} {L e d : Addr} {m : Str → Option Value} {env : Env} {dO : Obj}
  {n : Str} {b₀ : Stmt} {suite : List Stmt} {pos np : Pos} {rest : List ExceptHandler} {Q : Flow → Shared → Prop} {news : List (Addr × Obj)}
  {p : Program} {loose : List Str} {mean : ExcName → Option Value} {mg mb : Str → Option Value} {x : Str}

theorem groundG {B h₅ : Heap} (hf : env.frame = some L) (K : Below A₀ base outer g) (F : Fr g L G m) (hBG : ∀ b o, G.get? b = some o → b ∉ frs (env :: outer) → B.get? b = some o) (hBh : B.StaysIn h₅) (hsm : G.UpToSlots h₅) :
    ∃ g', KtsTurn (frs outer) g g' ∧ Fr g' L h₅ m ∧ Below A₀ base outer g' := by
  obtain ⟨T, S⟩ := kts_turn_at (h := h₅) (fs := outer.filterMap (·.frame)) (g := g)
    (fun b hb => by
      obtain ⟨_, o, ho, _⟩ := K.frames.mem hb
      exact ⟨o, ho⟩)
    (fun b o e nm => hBh b o (hBG b o (F.keep b o e) (fun hm => by
      rcases frs_mem hf hm with z | z
      · rw [z, kts_self F] at e
        cases e
      · exact nm z)))
    (fun b o e hm => by
      obtain ⟨_, o', ho', hd⟩ := K.frames.mem hm
      rw [e] at ho'
      cases ho'
      exact hsm b o (F.keep b o e) hd)
  refine ⟨_, T, ⟨hsm.ns F.ns, S, by rw [T.size]; exact F.above⟩, ⟨K.stack, fun b o e => T.other b o (K.stays b o e) (fun hm => by
    rw [(K.frames.mem hm).1] at e
    cases e), K.frames.of_keeps fun b o e _ => ?_⟩⟩
  obtain ⟨sl, hs⟩ := T.up e
  exact ⟨_, hs, rfl⟩

theorem caughtX {name : Str} {scope : Scope} {a : Addr} {cd : Value} (R : FliesT base G (envOf name scope L a cd :: outer) e d dO news s'.heap) (F : Fr g L G m) (K : Below A₀ base outer g) (hsm : G.UpToSlots s'.heap) (XB : (hd.heap_39 w.params).In base) (TB : Top p loose mean mg mb base)
    (ex : nsIn (hd.heap_39 w.params) mainGlobals x = some (some (.ref 45)))
    (k : ∀ h' g' oe vs tk, KtsTurn (frs outer) g g' → oe.cls = .ref 45 → oe.dict = some d → oe.data = .fields vs → Fr g' L h' (fun y => if y = n then some (.ref e) else m y) → News g' L h' ((e, oe) :: (d, dO) :: news) → Below A₀ base outer g' → (hd.heap_39 w.params).In g' → Top p loose mean mg mb g' →
      wpAny (model prog w) ((A₀.deeper (envOf name scope L a cd)).mark (some (.ref e))) (execs (b₀ :: suite) (envOf name scope L a cd))
        (fun f s₄ => wpAny (model prog w) (A₀.deeper (envOf name scope L a cd)) (do bindName (envOf name scope L a cd) n .none; unbindBehindTheSuite (envOf name scope L a cd) n pos) (fun _ s₅ => Q f s₅) E s₄)
        (AsSuiteRaised (model prog w) ((A₀.deeper (envOf name scope L a cd)).mark (some (.ref e))) (envOf name scope L a cd) n pos (notedBy (model prog w) ((A₀.deeper (envOf name scope L a cd)).mark (some (.ref e))) (envOf name scope L a cd) (cameBackBy (model prog w) (A₀.deeper (envOf name scope L a cd)) (envOf name scope L a cd) E)))
        { s' with heap := h', toks := tk })
    (hk : scope.kind = .function := by rfl) (hlo : (envOf name scope L a cd).kindOf n = some .local := by rfl) (hx : (envOf name scope L a cd).kindOf x = some .globalImplicit := by rfl) (hdb : (x == ("__debug__" : Str)) = false := by decide) :
    wpAny (model prog w) (A₀.deeper (envOf name scope L a cd)) (noteFrame (.ref e) (envOf name scope L a cd))
      (fun _ s₂ => wpAny (model prog w) (A₀.deeper (envOf name scope L a cd)) (setFlight (.ref e) none) (fun _ s₃ =>
        wpAny (model prog w) (A₀.deeper (envOf name scope L a cd)) (handleBy (.ref e) (envOf name scope L a cd) (.ExceptHandler (some (.Name x np)) (some n) (b₀ :: suite) pos :: rest)) Q E s₃) E s₂) E s' := by
  refine gen_goal fun P hP => ?_
  obtain ⟨B, hB, hBG, hl, I⟩ := R
  have hL : B.get? L = none := by
    obtain ⟨_, ⟨L', _, hf, hn', _⟩, _⟩ := I.frames
    obtain rfl : L = L' := Option.some.inj hf
    exact hn'
  refine hP ?_
  clear hP P
  refine note_nextX (Around.frames_deeper K.stack) rfl I fun h₄ I₄ hsm₄ => ?_
  refine landX I₄ fun h₅ I₅ hsm₅' => ?_
  have hsm₅ := hsm₄.trans hsm₅'
  refine gen_goal fun P hP => ?_
  obtain ⟨g₅, T₅, F₅, K₅⟩ := groundG rfl K F hBG I₅.stays (hsm.trans hsm₅)
  have X₅ : (hd.heap_39 w.params).In g₅ := XB.keeps K₅.stays
  have P₅ : TopRead p loose mg mb g₅ := topRead_of (TB.keeps K₅.stays)
  obtain ⟨oe, vs, T, oT, ts, hoe, ⟨hobc, hobd⟩, hod, _⟩ := I₅.tr
  obtain ⟨nm, q', N, bs, hdct, sn, sub, ab, col, dd, k0, k1, k2, k3, k5, hC⟩ := cls45 X₅
  have hC₅ := F₅.keep _ _ hC
  refine hP ?_
  clear hP P
  refine wpAny_handleBy_cons (codeAny_handlers_test (name_K F₅ X₅ P₅ ex ?_ hk hx hdb)) (by intro q; cases q)
  refine wpAny_excMatches_sub_self hC₅ hoe hobc tailed45.hasBase (codeAny_handlers_suite_as ?_)
  refine landX I₅ fun h₆ I₆ hsm₆ => ?_
  refine gen_goal fun P hP => ?_
  obtain ⟨g₆, T₆, F₆, K₆⟩ := groundG rfl K F hBG I₆.stays ((hsm.trans hsm₅).trans hsm₆)
  obtain ⟨oe, vs, T, oT, ts, hoe, ⟨hobc, hobd⟩, hod, _⟩ := I₆.tr
  have nL : L ≠ e := fun z => by
    obtain ⟨oL, es, ep, hLg, hLd, _⟩ := F₆.ns
    rw [z, hoe] at hLg; cases hLg
    rw [hod] at hLd; cases hLd
  have ne₆ : g₆.get? e = none := T₆.none_ _ (by
    cases q : g.get? e with
    | none => rfl
    | some o =>
      by_cases m' : e ∈ frs outer
      · obtain ⟨_, o', ho', hd⟩ := K.frames.mem m'
        obtain ⟨sl, hs⟩ := ((hsm.trans hsm₅).trans hsm₆) _ _ (F.keep _ _ ho') hd
        rw [hoe] at hs
        cases hs
        exact absurd hod (hd _)
      · have := hBG e o (F.keep e o q) (fun hm' => by
          rcases frs_mem (env := envOf name scope L a cd) rfl hm' with z | z
          · exact nL z.symm
          · exact m' z)
        rw [I₆.new] at this
        cases this)
  have Nl : ∀ q ∈ (d, dO) :: news, h₆.get? q.1 = some q.2 ∧ q.1 ≠ L ∧ g₆.get? q.1 = none := fun q hq => ⟨I₆.stays _ _ (hl q hq).1, (fun z => by have := (hl q hq).1; rw [z, hL] at this; cases this), T₆.none_ _ (kts_none F.keep (hl q hq).2.1)⟩
  have N₆ : News g₆ L h₆ ((e, oe) :: (d, dO) :: news) := fun q hq => by
    rcases List.mem_cons.mp hq with rfl | hq
    · exact ⟨hoe, Ne.symm nL, ne₆⟩
    · exact Nl q hq
  refine hP ?_
  clear hP P
  refine stN F₆ N₆ (fun h₇ F₇ N₇ => ?_) hk hlo
  exact k h₇ g₆ oe vs _ T₆ hobc hobd hod F₇ N₇ K₆ (XB.keeps K₆.stays) (TB.keeps K₆.stays)
end
end

/- part H1 -/
section
open PySem PySem.W PyProof.Rows PySem.Calls PySem.Spec
set_option maxRecDepth 100000
set_option maxHeartbeats 4000000

section
variable {prog : Program} {w : World} {A A₀ : Around} {s : Shared} {K : Frag} {L : Addr} {h₀ base : Heap} {m mg mb : Str → Option Value} {news : List (Addr × Obj)} {p : Program} {loose : List Str} {mean : ExcName → Option Value}

theorem code_defT {env : Env} {outer : List Env} {R : Result → Shared → Prop} {name qual : Str} {params : Arguments} {body : List Stmt} {scope : Scope} {dV kV doc pm cdv ct oc : Value} {an od : Option Addr} {osl : Array (Option Value)} {f : Addr} {args : Args} {binds : List (Str × Value)}
    (B : Below A₀ base outer h₀) (F : Fr h₀ L s.heap m) (X₀ : K.In h₀) (N : News h₀ L s.heap news) (T : Top p loose mean mg mb h₀) (hA : A.frames = some (env :: outer)) (hf : env.frame = some L) (hke : env.scope.kind = .function)
    (ho : K.lookup f = some ⟨oc, od, .func (fnOf name qual params body scope dV kV doc pm an cdv ct), osl⟩) (hcd : codeIn K cdv qual = true) (hroom : A.depth < recursionLimit)
    (hbind : BindsTo s (fnOf name qual params body scope dV kV doc pm an cdv ct) args binds) (hloc : ∀ y ∈ binds, scope.names.lookup y.1 = some .local)
    (h : ∀ g L' h₁, Fr h₀ L g m → Fr g L' h₁ (fun y => binds.reverse.lookup y) → News g L' h₁ news → Below A base (env :: outer) g → K.In g → Top p loose mean mg mb g → (∀ p ∈ news, p.1 < L') →
      wpAny (model prog w) (A.deeper (envOf qual scope L' f cdv)) (execs body (envOf qual scope L' f cdv))
        (fun fl s' => LeaveT A₀ base outer env h₀ L m g R (match fl with | .ret v => v | _ => .none) s')
        (fun e s' => wpAny (model prog w) (A.deeper (envOf qual scope L' f cdv)) (leaving (envOf qual scope L' f cdv) e) (fun _ s'' => R (.error e) s'') (fun e' s'' => R (.error e') s'') s')
        { s with heap := h₁, toks := s.toks + binds.length })
    (hco : scope.isCoroutine = false) (hgen : scope.isGenerator = false) (hk : scope.kind = .function)
    (hcell : ∀ x ∈ scope.names, x.2 ≠ .cell) : codeAny (model prog w) A (.call (.ref f) args) R s :=
  callT_plain (cl := []) B F N T.nolimit hA hf hke ((X₀.keeps F.keep) _ _ ho) rfl (codeRec_of (X₀.keeps F.keep) hcd) hroom hbind hloc (fun g L' h₁ FG F' N' B' st l => h g L' h₁ FG F' N' B' (X₀.keeps st) (T.keeps st) l) hcell hco hgen hk

theorem code_defTC {env : Env} {outer : List Env} {R : Result → Shared → Prop} {name qual : Str} {params : Arguments} {body : List Stmt} {scope : Scope} {dV kV doc pm cdv ct oc : Value} {an od : Option Addr} {osl : Array (Option Value)} {f : Addr} {args : Args} {binds : List (Str × Value)}
    (B : Below A₀ base outer h₀) (F : Fr h₀ L s.heap m) (X₀ : K.In h₀) (N : News h₀ L s.heap news) (T : Top p loose mean mg mb h₀) (hA : A.frames = some (env :: outer)) (hf : env.frame = some L) (hke : env.scope.kind = .function)
    (ho : K.lookup f = some ⟨oc, od, .func (fnOf name qual params body scope dV kV doc pm an cdv ct), osl⟩) (hcd : codeIn K cdv qual = true) (hroom : A.depth < recursionLimit)
    (hbind : BindsTo s (fnOf name qual params body scope dV kV doc pm an cdv ct) args binds) (hkind : (binds.all fun y => scope.names.lookup y.1 == some .local || scope.names.lookup y.1 == some .cell) = true)
    (hnd : ((cellsFrom 0 scope.names []).map (·.1)).Nodup)
    (h : ∀ g L' h₁ tk cells, Fr h₀ L g m → Fr g L' h₁ (bindL (envOfC qual scope L' f cdv).kindOf binds fun _ => none) → News g L' h₁ (cells ++ news) →
      CellsAre (bindC (envOfC qual scope L' f cdv).kindOf binds fun _ => none) (cellsFrom (L' + 1) scope.names []) cells → Below A base (env :: outer) g → K.In g → Top p loose mean mg mb g → (∀ p ∈ news, p.1 < L') →
      wpAny (model prog w) (A.deeper (envOfC qual scope L' f cdv)) (execs body (envOfC qual scope L' f cdv))
        (fun fl s' => LeaveT A₀ base outer env h₀ L m g R (match fl with | .ret v => v | _ => .none) s')
        (fun e s' => wpAny (model prog w) (A.deeper (envOfC qual scope L' f cdv)) (leaving (envOfC qual scope L' f cdv) e) (fun _ s'' => R (.error e) s'') (fun e' s'' => R (.error e') s'') s')
        { s with heap := h₁, toks := tk })
    (hco : scope.isCoroutine = false) (hgen : scope.isGenerator = false) (hk : scope.kind = .function) : codeAny (model prog w) A (.call (.ref f) args) R s :=
  callT_cells B F N T.nolimit hA hf hke ((X₀.keeps F.keep) _ _ ho) rfl (codeRec_of (X₀.keeps F.keep) hcd) hroom hbind (kindsX hkind) hnd (fun g L' h₁ tk cells FG F' N' Y B' st l => h g L' h₁ tk cells FG F' N' Y B' (X₀.keeps st) (T.keeps st) l) hco hgen hk
end

/-- a contract of a def below which a fault may be caught: the frames' slots may turn -/
noncomputable abbrev CtrT (w : World) (f : Addr) (vs : List Value) (need : Nat) (news : List (Addr × Obj)) (Ret : Value → List (Addr × Obj) → Prop) : Prop :=
  ∀ (p : Program) (loose : List Str) (mean : ExcName → Option Value) (mg mb : Str → Option Value)
    (dp un : Nat) (gd : Option (List Code)) (cn : Str) (cs : Scope) (a : Addr) (ccd : Value) (cl : List (Str × Addr)) (outer : List Env) (A₀ : Around) (base h₀ : Heap) (L : Addr) (m : Str → Option Value) (s : Shared) (Q E : Value → Shared → Prop),
    Below A₀ base outer h₀ → Fr h₀ L s.heap m → (hd.heap_39 w.params).In h₀ → News h₀ L s.heap news → Top p loose mean mg mb h₀ → (hd.heap_39 w.params).In base → Top p loose mean mg mb base → cs.kind = .function →
    dp + need < recursionLimit → un + 8 * need < cLine →
    (∀ v news' h' tk' h₀', Ret v news' → KtsTurn (frs outer) h₀ h₀' → Fr h₀' L h' m → News h₀' L h' news' → Below A₀ base outer h₀' → Q v { s with heap := h', toks := tk' }) →
    wpAny (model PySem.Challenge.rw_xw0154_01.row.prog w) (ktrTop dp un gd cn cs L a ccd cl outer) (call (.ref f) vs) Q E s
theorem ctrT_use {w : World} {f : Addr} {vs : List Value} {need : Nat} {news : List (Addr × Obj)} {Ret : Value → List (Addr × Obj) → Prop} (C : CtrT w f vs need news Ret) {p : Program} {loose : List Str} {mean : ExcName → Option Value} {mg mb : Str → Option Value}
    {dp un : Nat} {gd : Option (List Code)} {cn : Str} {cs : Scope} {a : Addr} {ccd : Value} {cl : List (Str × Addr)} {outer : List Env} {A₀ : Around} {base h₀ : Heap} {L : Addr} {m : Str → Option Value} {s : Shared} {Q E : Value → Shared → Prop}
    (B : Below A₀ base outer h₀) (F : Fr h₀ L s.heap m) (X : (hd.heap_39 w.params).In h₀) (N : News h₀ L s.heap news) (T : Top p loose mean mg mb h₀) (XB : (hd.heap_39 w.params).In base) (TB : Top p loose mean mg mb base) (hk : cs.kind = .function) (hd : dp + need < recursionLimit) (hu : un + 8 * need < cLine)
    (ret : ∀ v news' h' tk' h₀', Ret v news' → KtsTurn (frs outer) h₀ h₀' → Fr h₀' L h' m → News h₀' L h' news' → Below A₀ base outer h₀' → Q v { s with heap := h', toks := tk' }) :
    wpAny (model PySem.Challenge.rw_xw0154_01.row.prog w) (ktrTop dp un gd cn cs L a ccd cl outer) (call (.ref f) vs) Q E s := C _ _ _ _ _ _ _ _ _ _ _ _ _ _ _ _ _ _ _ _ _ _ B F X N T XB TB hk hd hu ret
theorem ctrT_gen {w : World} {f : Addr} {vs : List Value} {need : Nat} {news : List (Addr × Obj)} {Ret : Value → List (Addr × Obj) → Prop} (C : CtrT w f vs need news Ret) {p : Program} {loose : List Str} {mean : ExcName → Option Value} {mg mb : Str → Option Value}
    {dp un : Nat} {gd : Option (List Code)} {cn : Str} {cs : Scope} {a : Addr} {ccd : Value} {cl : List (Str × Addr)} {outer : List Env} {A₀ : Around} {base h₀ : Heap} {L : Addr} {m : Str → Option Value} {s : Shared} {Q E : Value → Shared → Prop}
    (B : Below A₀ base outer h₀) (F : Fr h₀ L s.heap m) (X : (hd.heap_39 w.params).In h₀) (N : News h₀ L s.heap news) (T : Top p loose mean mg mb h₀) (XB : (hd.heap_39 w.params).In base) (TB : Top p loose mean mg mb base) (hk : cs.kind = .function) (hd : dp + need < recursionLimit) (hu : un + 8 * need < cLine)
    (ret : ∀ Q3 : Value → Shared → Prop, (∀ v s2, Q v s2 → Q3 v s2) → ∀ v news' h' tk' h₀', Ret v news' → KtsTurn (frs outer) h₀ h₀' → Fr h₀' L h' m → News h₀' L h' news' → Below A₀ base outer h₀' → Q3 v { s with heap := h', toks := tk' }) :
    wpAny (model PySem.Challenge.rw_xw0154_01.row.prog w) (ktrTop dp un gd cn cs L a ccd cl outer) (call (.ref f) vs) Q E s := C _ _ _ _ _ _ _ _ _ _ _ _ _ _ _ _ _ _ _ _ _ _ B F X N T XB TB hk hd hu (ret Q fun _ _ h => h)
theorem leaveT_ {A₀ : Around} {base : Heap} {outer : List Env} {env : Env} {h₀ g g' : Heap} {L L' : Addr} {m m' : Str → Option Value} {news' : List (Addr × Obj)} {R : Result → Shared → Prop} {v : Value} {s' : Shared} (T : KtsTurn (frs (env :: outer)) g g') (F' : Fr g' L' s'.heap m') (N' : News g' L' s'.heap news')
    (k : ∀ h₀', KtsTurn (frs outer) h₀ h₀' → Fr h₀' L s'.heap m → News h₀' L s'.heap news' → Below A₀ base outer h₀' → R (.ok (.ret v)) s') : LeaveT A₀ base outer env h₀ L m g R v s' := ⟨g', L', m', news', T, F', N', k⟩
end

/- part H3 -/
section
open PySem PySem.W PyProof.Rows PySem.Calls PySem.Spec
set_option maxRecDepth 100000
set_option maxHeartbeats 4000000

section
variable {prog : Program} {w : World} {A : Around} {E : Value → Shared → Prop} {s : Shared} {e : Addr} {oe : Obj} {od : Option Obj} {name : Str} {v : Value}

theorem check_gaX {M : Model} {nameV : Value} {Q : Unit → Shared → Prop} (X : (hd.heap_39 w.params).In s.heap) (I : W.InstAt s.heap e oe 45 od) (hq : Q () s) :
    wpAny M A (checkBuiltinCall "BaseException.__getattribute__" ⟨[.ref e, nameV], []⟩) Q E s := by
  have hk : builtinKind "BaseException.__getattribute__" = some .slot := by decide +kernel
  have hsplit : splitId "BaseException.__getattribute__" = some ("BaseException", "__getattribute__") := by decide +kernel
  obtain ⟨nm, q, N', bs, hdct, sn, sub, ab, col, dd, k0, k1, k2, k3, k5, hC⟩ := cls45 X
  have hcB := ref_type (C := 45) tailed45.hasBase
  have ha := PySem.F.args_bexc_ga (.ref e) nameV
  have hx := I.at_
  have hc := I.cls
  obtain ⟨hp, g, d, tk, os⟩ := s
  simp only [checkBuiltinCall, hk, hsplit]
  refine wpAny_bind ?_
  · unfold isInstance
    repeat (first | (with_reducible refine wpAny_loadPart_at hx ?_; rw [hc]) | (with_reducible refine wpAny_isSubtype_exc hC ?_; rw [hcB]) | wp_step)
    exact hq

theorem entry_gaX {tk : Tok} {Q : Fin → Shared → Prop} (X : (hd.heap_39 w.params).In s.heap) (I : W.InstAt s.heap e oe 45 od) (hf : findObj (hd.heap_39 w.params) 45 od name = some (.value v)) (hq : Q (.done (.ret v)) s) :
    wpAny (model prog w) A (Builtin.«object.__getattribute__» ⟨[.ref e, .str name tk], []⟩) Q E s := by
  have L0 := I.type (M := model prog w)
  have L1 := looks_find (M := model prog w) X I hf
  obtain ⟨hp, g, d, t, os⟩ := s
  unfold Builtin.«object.__getattribute__»
  refine wpAny_bind (wpAny_pure (wpAny_bind (wpAny_pure (wpAny_bind (L0.at (wpAny_bind (L1.at ?_)))))))
  exact wpAny_pure hq

theorem call_gaX {tk : Tok} {R : Result → Shared → Prop} (X : (hd.heap_39 w.params).In s.heap) (I : W.InstAt s.heap e oe 45 od) (hf : findObj (hd.heap_39 w.params) 45 od name = some (.value v)) (hq : R (.ok (.ret v)) s) :
    codeAny (model prog w) A (.call (.builtin "BaseException.__getattribute__") ⟨[.ref e, .str name tk], []⟩) R s :=
  codeAny_call_builtin PySem.F.attr_Exception.ga.plain PySem.F.entry_bexc_ga (check_gaX X I (entry_gaX X I hf hq))

theorem get_exc {expr : Bool} {Q : Value → Shared → Prop} (X : (hd.heap_39 w.params).In s.heap) (I : W.InstAt s.heap e oe 45 od) (hf : findObj (hd.heap_39 w.params) 45 od name = some (.value v)) (hv : handedIn v = true) (hq : Q v { s with toks := s.toks + 1 }) :
    wpAny (model prog w) A (getAttr (.ref e) name expr) Q E s := by
  have L0 := I.type (M := model prog w)
  have L1 := looks_findIn (M := model prog w) X (show findIn (hd.heap_39 w.params) (.ref 45) "__getattribute__" = some (some (.builtin "BaseException.__getattribute__")) by k_is)
  have L2 := looks_findIn (M := model prog w) X (show findIn (hd.heap_39 w.params) (.ref 45) "__getattr__" = some none by k_is)
  have f3 := PySem.F.attr_Exception.ga.bind (.ref e)
  have hx0 : (expr && onTheHeap (Value.builtin "BaseException.__getattribute__")) = false := by cases expr <;> rfl
  have hx2 : (Value.builtin "BaseException.__getattribute__" == Value.builtin "object.__getattribute__") = false := by decide +kernel
  have hx1 : (onTheHeap (Value.ref 45) && Value.builtin "BaseException.__getattribute__" == Value.builtin "object.__getattribute__") = false := by rw [hx2]; rfl
  obtain ⟨hp, g, d, t, os⟩ := s
  unfold getAttr getAttrBy
  refine wpAny_bind (wpAny_mkText (wpAny_holding (wpAny_bind (L0.at (wpAny_bind (L1.at ?_))))))
  dsimp only
  rw [hx1]
  unfold getAttrByItsOwn
  refine wpAny_bind ?_
  show wpAny _ _ (typeLookup (.ref 45) _) _ _ _
  refine L2.at ?_
  repeat (any_goals (first | assumption | wp_step))
  refine call_gaX (s := ⟨hp, g, d, t + 1, os⟩) X I hf ?_
  repeat (any_goals (first | assumption | wp_step))
  show wpAny _ _ (handedOut v) _ _ _
  rw [handedOut_of hv]
  exact wpAny_pure hq
end
end

/- part H2 -/
section
open PySem PySem.W PyProof.Rows PySem.Calls PySem.Spec
set_option maxRecDepth 100000
set_option maxHeartbeats 4000000

noncomputable abbrev tup1 (v : Value) : Obj := { cls := .type "tuple", data := .seq #[v] 0 }

theorem News.drop3 {h₀ h : Heap} {L : Addr} {p1 p2 p3 : Addr × Obj} {r : List (Addr × Obj)} (N : News h₀ L h (p1 :: p2 :: p3 :: r)) : News h₀ L h (p1 :: r) := News.sub N (sbK (sbT (sbT sbR)))

theorem heard_C (w : World) (f : Addr) (need : Nat) (news : List (Addr × Obj)) (Ret : Value → List (Addr × Obj) → Prop) (Bad : Int → Prop) (C : CtrR w f [] need news Ret MSG Bad) (oc : Value) (od : Option Addr) (fd : FuncData) (sl : Array (Option Value)) (hfn : (f, (⟨oc, od, .func fd, sl⟩ : Obj)) ∈ news) :
    CtrT w 110 [.ref f] (need + 2) news (fun v news' => (∃ v₁ news₁ D, Ret v₁ news₁ ∧ v = .ref D ∧ (∀ p ∈ news₁, p.1 < D) ∧ news' = (D, tup1 v₁) :: news₁) ∨
      (∃ k D u t c, Bad k ∧ v = .ref D ∧ (∀ p ∈ news, p.1 < D) ∧ news' = (D, W.listOf #[.str MSG u, .int k t] c) :: news)) := by
  intro p loose mean mg mb dp un gd cn cs a ccd cl outer A₀ base h₀ L m s Q E B F X N T XB TB hkd hdp hun hret
  w_on
  k_with_none
  refine wpAny_call ?_
  k_dflt (refine' code_defT ?k1 ?k2 ?k3 ?k4 ?k5 ?kA ?kF ?kK ?k6 ?k7 ?k8 ?k9 ?kB ?_ ?c2 ?c3 ?c4 ?c5; (case kA => exact rfl); (case kF => exact rfl); (case kK => assumption); (case k1 => k_asm); (case k2 => k_asm); (case k3 => k_asm); (case k4 => k_asm); (case k5 => k_asm); (case k6 => k_is); (case k7 => k_is); (case k8 => ktr_room); (case k9 => exact BindsTo.of_eq rfl); (case c5 => decide); (case kB => exact locs rfl); (case c2 => exact rfl); (case c3 => exact rfl); (case c4 => exact rfl); k_whole; intro g' L' h' FG' F' N' B' X' T' l1; (try dsimp only); (try k_lift B'); (try k_fold))
  (repeat' ((fail_if_success (with_reducible show wpAny _ _ (exec (Stmt.While _ _ _ _) _) _ _ _)); (fail_if_success (with_reducible show wpAny _ _ (exec (Stmt.Raise _ _ _) _) _ _ _)); (fail_if_success (with_reducible show wpAny _ _ (call (Value.ref _) _) _ _ _)); first | (k_unfold; (try dsimp only)) | (k_end; wrow_close) | walk1 | (dsimp only; walk1) | (leave1; (try dsimp only))))
  (rename Fr _ _ _ _ => F1)
  (rename News _ _ _ _ => N1)
  (rename Below _ _ _ _ => B1)
  (rename Frag.In _ _ => X1)
  (rename Top _ _ _ _ _ _ => T1)
  refine callWith_F0 (FnAt.of N1 hfn) ?_
  refine ctrR_use C B1 F1 X1 N1 T1 rfl ?_ ?_ ?_ ?_
  · exact rmD hdp rfl (by omega)
  · exact rmU hun rfl (by omega)
  · rintro v news' h3 tk3 hv F3 N3
    clear F1 N1
    (repeat' ((fail_if_success (with_reducible show wpAny _ _ (exec (Stmt.While _ _ _ _) _) _ _ _)); (fail_if_success (with_reducible show wpAny _ _ (exec (Stmt.Raise _ _ _) _) _ _ _)); (fail_if_success (with_reducible show wpAny _ _ (call (Value.ref _) _) _ _ _)); first | (k_unfold; (try dsimp only)) | (k_end; wrow_close) | walk1 | (dsimp only; walk1) | (leave1; (try dsimp only))))
    dsimp only
    rename Fr _ _ _ _ => F4
    rename News _ _ _ _ => N4
    rename ∀ (p : Addr × Obj), p ∈ news' → _ => l4
    refine leaveT_ KtsTurn.refl F4 N4 fun h₀' T0 F0 N0 B0 => ?_
    exact hret _ _ _ _ _ (.inl ⟨_, _, _, hv, rfl, l4, rfl⟩) T0 F0 N0 B0
  · rintro b e d t1 u1 t2 t3 g2 h3 tk3 hb F3 U3 R3
    (try k_unfold)
    dsimp only
    refine caughtX R3 F3 B1 U3 XB TB (by k_is) fun h4 g4 oe vs tk4 T4 oc od dt F4 N4 B4 X4 P4 => ?_
    obtain ⟨_, _, _, sl4⟩ := oe
    dsimp only at oc od dt
    subst oc od dt
    have I4 : W.InstAt h4 e _ 45 (some (faultD w MSG b t1 u1 t2 t3)) := ⟨(N4 _ (.head _)).1, rfl, rfl, (N4 _ (.tail _ (.head _))).1⟩
    clear F1 N1 F3 B1 X1 T1
    (repeat' ((fail_if_success (with_reducible show wpAny _ _ (exec (Stmt.While _ _ _ _) _) _ _ _)); (fail_if_success (with_reducible show wpAny _ _ (exec (Stmt.Raise _ _ _) _) _ _ _)); (fail_if_success (with_reducible show wpAny _ _ (call (Value.ref _) _) _ _ _)); first | (k_unfold; (try dsimp only)) | (k_end; wrow_close) | walk1 | (dsimp only; walk1) | (leave1; (try dsimp only))))
    refine get_exc (X4.keeps F4.keep) I4 (findObj_own (attr := none) (by k_is) (by k_is) rfl rfl) (by k_handed) ?_
    (repeat' ((fail_if_success (with_reducible show wpAny _ _ (exec (Stmt.While _ _ _ _) _) _ _ _)); (fail_if_success (with_reducible show wpAny _ _ (exec (Stmt.Raise _ _ _) _) _ _ _)); (fail_if_success (with_reducible show wpAny _ _ (call (Value.ref _) _) _ _ _)); first | (k_unfold; (try dsimp only)) | (k_end; wrow_close) | walk1 | (dsimp only; walk1) | (leave1; (try dsimp only))))
    refine get_exc (X4.keeps F4.keep) I4 (findObj_own (attr := none) (by k_is) (by k_is) rfl rfl) (by k_handed) ?_
    (repeat' ((fail_if_success (with_reducible show wpAny _ _ (exec (Stmt.While _ _ _ _) _) _ _ _)); (fail_if_success (with_reducible show wpAny _ _ (exec (Stmt.Raise _ _ _) _) _ _ _)); (fail_if_success (with_reducible show wpAny _ _ (call (Value.ref _) _) _ _ _)); first | (k_unfold; (try dsimp only)) | (k_end; wrow_close) | walk1 | (dsimp only; walk1) | (leave1; (try dsimp only))))
    rename Fr _ _ _ _ => F5
    rename News _ _ _ _ => N5
    rename _ ∧ _ ∧ AllLt _ news => l4
    refine leaveT_ T4 F5 (News.drop3 N5) fun h₀' T0 F0 N0 B0 => ?_
    exact hret _ _ _ _ _ (.inr ⟨b, _, _, _, _, hb, rfl, allLt_mem l4.2.2, rfl⟩) T0 F0 N0 B0
end

/- part U0 -/
section
open PySem PySem.W PyProof.Rows PySem.Calls PySem.Spec
set_option maxRecDepth 100000
set_option maxHeartbeats 4000000

section
variable {w : World} {f : Addr} {vs : List Value} {need : Nat} {news : List (Addr × Obj)} {Ret : Value → List (Addr × Obj) → Prop} {p : Program} {loose : List Str} {mean : ExcName → Option Value} {mg mb : Str → Option Value}
    {dp un : Nat} {gd : Option (List Code)} {cn : Str} {cs : Scope} {a : Addr} {ccd : Value} {cl : List (Str × Addr)} {outer : List Env} {A₀ : Around} {base h₀ : Heap} {L : Addr} {m : Str → Option Value} {s : Shared} {Q E : Value → Shared → Prop}
theorem use_int {n : Int} (C : Ctr w f vs need news (fun v news' => (∃ t, v = .int n t) ∧ news' = news))
    (ret : ∀ t h' tk', Fr h₀ L h' m → News h₀ L h' news → Q (.int n t) { s with heap := h', toks := tk' })
    (F : Fr h₀ L s.heap m := by assumption) (N : News h₀ L s.heap news := by assumption) (B : Below A₀ base outer h₀ := by assumption) (X : (hd.heap_39 w.params).In h₀ := by assumption) (T : Top p loose mean mg mb h₀ := by assumption)
    (hk : cs.kind = .function := by rfl) (hd : dp + need < recursionLimit := by exact rmD (by assumption)) (hu : un + 8 * need < cLine := by exact rmU (by assumption)) :
    wpAny (model PySem.Challenge.rw_xw0154_01.row.prog w) (ktrTop dp un gd cn cs L a ccd cl outer) (call (.ref f) vs) Q E s :=
  ctr_use C B F X N T hk hd hu fun v news' h' tk' ⟨⟨t, e1⟩, e2⟩ F' N' => by subst e1 e2; exact ret t h' tk' F' N'
theorem use_tup {b n : Int} (C : Ctr w f vs need news (fun v news' => ∃ D ta tb, v = .ref D ∧ (∀ p ∈ news, p.1 ≠ D) ∧ news' = (D, tup2 b n ta tb) :: news))
    (ret : ∀ D ta tb h' tk', (∀ p ∈ news, p.1 ≠ D) → Fr h₀ L h' m → News h₀ L h' ((D, tup2 b n ta tb) :: news) → Q (.ref D) { s with heap := h', toks := tk' })
    (F : Fr h₀ L s.heap m := by assumption) (N : News h₀ L s.heap news := by assumption) (B : Below A₀ base outer h₀ := by assumption) (X : (hd.heap_39 w.params).In h₀ := by assumption) (T : Top p loose mean mg mb h₀ := by assumption)
    (hk : cs.kind = .function := by rfl) (hd : dp + need < recursionLimit := by exact rmD (by assumption)) (hu : un + 8 * need < cLine := by exact rmU (by assumption)) :
    wpAny (model PySem.Challenge.rw_xw0154_01.row.prog w) (ktrTop dp un gd cn cs L a ccd cl outer) (call (.ref f) vs) Q E s :=
  ctr_use C B F X N T hk hd hu fun v news' h' tk' ⟨D, ta, tb, e1, e3, e2⟩ F' N' => by subst e1 e2; exact ret D ta tb h' tk' e3 F' N'
end

theorem run_V (w : World) (x y : Str) (k n : Int) (ux uy uk : Tok) (news : List (Addr × Obj)) (e : runEnd x y k = n) (hx : x.length ≤ 1000) (hk0 : 0 ≤ k) (hk : k ≤ x.length) :
    Ctr w 54 [.str x ux, .int k uk, .str y uy] 1 news (fun v news' => (∃ t, v = .int n t) ∧ news' = news) := by subst e; exact run_end_C w x y k ux uy uk hx hk0 hk news
theorem worth_V (w : World) (x : Str) (n : Int) (ux : Tok) (news : List (Addr × Obj)) (e : worth x = n) (hx : x.length ≤ 2) :
    Ctr w 75 [.str x ux] 4 news (fun v news' => (∃ t, v = .int n t) ∧ news' = news) := by subst e; exact worth_C w x ux hx news
theorem ctr_ofR {w : World} {f : Addr} {vs : List Value} {need : Nat} {news : List (Addr × Obj)} {Ret Ret' : Value → List (Addr × Obj) → Prop} {msg : Str} {Bad : Int → Prop} (C : CtrR w f vs need news Ret msg Bad) (hB : ∀ k, ¬ Bad k) (hR : ∀ v n, Ret v n → Ret' v n) : Ctr w f vs need news Ret' := by
  intro p loose mean mg mb dp un gd cn cs a0 ccd cl outer A₀ base h₀ L m s Q E B F X N T hkd hdp hun hret
  exact C p loose mean mg mb dp un gd cn cs a0 ccd cl outer A₀ base h₀ L m s Q E B F X N T hkd hdp hun (fun v news' h' tk' h => hret v news' h' tk' (hR _ _ h)) fun k _ _ _ _ _ _ _ _ _ hk => absurd hk (hB k)
theorem remark_V (w : World) (x : Str) (k n : Int) (ux uk : Tok) (news : List (Addr × Obj)) (e : remFrom x 0 k = some n) (hx : x.length ≤ 1000) (hk0 : 0 ≤ k) (hk : k ≤ x.length) :
    Ctr w 61 [.str x ux, .int k uk] 4 news (fun v news' => (∃ t, v = .int n t) ∧ news' = news) := by
  refine ctr_ofR (remark_end_C w x k ux uk hx hk0 hk news) ?_ ?_
  · intro b h
    rw [e] at h
    first | exact nomatch h.1 | cases h
  · rintro v n' ⟨⟨n₂, t, h1, rfl⟩, h2⟩
    rw [e] at h1; cases h1
    exact ⟨⟨t, rfl⟩, h2⟩
theorem blank_V (w : World) (x : Str) (k n : Int) (ux uk : Tok) (news : List (Addr × Obj)) (e : blankAt x k = .inl n) (hx : x.length ≤ 1000) (hk0 : 0 ≤ k) (hk : k ≤ x.length) :
    Ctr w 68 [.str x ux, .int k uk] 5 news (fun v news' => (∃ t, v = .int n t) ∧ news' = news) := by
  refine ctr_ofR (blank_end_C w x k ux uk hx hk0 hk news) ?_ ?_
  · intro b h
    rw [e] at h
    first | exact nomatch h.1 | cases h
  · rintro v n' ⟨⟨n₂, t, h1, rfl⟩, h2⟩
    rw [e] at h1; cases h1
    exact ⟨⟨t, rfl⟩, h2⟩
theorem base_V (w : World) (x : Str) (k b n : Int) (ux uk : Tok) (news : List (Addr × Obj)) (e : (match markOf (Txt.slice x (some k) (some (k + 2))) with | some b => (b, k + 2) | none => (10, k)) = (b, n)) (hx : x.length ≤ 20) (h0 : 0 ≤ k) (h1 : k ≤ x.length) :
    Ctr w 82 [.str x ux, .int k uk] 4 news (fun v news' => ∃ D ta tb, v = .ref D ∧ (∀ p ∈ news, p.1 ≠ D) ∧ news' = (D, tup2 b n ta tb) :: news) := by
  intro p loose mean mg mb dp un gd cn cs a ccd cl outer A₀ base h₀ L m s Q E B F X N T hkd hdp hun hret
  refine base_C w x ux k uk hx h0 h1 news p loose mean mg mb dp un gd cn cs a ccd cl outer A₀ base h₀ L m s Q E B F X N T hkd hdp hun ?_
  rintro v news' h' tk' ⟨D, ta, tb, rfl, hne, e2⟩ F' N'
  refine hret _ _ _ _ ⟨D, ta, tb, rfl, hne, ?_⟩ F' N'
  rw [e2]
  split at e <;> simp_all
end

/- part V0 -/
section
open PySem PySem.W PyProof.Rows PySem.Calls PySem.Spec
set_option maxRecDepth 100000
theorem worth_F : worth (Str.ofString "F") = 15 := by decide +kernel
theorem worth_f : worth (Str.ofString "f") = 15 := by decide +kernel
theorem worth_0 : worth (Str.ofString "0") = 0 := by decide +kernel
theorem worth_g : worth (Str.ofString "g") = 99 := by decide +kernel
theorem worth__ : worth (Str.ofString "_") = 99 := by decide +kernel
theorem worth_low : ∀ i : Fin 16, worth (Txt.item (Str.ofString "0123456789abcdef") (i.val : Int)) = (i.val : Int) := by decide +kernel
theorem worth_up : ∀ i : Fin 6, worth (Txt.item (Str.ofString "ABCDEF") (i.val : Int)) = (i.val : Int) + 10 := by decide +kernel
end

/- part W0 -/
section
open PySem PySem.W PyProof.Rows PySem.Calls PySem.Spec
set_option maxRecDepth 100000
set_option maxHeartbeats 4000000

noncomputable def fnBody (K : Frag) (f : Addr) : List Stmt := match K.lookup f with
  | some ⟨_, _, .func fd, _⟩ => (match fd.body with | .stmts b => b | _ => [])
  | _ => []
noncomputable def fnScope (K : Frag) (f : Addr) : Scope := match K.lookup f with
  | some ⟨_, _, .func fd, _⟩ => fd.scope
  | _ => default

theorem news_drop {h₀ h : Heap} {L : Addr} {l : List (Addr × Obj)} (k n : Nat) (N : News h₀ L h l) : News h₀ L h (l.take k ++ l.drop (k + n)) := fun p hp => by
  rcases List.mem_append.mp hp with hp | hp
  · exact N p (List.mem_of_mem_take hp)
  · exact N p (List.mem_of_mem_drop hp)

/-- a contract as CtrT, of a def that asks something of the ground -/
noncomputable abbrev CtrH (Hyp : Heap → Prop) (w : World) (f : Addr) (vs : List Value) (need : Nat) (news : List (Addr × Obj)) (Ret : Value → List (Addr × Obj) → Prop) : Prop :=
  ∀ (p : Program) (loose : List Str) (mean : ExcName → Option Value) (mg mb : Str → Option Value)
    (dp un : Nat) (gd : Option (List Code)) (cn : Str) (cs : Scope) (a : Addr) (ccd : Value) (cl : List (Str × Addr)) (outer : List Env) (A₀ : Around) (base h₀ : Heap) (L : Addr) (m : Str → Option Value) (s : Shared) (Q E : Value → Shared → Prop),
    Hyp base → Below A₀ base outer h₀ → Fr h₀ L s.heap m → (hd.heap_39 w.params).In h₀ → News h₀ L s.heap news → Top p loose mean mg mb h₀ → (hd.heap_39 w.params).In base → Top p loose mean mg mb base → cs.kind = .function →
    dp + need < recursionLimit → un + 8 * need < cLine →
    (∀ v news' h' tk' h₀', Ret v news' → KtsTurn (frs outer) h₀ h₀' → Fr h₀' L h' m → News h₀' L h' news' → Below A₀ base outer h₀' → Q v { s with heap := h', toks := tk' }) →
    wpAny (model PySem.Challenge.rw_xw0154_01.row.prog w) (ktrTop dp un gd cn cs L a ccd cl outer) (call (.ref f) vs) Q E s

theorem unended_C (w : World) (k : Int) (uk : Tok) (news : List (Addr × Obj)) :
    Ctr w 117 [.int k uk] 1 news (fun v news' => ∃ D t1 c, v = .ref D ∧ (∀ p ∈ news, p.1 < D) ∧ news' = (D, W.listOf #[.str MSG t1, .int k uk] c) :: news) := by
  intro p loose mean mg mb dp un gd cn cs a ccd cl outer A₀ base h₀ L m s Q E B F X N T hkd hdp hun hret
  w_on
  k_with_none
  refine wpAny_call ?_
  k_dflt cell_enter
  refine gen_T fun tkE => ?_
  k_steps
  rename Fr h₀ L _ m => kF
  rename News h₀ L _ _ => kN
  rename ∀ (p : Addr × Obj), p ∈ news → _ => l9
  exact hret _ _ _ _ ⟨_, _, _, rfl, l9, rfl⟩ kF kN
end

/- part M1 -/
section
open PySem PySem.W PyProof.Rows PySem.Calls PySem.Spec
set_option maxRecDepth 100000
set_option maxHeartbeats 4000000

noncomputable def TellsL (arr : Array Value) : Prop := ∀ (i : Nat) (v : Value), arr[i]? = some v → ∃ x t, v = Value.str x t ∧ worth x = ([15, 15, 0, 99, 99] : List Int).getD i 0 ∧ x.length ≤ 2
theorem tells5 (t1 t2 t3 t4 t5 : Tok) : TellsL #[Value.str (Str.ofString "F") t1, Value.str (Str.ofString "f") t2, Value.str (Str.ofString "0") t3, Value.str (Str.ofString "g") t4, Value.str (Str.ofString "_") t5] := by
  intro i v h
  match i, h with
  | 0, h => exact ⟨_, _, (Option.some.inj h).symm, worth_F, by decide⟩
  | 1, h => exact ⟨_, _, (Option.some.inj h).symm, worth_f, by decide⟩
  | 2, h => exact ⟨_, _, (Option.some.inj h).symm, worth_0, by decide⟩
  | 3, h => exact ⟨_, _, (Option.some.inj h).symm, worth_g, by decide⟩
  | 4, h => exact ⟨_, _, (Option.some.inj h).symm, worth__, by decide⟩
  | k + 5, h => simp at h
theorem take_step : ∀ (i : Nat), i < 5 → ([15, 15, 0, 99, 99] : List Int).take (i + 1) = ([15, 15, 0, 99, 99] : List Int).take i ++ [([15, 15, 0, 99, 99] : List Int).getD i 0] := by decide
theorem ints1 {ys : List Value} {a : Int} {r : List Int} (h : IntsAre ys (a :: r)) : ∃ t ys', ys = Value.int a t :: ys' ∧ IntsAre ys' r := by
  cases h with
  | cons _ t h => exact ⟨t, _, rfl, h⟩
theorem ints0 {ys : List Value} (h : IntsAre ys []) : ys = [] := by cases h; rfl
theorem ints5 {ys : List Value} {a b c d e : Int} (h : IntsAre ys [a, b, c, d, e]) : ∃ t1 t2 t3 t4 t5, ys = [Value.int a t1, Value.int b t2, Value.int c t3, Value.int d t4, Value.int e t5] :=
  let ⟨t1, _, e1, h1⟩ := ints1 h
  let ⟨t2, _, e2, h2⟩ := ints1 h1
  let ⟨t3, _, e3, h3⟩ := ints1 h2
  let ⟨t4, _, e4, h4⟩ := ints1 h3
  let ⟨t5, _, e5, h5⟩ := ints1 h4
  ⟨t1, t2, t3, t4, t5, by rw [e1, e2, e3, e4, e5, ints0 h5]⟩

section
variable {w : World} {rest : List (Addr × Obj)} {ps : Array Value} {p : Program} {loose : List Str} {mean : ExcName → Option Value} {mg mb : Str → Option Value}
    {dp un : Nat} {gd : Option (List Code)} {cn : Str} {cs : Scope} {a : Addr} {ccd : Value} {cl : List (Str × Addr)} {outer : List Env} {base g : Heap} {L L' : Addr} {m' : Str → Option Value} {s : Shared} {Q : Flow → Shared → Prop} {E : Value → Shared → Prop}
set_option linter.unusedVariables false
theorem told_tail (B' : Below (ktrTop dp un gd cn cs L a ccd cl outer) base (envX cn cs L a ccd cl :: outer) g) (F' : Fr g L' s.heap m') (N' : News g L' s.heap ((119, tabObj ps) :: rest))
    (X' : (hd.heap_39 w.params).In g) (T' : Top p loose mean mg mb g) (hdp : dp + 20 < recursionLimit) (hun : un + 8 * 20 < cLine)
    (ret : ∀ h' tk', Fr g L' h' m' → News g L' h' ((119, tabObj ps) :: rest) → Q (.ret (.bool true)) { s with heap := h', toks := tk' }) :
    wpAny (model PySem.Challenge.rw_xw0154_01.row.prog w) ((ktrTop dp un gd cn cs L a ccd cl outer).deeper (envOf (Str.ofString "_law_told_right") (fnScope (hd.heap_39 w.params) 122) L' 122 (.ref 121)))
      (execs ((fnBody (hd.heap_39 w.params) 122).drop 7) (envOf (Str.ofString "_law_told_right") (fnScope (hd.heap_39 w.params) 122) L' 122 (.ref 121))) Q E s := by
  obtain ⟨sc, hsc⟩ : ∃ sc, sc = fnScope (hd.heap_39 w.params) 122 := ⟨_, rfl⟩
  obtain ⟨bd, hbd⟩ : ∃ bd, bd = (fnBody (hd.heap_39 w.params) 122).drop 7 := ⟨_, rfl⟩
  rw [← hsc, ← hbd]
  conv at hsc => rhs; whnf
  conv at hbd => rhs; whnf
  subst hsc hbd
  w_on
  k_with_none
  walk1
  (repeat' ((fail_if_success (with_reducible show wpAny _ _ (exec (Stmt.While _ _ _ _) _) _ _ _)); (fail_if_success (with_reducible show wpAny _ _ (exec (Stmt.Raise _ _ _) _) _ _ _)); (fail_if_success (with_reducible show wpAny _ _ (call (Value.ref _) _) _ _ _)); (fail_if_success (with_reducible show LCg.CompSrc _ _ _ _ _ _ _ _ _ _ _ _ _ _)); (fail_if_success (with_reducible show wpAny _ _ (eval (Expr.ListComp _ _ _ _) _) _ _ _)); (fail_if_success (with_reducible show wpAny _ _ (execs [_, _, _] _) _ _ _)); (fail_if_success (with_reducible show wpAny _ _ (execs [_, _, _, _, _, _, _] _) _ _ _)); first | (with_reducible refine gen_st ?_; intro _ _ _) | (with_reducible refine gen_nx (by with_reducible assumption) ?_) | (with_reducible refine gen_rt (by with_reducible assumption) ?_) | (k_unfold; (try dsimp only)) | (k_end; wrow_close) | walk1 | (dsimp only; walk1) | (leave1; (try dsimp only))))
  k_dflt (refine LCg.ListComp_U (F₀ := by k_asm) (by with_unfolding_all rfl) (by decide) (by rfl) (by decide) (by rfl) ?_)
  (repeat' ((fail_if_success (with_reducible show wpAny _ _ (exec (Stmt.While _ _ _ _) _) _ _ _)); (fail_if_success (with_reducible show wpAny _ _ (exec (Stmt.Raise _ _ _) _) _ _ _)); (fail_if_success (with_reducible show wpAny _ _ (call (Value.ref _) _) _ _ _)); (fail_if_success (with_reducible show LCg.CompSrc _ _ _ _ _ _ _ _ _ _ _ _ _ _)); (fail_if_success (with_reducible show wpAny _ _ (eval (Expr.ListComp _ _ _ _) _) _ _ _)); (fail_if_success (with_reducible show wpAny _ _ (execs [_, _, _] _) _ _ _)); (fail_if_success (with_reducible show wpAny _ _ (execs [_, _, _, _, _, _, _] _) _ _ _)); first | (with_reducible refine gen_st ?_; intro _ _ _) | (with_reducible refine gen_nx (by with_reducible assumption) ?_) | (with_reducible refine gen_rt (by with_reducible assumption) ?_) | (k_unfold; (try dsimp only)) | (k_end; wrow_close) | walk1 | (dsimp only; walk1) | (leave1; (try dsimp only))))
  rename_i ls hs F15 N15 ls1
  refine gen_goal fun P hP => ?_
  obtain ⟨arr, N16, harr, hsz⟩ : ∃ arr : Array Value, News g L' hs ((ls, W.listOf arr 0) :: (119, tabObj ps) :: rest) ∧ TellsL arr ∧ arr.size = 5 := ⟨_, N15, tells5 _ _ _ _ _, rfl⟩
  refine hP ?_
  clear hP P N15
  refine LCg.CompSrc.ledger rfl F15 N16 (.head _) (by rw [hsz]; exact Nat.le_of_ble_eq_true rfl) ?_
  intro g2
  refine compRest_inv (fun i ys news => IntsAre ys (([15, 15, 0, 99, 99] : List Int).take i) ∧ news = (ls, W.listOf arr 0) :: (119, tabObj ps) :: rest) ?st ?fn _ 0 [] _ (Nat.zero_add _) ⟨.nil, rfl⟩
  case st =>
    rintro i ys news v I oI C oC D m₂ h tk E' hi hJ hv hC hx F5 N5 off3 ne
    refine gen_goal fun P hP => ?_
    obtain ⟨hys, e⟩ := hJ
    subst e
    obtain ⟨x, t, e, hw, hxl⟩ := harr i v hv
    subst e
    refine hP ?_
    clear hP P F15 N16
    dsimp only
    (repeat' ((fail_if_success (with_reducible show wpAny _ _ (exec (Stmt.While _ _ _ _) _) _ _ _)); (fail_if_success (with_reducible show wpAny _ _ (exec (Stmt.Raise _ _ _) _) _ _ _)); (fail_if_success (with_reducible show wpAny _ _ (call (Value.ref _) _) _ _ _)); (fail_if_success (with_reducible show LCg.CompSrc _ _ _ _ _ _ _ _ _ _ _ _ _ _)); (fail_if_success (with_reducible show wpAny _ _ (eval (Expr.ListComp _ _ _ _) _) _ _ _)); (fail_if_success (with_reducible show wpAny _ _ (execs [_, _, _] _) _ _ _)); (fail_if_success (with_reducible show wpAny _ _ (execs [_, _, _, _, _, _, _] _) _ _ _)); first | (with_reducible refine gen_st ?_; intro _ _ _) | (with_reducible refine gen_nx (by with_reducible assumption) ?_) | (with_reducible refine gen_rt (by with_reducible assumption) ?_) | (k_unfold; (try dsimp only)) | (k_end; wrow_close) | walk1 | (dsimp only; walk1) | (leave1; (try dsimp only))))
    refine use_int (worth_V w x _ _ _ hw hxl) fun t3 h3 k3 F3 N3 => ?_
    dsimp only
    refine LCg.CompEnd.intro F3 N3 _ (fun p hp => hp) off3 (Or.inr ⟨_, .head _, rfl, _, rfl⟩) ⟨?_, rfl⟩
    rw [take_step i (hsz ▸ hi)]
    exact ints_snoc _ _ hys
  case fn =>
  intro ys news hJ D h8 tk8 F8 N8 o8
  refine gen_goal fun P hP => ?_
  obtain ⟨hys, e⟩ := hJ
  subst e
  rw [hsz] at hys
  obtain ⟨t1, t2, t3, t4, t5, e⟩ := ints5 hys
  subst e
  have N9 := News.sub N8 (l' := (D, LCg.lst [Value.int 15 t1, Value.int 15 t2, Value.int 0 t3, Value.int 99 t4, Value.int 99 t5]) :: (119, tabObj ps) :: rest) (by repeat' (first | exact sbR | refine sbK ?_ | exact .head _ | refine sbC ?_ ?_ | refine List.Mem.tail _ ?_ | refine sbT ?_))
  have oD := o8.2.1
  dsimp only at oD
  refine hP ?_
  clear hP P N8 N16 F15 o8 hys
  dsimp only
  (repeat' ((fail_if_success (with_reducible show wpAny _ _ (exec (Stmt.While _ _ _ _) _) _ _ _)); (fail_if_success (with_reducible show wpAny _ _ (exec (Stmt.Raise _ _ _) _) _ _ _)); (fail_if_success (with_reducible show wpAny _ _ (call (Value.ref _) _) _ _ _)); (fail_if_success (with_reducible show LCg.CompSrc _ _ _ _ _ _ _ _ _ _ _ _ _ _)); (fail_if_success (with_reducible show wpAny _ _ (eval (Expr.ListComp _ _ _ _) _) _ _ _)); (fail_if_success (with_reducible show wpAny _ _ (execs [_, _, _] _) _ _ _)); (fail_if_success (with_reducible show wpAny _ _ (execs [_, _, _, _, _, _, _] _) _ _ _)); first | (with_reducible refine gen_st ?_; intro _ _ _) | (with_reducible refine gen_nx (by with_reducible assumption) ?_) | (with_reducible refine gen_rt (by with_reducible assumption) ?_) | (k_unfold; (try dsimp only)) | (k_end; wrow_close) | walk1 | (dsimp only; walk1) | (leave1; (try dsimp only))))
  refine use_tup (base_V w _ _ 2 2 _ _ _ (by decide +kernel) (by decide) (by decide) (by decide)) fun D t3 t4 h3 k3 O3 F3 N3 => ?_
  dsimp only
  (repeat' ((fail_if_success (with_reducible show wpAny _ _ (exec (Stmt.While _ _ _ _) _) _ _ _)); (fail_if_success (with_reducible show wpAny _ _ (exec (Stmt.Raise _ _ _) _) _ _ _)); (fail_if_success (with_reducible show wpAny _ _ (call (Value.ref _) _) _ _ _)); (fail_if_success (with_reducible show LCg.CompSrc _ _ _ _ _ _ _ _ _ _ _ _ _ _)); (fail_if_success (with_reducible show wpAny _ _ (eval (Expr.ListComp _ _ _ _) _) _ _ _)); (fail_if_success (with_reducible show wpAny _ _ (execs [_, _, _] _) _ _ _)); (fail_if_success (with_reducible show wpAny _ _ (execs [_, _, _, _, _, _, _] _) _ _ _)); first | (with_reducible refine gen_st ?_; intro _ _ _) | (with_reducible refine gen_nx (by with_reducible assumption) ?_) | (with_reducible refine gen_rt (by with_reducible assumption) ?_) | (k_unfold; (try dsimp only)) | (k_end; wrow_close) | walk1 | (dsimp only; walk1) | (leave1; (try dsimp only))))
  refine use_tup (base_V w _ _ 16 3 _ _ _ (by decide +kernel) (by decide) (by decide) (by decide)) fun D t3 t4 h3 k3 O3 F3 N3 => ?_
  dsimp only
  (repeat' ((fail_if_success (with_reducible show wpAny _ _ (exec (Stmt.While _ _ _ _) _) _ _ _)); (fail_if_success (with_reducible show wpAny _ _ (exec (Stmt.Raise _ _ _) _) _ _ _)); (fail_if_success (with_reducible show wpAny _ _ (call (Value.ref _) _) _ _ _)); (fail_if_success (with_reducible show LCg.CompSrc _ _ _ _ _ _ _ _ _ _ _ _ _ _)); (fail_if_success (with_reducible show wpAny _ _ (eval (Expr.ListComp _ _ _ _) _) _ _ _)); (fail_if_success (with_reducible show wpAny _ _ (execs [_, _, _] _) _ _ _)); (fail_if_success (with_reducible show wpAny _ _ (execs [_, _, _, _, _, _, _] _) _ _ _)); first | (with_reducible refine gen_st ?_; intro _ _ _) | (with_reducible refine gen_nx (by with_reducible assumption) ?_) | (with_reducible refine gen_rt (by with_reducible assumption) ?_) | (k_unfold; (try dsimp only)) | (k_end; wrow_close) | walk1 | (dsimp only; walk1) | (leave1; (try dsimp only))))
  refine use_tup (base_V w _ _ 10 0 _ _ _ (by decide +kernel) (by decide) (by decide) (by decide)) fun D t3 t4 h3 k3 O3 F3 N3 => ?_
  dsimp only
  (repeat' ((fail_if_success (with_reducible show wpAny _ _ (exec (Stmt.While _ _ _ _) _) _ _ _)); (fail_if_success (with_reducible show wpAny _ _ (exec (Stmt.Raise _ _ _) _) _ _ _)); (fail_if_success (with_reducible show wpAny _ _ (call (Value.ref _) _) _ _ _)); (fail_if_success (with_reducible show LCg.CompSrc _ _ _ _ _ _ _ _ _ _ _ _ _ _)); (fail_if_success (with_reducible show wpAny _ _ (eval (Expr.ListComp _ _ _ _) _) _ _ _)); (fail_if_success (with_reducible show wpAny _ _ (execs [_, _, _] _) _ _ _)); (fail_if_success (with_reducible show wpAny _ _ (execs [_, _, _, _, _, _, _] _) _ _ _)); first | (with_reducible refine gen_st ?_; intro _ _ _) | (with_reducible refine gen_nx (by with_reducible assumption) ?_) | (with_reducible refine gen_rt (by with_reducible assumption) ?_) | (k_unfold; (try dsimp only)) | (k_end; wrow_close) | walk1 | (dsimp only; walk1) | (leave1; (try dsimp only))))
  refine use_tup (base_V w _ _ 8 2 _ _ _ (by decide +kernel) (by decide) (by decide) (by decide)) fun D t3 t4 h3 k3 O3 F3 N3 => ?_
  dsimp only
  (repeat' ((fail_if_success (with_reducible show wpAny _ _ (exec (Stmt.While _ _ _ _) _) _ _ _)); (fail_if_success (with_reducible show wpAny _ _ (exec (Stmt.Raise _ _ _) _) _ _ _)); (fail_if_success (with_reducible show wpAny _ _ (call (Value.ref _) _) _ _ _)); (fail_if_success (with_reducible show LCg.CompSrc _ _ _ _ _ _ _ _ _ _ _ _ _ _)); (fail_if_success (with_reducible show wpAny _ _ (eval (Expr.ListComp _ _ _ _) _) _ _ _)); (fail_if_success (with_reducible show wpAny _ _ (execs [_, _, _] _) _ _ _)); (fail_if_success (with_reducible show wpAny _ _ (execs [_, _, _, _, _, _, _] _) _ _ _)); first | (with_reducible refine gen_st ?_; intro _ _ _) | (with_reducible refine gen_nx (by with_reducible assumption) ?_) | (with_reducible refine gen_rt (by with_reducible assumption) ?_) | (k_unfold; (try dsimp only)) | (k_end; wrow_close) | walk1 | (dsimp only; walk1) | (leave1; (try dsimp only))))
  rename Fr g L' _ _ => kF
  rename News g L' _ _ => kN
  refine ret _ _ kF (News.sub kN ?_)
  repeat' (first | exact sbR | refine sbK ?_ | exact .head _ | refine sbC ?_ ?_ | refine List.Mem.tail _ ?_ | refine sbT ?_)

theorem told_mid (CB : CodeHd base 121 119) (off : ∀ p ∈ rest, p.1 ≠ 119) (XB : (hd.heap_39 w.params).In base) (TB : Top p loose mean mg mb base) (B' : Below (ktrTop dp un gd cn cs L a ccd cl outer) base (envX cn cs L a ccd cl :: outer) g) (F' : Fr g L' s.heap m') (N' : News g L' s.heap ((119, tabObj #[]) :: rest))
    (X' : (hd.heap_39 w.params).In g) (T' : Top p loose mean mg mb g) (hdp : dp + 20 < recursionLimit) (hun : un + 8 * 20 < cLine)
    (ret : ∀ g' h' tk' ps', KtsTurn (frs (envX cn cs L a ccd cl :: outer)) g g' → Fr g' L' h' m' → News g' L' h' ((119, tabObj ps') :: rest) → Q (.ret (.bool true)) { s with heap := h', toks := tk' }) :
    wpAny (model PySem.Challenge.rw_xw0154_01.row.prog w) ((ktrTop dp un gd cn cs L a ccd cl outer).deeper (envOf (Str.ofString "_law_told_right") (fnScope (hd.heap_39 w.params) 122) L' 122 (.ref 121)))
      (execs ((fnBody (hd.heap_39 w.params) 122).drop 3) (envOf (Str.ofString "_law_told_right") (fnScope (hd.heap_39 w.params) 122) L' 122 (.ref 121))) Q E s := by
  obtain ⟨sc, hsc⟩ : ∃ sc, sc = fnScope (hd.heap_39 w.params) 122 := ⟨_, rfl⟩
  obtain ⟨bd, hbd⟩ : ∃ bd, bd = (fnBody (hd.heap_39 w.params) 122).drop 3 := ⟨_, rfl⟩
  rw [← hsc, ← hbd]
  conv at hsc => rhs; whnf
  conv at hbd => rhs; whnf
  subst hsc hbd
  w_on
  k_with_none
  walk1
  (repeat' ((fail_if_success (with_reducible show wpAny _ _ (exec (Stmt.While _ _ _ _) _) _ _ _)); (fail_if_success (with_reducible show wpAny _ _ (exec (Stmt.Raise _ _ _) _) _ _ _)); (fail_if_success (with_reducible show wpAny _ _ (call (Value.ref _) _) _ _ _)); (fail_if_success (with_reducible show LCg.CompSrc _ _ _ _ _ _ _ _ _ _ _ _ _ _)); (fail_if_success (with_reducible show wpAny _ _ (eval (Expr.ListComp _ _ _ _) _) _ _ _)); (fail_if_success (with_reducible show wpAny _ _ (execs [_, _, _] _) _ _ _)); (fail_if_success (with_reducible show wpAny _ _ (execs [_, _, _, _, _, _, _] _) _ _ _)); first | (with_reducible refine gen_st ?_; intro _ _ _) | (with_reducible refine gen_nx (by with_reducible assumption) ?_) | (with_reducible refine gen_rt (by with_reducible assumption) ?_) | (k_unfold; (try dsimp only)) | (k_end; wrow_close) | walk1 | (dsimp only; walk1) | (leave1; (try dsimp only))))
  (rename Fr _ _ _ _ => F1)
  (rename News _ _ _ _ => N0)
  have N1 := news_drop 2 0 N0
  clear N0
  simp only [List.take_succ_cons, List.take_zero, List.drop_succ_cons, List.drop_zero, List.cons_append, List.nil_append] at N1
  (rename Below _ _ _ _ => B1)
  (rename Frag.In _ _ => X1)
  (rename Top _ _ _ _ _ _ => T1)
  refine ctrT_gen (heard_C w _ 6 _ (fun _ _ => False) (fun b => b = 0) ?C _ _ _ _ (.head _)) B1 F1 X1 N1 T1 XB TB rfl ?_ ?_ ?_
  case C =>
    intro p2 loose2 mean2 mg2 mb2 dp2 un2 gd2 cn2 cs2 a2 ccd2 cl2 outer2 A2 base2 h02 L2 m2 s2 Q2 E2 B2 F2 X2 N2 T2 hkd2 hdp2 hun2 hret2 herr2
    refine wpAny_call ?_
    k_dflt (refine' kla_code ?k1 ?k2 ?k3 ?k4 ?k5 ?kA ?kF ?kK ?k6 ?k7 ?k8 ?k9 ?kB ?_ ?c2 ?c3 ?c4 ?c5; (case kA => exact rfl); (case kF => exact rfl); (case kK => exact hkd2); (case k1 => k_asm); (case k2 => k_asm); (case k3 => k_asm); (case k4 => k_asm); (case k5 => k_asm); (case k6 => k_mem); (case k7 => exact codeRec_news (by k_asm) (by k_mem) (by assumption) (by assumption)); (case k8 => ktr_room); (case k9 => exact rfl); (case c5 => decide); (case kB => exact locs rfl); (case c2 => exact rfl); (case c3 => exact rfl); (case c4 => exact rfl); k_whole; intro g' L' h' FG' F' N' B' X' T'; (try dsimp only); (try k_lift B'); (try k_fold))
    (repeat' ((fail_if_success (with_reducible show wpAny _ _ (exec (Stmt.While _ _ _ _) _) _ _ _)); (fail_if_success (with_reducible show wpAny _ _ (exec (Stmt.Raise _ _ _) _) _ _ _)); (fail_if_success (with_reducible show wpAny _ _ (call (Value.ref _) _) _ _ _)); (fail_if_success (with_reducible show LCg.CompSrc _ _ _ _ _ _ _ _ _ _ _ _ _ _)); (fail_if_success (with_reducible show wpAny _ _ (eval (Expr.ListComp _ _ _ _) _) _ _ _)); (fail_if_success (with_reducible show wpAny _ _ (execs [_, _, _] _) _ _ _)); (fail_if_success (with_reducible show wpAny _ _ (execs [_, _, _, _, _, _, _] _) _ _ _)); first | (with_reducible refine gen_st ?_; intro _ _ _) | (with_reducible refine gen_nx (by with_reducible assumption) ?_) | (with_reducible refine gen_rt (by with_reducible assumption) ?_) | (k_unfold; (try dsimp only)) | (k_end; wrow_close) | walk1 | (dsimp only; walk1) | (leave1; (try dsimp only))))
    (rename Below _ _ _ _ => B9)
    (rename Frag.In _ _ => X9)
    (rename Top _ _ _ _ _ _ => T9)
    refine ctrR_use (remark_end_C w _ _ _ _ (by decide) (by decide) (by decide) _) B9 F' X9 N' T9 rfl ?_ ?_ ?_ ?_
    · exact rmD hdp2
    · exact rmU hun2
    · rintro v news' h3 tk3 ⟨⟨n, t, hn, _⟩, _⟩
      rw [show remFrom (Str.ofString "/*/") 0 0 = none by decide +kernel] at hn; cases hn
    · rintro b e d t1 u1 t2 t3 g2 h3 tk3 ⟨hb, rfl⟩ F3 U3 R3
      skip
      (try k_unfold)
      dsimp only
      refine leave_onT B9 F3 R3 U3 rfl fun h4 R4 U4 => ?_
      exact herr2 0 e d _ _ _ _ _ _ _ rfl (by assumption) U4 R4
  · exact rmD hdp
  · exact rmU hun
  rintro Q3 hQ3 v news' h3 tk3 g3 (⟨_, _, _, hf, _⟩ | ⟨b, D, u, t, c, hb, rfl, hl3, e⟩) T3 F3 N3 B3
  · exact hf.elim
  subst e hb
  refine hQ3 _ _ ?_
  clear hQ3 Q3
  try k_lt hl3
  have X3 := XB.keeps B3.stays
  have P3 := TB.keeps B3.stays
  clear F1 N1
  dsimp only
  (repeat' ((fail_if_success (with_reducible show wpAny _ _ (exec (Stmt.While _ _ _ _) _) _ _ _)); (fail_if_success (with_reducible show wpAny _ _ (exec (Stmt.Raise _ _ _) _) _ _ _)); (fail_if_success (with_reducible show wpAny _ _ (call (Value.ref _) _) _ _ _)); (fail_if_success (with_reducible show LCg.CompSrc _ _ _ _ _ _ _ _ _ _ _ _ _ _)); (fail_if_success (with_reducible show wpAny _ _ (eval (Expr.ListComp _ _ _ _) _) _ _ _)); (fail_if_success (with_reducible show wpAny _ _ (execs [_, _, _] _) _ _ _)); (fail_if_success (with_reducible show wpAny _ _ (execs [_, _, _, _, _, _, _] _) _ _ _)); first | (with_reducible refine gen_st ?_; intro _ _ _) | (with_reducible refine gen_nx (by with_reducible assumption) ?_) | (with_reducible refine gen_rt (by with_reducible assumption) ?_) | (k_unfold; (try dsimp only)) | (k_end; wrow_close) | walk1 | (dsimp only; walk1) | (leave1; (try dsimp only))))
  (rename Fr _ _ _ _ => F4)
  (rename News _ _ _ _ => N4)
  refine ctr_gen (unended_C w _ _ _) B3 F4 X3 N4 P3 rfl ?_ ?_ ?_
  · exact rmD hdp
  · exact rmU hun
  rintro Q3 hQ3 v news' h5 tk5 ⟨D5, t5, c5, rfl, hl5, e⟩ F5 N5
  subst e
  refine hQ3 _ _ ?_
  clear hQ3 Q3
  clear F4 N4
  try k_lt hl5
  dsimp only
  (repeat' ((fail_if_success (with_reducible show wpAny _ _ (exec (Stmt.While _ _ _ _) _) _ _ _)); (fail_if_success (with_reducible show wpAny _ _ (exec (Stmt.Raise _ _ _) _) _ _ _)); (fail_if_success (with_reducible show wpAny _ _ (call (Value.ref _) _) _ _ _)); (fail_if_success (with_reducible show LCg.CompSrc _ _ _ _ _ _ _ _ _ _ _ _ _ _)); (fail_if_success (with_reducible show wpAny _ _ (eval (Expr.ListComp _ _ _ _) _) _ _ _)); (fail_if_success (with_reducible show wpAny _ _ (execs [_, _, _] _) _ _ _)); (fail_if_success (with_reducible show wpAny _ _ (execs [_, _, _, _, _, _, _] _) _ _ _)); first | (with_reducible refine gen_st ?_; intro _ _ _) | (with_reducible refine gen_nx (by with_reducible assumption) ?_) | (with_reducible refine gen_rt (by with_reducible assumption) ?_) | (k_unfold; (try dsimp only)) | (k_end; wrow_close) | walk1 | (dsimp only; walk1) | (leave1; (try dsimp only))))
  rename KtsTurn _ _ _ => T0
  (rename Fr _ _ _ _ => F1)
  (rename News _ _ _ _ => N0)
  have N1 := news_drop 2 4 N0
  clear N0
  simp only [List.take_succ_cons, List.take_zero, List.drop_succ_cons, List.drop_zero, List.cons_append, List.nil_append] at N1
  clear hl3 hl5
  (rename Below _ _ _ _ => B1)
  (rename Frag.In _ _ => X1)
  (rename Top _ _ _ _ _ _ => T1)
  refine ctrT_gen (heard_C w _ 6 _ (fun _ _ => False) (fun b => b = 1) ?C _ _ _ _ (.head _)) B1 F1 X1 N1 T1 XB TB rfl ?_ ?_ ?_
  case C =>
    intro p2 loose2 mean2 mg2 mb2 dp2 un2 gd2 cn2 cs2 a2 ccd2 cl2 outer2 A2 base2 h02 L2 m2 s2 Q2 E2 B2 F2 X2 N2 T2 hkd2 hdp2 hun2 hret2 herr2
    refine wpAny_call ?_
    k_dflt (refine' kla_code ?k1 ?k2 ?k3 ?k4 ?k5 ?kA ?kF ?kK ?k6 ?k7 ?k8 ?k9 ?kB ?_ ?c2 ?c3 ?c4 ?c5; (case kA => exact rfl); (case kF => exact rfl); (case kK => exact hkd2); (case k1 => k_asm); (case k2 => k_asm); (case k3 => k_asm); (case k4 => k_asm); (case k5 => k_asm); (case k6 => k_mem); (case k7 => exact codeRec_news (by k_asm) (by k_mem) (by assumption) (by assumption)); (case k8 => ktr_room); (case k9 => exact rfl); (case c5 => decide); (case kB => exact locs rfl); (case c2 => exact rfl); (case c3 => exact rfl); (case c4 => exact rfl); k_whole; intro g' L' h' FG' F' N' B' X' T'; (try dsimp only); (try k_lift B'); (try k_fold))
    (repeat' ((fail_if_success (with_reducible show wpAny _ _ (exec (Stmt.While _ _ _ _) _) _ _ _)); (fail_if_success (with_reducible show wpAny _ _ (exec (Stmt.Raise _ _ _) _) _ _ _)); (fail_if_success (with_reducible show wpAny _ _ (call (Value.ref _) _) _ _ _)); (fail_if_success (with_reducible show LCg.CompSrc _ _ _ _ _ _ _ _ _ _ _ _ _ _)); (fail_if_success (with_reducible show wpAny _ _ (eval (Expr.ListComp _ _ _ _) _) _ _ _)); (fail_if_success (with_reducible show wpAny _ _ (execs [_, _, _] _) _ _ _)); (fail_if_success (with_reducible show wpAny _ _ (execs [_, _, _, _, _, _, _] _) _ _ _)); first | (with_reducible refine gen_st ?_; intro _ _ _) | (with_reducible refine gen_nx (by with_reducible assumption) ?_) | (with_reducible refine gen_rt (by with_reducible assumption) ?_) | (k_unfold; (try dsimp only)) | (k_end; wrow_close) | walk1 | (dsimp only; walk1) | (leave1; (try dsimp only))))
    (rename Below _ _ _ _ => B9)
    (rename Frag.In _ _ => X9)
    (rename Top _ _ _ _ _ _ => T9)
    refine ctrR_use (remark_end_C w _ _ _ _ (by decide) (by decide) (by decide) _) B9 F' X9 N' T9 rfl ?_ ?_ ?_ ?_
    · exact rmD hdp2
    · exact rmU hun2
    · rintro v news' h3 tk3 ⟨⟨n, t, hn, _⟩, _⟩
      rw [show remFrom (Str.ofString "a/*/**/") 0 1 = none by decide +kernel] at hn; cases hn
    · rintro b e d t1 u1 t2 t3 g2 h3 tk3 ⟨hb, rfl⟩ F3 U3 R3
      skip
      (try k_unfold)
      dsimp only
      refine leave_onT B9 F3 R3 U3 rfl fun h4 R4 U4 => ?_
      exact herr2 1 e d _ _ _ _ _ _ _ rfl (by assumption) U4 R4
  · exact rmD hdp
  · exact rmU hun
  rintro Q3 hQ3 v news' h3 tk3 g3 (⟨_, _, _, hf, _⟩ | ⟨b, D, u, t, c, hb, rfl, hl3, e⟩) T3 F3 N3 B3
  · exact hf.elim
  subst e hb
  refine hQ3 _ _ ?_
  clear hQ3 Q3
  try k_lt hl3
  replace T3 := T0.trans T3
  have X3 := XB.keeps B3.stays
  have P3 := TB.keeps B3.stays
  clear F1 N1 T0
  dsimp only
  (repeat' ((fail_if_success (with_reducible show wpAny _ _ (exec (Stmt.While _ _ _ _) _) _ _ _)); (fail_if_success (with_reducible show wpAny _ _ (exec (Stmt.Raise _ _ _) _) _ _ _)); (fail_if_success (with_reducible show wpAny _ _ (call (Value.ref _) _) _ _ _)); (fail_if_success (with_reducible show LCg.CompSrc _ _ _ _ _ _ _ _ _ _ _ _ _ _)); (fail_if_success (with_reducible show wpAny _ _ (eval (Expr.ListComp _ _ _ _) _) _ _ _)); (fail_if_success (with_reducible show wpAny _ _ (execs [_, _, _] _) _ _ _)); (fail_if_success (with_reducible show wpAny _ _ (execs [_, _, _, _, _, _, _] _) _ _ _)); first | (with_reducible refine gen_st ?_; intro _ _ _) | (with_reducible refine gen_nx (by with_reducible assumption) ?_) | (with_reducible refine gen_rt (by with_reducible assumption) ?_) | (k_unfold; (try dsimp only)) | (k_end; wrow_close) | walk1 | (dsimp only; walk1) | (leave1; (try dsimp only))))
  (rename Fr _ _ _ _ => F4)
  (rename News _ _ _ _ => N4)
  refine ctr_gen (unended_C w _ _ _) B3 F4 X3 N4 P3 rfl ?_ ?_ ?_
  · exact rmD hdp
  · exact rmU hun
  rintro Q3 hQ3 v news' h5 tk5 ⟨D5, t5, c5, rfl, hl5, e⟩ F5 N5
  subst e
  refine hQ3 _ _ ?_
  clear hQ3 Q3
  clear F4 N4
  try k_lt hl5
  dsimp only
  (repeat' ((fail_if_success (with_reducible show wpAny _ _ (exec (Stmt.While _ _ _ _) _) _ _ _)); (fail_if_success (with_reducible show wpAny _ _ (exec (Stmt.Raise _ _ _) _) _ _ _)); (fail_if_success (with_reducible show wpAny _ _ (call (Value.ref _) _) _ _ _)); (fail_if_success (with_reducible show LCg.CompSrc _ _ _ _ _ _ _ _ _ _ _ _ _ _)); (fail_if_success (with_reducible show wpAny _ _ (eval (Expr.ListComp _ _ _ _) _) _ _ _)); (fail_if_success (with_reducible show wpAny _ _ (execs [_, _, _] _) _ _ _)); (fail_if_success (with_reducible show wpAny _ _ (execs [_, _, _, _, _, _, _] _) _ _ _)); first | (with_reducible refine gen_st ?_; intro _ _ _) | (with_reducible refine gen_nx (by with_reducible assumption) ?_) | (with_reducible refine gen_rt (by with_reducible assumption) ?_) | (k_unfold; (try dsimp only)) | (k_end; wrow_close) | walk1 | (dsimp only; walk1) | (leave1; (try dsimp only))))
  rename KtsTurn _ _ _ => T0
  refine use_int (blank_V w _ _ 11 _ _ _ (by decide +kernel) (by decide +kernel) (by decide +kernel) (by decide +kernel)) fun t3 h3 k3 F3 N3 => ?_
  dsimp only
  (repeat' ((fail_if_success (with_reducible show wpAny _ _ (exec (Stmt.While _ _ _ _) _) _ _ _)); (fail_if_success (with_reducible show wpAny _ _ (exec (Stmt.Raise _ _ _) _) _ _ _)); (fail_if_success (with_reducible show wpAny _ _ (call (Value.ref _) _) _ _ _)); (fail_if_success (with_reducible show LCg.CompSrc _ _ _ _ _ _ _ _ _ _ _ _ _ _)); (fail_if_success (with_reducible show wpAny _ _ (eval (Expr.ListComp _ _ _ _) _) _ _ _)); (fail_if_success (with_reducible show wpAny _ _ (execs [_, _, _] _) _ _ _)); (fail_if_success (with_reducible show wpAny _ _ (execs [_, _, _, _, _, _, _] _) _ _ _)); first | (with_reducible refine gen_st ?_; intro _ _ _) | (with_reducible refine gen_nx (by with_reducible assumption) ?_) | (with_reducible refine gen_rt (by with_reducible assumption) ?_) | (k_unfold; (try dsimp only)) | (k_end; wrow_close) | walk1 | (dsimp only; walk1) | (leave1; (try dsimp only))))
  refine use_int (blank_V w _ _ 3 _ _ _ (by decide +kernel) (by decide +kernel) (by decide +kernel) (by decide +kernel)) fun t3 h3 k3 F3 N3 => ?_
  dsimp only
  (repeat' ((fail_if_success (with_reducible show wpAny _ _ (exec (Stmt.While _ _ _ _) _) _ _ _)); (fail_if_success (with_reducible show wpAny _ _ (exec (Stmt.Raise _ _ _) _) _ _ _)); (fail_if_success (with_reducible show wpAny _ _ (call (Value.ref _) _) _ _ _)); (fail_if_success (with_reducible show LCg.CompSrc _ _ _ _ _ _ _ _ _ _ _ _ _ _)); (fail_if_success (with_reducible show wpAny _ _ (eval (Expr.ListComp _ _ _ _) _) _ _ _)); (fail_if_success (with_reducible show wpAny _ _ (execs [_, _, _] _) _ _ _)); (fail_if_success (with_reducible show wpAny _ _ (execs [_, _, _, _, _, _, _] _) _ _ _)); first | (with_reducible refine gen_st ?_; intro _ _ _) | (with_reducible refine gen_nx (by with_reducible assumption) ?_) | (with_reducible refine gen_rt (by with_reducible assumption) ?_) | (k_unfold; (try dsimp only)) | (k_end; wrow_close) | walk1 | (dsimp only; walk1) | (leave1; (try dsimp only))))
  refine use_int (blank_V w _ _ 0 _ _ _ (by decide +kernel) (by decide +kernel) (by decide +kernel) (by decide +kernel)) fun t3 h3 k3 F3 N3 => ?_
  dsimp only
  (repeat' ((fail_if_success (with_reducible show wpAny _ _ (exec (Stmt.While _ _ _ _) _) _ _ _)); (fail_if_success (with_reducible show wpAny _ _ (exec (Stmt.Raise _ _ _) _) _ _ _)); (fail_if_success (with_reducible show wpAny _ _ (call (Value.ref _) _) _ _ _)); (fail_if_success (with_reducible show LCg.CompSrc _ _ _ _ _ _ _ _ _ _ _ _ _ _)); (fail_if_success (with_reducible show wpAny _ _ (eval (Expr.ListComp _ _ _ _) _) _ _ _)); (fail_if_success (with_reducible show wpAny _ _ (execs [_, _, _] _) _ _ _)); (fail_if_success (with_reducible show wpAny _ _ (execs [_, _, _, _, _, _, _] _) _ _ _)); first | (with_reducible refine gen_st ?_; intro _ _ _) | (with_reducible refine gen_nx (by with_reducible assumption) ?_) | (with_reducible refine gen_rt (by with_reducible assumption) ?_) | (k_unfold; (try dsimp only)) | (k_end; wrow_close) | walk1 | (dsimp only; walk1) | (leave1; (try dsimp only))))
  refine use_int (blank_V w _ _ 1 _ _ _ (by decide +kernel) (by decide +kernel) (by decide +kernel) (by decide +kernel)) fun t3 h3 k3 F3 N3 => ?_
  dsimp only
  (repeat' ((fail_if_success (with_reducible show wpAny _ _ (exec (Stmt.While _ _ _ _) _) _ _ _)); (fail_if_success (with_reducible show wpAny _ _ (exec (Stmt.Raise _ _ _) _) _ _ _)); (fail_if_success (with_reducible show wpAny _ _ (call (Value.ref _) _) _ _ _)); (fail_if_success (with_reducible show LCg.CompSrc _ _ _ _ _ _ _ _ _ _ _ _ _ _)); (fail_if_success (with_reducible show wpAny _ _ (eval (Expr.ListComp _ _ _ _) _) _ _ _)); (fail_if_success (with_reducible show wpAny _ _ (execs [_, _, _] _) _ _ _)); (fail_if_success (with_reducible show wpAny _ _ (execs [_, _, _, _, _, _, _] _) _ _ _)); first | (with_reducible refine gen_st ?_; intro _ _ _) | (with_reducible refine gen_nx (by with_reducible assumption) ?_) | (with_reducible refine gen_rt (by with_reducible assumption) ?_) | (k_unfold; (try dsimp only)) | (k_end; wrow_close) | walk1 | (dsimp only; walk1) | (leave1; (try dsimp only))))
  (rename Fr _ _ _ _ => F1)
  (rename News _ _ _ _ => N0)
  have N1 := news_drop 2 6 N0
  clear N0
  simp only [List.take_succ_cons, List.take_zero, List.drop_succ_cons, List.drop_zero, List.cons_append, List.nil_append] at N1
  clear hl3 hl5
  (rename Below _ _ _ _ => B1)
  (rename Frag.In _ _ => X1)
  (rename Top _ _ _ _ _ _ => T1)
  refine ctrT_gen (heard_C w _ 7 _ (fun _ _ => False) (fun b => b = 2) ?C _ _ _ _ (.head _)) B1 F1 X1 N1 T1 XB TB rfl ?_ ?_ ?_
  case C =>
    intro p2 loose2 mean2 mg2 mb2 dp2 un2 gd2 cn2 cs2 a2 ccd2 cl2 outer2 A2 base2 h02 L2 m2 s2 Q2 E2 B2 F2 X2 N2 T2 hkd2 hdp2 hun2 hret2 herr2
    refine wpAny_call ?_
    k_dflt (refine' kla_code ?k1 ?k2 ?k3 ?k4 ?k5 ?kA ?kF ?kK ?k6 ?k7 ?k8 ?k9 ?kB ?_ ?c2 ?c3 ?c4 ?c5; (case kA => exact rfl); (case kF => exact rfl); (case kK => exact hkd2); (case k1 => k_asm); (case k2 => k_asm); (case k3 => k_asm); (case k4 => k_asm); (case k5 => k_asm); (case k6 => k_mem); (case k7 => exact codeRec_news (by k_asm) (by k_mem) (by assumption) (by assumption)); (case k8 => ktr_room); (case k9 => exact rfl); (case c5 => decide); (case kB => exact locs rfl); (case c2 => exact rfl); (case c3 => exact rfl); (case c4 => exact rfl); k_whole; intro g' L' h' FG' F' N' B' X' T'; (try dsimp only); (try k_lift B'); (try k_fold))
    (repeat' ((fail_if_success (with_reducible show wpAny _ _ (exec (Stmt.While _ _ _ _) _) _ _ _)); (fail_if_success (with_reducible show wpAny _ _ (exec (Stmt.Raise _ _ _) _) _ _ _)); (fail_if_success (with_reducible show wpAny _ _ (call (Value.ref _) _) _ _ _)); (fail_if_success (with_reducible show LCg.CompSrc _ _ _ _ _ _ _ _ _ _ _ _ _ _)); (fail_if_success (with_reducible show wpAny _ _ (eval (Expr.ListComp _ _ _ _) _) _ _ _)); (fail_if_success (with_reducible show wpAny _ _ (execs [_, _, _] _) _ _ _)); (fail_if_success (with_reducible show wpAny _ _ (execs [_, _, _, _, _, _, _] _) _ _ _)); first | (with_reducible refine gen_st ?_; intro _ _ _) | (with_reducible refine gen_nx (by with_reducible assumption) ?_) | (with_reducible refine gen_rt (by with_reducible assumption) ?_) | (k_unfold; (try dsimp only)) | (k_end; wrow_close) | walk1 | (dsimp only; walk1) | (leave1; (try dsimp only))))
    (rename Below _ _ _ _ => B9)
    (rename Frag.In _ _ => X9)
    (rename Top _ _ _ _ _ _ => T9)
    refine ctrR_use (blank_end_C w _ _ _ _ (by decide) (by decide) (by decide) _) B9 F' X9 N' T9 rfl ?_ ?_ ?_ ?_
    · exact rmD hdp2
    · exact rmU hun2
    · rintro v news' h3 tk3 ⟨⟨n, t, hn, _⟩, _⟩
      rw [show blankAt (Str.ofString "  /*") 0 = .inr 2 by decide +kernel] at hn; cases hn
    · rintro b e d t1 u1 t2 t3 g2 h3 tk3 hb F3 U3 R3
      obtain rfl : b = 2 := by rw [show blankAt (Str.ofString "  /*") 0 = .inr 2 by decide +kernel] at hb; cases hb; rfl
      (try k_unfold)
      dsimp only
      refine leave_onT B9 F3 R3 U3 rfl fun h4 R4 U4 => ?_
      exact herr2 2 e d _ _ _ _ _ _ _ rfl (by assumption) U4 R4
  · exact rmD hdp
  · exact rmU hun
  rintro Q3 hQ3 v news' h3 tk3 g3 (⟨_, _, _, hf, _⟩ | ⟨b, D, u, t, c, hb, rfl, hl3, e⟩) T3 F3 N3 B3
  · exact hf.elim
  subst e hb
  refine hQ3 _ _ ?_
  clear hQ3 Q3
  try k_lt hl3
  replace T3 := T0.trans T3
  have X3 := XB.keeps B3.stays
  have P3 := TB.keeps B3.stays
  clear F1 N1 T0
  dsimp only
  (repeat' ((fail_if_success (with_reducible show wpAny _ _ (exec (Stmt.While _ _ _ _) _) _ _ _)); (fail_if_success (with_reducible show wpAny _ _ (exec (Stmt.Raise _ _ _) _) _ _ _)); (fail_if_success (with_reducible show wpAny _ _ (call (Value.ref _) _) _ _ _)); (fail_if_success (with_reducible show LCg.CompSrc _ _ _ _ _ _ _ _ _ _ _ _ _ _)); (fail_if_success (with_reducible show wpAny _ _ (eval (Expr.ListComp _ _ _ _) _) _ _ _)); (fail_if_success (with_reducible show wpAny _ _ (execs [_, _, _] _) _ _ _)); (fail_if_success (with_reducible show wpAny _ _ (execs [_, _, _, _, _, _, _] _) _ _ _)); first | (with_reducible refine gen_st ?_; intro _ _ _) | (with_reducible refine gen_nx (by with_reducible assumption) ?_) | (with_reducible refine gen_rt (by with_reducible assumption) ?_) | (k_unfold; (try dsimp only)) | (k_end; wrow_close) | walk1 | (dsimp only; walk1) | (leave1; (try dsimp only))))
  (rename Fr _ _ _ _ => F4)
  (rename News _ _ _ _ => N4)
  refine ctr_gen (unended_C w _ _ _) B3 F4 X3 N4 P3 rfl ?_ ?_ ?_
  · exact rmD hdp
  · exact rmU hun
  rintro Q3 hQ3 v news' h5 tk5 ⟨D5, t5, c5, rfl, hl5, e⟩ F5 N5
  subst e
  refine hQ3 _ _ ?_
  clear hQ3 Q3
  clear F4 N4
  try k_lt hl5
  dsimp only
  (repeat' ((fail_if_success (with_reducible show wpAny _ _ (exec (Stmt.While _ _ _ _) _) _ _ _)); (fail_if_success (with_reducible show wpAny _ _ (exec (Stmt.Raise _ _ _) _) _ _ _)); (fail_if_success (with_reducible show wpAny _ _ (call (Value.ref _) _) _ _ _)); (fail_if_success (with_reducible show LCg.CompSrc _ _ _ _ _ _ _ _ _ _ _ _ _ _)); (fail_if_success (with_reducible show wpAny _ _ (eval (Expr.ListComp _ _ _ _) _) _ _ _)); (fail_if_success (with_reducible show wpAny _ _ (execs [_, _, _] _) _ _ _)); (fail_if_success (with_reducible show wpAny _ _ (execs [_, _, _, _, _, _, _] _) _ _ _)); first | (with_reducible refine gen_st ?_; intro _ _ _) | (with_reducible refine gen_nx (by with_reducible assumption) ?_) | (with_reducible refine gen_rt (by with_reducible assumption) ?_) | (k_unfold; (try dsimp only)) | (k_end; wrow_close) | walk1 | (dsimp only; walk1) | (leave1; (try dsimp only))))
  rename KtsTurn _ _ _ => T0
  (try dsimp only)
  (rename Fr _ _ _ _ => F9)
  (rename News _ _ _ _ => N8)
  have N9 := news_drop 0 4 N8
  simp only [List.take_succ_cons, List.take_zero, List.drop_succ_cons, List.drop_zero, List.cons_append, List.nil_append] at N9
  with_unfolding_all refine told_tail B3 F9 N9 X3 P3 hdp hun fun h7 tk7 F7 N7 => ?_
  exact ret _ _ _ _ T0 F7 N7
end

theorem told_C (w : World) (rest : List (Addr × Obj)) (off : ∀ p ∈ rest, p.1 ≠ 119) :
    CtrH (fun b => CodeHd b 121 119) w 122 [] 20 ((119, tabObj #[]) :: rest) (fun v news' => v = .bool true ∧ ∃ ps, news' = (119, tabObj ps) :: rest) := by
  intro p loose mean mg mb dp un gd cn cs a ccd cl outer A₀ base h₀ L m s Q E CB B F X N T XB TB hkd hdp hun hret
  w_on
  k_with_none
  refine wpAny_call ?_
  k_dflt (refine' code_defT ?k1 ?k2 ?k3 ?k4 ?k5 ?kA ?kF ?kK ?k6 ?k7 ?k8 ?k9 ?kB ?_ ?c2 ?c3 ?c4 ?c5; (case kA => exact rfl); (case kF => exact rfl); (case kK => assumption); (case k1 => k_asm); (case k2 => k_asm); (case k3 => k_asm); (case k4 => k_asm); (case k5 => k_asm); (case k6 => k_is); (case k7 => k_is); (case k8 => ktr_room); (case k9 => exact BindsTo.of_eq rfl); (case c5 => decide); (case kB => exact locs rfl); (case c2 => exact rfl); (case c3 => exact rfl); (case c4 => exact rfl); k_whole; intro g' L' h' FG' F' N' B' X' T' l1; (try dsimp only); (try k_lift B'); (try k_fold))
  refine gen_QT fun Q2 tkE hQ2 => ?_
  (repeat' ((fail_if_success (with_reducible show wpAny _ _ (exec (Stmt.While _ _ _ _) _) _ _ _)); (fail_if_success (with_reducible show wpAny _ _ (exec (Stmt.Raise _ _ _) _) _ _ _)); (fail_if_success (with_reducible show wpAny _ _ (call (Value.ref _) _) _ _ _)); (fail_if_success (with_reducible show LCg.CompSrc _ _ _ _ _ _ _ _ _ _ _ _ _ _)); (fail_if_success (with_reducible show wpAny _ _ (eval (Expr.ListComp _ _ _ _) _) _ _ _)); (fail_if_success (with_reducible show wpAny _ _ (execs [_, _, _] _) _ _ _)); (fail_if_success (with_reducible show wpAny _ _ (execs [_, _, _, _, _, _, _] _) _ _ _)); first | (with_reducible refine gen_st ?_; intro _ _ _) | (with_reducible refine gen_nx (by with_reducible assumption) ?_) | (with_reducible refine gen_rt (by with_reducible assumption) ?_) | (k_unfold; (try dsimp only)) | (k_end; wrow_close) | walk1 | (dsimp only; walk1) | (leave1; (try dsimp only))))
  refine use_int (run_V w _ _ _ 3 _ _ _ _ (by decide +kernel) (by decide +kernel) (by decide +kernel) (by decide +kernel)) fun t3 h3 k3 F3 N3 => ?_
  dsimp only
  (repeat' ((fail_if_success (with_reducible show wpAny _ _ (exec (Stmt.While _ _ _ _) _) _ _ _)); (fail_if_success (with_reducible show wpAny _ _ (exec (Stmt.Raise _ _ _) _) _ _ _)); (fail_if_success (with_reducible show wpAny _ _ (call (Value.ref _) _) _ _ _)); (fail_if_success (with_reducible show LCg.CompSrc _ _ _ _ _ _ _ _ _ _ _ _ _ _)); (fail_if_success (with_reducible show wpAny _ _ (eval (Expr.ListComp _ _ _ _) _) _ _ _)); (fail_if_success (with_reducible show wpAny _ _ (execs [_, _, _] _) _ _ _)); (fail_if_success (with_reducible show wpAny _ _ (execs [_, _, _, _, _, _, _] _) _ _ _)); first | (with_reducible refine gen_st ?_; intro _ _ _) | (with_reducible refine gen_nx (by with_reducible assumption) ?_) | (with_reducible refine gen_rt (by with_reducible assumption) ?_) | (k_unfold; (try dsimp only)) | (k_end; wrow_close) | walk1 | (dsimp only; walk1) | (leave1; (try dsimp only))))
  refine use_int (run_V w _ _ _ 2 _ _ _ _ (by decide +kernel) (by decide +kernel) (by decide +kernel) (by decide +kernel)) fun t3 h3 k3 F3 N3 => ?_
  dsimp only
  (repeat' ((fail_if_success (with_reducible show wpAny _ _ (exec (Stmt.While _ _ _ _) _) _ _ _)); (fail_if_success (with_reducible show wpAny _ _ (exec (Stmt.Raise _ _ _) _) _ _ _)); (fail_if_success (with_reducible show wpAny _ _ (call (Value.ref _) _) _ _ _)); (fail_if_success (with_reducible show LCg.CompSrc _ _ _ _ _ _ _ _ _ _ _ _ _ _)); (fail_if_success (with_reducible show wpAny _ _ (eval (Expr.ListComp _ _ _ _) _) _ _ _)); (fail_if_success (with_reducible show wpAny _ _ (execs [_, _, _] _) _ _ _)); (fail_if_success (with_reducible show wpAny _ _ (execs [_, _, _, _, _, _, _] _) _ _ _)); first | (with_reducible refine gen_st ?_; intro _ _ _) | (with_reducible refine gen_nx (by with_reducible assumption) ?_) | (with_reducible refine gen_rt (by with_reducible assumption) ?_) | (k_unfold; (try dsimp only)) | (k_end; wrow_close) | walk1 | (dsimp only; walk1) | (leave1; (try dsimp only))))
  refine use_int (run_V w _ _ _ 2 _ _ _ _ (by decide +kernel) (by decide +kernel) (by decide +kernel) (by decide +kernel)) fun t3 h3 k3 F3 N3 => ?_
  dsimp only
  (repeat' ((fail_if_success (with_reducible show wpAny _ _ (exec (Stmt.While _ _ _ _) _) _ _ _)); (fail_if_success (with_reducible show wpAny _ _ (exec (Stmt.Raise _ _ _) _) _ _ _)); (fail_if_success (with_reducible show wpAny _ _ (call (Value.ref _) _) _ _ _)); (fail_if_success (with_reducible show LCg.CompSrc _ _ _ _ _ _ _ _ _ _ _ _ _ _)); (fail_if_success (with_reducible show wpAny _ _ (eval (Expr.ListComp _ _ _ _) _) _ _ _)); (fail_if_success (with_reducible show wpAny _ _ (execs [_, _, _] _) _ _ _)); (fail_if_success (with_reducible show wpAny _ _ (execs [_, _, _, _, _, _, _] _) _ _ _)); first | (with_reducible refine gen_st ?_; intro _ _ _) | (with_reducible refine gen_nx (by with_reducible assumption) ?_) | (with_reducible refine gen_rt (by with_reducible assumption) ?_) | (k_unfold; (try dsimp only)) | (k_end; wrow_close) | walk1 | (dsimp only; walk1) | (leave1; (try dsimp only))))
  refine use_int (run_V w _ _ _ 0 _ _ _ _ (by decide +kernel) (by decide +kernel) (by decide +kernel) (by decide +kernel)) fun t3 h3 k3 F3 N3 => ?_
  dsimp only
  (repeat' ((fail_if_success (with_reducible show wpAny _ _ (exec (Stmt.While _ _ _ _) _) _ _ _)); (fail_if_success (with_reducible show wpAny _ _ (exec (Stmt.Raise _ _ _) _) _ _ _)); (fail_if_success (with_reducible show wpAny _ _ (call (Value.ref _) _) _ _ _)); (fail_if_success (with_reducible show LCg.CompSrc _ _ _ _ _ _ _ _ _ _ _ _ _ _)); (fail_if_success (with_reducible show wpAny _ _ (eval (Expr.ListComp _ _ _ _) _) _ _ _)); (fail_if_success (with_reducible show wpAny _ _ (execs [_, _, _] _) _ _ _)); (fail_if_success (with_reducible show wpAny _ _ (execs [_, _, _, _, _, _, _] _) _ _ _)); first | (with_reducible refine gen_st ?_; intro _ _ _) | (with_reducible refine gen_nx (by with_reducible assumption) ?_) | (with_reducible refine gen_rt (by with_reducible assumption) ?_) | (k_unfold; (try dsimp only)) | (k_end; wrow_close) | walk1 | (dsimp only; walk1) | (leave1; (try dsimp only))))
  refine use_int (remark_V w _ _ 4 _ _ _ (by decide +kernel) (by decide +kernel) (by decide +kernel) (by decide +kernel)) fun t3 h3 k3 F3 N3 => ?_
  dsimp only
  (repeat' ((fail_if_success (with_reducible show wpAny _ _ (exec (Stmt.While _ _ _ _) _) _ _ _)); (fail_if_success (with_reducible show wpAny _ _ (exec (Stmt.Raise _ _ _) _) _ _ _)); (fail_if_success (with_reducible show wpAny _ _ (call (Value.ref _) _) _ _ _)); (fail_if_success (with_reducible show LCg.CompSrc _ _ _ _ _ _ _ _ _ _ _ _ _ _)); (fail_if_success (with_reducible show wpAny _ _ (eval (Expr.ListComp _ _ _ _) _) _ _ _)); (fail_if_success (with_reducible show wpAny _ _ (execs [_, _, _] _) _ _ _)); (fail_if_success (with_reducible show wpAny _ _ (execs [_, _, _, _, _, _, _] _) _ _ _)); first | (with_reducible refine gen_st ?_; intro _ _ _) | (with_reducible refine gen_nx (by with_reducible assumption) ?_) | (with_reducible refine gen_rt (by with_reducible assumption) ?_) | (k_unfold; (try dsimp only)) | (k_end; wrow_close) | walk1 | (dsimp only; walk1) | (leave1; (try dsimp only))))
  refine use_int (remark_V w _ _ 9 _ _ _ (by decide +kernel) (by decide +kernel) (by decide +kernel) (by decide +kernel)) fun t3 h3 k3 F3 N3 => ?_
  dsimp only
  (repeat' ((fail_if_success (with_reducible show wpAny _ _ (exec (Stmt.While _ _ _ _) _) _ _ _)); (fail_if_success (with_reducible show wpAny _ _ (exec (Stmt.Raise _ _ _) _) _ _ _)); (fail_if_success (with_reducible show wpAny _ _ (call (Value.ref _) _) _ _ _)); (fail_if_success (with_reducible show LCg.CompSrc _ _ _ _ _ _ _ _ _ _ _ _ _ _)); (fail_if_success (with_reducible show wpAny _ _ (eval (Expr.ListComp _ _ _ _) _) _ _ _)); (fail_if_success (with_reducible show wpAny _ _ (execs [_, _, _] _) _ _ _)); (fail_if_success (with_reducible show wpAny _ _ (execs [_, _, _, _, _, _, _] _) _ _ _)); first | (with_reducible refine gen_st ?_; intro _ _ _) | (with_reducible refine gen_nx (by with_reducible assumption) ?_) | (with_reducible refine gen_rt (by with_reducible assumption) ?_) | (k_unfold; (try dsimp only)) | (k_end; wrow_close) | walk1 | (dsimp only; walk1) | (leave1; (try dsimp only))))
  refine use_int (remark_V w _ _ 5 _ _ _ (by decide +kernel) (by decide +kernel) (by decide +kernel) (by decide +kernel)) fun t3 h3 k3 F3 N3 => ?_
  dsimp only
  (repeat' ((fail_if_success (with_reducible show wpAny _ _ (exec (Stmt.While _ _ _ _) _) _ _ _)); (fail_if_success (with_reducible show wpAny _ _ (exec (Stmt.Raise _ _ _) _) _ _ _)); (fail_if_success (with_reducible show wpAny _ _ (call (Value.ref _) _) _ _ _)); (fail_if_success (with_reducible show LCg.CompSrc _ _ _ _ _ _ _ _ _ _ _ _ _ _)); (fail_if_success (with_reducible show wpAny _ _ (eval (Expr.ListComp _ _ _ _) _) _ _ _)); (fail_if_success (with_reducible show wpAny _ _ (execs [_, _, _] _) _ _ _)); (fail_if_success (with_reducible show wpAny _ _ (execs [_, _, _, _, _, _, _] _) _ _ _)); first | (with_reducible refine gen_st ?_; intro _ _ _) | (with_reducible refine gen_nx (by with_reducible assumption) ?_) | (with_reducible refine gen_rt (by with_reducible assumption) ?_) | (k_unfold; (try dsimp only)) | (k_end; wrow_close) | walk1 | (dsimp only; walk1) | (leave1; (try dsimp only))))
  (try dsimp only)
  (rename Fr _ _ _ _ => F9)
  (rename News _ _ _ _ => N8)
  have N9 := news_drop 0 4 N8
  dsimp only [List.take_succ_cons, List.take_zero, List.drop_succ_cons, List.drop_zero, List.cons_append, List.nil_append] at N9
  with_unfolding_all refine told_mid CB off XB TB B' F9 N9 X' T' hdp hun fun g7 h7 tk7 ps7 T7 F7 N7 => ?_
  refine hQ2 _ _ ?_
  dsimp only
  refine leaveT_ T7 F7 N7 fun h₀' T0 F0 N0 B0 => ?_
  exact hret _ _ _ _ _ ⟨rfl, _, rfl⟩ T0 F0 N0 B0
end

/- part N0 -/
section
open PySem PySem.W PyProof.Rows PySem.Calls PySem.Spec
set_option maxRecDepth 100000
set_option maxHeartbeats 4000000

section
variable {prog : Program} {w : World} {A : Around} {E : Value → Shared → Prop} {s : Shared} {env : Env} {h₀ : Heap} {x : Str} {body : List Stmt} {Q : Flow → Shared → Prop}

theorem unrPost_mono {L I : Addr} {s₁ s₂ : Shared} {it : Obj} {r r' : (Str → Option Value) → List (Addr × Obj) → Prop} {f : Flow} (h : UnrPost h₀ L s₁ I it r Q f s₂) (hr : ∀ m n, r m n → r' m n) : UnrPost h₀ L s₁ I it r' Q f s₂ := by
  cases f with
  | ret v => exact h
  | brk => exact h
  | next =>
    obtain ⟨h', tk, m', news', e, F, N, o, r⟩ := h
    exact ⟨h', tk, m', news', e, F, N, o, hr _ _ r⟩
  | cont =>
    obtain ⟨h', tk, m', news', e, F, N, o, r⟩ := h
    exact ⟨h', tk, m', news', e, F, N, o, hr _ _ r⟩

/-- the turns over a range by what holds between them -/
theorem rangeRest_inv {I : Addr} {a : Int} {n : Nat} (J : Nat → (Str → Option Value) → List (Addr × Obj) → Prop)
    (step : ∀ i m news t h tk, i < n → J i m news → Fr h₀ env.locals h (fun y => if y = x then some (.int (a + (i : Int)) t) else m y) → News h₀ env.locals h ((I, itR (a + ((i + 1 : Nat) : Int)) ((n : Int) - ((i + 1 : Nat) : Int))) :: news) →
      wpAny (model prog w) A (execs body env) (UnrPost h₀ env.locals { s with heap := h, toks := tk } I (itR (a + ((i + 1 : Nat) : Int)) ((n : Int) - ((i + 1 : Nat) : Int))) (J (i + 1)) Q) E { s with heap := h, toks := tk })
    (fin : ∀ m news h tk, J n m news → Fr h₀ env.locals h m → News h₀ env.locals h news → Q .next { s with heap := h, toks := tk }) :
    ∀ k i m news, i + k = n → J i m news → RangeRest prog w A E h₀ env x body Q s I a n k i m news
  | 0, i, m, news, e, j => by
    have : i = n := by omega
    subst this
    exact RangeRest.zero fun h tk F N => fin m news h tk j F N
  | k + 1, i, m, news, e, j => RangeRest.succ fun t h tk F N =>
    wpAny_mono (step i m news t h tk (by omega) j F N) (fun _ _ p => unrPost_mono p fun m' n' j' => rangeRest_inv J step fin k (i + 1) m' n' (by omega) j') fun _ _ z => z

/-- the turns over a list by what holds between them -/
theorem listRest_inv {I : Addr} {lp : Addr × Obj} (J : List Value → (Str → Option Value) → List (Addr × Obj) → Prop)
    (step : ∀ v r m news it h tk, J (v :: r) m news → it.cls = .type "list_iterator" → Fr h₀ env.locals h (fun y => if y = x then some v else m y) → News h₀ env.locals h ((I, it) :: news) →
      wpAny (model prog w) A (execs body env) (UnrPost h₀ env.locals { s with heap := h, toks := tk } I it (fun m' n' => lp ∈ n' ∧ J r m' n') Q) E { s with heap := h, toks := tk })
    (fin : ∀ m news h tk, J [] m news → Fr h₀ env.locals h m → News h₀ env.locals h news → Q .next { s with heap := h, toks := tk }) :
    ∀ l m news, J l m news → ListRest prog w A E h₀ env x body Q s I lp l m news
  | [], m, news, j => ListRest.zero fun h tk F N => fin m news h tk j F N
  | v :: r, m, news, j => ListRest.succ fun it h tk hc F N =>
    wpAny_mono (step v r m news it h tk j hc F N) (fun _ _ p => unrPost_mono p fun m' n' j' => ⟨j'.1, listRest_inv J step fin r m' n' j'.2⟩) fun _ _ z => z
end

/-- names that are known, and one that may be bound -/
noncomputable abbrev MpX (x : Str) (ve : Option Value) (l : List (Str × Value)) : Str → Option Value := fun z => if z = x then ve else Mp l z
theorem mpX_none {x : Str} {l : List (Str × Value)} (h : Mp l x = none) : Mp l = MpX x none l := by
  funext z
  show Mp l z = if z = x then none else Mp l z
  by_cases q : z = x
  · rw [if_pos q, q, h]
  · rw [if_neg q]
theorem mpX_at {m : Str → Option Value} {x : Str} {ve : Option Value} {v : Value} {l : List (Str × Value)} (h : m = MpX x ve l) : (fun y => if y = x then some v else m y) = MpX x (some v) l := by
  subst h
  funext z
  show (if z = x then some v else if z = x then ve else Mp l z) = if z = x then some v else Mp l z
  by_cases q : z = x
  · rw [if_pos q, if_pos q]
  · rw [if_neg q, if_neg q, if_neg q]
end

/- part N1 -/
section
open PySem PySem.W PyProof.Rows PySem.Calls PySem.Spec
set_option maxRecDepth 100000
set_option maxHeartbeats 4000000

/-- the table of a def that makes one lambda: empty, or with its code, which the ledger holds -/
noncomputable def TabIs (ps : Array Value) (pos : Pos) (qual : Str) (rest : List (Addr × Obj)) : Prop :=
  ps = #[] ∨ ∃ (c' : Addr) (oc : Obj) (vs : Array Value) (t : Tok), ps = #[] ++ #[rawInt pos.line, rawInt pos.col, .ref c'] ∧ (c', oc) ∈ rest ∧ oc.data = .fields vs ∧ vs[1]? = some (.str qual t)
theorem TabIs.sub {ps : Array Value} {pos : Pos} {qual : Str} {r r' : List (Addr × Obj)} (h : TabIs ps pos qual r) (e : ∀ p ∈ r, p ∈ r') : TabIs ps pos qual r' := by
  rcases h with h | ⟨c', oc, vs, t, h1, h2, h3⟩
  · exact .inl h
  · exact .inr ⟨c', oc, vs, t, h1, e _ h2, h3⟩

section
variable {M : Model} {A : Around} {E : Value → Shared → Prop} {s : Shared} {h₀ : Heap} {L a c P : Addr} {m mg mb : Str → Option Value} {cn : Str} {cs : Scope} {ccd : Value} {cl : List (Str × Addr)} {rest : List (Addr × Obj)}
  {p : Program} {loose : List Str} {mean : ExcName → Option Value} {name qual : Str} {params : Arguments} {body : Expr} {scope : Scope} {ps : Array Value} {pos : Pos} {clos : List (Str × Addr)}
theorem lam_make {Q : Value → Shared → Prop} (F : Fr h₀ L s.heap m) (N : News h₀ L s.heap ((P, tabObj ps) :: rest)) (T : Top p loose mean mg mb h₀) (C : CodeHd h₀ c P) (hcd : ccd = .ref c) (off : ∀ q ∈ rest, q.1 ≠ P)
    (ht : TabIs ps pos ((envX cn cs L a ccd cl).qual ++ "<lambda>") rest) (hdef : defaultsOf params (envX cn cs L a ccd cl) = ([], [])) (hcl : closureFor scope (envX cn cs L a ccd cl) = pure clos)
    (h : ∀ f c' ctv oc vs t ps' rest' h' tk, Fr h₀ L h' m → News h₀ L h' ((f, kla_obj "<lambda>" ((envX cn cs L a ccd cl).qual ++ "<lambda>") params body scope clos ((mg "__name__").getD .none) c' ctv) :: (P, tabObj ps') :: rest') →
      (c', oc) ∈ rest' → oc.data = .fields vs → vs[1]? = some (.str ((envX cn cs L a ccd cl).qual ++ "<lambda>") t) → TabIs ps' pos ((envX cn cs L a ccd cl).qual ++ "<lambda>") rest' →
      ((rest' = rest ∧ ps' = ps) ∨ ∃ c₂ o₂, rest' = (c₂, o₂) :: rest ∧ (∀ r, TabIs ps' pos ((envX cn cs L a ccd cl).qual ++ "<lambda>") ((c₂, o₂) :: r)) ∧ ∀ q ∈ (P, tabObj ps) :: rest, q.1 < c₂) → (∀ q ∈ (P, tabObj ps') :: rest', q.1 < f) → Q (.ref f) { s with heap := h', toks := tk }) :
    wpAny M A (eval (.Lambda params body scope pos) (envX cn cs L a ccd cl)) Q E s := by
  refine kla_eval hdef ?_
  rcases ht with rfl | ⟨c', oc, vs, t, rfl, hm, hd, hv⟩
  · refine kla_nest F N T C hcd (.head off) trivial rfl hcl fun f c' oc vs t ctv h' tk F' N' hd hv l1 l2 => ?_
    refine h f c' ctv oc vs t _ ((c', oc) :: rest) h' tk F' (fun q hq => N' q ?_) (.head _) hd hv (.inr ⟨c', oc, vs, t, rfl, .head _, hd, hv⟩) (.inr ⟨c', oc, rfl, fun r => .inr ⟨c', oc, vs, t, rfl, .head _, hd, hv⟩, l1⟩) (fun q hq => ?_)
    · simp only [List.mem_cons] at hq ⊢
      rcases hq with h | h | h | h <;> simp [h]
    · rcases List.mem_cons.mp hq with rfl | hq
      · exact Nat.lt_trans (l1 (P, tabObj #[]) (.head _)) l2
      · rcases List.mem_cons.mp hq with rfl | hq
        · exact l2
        · exact Nat.lt_trans (l1 q (.tail _ hq)) l2
  · refine kla_hit F N T C hcd (.head _) (by simp [TriplesOk, rawInt]) (c' := c') (by simp [codeAmong, rawInt]) hcl fun f ctv h' tk F' N' l1 => ?_
    exact h f c' ctv oc vs t _ rest h' tk F' N' hm hd hv (.inr ⟨c', oc, vs, t, rfl, hm, hd, hv⟩) (.inl ⟨rfl, rfl⟩) l1
end
theorem tab_close {g h : Heap} {L src P : Addr} {o : Obj} {ps ps' : Array Value} {pos : Pos} {q : Str} {rest rest' : List (Addr × Obj)} (pre mid : List (Addr × Obj)) (ht : TabIs ps pos q rest)
    (hr : (rest' = mid ++ (src, o) :: rest ∧ ps' = ps) ∨ ∃ c₂ o₂, rest' = (c₂, o₂) :: (mid ++ (src, o) :: rest) ∧ (∀ r, TabIs ps' pos q ((c₂, o₂) :: r)) ∧ ∀ x ∈ (P, tabObj ps) :: (mid ++ (src, o) :: rest), x.1 < c₂)
    (N : News g L h (pre ++ (P, tabObj ps') :: rest')) :
    ∃ restN, News g L h ((src, o) :: (P, tabObj ps') :: restN) ∧ TabIs ps' pos q restN ∧ (restN = rest ∨ ∃ c₂ o₂, restN = (c₂, o₂) :: rest ∧ ∀ x ∈ (src, o) :: (P, tabObj ps) :: rest, x.1 < c₂) := by
  rcases hr with ⟨rfl, rfl⟩ | ⟨c2, o2, rfl, h1, h2⟩
  · refine ⟨rest, fun p hp => N p ?_, ht, .inl rfl⟩
    simp only [List.mem_cons, List.mem_append] at hp ⊢
    rcases hp with h | h | h <;> simp [h]
  · refine ⟨(c2, o2) :: rest, fun p hp => N p ?_, h1 _, .inr ⟨c2, o2, rfl, fun x hx => h2 x ?_⟩⟩
    · simp only [List.mem_cons, List.mem_append] at hp ⊢
      rcases hp with h | h | h | h <;> simp [h]
    · simp only [List.mem_cons, List.mem_append] at hx ⊢
      rcases hx with h | h | h <;> simp [h]
theorem heard_S (w : World) (f : Addr) (need : Nat) (news : List (Addr × Obj)) (Pv : Value → Prop) (Bad : Int → Prop) (C : CtrR w f [] need news (fun v n => Pv v ∧ n = news) MSG Bad) (oc : Value) (od : Option Addr) (fd : FuncData) (sl : Array (Option Value)) (hfn : (f, (⟨oc, od, .func fd, sl⟩ : Obj)) ∈ news) :
    CtrT w 110 [.ref f] (need + 2) news (fun v news' => (∃ v₁ D, Pv v₁ ∧ v = .ref D ∧ (∀ p ∈ news, p.1 < D) ∧ news' = (D, tup1 v₁) :: news) ∨
      (∃ k D u t c, Bad k ∧ v = .ref D ∧ (∀ p ∈ news, p.1 < D) ∧ news' = (D, W.listOf #[.str MSG u, .int k t] c) :: news)) := by
  intro p loose mean mg mb dp un gd cn cs a ccd cl outer A₀ base h₀ L m s Q E B F X N T XB TB hkd hdp hun hret
  refine heard_C w f need news _ Bad C oc od fd sl hfn p loose mean mg mb dp un gd cn cs a ccd cl outer A₀ base h₀ L m s Q E B F X N T XB TB hkd hdp hun ?_
  rintro v news' h' tk' h₀' (⟨v1, n1, D, ⟨hv, rfl⟩, e, hl, rfl⟩ | hb)
  · exact hret _ _ _ _ _ (.inl ⟨v1, D, hv, e, hl, rfl⟩)
  · exact hret _ _ _ _ _ (.inr hb)
theorem join_len (sep : Str) (l : List Str) (B : Nat) (hB : ∀ p ∈ l, p.length ≤ B) : (Txt.join sep l).length ≤ l.length * (B + sep.length) := by
  cases l with
  | nil => rw [len_cl, join_cl_nil]; simp
  | cons x r =>
    rw [len_cl, join_cl]
    have h1 := hB x (.head _)
    rw [len_cl] at h1
    have h2 := flatten_le (B := B + sep.length) (r.map fun p => cl sep ++ cl p) (fun q hq => by
      obtain ⟨p, hp, rfl⟩ := List.mem_map.mp hq
      have := hB p (.tail _ hp)
      rw [len_cl] at this
      rw [List.length_append, len_cl sep]
      omega)
    rw [List.length_map] at h2
    rw [List.length_append, List.length_cons, Nat.succ_mul]
    omega
end

/- part T2 -/
section
open PySem PySem.W PyProof.Rows

/-- the pieces, a blank between -/
noncomputable def glue : List (List Nat) → List Nat
  | [] => []
  | [p] => p
  | p :: q :: r => p ++ 32 :: glue (q :: r)

theorem glue_cons (p : List Nat) (r : List (List Nat)) (h : r ≠ []) : glue (p :: r) = p ++ 32 :: glue r := by
  cases r with
  | nil => exact absurd rfl h
  | cons q r => rfl

theorem glue_join (x : Str) (r : List Str) : cl (Txt.join (Str.ofString " ") (x :: r)) = glue ((x :: r).map cl) := by
  rw [join_cl]
  induction r generalizing x with
  | nil => simp [glue]
  | cons y r ih =>
    have := ih y
    simp only [List.map_cons, List.flatten_cons] at this ⊢
    rw [glue_cons _ _ (by simp), ← this]
    rfl

/-- what a piece adds to the depth -/
noncomputable def wOf (p : Str) : Int := if p = Str.ofString "/*" then 1 else if p = Str.ofString "*/" then -1 else 0
noncomputable def isPiece (p : Str) : Prop := p = Str.ofString "/*" ∨ p = Str.ofString "*/" ∨ p = Str.ofString "x" ∨ p = Str.ofString "*" ∨ p = Str.ofString "/"

theorem cl_open : cl (Str.ofString "/*") = [47, 42] := by decide
theorem cl_close : cl (Str.ofString "*/") = [42, 47] := by decide
theorem cl_x : cl (Str.ofString "x") = [120] := by decide
theorem cl_star : cl (Str.ofString "*") = [42] := by decide
theorem cl_slash : cl (Str.ofString "/") = [47] := by decide

theorem rem_blank (d : Int) (t : List Nat) : remScan d (32 :: t) = (remScan d t).map (· + 1) := by
  cases t with
  | nil => rfl
  | cons b r =>
    simp only [remScan]
    rw [if_neg (by simp), if_neg (by simp)]

theorem rem_one (d : Int) (c : Nat) (t : List Nat) : remScan d (c :: 32 :: t) = (remScan d t).map (· + 2) := by
  simp only [remScan]
  rw [if_neg (by simp), if_neg (by simp), rem_blank, Option.map_map]
  rfl

/-- one piece ahead -/
theorem rem_piece (d : Int) (p : Str) (r : List (List Nat)) (hp : isPiece p) (hd : 1 ≤ d ∨ p = Str.ofString "/*" ∧ d = 0) :
    remScan d (glue (cl p :: r)) = if d + wOf p = 0 then some p.length else (remScan (d + wOf p) (glue r)).map (· + (p.length + 1)) := by
  have h0 : ∀ d, remScan d (glue []) = none := fun _ => rfl
  rcases hp with rfl | rfl | rfl | rfl | rfl
  · have hw : wOf (Str.ofString "/*") = 1 := by decide
    have hl : (Str.ofString "/*").length = 2 := by decide
    rw [hw, if_neg (by omega), cl_open, hl]
    cases r with
    | nil => simp [glue, remScan]
    | cons q r =>
      rw [glue_cons _ _ (by simp)]
      show remScan d (47 :: 42 :: 32 :: glue (q :: r)) = _
      rw [remScan, if_pos ⟨rfl, rfl⟩, rem_blank, Option.map_map]
      rfl
  · have hw : wOf (Str.ofString "*/") = -1 := by decide
    have hl : (Str.ofString "*/").length = 2 := by decide
    have hne : ¬ (Str.ofString "*/" = Str.ofString "/*" ∧ d = 0) := fun h => absurd h.1 (by decide)
    rw [hw, cl_close, hl]
    cases r with
    | nil =>
      show remScan d [42, 47] = _
      rw [remScan, if_neg (by decide), if_pos ⟨rfl, rfl⟩]
      by_cases h : d - 1 = 0
      · rw [if_pos h, if_pos (by omega)]
      · rw [if_neg h, if_neg (by omega)]; rfl
    | cons q r =>
      rw [glue_cons _ _ (by simp)]
      show remScan d (42 :: 47 :: 32 :: glue (q :: r)) = _
      rw [remScan, if_neg (by decide), if_pos ⟨rfl, rfl⟩]
      by_cases h : d - 1 = 0
      · rw [if_pos h, if_pos (by omega)]
      · rw [if_neg h, if_neg (by omega), rem_blank, Option.map_map]
        rfl
  all_goals
    first
      | have hw : wOf (Str.ofString "x") = 0 := by decide
      | skip
    have hdd : 1 ≤ d := hd.elim id fun h => absurd h.1 (by decide)
  · have hl : (Str.ofString "x").length = 1 := by decide
    rw [show wOf (Str.ofString "x") = 0 by decide, Int.add_zero, if_neg (by omega), hl, cl_x]
    cases r with
    | nil => rfl
    | cons q r => rw [glue_cons _ _ (by simp)]; exact rem_one d 120 _
  · have hl : (Str.ofString "*").length = 1 := by decide
    rw [show wOf (Str.ofString "*") = 0 by decide, Int.add_zero, if_neg (by omega), hl, cl_star]
    cases r with
    | nil => rfl
    | cons q r => rw [glue_cons _ _ (by simp)]; exact rem_one d 42 _
  · have hl : (Str.ofString "/").length = 1 := by decide
    rw [show wOf (Str.ofString "/") = 0 by decide, Int.add_zero, if_neg (by omega), hl, cl_slash]
    cases r with
    | nil => rfl
    | cons q r => rw [glue_cons _ _ (by simp)]; exact rem_one d 47 _

/-- what the law has reckoned ahead of the pieces r: whole is the right answer (from the remark's begin) -/
noncomputable def DueInv (whole : Option Int) (r : List Str) (deep : Int) (due : Option Int) (here : Int) : Prop :=
  (due = none ∧ whole = (remScan deep (glue (r.map cl))).map (fun n : Nat => here + (n : Int)) ∧ (1 ≤ deep ∨ (deep = 0 ∧ ∃ r', r = Str.ofString "/*" :: r'))) ∨ ∃ n, due = some n ∧ whole = some n

theorem due_end {whole : Option Int} {deep here : Int} {due : Option Int} (h : DueInv whole [] deep due here) : whole = due := by
  rcases h with ⟨rfl, h, _⟩ | ⟨n, rfl, h⟩
  · rw [h]; rfl
  · exact h
theorem due_set {whole : Option Int} {p : Str} {r : List Str} {deep here : Int} (hp : isPiece p) (h : DueInv whole (p :: r) deep none here) (h0 : deep + wOf p = 0) (d' h' : Int) : DueInv whole r d' (some (here + p.length)) h' := by
  rcases h with ⟨_, h, hd⟩ | ⟨n, hn, _⟩
  · refine .inr ⟨_, rfl, ?_⟩
    rw [h, List.map_cons, rem_piece deep p _ hp (by
      rcases hd with hd | ⟨hd, r', e⟩
      · exact .inl hd
      · exact .inr ⟨(List.cons.inj e).1, hd⟩), if_pos h0]
    rfl
  · cases hn
theorem due_go {whole : Option Int} {p : Str} {r : List Str} {deep here : Int} (hp : isPiece p) (h : DueInv whole (p :: r) deep none here) (h0 : ¬ deep + wOf p = 0) : DueInv whole r (deep + wOf p) none (here + p.length + 1) := by
  rcases h with ⟨_, h, hd⟩ | ⟨n, hn, _⟩
  · refine .inl ⟨rfl, ?_, .inl ?_⟩
    · rw [h, List.map_cons, rem_piece deep p _ hp (by
        rcases hd with hd | ⟨hd, r', e⟩
        · exact .inl hd
        · exact .inr ⟨(List.cons.inj e).1, hd⟩), if_neg h0, Option.map_map]
      congr 1
      funext n
      simp only [Function.comp]
      omega
    · have hw : -1 ≤ wOf p := by unfold wOf; split <;> (try split) <;> omega
      rcases hd with hd | ⟨hd, r', e⟩
      · omega
      · rw [(List.cons.inj e).1, hd] at *
        decide
  · cases hn
theorem due_had {whole : Option Int} {p : Str} {r : List Str} {deep here n : Int} (h : DueInv whole (p :: r) deep (some n) here) (d' h' : Int) : DueInv whole r d' (some n) h' := by
  rcases h with ⟨hn, _⟩ | ⟨m, hn, h⟩
  · cases hn
  · cases hn; exact .inr ⟨n, rfl, h⟩
theorem due_begin (a : Str) (r : List Str) : DueInv (remFrom (a ++ Txt.join (Str.ofString " ") (Str.ofString "/*" :: r)) 0 a.length) (Str.ofString "/*" :: r) 0 none a.length := by
  refine .inl ⟨rfl, ?_, .inr ⟨rfl, r, rfl⟩⟩
  unfold remFrom
  rw [cl_append, glue_join]
  have : ((a.length : Int)).toNat = (cl a).length := by rw [len_cl]; rfl
  rw [this, List.drop_left]
end

/- part R1 -/
section
open PySem PySem.W PyProof.Rows PySem.Calls PySem.Spec
set_option maxRecDepth 100000
set_option maxHeartbeats 4000000
set_option linter.unusedVariables false

/-- names known, two that may be bound -/
noncomputable abbrev MpY (vt vp : Option Value) (l : List (Str × Value)) : Str → Option Value := fun z => if z = Str.ofString "turn" then vt else if z = Str.ofString "piece" then vp else Mp l z

section
variable {w : World} {rest : List (Addr × Obj)} {ps : Array Value} {p : Program} {loose : List Str} {mean : ExcName → Option Value} {mg mb : Str → Option Value}
    {dp un : Nat} {gd : Option (List Code)} {cn : Str} {cs : Scope} {a : Addr} {ccd : Value} {cl : List (Str × Addr)} {outer : List Env} {base g : Heap} {L L' src : Addr} {o : Obj} {m' : Str → Option Value} {s : Shared} {Q : Flow → Shared → Prop} {E : Value → Shared → Prop}
noncomputable abbrev remPos : Pos := ⟨105, 22, 105, 53⟩
noncomputable abbrev remQual : Str := Str.ofString "_law_remark_right" ++ ".<locals>." ++ "<lambda>"
theorem rem_tail {P : Addr} {l : List (Str × Tok)} {c : Nat} {oB oX : Obj} {xa : Str} {ta tb : Tok} {vt vp : Option Value} {vsrc vdeep vhere vd : Value}
    (CB : CodeHd base 133 129) (off : ∀ p ∈ rest, p.1 ≠ 129) (hs : src ≠ 129) (offS : ∀ p ∈ rest, p.1 ≠ src) (hP : L' + 1 + 1 < P) (hlt : ∀ p ∈ (src, o) :: (129, tabObj ps) :: rest, p.1 < L') (ht : TabIs ps remPos remQual rest) (hl : ∀ p ∈ l, p.1.length ≤ 2) (hn : l.length ≤ 10) (hxa : xa.length ≤ 4)
    (dB : oB.data = .cell (some (.int xa.length tb))) (dX : oX.data = .cell none)
    (hdue : (remFrom (xa ++ Txt.join (Str.ofString " ") (l.map (·.1))) 0 xa.length = none ∧ vd = .none) ∨ ∃ n td, remFrom (xa ++ Txt.join (Str.ofString " ") (l.map (·.1))) 0 xa.length = some n ∧ vd = .int n td)
    (XB : (hd.heap_39 w.params).In base) (TB : Top p loose mean mg mb base) (B' : Below (ktrTop dp un gd cn cs L a ccd cl outer) base (envX cn cs L a ccd cl :: outer) g)
    (F' : Fr g L' s.heap (MpY vt vp [("source", vsrc), ("ahead", .str xa ta), ("pieces", .ref P), ("deep", vdeep), ("due", vd), ("here", vhere)])) (N' : News g L' s.heap ((P, W.listOf (strValues l).toArray c) :: (L' + 1, oB) :: (L' + 1 + 1, oX) :: (src, o) :: (129, tabObj ps) :: rest))
    (X' : (hd.heap_39 w.params).In g) (T' : Top p loose mean mg mb g) (hdp : dp + 20 < recursionLimit) (hun : un + 8 * 20 < cLine)
    (ret : ∀ g' h' tk' m'' ps' rest', KtsTurn (frs (envX cn cs L a ccd cl :: outer)) g g' → Fr g' L' h' m'' → News g' L' h' ((src, o) :: (129, tabObj ps') :: rest') → TabIs ps' remPos remQual rest' → (rest' = rest ∨ ∃ c₂ o₂, rest' = (c₂, o₂) :: rest ∧ ∀ q ∈ (src, o) :: (129, tabObj ps) :: rest, q.1 < c₂) → Q (.ret (.bool true)) { s with heap := h', toks := tk' }) :
    wpAny (model PySem.Challenge.rw_xw0154_01.row.prog w) ((ktrTop dp un gd cn cs L a ccd cl outer).deeper (envX (Str.ofString "_law_remark_right") (fnScope (hd.heap_39 w.params) 134) L' 134 (.ref 133) (cellsFrom (L' + 1) (fnScope (hd.heap_39 w.params) 134).names [])))
      (execs ((fnBody (hd.heap_39 w.params) 134).drop 5) (envX (Str.ofString "_law_remark_right") (fnScope (hd.heap_39 w.params) 134) L' 134 (.ref 133) (cellsFrom (L' + 1) (fnScope (hd.heap_39 w.params) 134).names []))) Q E s := by
  obtain ⟨sc, hsc⟩ : ∃ sc, sc = fnScope (hd.heap_39 w.params) 134 := ⟨_, rfl⟩
  obtain ⟨bd, hbd⟩ : ∃ bd, bd = (fnBody (hd.heap_39 w.params) 134).drop 5 := ⟨_, rfl⟩
  rw [← hsc, ← hbd]
  conv at hsc => rhs; whnf
  conv at hbd => rhs; whnf
  subst hsc hbd
  have lsrc := ltN (hlt _ (.head _))
  have ltab := ltN (hlt _ (.tail _ (.head _)))
  dsimp only at lsrc ltab
  have lP := ltN hP
  have off1 : ∀ p ∈ rest, p.1 ≠ L' + 1 := fun p hp => by have z := ltN (hlt _ (.tail _ (.tail _ hp))); k_ne
  have off2 : ∀ p ∈ rest, p.1 ≠ L' + 1 + 1 := fun p hp => by have z := ltN (hlt _ (.tail _ (.tail _ hp))); k_ne
  w_on
  k_with_none
  (repeat' ((fail_if_success (with_reducible show wpAny _ _ (exec (Stmt.While _ _ _ _) _) _ _ _)); (fail_if_success (with_reducible show wpAny _ _ (exec (Stmt.Raise _ _ _) _) _ _ _)); (fail_if_success (with_reducible show wpAny _ _ (exec (Stmt.For _ _ _ _ _) _) _ _ _)); (fail_if_success (with_reducible show wpAny _ _ (eval (Expr.Lambda _ _ _ _) _) _ _ _)); (fail_if_success (with_reducible show wpAny _ _ (eval (Expr.Name (Str.ofString "text") _) _) _ _ _)); (fail_if_success (with_reducible show wpAny _ _ (eval (Expr.Name (Str.ofString "begin") _) _) _ _ _)); (fail_if_success (with_reducible show wpAny _ _ (call (Value.ref _) _) _ _ _)); first | (k_unfold; (try dsimp only)) | (k_end; wrow_close) | walk1 | (dsimp only; walk1) | (leave1; (try dsimp only))))
  refine join_mem 2 N' (.head _) hl (by show l.length * 2 + l.length * 1 ≤ _; omega) ?_
  intro t9 k9
  have hlen := join_len (Str.ofString " ") (l.map (·.1)) 2 (by simpa using hl)
  rw [List.length_map, show (Str.ofString " ").length = 1 by decide] at hlen
  generalize Txt.join (Str.ofString " ") (List.map (fun x => x.1) l) = y at hlen hdue ⊢
  dsimp only
  (repeat' ((fail_if_success (with_reducible show wpAny _ _ (exec (Stmt.While _ _ _ _) _) _ _ _)); (fail_if_success (with_reducible show wpAny _ _ (exec (Stmt.Raise _ _ _) _) _ _ _)); (fail_if_success (with_reducible show wpAny _ _ (exec (Stmt.For _ _ _ _ _) _) _ _ _)); (fail_if_success (with_reducible show wpAny _ _ (eval (Expr.Lambda _ _ _ _) _) _ _ _)); (fail_if_success (with_reducible show wpAny _ _ (eval (Expr.Name (Str.ofString "text") _) _) _ _ _)); (fail_if_success (with_reducible show wpAny _ _ (eval (Expr.Name (Str.ofString "begin") _) _) _ _ _)); (fail_if_success (with_reducible show wpAny _ _ (call (Value.ref _) _) _ _ _)); first | (k_unfold; (try dsimp only)) | (k_end; wrow_close) | walk1 | (dsimp only; walk1) | (leave1; (try dsimp only))))
  (rename Fr _ _ _ _ => F1)
  (rename News _ _ _ _ => N1)
  rename (_ = Data.cell (some (Value.str (xa ++ y) _))) => dX1
  rename Obj => oX1
  have N2 : News g L' _ ((129, tabObj ps) :: (P, W.listOf (strValues l).toArray c) :: (L' + 1, oB) :: (L' + 1 + 1, oX1) :: (src, o) :: rest) := News.sub N1 (by repeat' (first | exact sbR | refine sbK ?_ | exact .head _ | refine sbC ?_ ?_ | refine List.Mem.tail _ ?_ | refine sbT ?_))
  have off9 : ∀ q ∈ (P, W.listOf (strValues l).toArray c) :: (L' + 1, oB) :: (L' + 1 + 1, oX1) :: (src, o) :: rest, q.1 ≠ 129 := by
    exact offK (by k_ne) (offK (by k_ne) (offK (by k_ne) (offK hs off)))
  refine lam_make F1 N2 T' (CB.keeps B'.stays) rfl off9 (ht.sub fun p hp => .tail _ (.tail _ (.tail _ (.tail _ hp)))) rfl rfl ?_
  intro f c' ctv oc vs t ps' rest' h4 tk4 F4 N4 hm hd hv ht' hr hlt4
  have hall : ∀ q ∈ (P, W.listOf (strValues l).toArray c) :: (L' + 1, oB) :: (L' + 1 + 1, oX1) :: (src, o) :: rest, q ∈ rest' := by
    rcases hr with ⟨rfl, _⟩ | ⟨c2, o2, rfl, _, _⟩
    · exact fun q hq => hq
    · exact fun q hq => .tail _ hq
  have hB := hall _ (.tail _ (.head _))
  have hX := hall _ (.tail _ (.tail _ (.head _)))
  clear F1 N1 N2
  dsimp only
  (repeat' ((fail_if_success (with_reducible show wpAny _ _ (exec (Stmt.While _ _ _ _) _) _ _ _)); (fail_if_success (with_reducible show wpAny _ _ (exec (Stmt.Raise _ _ _) _) _ _ _)); (fail_if_success (with_reducible show wpAny _ _ (exec (Stmt.For _ _ _ _ _) _) _ _ _)); (fail_if_success (with_reducible show wpAny _ _ (eval (Expr.Lambda _ _ _ _) _) _ _ _)); (fail_if_success (with_reducible show wpAny _ _ (eval (Expr.Name (Str.ofString "text") _) _) _ _ _)); (fail_if_success (with_reducible show wpAny _ _ (eval (Expr.Name (Str.ofString "begin") _) _) _ _ _)); (fail_if_success (with_reducible show wpAny _ _ (call (Value.ref _) _) _ _ _)); first | (k_unfold; (try dsimp only)) | (k_end; wrow_close) | walk1 | (dsimp only; walk1) | (leave1; (try dsimp only))))
  (rename Fr _ _ _ _ => F5)
  (rename News _ _ _ _ => N5)
  refine ctrT_gen (heard_S w f 6 _ (fun v => ∃ k t, remFrom (xa ++ y) 0 xa.length = some k ∧ v = .int k t) (fun b => remFrom (xa ++ y) 0 xa.length = none ∧ b = xa.length) ?C _ _ _ _ (.head _)) B' F5 X' N5 T' XB TB rfl ?_ ?_ ?_
  case C =>
    intro p2 loose2 mean2 mg2 mb2 dp2 un2 gd2 cn2 cs2 a2 ccd2 cl2 outer2 A2 base2 h02 L2 m2 s2 Q2 E2 B2 F2 X2 N2 T2 hkd2 hdp2 hun2 hret2 herr2
    refine wpAny_call ?_
    k_dflt (refine' kla_code ?k1 ?k2 ?k3 ?k4 ?k5 ?kA ?kF ?kK ?k6 ?k7 ?k8 ?k9 ?kB ?_ ?c2 ?c3 ?c4 ?c5; (case kA => exact rfl); (case kF => exact rfl); (case kK => exact hkd2); (case k1 => k_asm); (case k2 => k_asm); (case k3 => k_asm); (case k4 => k_asm); (case k5 => k_asm); (case k6 => k_mem); (case k7 => exact codeRec_news N2 (.tail _ (.tail _ hm)) hd hv); (case k8 => ktr_room); (case k9 => exact rfl); (case c5 => decide); (case kB => exact locs rfl); (case c2 => exact rfl); (case c3 => exact rfl); (case c4 => exact rfl); k_whole; intro g' L' h' FG' F' N' B' X' T'; (try dsimp only); (try k_lift B'); (try k_fold))
    (repeat' ((fail_if_success (with_reducible show wpAny _ _ (exec (Stmt.While _ _ _ _) _) _ _ _)); (fail_if_success (with_reducible show wpAny _ _ (exec (Stmt.Raise _ _ _) _) _ _ _)); (fail_if_success (with_reducible show wpAny _ _ (exec (Stmt.For _ _ _ _ _) _) _ _ _)); (fail_if_success (with_reducible show wpAny _ _ (eval (Expr.Lambda _ _ _ _) _) _ _ _)); (fail_if_success (with_reducible show wpAny _ _ (eval (Expr.Name (Str.ofString "text") _) _) _ _ _)); (fail_if_success (with_reducible show wpAny _ _ (eval (Expr.Name (Str.ofString "begin") _) _) _ _ _)); (fail_if_success (with_reducible show wpAny _ _ (call (Value.ref _) _) _ _ _)); first | (k_unfold; (try dsimp only)) | (k_end; wrow_close) | walk1 | (dsimp only; walk1) | (leave1; (try dsimp only))))
    refine nameX_F N' rfl (.tail _ (.tail _ hX)) dX1 ?_
    (repeat' ((fail_if_success (with_reducible show wpAny _ _ (exec (Stmt.While _ _ _ _) _) _ _ _)); (fail_if_success (with_reducible show wpAny _ _ (exec (Stmt.Raise _ _ _) _) _ _ _)); (fail_if_success (with_reducible show wpAny _ _ (exec (Stmt.For _ _ _ _ _) _) _ _ _)); (fail_if_success (with_reducible show wpAny _ _ (eval (Expr.Lambda _ _ _ _) _) _ _ _)); (fail_if_success (with_reducible show wpAny _ _ (eval (Expr.Name (Str.ofString "text") _) _) _ _ _)); (fail_if_success (with_reducible show wpAny _ _ (eval (Expr.Name (Str.ofString "begin") _) _) _ _ _)); (fail_if_success (with_reducible show wpAny _ _ (call (Value.ref _) _) _ _ _)); first | (k_unfold; (try dsimp only)) | (k_end; wrow_close) | walk1 | (dsimp only; walk1) | (leave1; (try dsimp only))))
    refine nameX_F N' rfl (.tail _ (.tail _ hB)) dB ?_
    (repeat' ((fail_if_success (with_reducible show wpAny _ _ (exec (Stmt.While _ _ _ _) _) _ _ _)); (fail_if_success (with_reducible show wpAny _ _ (exec (Stmt.Raise _ _ _) _) _ _ _)); (fail_if_success (with_reducible show wpAny _ _ (exec (Stmt.For _ _ _ _ _) _) _ _ _)); (fail_if_success (with_reducible show wpAny _ _ (eval (Expr.Lambda _ _ _ _) _) _ _ _)); (fail_if_success (with_reducible show wpAny _ _ (eval (Expr.Name (Str.ofString "text") _) _) _ _ _)); (fail_if_success (with_reducible show wpAny _ _ (eval (Expr.Name (Str.ofString "begin") _) _) _ _ _)); (fail_if_success (with_reducible show wpAny _ _ (call (Value.ref _) _) _ _ _)); first | (k_unfold; (try dsimp only)) | (k_end; wrow_close) | walk1 | (dsimp only; walk1) | (leave1; (try dsimp only))))
    (rename Below _ _ _ _ => B9)
    (rename Frag.In _ _ => X9)
    (rename Top _ _ _ _ _ _ => T9)
    have hxl : (xa ++ y).length ≤ 1000 := by omega
    have hxl2 : (xa.length : Int) ≤ (xa ++ y).length := by omega
    refine ctrR_use (remark_end_C w (xa ++ y) xa.length _ _ hxl (by omega) hxl2 _) B9 F' X9 N' T9 rfl ?_ ?_ ?_ ?_
    · exact rmD hdp2
    · exact rmU hun2
    · rintro v news' h3 tk3 ⟨⟨n, t, hn, rfl⟩, e⟩ F3 N3
      subst e
      dsimp only
      (repeat' ((fail_if_success (with_reducible show wpAny _ _ (exec (Stmt.While _ _ _ _) _) _ _ _)); (fail_if_success (with_reducible show wpAny _ _ (exec (Stmt.Raise _ _ _) _) _ _ _)); (fail_if_success (with_reducible show wpAny _ _ (exec (Stmt.For _ _ _ _ _) _) _ _ _)); (fail_if_success (with_reducible show wpAny _ _ (eval (Expr.Lambda _ _ _ _) _) _ _ _)); (fail_if_success (with_reducible show wpAny _ _ (eval (Expr.Name (Str.ofString "text") _) _) _ _ _)); (fail_if_success (with_reducible show wpAny _ _ (eval (Expr.Name (Str.ofString "begin") _) _) _ _ _)); (fail_if_success (with_reducible show wpAny _ _ (call (Value.ref _) _) _ _ _)); first | (k_unfold; (try dsimp only)) | (k_end; wrow_close) | walk1 | (dsimp only; walk1) | (leave1; (try dsimp only))))
      (rename Fr _ _ _ _ => kF)
      (rename News _ _ _ _ => kN)
      exact hret2 _ _ _ _ ⟨⟨n, t, hn, rfl⟩, rfl⟩ kF kN
    · rintro b e d t1 u1 t2 t3 g2 h3 tk3 ⟨hb, rfl⟩ F3 U3 R3
      (try k_unfold)
      dsimp only
      refine leave_onT B9 F3 R3 U3 rfl fun h4 R4 U4 => ?_
      exact herr2 _ e d _ _ _ _ _ _ _ ⟨hb, rfl⟩ (by assumption) U4 R4
  · exact rmD hdp
  · exact rmU hun
  rintro Q3 hQ3 v news' h3 tk3 g3 hR T3 F3 N3 B3
  have X3 := XB.keeps B3.stays
  have P3 := TB.keeps B3.stays
  clear F5 N5
  rcases hR with ⟨v1, D, ⟨k, t, hk, rfl⟩, rfl, hl3, rfl⟩ | ⟨b, D, u, t, c, ⟨hk, rfl⟩, rfl, hl3, rfl⟩
  · rcases hdue with ⟨hz, _⟩ | ⟨n, td, hz, rfl⟩
    · rw [hk] at hz; cases hz
    rw [hk] at hz; cases hz
    refine hQ3 _ _ ?_
    clear hQ3 Q3
    dsimp only
    (repeat' ((fail_if_success (with_reducible show wpAny _ _ (exec (Stmt.While _ _ _ _) _) _ _ _)); (fail_if_success (with_reducible show wpAny _ _ (exec (Stmt.Raise _ _ _) _) _ _ _)); (fail_if_success (with_reducible show wpAny _ _ (exec (Stmt.For _ _ _ _ _) _) _ _ _)); (fail_if_success (with_reducible show wpAny _ _ (eval (Expr.Lambda _ _ _ _) _) _ _ _)); (fail_if_success (with_reducible show wpAny _ _ (eval (Expr.Name (Str.ofString "text") _) _) _ _ _)); (fail_if_success (with_reducible show wpAny _ _ (eval (Expr.Name (Str.ofString "begin") _) _) _ _ _)); (fail_if_success (with_reducible show wpAny _ _ (call (Value.ref _) _) _ _ _)); first | (k_unfold; (try dsimp only)) | (k_end; wrow_close) | walk1 | (dsimp only; walk1) | (leave1; (try dsimp only))))
    (rename Fr _ _ _ _ => F6)
    (rename News _ _ _ _ => N6)
    obtain ⟨restN, N7, ht7, hr7⟩ := tab_close [_, _, _] [_, _, _] ht hr N6
    exact ret _ _ _ _ _ _ T3 F6 N7 ht7 hr7
  · rcases hdue with ⟨hz, rfl⟩ | ⟨n, td, hz, _⟩
    · refine hQ3 _ _ ?_
      clear hQ3 Q3
      dsimp only
      (repeat' ((fail_if_success (with_reducible show wpAny _ _ (exec (Stmt.While _ _ _ _) _) _ _ _)); (fail_if_success (with_reducible show wpAny _ _ (exec (Stmt.Raise _ _ _) _) _ _ _)); (fail_if_success (with_reducible show wpAny _ _ (exec (Stmt.For _ _ _ _ _) _) _ _ _)); (fail_if_success (with_reducible show wpAny _ _ (eval (Expr.Lambda _ _ _ _) _) _ _ _)); (fail_if_success (with_reducible show wpAny _ _ (eval (Expr.Name (Str.ofString "text") _) _) _ _ _)); (fail_if_success (with_reducible show wpAny _ _ (eval (Expr.Name (Str.ofString "begin") _) _) _ _ _)); (fail_if_success (with_reducible show wpAny _ _ (call (Value.ref _) _) _ _ _)); first | (k_unfold; (try dsimp only)) | (k_end; wrow_close) | walk1 | (dsimp only; walk1) | (leave1; (try dsimp only))))
      refine nameX_C N3 rfl (.tail _ (.tail _ (.tail _ hB))) dB ?_
      (repeat' ((fail_if_success (with_reducible show wpAny _ _ (exec (Stmt.While _ _ _ _) _) _ _ _)); (fail_if_success (with_reducible show wpAny _ _ (exec (Stmt.Raise _ _ _) _) _ _ _)); (fail_if_success (with_reducible show wpAny _ _ (exec (Stmt.For _ _ _ _ _) _) _ _ _)); (fail_if_success (with_reducible show wpAny _ _ (eval (Expr.Lambda _ _ _ _) _) _ _ _)); (fail_if_success (with_reducible show wpAny _ _ (eval (Expr.Name (Str.ofString "text") _) _) _ _ _)); (fail_if_success (with_reducible show wpAny _ _ (eval (Expr.Name (Str.ofString "begin") _) _) _ _ _)); (fail_if_success (with_reducible show wpAny _ _ (call (Value.ref _) _) _ _ _)); first | (k_unfold; (try dsimp only)) | (k_end; wrow_close) | walk1 | (dsimp only; walk1) | (leave1; (try dsimp only))))
      (rename Fr _ _ _ _ => F4)
      (rename News _ _ _ _ => N4)
      refine ctr_gen (unended_C w _ _ _) B3 F4 X3 N4 P3 rfl ?_ ?_ ?_
      · exact rmD hdp
      · exact rmU hun
      rintro Q3 hQ3 v news' h5 tk5 ⟨D5, t5, c5, rfl, hl5, e⟩ F5 N5
      subst e
      refine hQ3 _ _ ?_
      clear hQ3 Q3
      clear F4 N4
      dsimp only
      (repeat' ((fail_if_success (with_reducible show wpAny _ _ (exec (Stmt.While _ _ _ _) _) _ _ _)); (fail_if_success (with_reducible show wpAny _ _ (exec (Stmt.Raise _ _ _) _) _ _ _)); (fail_if_success (with_reducible show wpAny _ _ (exec (Stmt.For _ _ _ _ _) _) _ _ _)); (fail_if_success (with_reducible show wpAny _ _ (eval (Expr.Lambda _ _ _ _) _) _ _ _)); (fail_if_success (with_reducible show wpAny _ _ (eval (Expr.Name (Str.ofString "text") _) _) _ _ _)); (fail_if_success (with_reducible show wpAny _ _ (eval (Expr.Name (Str.ofString "begin") _) _) _ _ _)); (fail_if_success (with_reducible show wpAny _ _ (call (Value.ref _) _) _ _ _)); first | (k_unfold; (try dsimp only)) | (k_end; wrow_close) | walk1 | (dsimp only; walk1) | (leave1; (try dsimp only))))
      (rename Fr _ _ _ _ => F6)
      (rename News _ _ _ _ => N6)
      obtain ⟨restN, N7, ht7, hr7⟩ := tab_close [_, _, _] [_, _, _] ht hr N6
      exact ret _ _ _ _ _ _ T3 F6 N7 ht7 hr7
    · rw [hk] at hz; cases hz
end
end

/- part R2 -/
section
open PySem PySem.W PyProof.Rows PySem.Calls PySem.Spec
set_option maxRecDepth 100000
set_option maxHeartbeats 4000000
set_option linter.unusedVariables false

theorem mpY_upd {m : Str → Option Value} {y : Str} {v : Value} {vt vp : Option Value} {l l' : List (Str × Value)} (h : m = MpY vt vp l) (h1 : y ≠ Str.ofString "turn") (h2 : y ≠ Str.ofString "piece") (e : setL y v l = l') : (fun z => if z = y then some v else m z) = MpY vt vp l' := by
  subst h
  funext z
  have := congrFun (mp_upd (m := Mp l) (x := y) (v := v) rfl e) z
  show (if z = y then some v else if z = Str.ofString "turn" then vt else if z = Str.ofString "piece" then vp else Mp l z) = if z = Str.ofString "turn" then vt else if z = Str.ofString "piece" then vp else Mp l' z
  by_cases q : z = y
  · rw [if_pos q, if_neg (fun r => h1 (q.symm.trans r)), if_neg (fun r => h2 (q.symm.trans r)), ← this, if_pos q]
  · rw [if_neg q]
    by_cases r : z = Str.ofString "turn"
    · rw [if_pos r, if_pos r]
    · rw [if_neg r, if_neg r]
      by_cases r2 : z = Str.ofString "piece"
      · rw [if_pos r2, if_pos r2]
      · rw [if_neg r2, if_neg r2, ← this, if_neg q]
theorem mpY_piece {m : Str → Option Value} {v : Value} {vt vp : Option Value} {l : List (Str × Value)} (h : m = MpY vt vp l) : (fun z => if z = Str.ofString "piece" then some v else m z) = MpY vt (some v) l := by
  subst h
  funext z
  show (if z = Str.ofString "piece" then some v else if z = Str.ofString "turn" then vt else if z = Str.ofString "piece" then vp else Mp l z) = if z = Str.ofString "turn" then vt else if z = Str.ofString "piece" then some v else Mp l z
  by_cases r : z = Str.ofString "turn"
  · have : z ≠ Str.ofString "piece" := by rw [r]; decide
    rw [if_neg this, if_pos r, if_pos r]
  · rw [if_neg r, if_neg r]
    by_cases r2 : z = Str.ofString "piece"
    · rw [if_pos r2, if_pos r2]
    · rw [if_neg r2, if_neg r2, if_neg r2]

noncomputable def dueV (td : Tok) : Option Int → Value
  | none => .none
  | some n => .int n td

section
variable {w : World} {rest : List (Addr × Obj)} {ps : Array Value} {p : Program} {loose : List Str} {mean : ExcName → Option Value} {mg mb : Str → Option Value}
    {dp un : Nat} {gd : Option (List Code)} {cn : Str} {cs : Scope} {a : Addr} {ccd : Value} {cl : List (Str × Addr)} {outer : List Env} {base g : Heap} {L L' src : Addr} {o : Obj} {m' : Str → Option Value} {s : Shared} {Q : Flow → Shared → Prop} {E : Value → Shared → Prop}
noncomputable abbrev RemJ2 (whole : Option Int) (vt : Option Value) (others : List (Str × Value)) (ledger : List (Addr × Obj)) (r : List Value) (m : Str → Option Value) (news : List (Addr × Obj)) : Prop :=
  ∃ (lr : List (Str × Tok)) (deep here : Int) (due : Option Int) (t1 t2 t3 : Tok) (vp : Option Value), r = strValues lr ∧ (∀ p ∈ lr, isPiece p.1) ∧ DueInv whole (lr.map (·.1)) deep due here ∧ 0 ≤ here ∧ here + 4 * lr.length ≤ 60 ∧ -100 + lr.length ≤ deep ∧ deep + lr.length ≤ 100 ∧
    m = MpY vt vp (others ++ [(Str.ofString "deep", Value.int deep t3), (Str.ofString "due", dueV t2 due), (Str.ofString "here", Value.int here t1)]) ∧ news = ledger
theorem remJ2_mk {whole : Option Int} {vt : Option Value} {others : List (Str × Value)} {ledger : List (Addr × Obj)} {r : List Value} {m : Str → Option Value} {news : List (Addr × Obj)} {lr : List (Str × Tok)} {deep here : Int} {due : Option Int} {t1 t2 t3 : Tok} {vp : Option Value}
    (a0 : r = strValues lr) (a1 : ∀ p ∈ lr, isPiece p.1) (a2 : DueInv whole (lr.map (·.1)) deep due here) (a3 : 0 ≤ here) (a4 : here + 4 * lr.length ≤ 60) (a5 : -100 + lr.length ≤ deep) (a6 : deep + lr.length ≤ 100)
    (a7 : m = MpY vt vp (others ++ [(Str.ofString "deep", Value.int deep t3), (Str.ofString "due", dueV t2 due), (Str.ofString "here", Value.int here t1)])) (a8 : news = ledger) : RemJ2 whole vt others ledger r m news := ⟨lr, deep, here, due, t1, t2, t3, vp, a0, a1, a2, a3, a4, a5, a6, a7, a8⟩
theorem rem_for {P : Addr} {l : List (Str × Tok)} {c : Nat} {oB oX : Obj} {xa : Str} {ta tb t1 t3 : Tok} {vt : Option Value} {vsrc : Value}
    (CB : CodeHd base 133 129) (off : ∀ p ∈ rest, p.1 ≠ 129) (hs : src ≠ 129) (offS : ∀ p ∈ rest, p.1 ≠ src) (hP : L' + 1 + 1 < P) (hlt : ∀ p ∈ (src, o) :: (129, tabObj ps) :: rest, p.1 < L') (ht : TabIs ps remPos remQual rest) (hl : ∀ p ∈ l, isPiece p.1) (hl0 : ∃ r, l.map (·.1) = Str.ofString "/*" :: r) (hn : l.length ≤ 10) (hxa : xa.length ≤ 4)
    (dB : oB.data = .cell (some (.int xa.length tb))) (dX : oX.data = .cell none)
    (XB : (hd.heap_39 w.params).In base) (TB : Top p loose mean mg mb base) (B' : Below (ktrTop dp un gd cn cs L a ccd cl outer) base (envX cn cs L a ccd cl :: outer) g)
    (F' : Fr g L' s.heap (MpY vt none [("source", vsrc), ("ahead", .str xa ta), ("pieces", .ref P), ("deep", .int 0 t3), ("due", .none), ("here", .int xa.length t1)])) (N' : News g L' s.heap ((P, W.listOf (strValues l).toArray c) :: (L' + 1, oB) :: (L' + 1 + 1, oX) :: (src, o) :: (129, tabObj ps) :: rest))
    (X' : (hd.heap_39 w.params).In g) (T' : Top p loose mean mg mb g) (hdp : dp + 20 < recursionLimit) (hun : un + 8 * 20 < cLine)
    (ret : ∀ g' h' tk' m'' ps' rest', KtsTurn (frs (envX cn cs L a ccd cl :: outer)) g g' → Fr g' L' h' m'' → News g' L' h' ((src, o) :: (129, tabObj ps') :: rest') → TabIs ps' remPos remQual rest' → (rest' = rest ∨ ∃ c₂ o₂, rest' = (c₂, o₂) :: rest ∧ ∀ q ∈ (src, o) :: (129, tabObj ps) :: rest, q.1 < c₂) → Q (.ret (.bool true)) { s with heap := h', toks := tk' }) :
    wpAny (model PySem.Challenge.rw_xw0154_01.row.prog w) ((ktrTop dp un gd cn cs L a ccd cl outer).deeper (envX (Str.ofString "_law_remark_right") (fnScope (hd.heap_39 w.params) 134) L' 134 (.ref 133) (cellsFrom (L' + 1) (fnScope (hd.heap_39 w.params) 134).names [])))
      (execs ((fnBody (hd.heap_39 w.params) 134).drop 4) (envX (Str.ofString "_law_remark_right") (fnScope (hd.heap_39 w.params) 134) L' 134 (.ref 133) (cellsFrom (L' + 1) (fnScope (hd.heap_39 w.params) 134).names []))) Q E s := by
  obtain ⟨sc, hsc⟩ : ∃ sc, sc = fnScope (hd.heap_39 w.params) 134 := ⟨_, rfl⟩
  obtain ⟨bd, hbd⟩ : ∃ bd, bd = (fnBody (hd.heap_39 w.params) 134).drop 4 := ⟨_, rfl⟩
  rw [← hsc, ← hbd]
  conv at hsc => rhs; whnf
  conv at hbd => rhs; whnf
  subst hsc hbd
  have lsrc := ltN (hlt _ (.head _))
  have ltab := ltN (hlt _ (.tail _ (.head _)))
  dsimp only at lsrc ltab
  have lP := ltN hP
  have off1 : ∀ p ∈ rest, p.1 ≠ L' + 1 := fun p hp => by have z := ltN (hlt _ (.tail _ (.tail _ hp))); k_ne
  have off2 : ∀ p ∈ rest, p.1 ≠ L' + 1 + 1 := fun p hp => by have z := ltN (hlt _ (.tail _ (.tail _ hp))); k_ne
  refine wpAny_noRaise ?_
  w_on
  k_with_none
  (repeat' ((fail_if_success (with_reducible show wpAny _ _ (exec (Stmt.While _ _ _ _) _) _ _ _)); (fail_if_success (with_reducible show wpAny _ _ (exec (Stmt.Raise _ _ _) _) _ _ _)); (fail_if_success (with_reducible show wpAny _ _ (exec (Stmt.For _ _ _ _ _) _) _ _ _)); (fail_if_success (with_reducible show wpAny _ _ (pyIter _) _ _ _)); (fail_if_success (with_reducible show wpAny _ _ (call (Value.ref _) _) _ _ _)); first | (k_unfold; (try dsimp only)) | (k_end; wrow_close) | walk1 | (dsimp only; walk1) | (leave1; (try dsimp only))))
  with_unfolding_all refine' For_invVF F' ?k1 ?k2 ?_
  case k1 => exact rfl
  case k2 => exact rfl
  (repeat' ((fail_if_success (with_reducible show wpAny _ _ (exec (Stmt.While _ _ _ _) _) _ _ _)); (fail_if_success (with_reducible show wpAny _ _ (exec (Stmt.Raise _ _ _) _) _ _ _)); (fail_if_success (with_reducible show wpAny _ _ (exec (Stmt.For _ _ _ _ _) _) _ _ _)); (fail_if_success (with_reducible show wpAny _ _ (pyIter _) _ _ _)); (fail_if_success (with_reducible show wpAny _ _ (call (Value.ref _) _) _ _ _)); first | (k_unfold; (try dsimp only)) | (k_end; wrow_close) | walk1 | (dsimp only; walk1) | (leave1; (try dsimp only))))
  refine iter_listUnr rfl F' N' (.head _) rfl rfl fun I hI => ?_
  refine listRest_inv (RemJ2 (remFrom (xa ++ Txt.join (Str.ofString " ") (l.map (·.1))) 0 xa.length) vt [("source", vsrc), ("ahead", .str xa ta), ("pieces", .ref P)] ((P, W.listOf (strValues l).toArray c) :: (L' + 1, oB) :: (L' + 1 + 1, oX) :: (src, o) :: (129, tabObj ps) :: rest)) ?st ?fn _ _ _ ?j0
  case j0 =>
    obtain ⟨r, hr⟩ := hl0
    refine ⟨l, 0, xa.length, none, t1, 0, t3, none, rfl, hl, ?_, by omega, by omega, by omega, by omega, rfl, rfl⟩
    rw [hr]
    exact due_begin xa r
  case fn =>
    rintro m news h tk hJ F3 N3
    refine gen_goal fun P hP => ?_
    obtain ⟨lr, deep, here, due, t4, t5, t6, vp, hr, hpc, hdi, h0, h1, h2, h3, rfl, rfl⟩ := hJ
    cases lr with
    | cons q r => cases hr
    | nil =>
      have hw := due_end hdi
      change Fr g L' h _ at F3
      change News g L' h _ at N3
      refine hP ?_
      clear hP P
      dsimp only
      have hlen2 : ∀ p ∈ l, p.1.length ≤ 2 := fun p hp => by
        rcases hl p hp with e | e | e | e | e <;> (rw [e]; decide)
      with_unfolding_all refine rem_tail (vt := vt) CB off hs offS hP hlt ht hlen2 hn hxa dB dX ?_ XB TB B' F3 N3 X' T' hdp hun ret
      cases due with
      | none => exact .inl ⟨hw, rfl⟩
      | some n => exact .inr ⟨n, t5, hw, rfl⟩
  case st =>
    rintro v r m news it h tk hJ hit F3 N3
    refine gen_goal fun P hP => ?_
    obtain ⟨lr, deep, here, due, t4, t5, t6, vp, hr, hpc, hdi, h0, h1, h2, h3, rfl, rfl⟩ := hJ
    cases lr with
    | nil => cases hr
    | cons q r2 =>
    obtain ⟨x, tx⟩ := q
    obtain ⟨rfl, rfl⟩ := List.cons.inj hr
    have hx := hpc _ (.head _)
    have hxw : x.length ≤ 2 ∧ -1 ≤ wOf x ∧ wOf x ≤ 1 := by
      rcases hx with e | e | e | e | e <;> (dsimp only at e; rw [e]; decide)
    refine hP ?_
    clear hP P
    change Fr g L' h _ at F3
    change News g L' h _ at N3
    dsimp only at F3 N3 ⊢
    clear F' N'
    have hoff : ∀ p ∈ (P, W.listOf (strValues l).toArray c) :: (L' + 1, oB) :: (L' + 1 + 1, oX) :: (src, o) :: (129, tabObj ps) :: rest, p.1 ≠ I := fun p hp => Nat.ne_of_lt (hI p hp)
    have hpc2 : ∀ p ∈ r2, isPiece p.1 := fun p hp => hpc p (.tail _ hp)
    dsimp only [List.length_cons] at h1 h2 h3
    (repeat' ((fail_if_success (with_reducible show wpAny _ _ (exec (Stmt.While _ _ _ _) _) _ _ _)); (fail_if_success (with_reducible show wpAny _ _ (exec (Stmt.Raise _ _ _) _) _ _ _)); (fail_if_success (with_reducible show wpAny _ _ (exec (Stmt.For _ _ _ _ _) _) _ _ _)); (fail_if_success (with_reducible show wpAny _ _ (pyIter _) _ _ _)); (fail_if_success (with_reducible show wpAny _ _ (call (Value.ref _) _) _ _ _)); first | (k_unfold; (try dsimp only)) | (k_end; wrow_close) | walk1 | (dsimp only; walk1) | (leave1; (try dsimp only))))
    rename PyProof.V.Flat _ _ => hfl
    rename Value => pv
    have hpv : ∃ t, pv = Value.int (wOf x) t := by
      rcases hx with e | e | e | e | e <;> (dsimp only at e; subst e)
      · obtain ⟨t, e⟩ := PyProof.V.Flat.int_inv (i := 1) hfl; exact ⟨t, e⟩
      · obtain ⟨t, e⟩ := PyProof.V.Flat.int_inv (i := -1) hfl; exact ⟨t, e⟩
      · obtain ⟨t, e⟩ := PyProof.V.Flat.int_inv (i := 0) hfl; exact ⟨t, e⟩
      · obtain ⟨t, e⟩ := PyProof.V.Flat.int_inv (i := 0) hfl; exact ⟨t, e⟩
      · obtain ⟨t, e⟩ := PyProof.V.Flat.int_inv (i := 0) hfl; exact ⟨t, e⟩
    obtain ⟨tv, rfl⟩ := hpv
    clear hfl
    cases due with
    | none =>
      dsimp only [dueV] at *
      (repeat' ((fail_if_success (with_reducible show wpAny _ _ (exec (Stmt.While _ _ _ _) _) _ _ _)); (fail_if_success (with_reducible show wpAny _ _ (exec (Stmt.Raise _ _ _) _) _ _ _)); (fail_if_success (with_reducible show wpAny _ _ (exec (Stmt.For _ _ _ _ _) _) _ _ _)); (fail_if_success (with_reducible show wpAny _ _ (pyIter _) _ _ _)); (fail_if_success (with_reducible show wpAny _ _ (call (Value.ref _) _) _ _ _)); first | (k_unfold; (try dsimp only)) | (k_end; wrow_close) | walk1 | (dsimp only; walk1) | (leave1; (try dsimp only))))
      · rename (_ = (0 : Int)) => hz
        rename Fr _ _ _ _ => F9
        rename News _ _ _ _ => N9
        refine UnrEnd.intro F9 N9 _ (by repeat' (first | exact sbR | refine sbK ?_ | exact .head _ | refine sbC ?_ ?_ | refine List.Mem.tail _ ?_ | refine sbT ?_)) hoff ⟨.head _, remJ2_mk (lr := r2) (due := some _) rfl hpc2 (due_set hx hdi hz _ _) ?_ ?_ ?_ ?_ (mpY_upd (mpY_upd (mpY_upd (mpY_upd (mpY_piece rfl) (by decide) (by decide) rfl) (by decide) (by decide) rfl) (by decide) (by decide) rfl) (by decide) (by decide) rfl) rfl⟩
        all_goals omega
      · rename (_ ≠ (0 : Int)) => hz
        rename Fr _ _ _ _ => F9
        rename News _ _ _ _ => N9
        refine UnrEnd.intro F9 N9 _ (by repeat' (first | exact sbR | refine sbK ?_ | exact .head _ | refine sbC ?_ ?_ | refine List.Mem.tail _ ?_ | refine sbT ?_)) hoff ⟨.head _, remJ2_mk (lr := r2) (due := none) (t2 := t5) rfl hpc2 (due_go hx hdi hz) ?_ ?_ ?_ ?_ (mpY_upd (mpY_upd (mpY_upd (mpY_piece rfl) (by decide) (by decide) rfl) (by decide) (by decide) rfl) (by decide) (by decide) rfl) rfl⟩
        all_goals omega
    | some n =>
      dsimp only [dueV] at *
      (repeat' ((fail_if_success (with_reducible show wpAny _ _ (exec (Stmt.While _ _ _ _) _) _ _ _)); (fail_if_success (with_reducible show wpAny _ _ (exec (Stmt.Raise _ _ _) _) _ _ _)); (fail_if_success (with_reducible show wpAny _ _ (exec (Stmt.For _ _ _ _ _) _) _ _ _)); (fail_if_success (with_reducible show wpAny _ _ (pyIter _) _ _ _)); (fail_if_success (with_reducible show wpAny _ _ (call (Value.ref _) _) _ _ _)); first | (k_unfold; (try dsimp only)) | (k_end; wrow_close) | walk1 | (dsimp only; walk1) | (leave1; (try dsimp only))))
      all_goals
        rename Fr _ _ _ _ => F9
        rename News _ _ _ _ => N9
        refine UnrEnd.intro F9 N9 _ (by repeat' (first | exact sbR | refine sbK ?_ | exact .head _ | refine sbC ?_ ?_ | refine List.Mem.tail _ ?_ | refine sbT ?_)) hoff ⟨.head _, remJ2_mk (lr := r2) (due := some n) (t2 := t5) rfl hpc2 (due_had hdi _ _) ?_ ?_ ?_ ?_ (mpY_upd (mpY_upd (mpY_upd (mpY_piece rfl) (by decide) (by decide) rfl) (by decide) (by decide) rfl) (by decide) (by decide) rfl) rfl⟩
      all_goals omega
end
end

/- part R3 -/
section
open PySem PySem.W PyProof.Rows PySem.Calls PySem.Spec
set_option maxRecDepth 100000
set_option maxHeartbeats 4000000
set_option linter.unusedVariables false

theorem mpY_turn {m : Str → Option Value} {v : Value} {vt vp : Option Value} {l : List (Str × Value)} (h : m = MpY vt vp l) : (fun z => if z = Str.ofString "turn" then some v else m z) = MpY (some v) vp l := by
  subst h
  funext z
  show (if z = Str.ofString "turn" then some v else if z = Str.ofString "turn" then vt else if z = Str.ofString "piece" then vp else Mp l z) = if z = Str.ofString "turn" then some v else if z = Str.ofString "piece" then vp else Mp l z
  by_cases r : z = Str.ofString "turn"
  · rw [if_pos r, if_pos r]
  · rw [if_neg r, if_neg r, if_neg r]
theorem mpY_of {m : Str → Option Value} {l : List (Str × Value)} (h : m = Mp l) (h1 : Mp l (Str.ofString "turn") = none) (h2 : Mp l (Str.ofString "piece") = none) : m = MpY none none l := by
  subst h
  funext z
  show Mp l z = if z = Str.ofString "turn" then none else if z = Str.ofString "piece" then none else Mp l z
  by_cases r : z = Str.ofString "turn"
  · rw [if_pos r, r, h1]
  · rw [if_neg r]
    by_cases r2 : z = Str.ofString "piece"
    · rw [if_pos r2, r2, h2]
    · rw [if_neg r2]

noncomputable abbrev RemJ1 (P L' src : Addr) (oB oX : Obj) (xa : Str) (ta : Tok) (tail : List (Addr × Obj)) (i : Nat) (m : Str → Option Value) (news : List (Addr × Obj)) : Prop :=
  ∃ (lr : List (Str × Tok)) (c : Nat) (o' : Obj) (vt : Option Value), lr.length = i + 1 ∧ (∀ p ∈ lr, isPiece p.1) ∧ (∃ r, lr.map (·.1) = Str.ofString "/*" :: r) ∧ Src o' ∧
    m = MpY vt none [("source", .ref src), ("ahead", .str xa ta), ("pieces", .ref P)] ∧ news = (P, W.listOf (strValues lr).toArray c) :: (L' + 1, oB) :: (L' + 1 + 1, oX) :: (src, o') :: tail

theorem remark_right_C (w : World) {src : Addr} {o : Obj} {ps : Array Value} {rest : List (Addr × Obj)} (ho : Src o) (off : ∀ p ∈ rest, p.1 ≠ src) (offT : ∀ p ∈ rest, p.1 ≠ 129) (hne : src ≠ 129) (ht : TabIs ps remPos remQual rest) :
    CtrH (fun b => CodeHd b 133 129) w 134 [.ref src] 25 ((src, o) :: (129, tabObj ps) :: rest) (fun v news' => v = .bool true ∧ ∃ o' ps' rest', Src o' ∧ news' = (src, o') :: (129, tabObj ps') :: rest' ∧ TabIs ps' remPos remQual rest' ∧
      (rest' = rest ∨ ∃ c₂ o₂, rest' = (c₂, o₂) :: rest ∧ ∀ q ∈ (src, o') :: (129, tabObj ps) :: rest, q.1 < c₂)) := by
  intro p loose mean mg mb dp un gd cn cs a ccd cl outer A₀ base h₀ L m s Q E CB B F X N T XB TB hkd hdp hun hret
  w_on
  k_with_none
  refine wpAny_call ?_
  k_dflt (refine' code_defTC ?k1 ?k2 ?k3 ?k4 ?k5 ?kA ?kF ?kK ?k6 ?k7 ?k8 ?k9 ?kB ?kD ?_ ?c2 ?c3 ?c4; (case kA => exact rfl); (case kF => exact rfl); (case kK => assumption); (case k1 => k_asm); (case k2 => k_asm); (case k3 => k_asm); (case k4 => k_asm); (case k5 => k_asm); (case k6 => k_is); (case k7 => k_is); (case k8 => ktr_room); (case k9 => exact BindsTo.of_eq rfl); (case kB => exact rfl); (case kD => decide +kernel); (case c2 => exact rfl); (case c3 => exact rfl); (case c4 => exact rfl); k_whole; intro g' L' h' tk' cells' FG' F' N' Y' B' X' T' l1; (try dsimp only); (try k_lift B'); (try k_fold))
  refine gen_QE fun Q2 hQ2 => ?_
  refine gen_goal fun P hP => ?_
  have hY := CellsAre.two Y'
  obtain ⟨oX, oB, hE, dX, dB⟩ := hY
  subst hE
  refine hP ?_
  clear Y' hP P
  (try dsimp only [List.cons_append, List.nil_append] at N')
  have dX1 : oX.data = .cell none := dX
  have dB1 : oB.data = .cell none := dB
  clear dX dB
  have hneN : @Ne Nat src 129 := hne
  have ls := ltN (l1 _ (.head _))
  have lt := ltN (l1 _ (.tail _ (.head _)))
  dsimp only at ls lt
  have off1 : ∀ p ∈ rest, p.1 ≠ L' + 1 := fun p hp => by have z := ltN (l1 _ (.tail _ (.tail _ hp))); k_ne
  have off2 : ∀ p ∈ rest, p.1 ≠ L' + 1 + 1 := fun p hp => by have z := ltN (l1 _ (.tail _ (.tail _ hp))); k_ne
  (repeat' ((fail_if_success (with_reducible show wpAny _ _ (exec (Stmt.While _ _ _ _) _) _ _ _)); (fail_if_success (with_reducible show wpAny _ _ (exec (Stmt.Raise _ _ _) _) _ _ _)); (fail_if_success (with_reducible show wpAny _ _ (exec (Stmt.For _ _ _ _ _) _) _ _ _)); (fail_if_success (with_reducible show wpAny _ _ (execs [_, _, _] _) _ _ _)); (fail_if_success (with_reducible show wpAny _ _ (pyIter _) _ _ _)); (fail_if_success (with_reducible show wpAny _ _ (call (Value.ref _) _) _ _ _)); first | (with_reducible refine gen_st ?_; intro _ _ _) | (with_reducible refine gen_nx (by with_reducible assumption) ?_) | (with_reducible refine gen_rt (by with_reducible assumption) ?_) | (k_unfold; (try dsimp only)) | (k_end; wrow_close) | walk1 | (dsimp only; walk1) | (leave1; (try dsimp only))))
  rename_i P h8 l8 lm h9 F1 N1 l9
  refine ctr_gen (one_C w ho ?offm (.head _) (Nat.le_of_ble_eq_true rfl) (Nat.le_of_ble_eq_true rfl)) B' F1 X' (news_mid [_, _, _, _] N1) T' rfl ?_ ?_ ?_
  case offm =>
    exact offK (by k_ne) (offK (by k_ne) (offK (by k_ne) (offK (by k_ne) (offK (by k_ne) (off)))))
  · exact rmD hdp
  · exact rmU hun
  rintro Q3 hQ3 v7 news7 h7 tk7 ⟨hv7, o7, ho7, e7⟩ F7 N7
  subst e7
  have : ∃ y t, v7 = Value.str y t ∧ y.length ≤ 4 := oneOf (P := fun v => ∃ y t, v = Value.str y t ∧ y.length ≤ 4) hv7 (by repeat' (first | exact allN | refine allK ⟨_, _, rfl, by decide⟩ ?_))
  obtain ⟨xa, ta, rfl, hxa⟩ := this
  refine hQ3 _ _ ?_
  clear hQ3 Q3
  clear F1 N1 hv7
  have offP : ∀ p ∈ rest, p.1 ≠ P := fun p hp => Nat.ne_of_lt (allLt_mem l8.2.2.2.2 p hp)
  dsimp only
  (repeat' ((fail_if_success (with_reducible show wpAny _ _ (exec (Stmt.While _ _ _ _) _) _ _ _)); (fail_if_success (with_reducible show wpAny _ _ (exec (Stmt.Raise _ _ _) _) _ _ _)); (fail_if_success (with_reducible show wpAny _ _ (exec (Stmt.For _ _ _ _ _) _) _ _ _)); (fail_if_success (with_reducible show wpAny _ _ (execs [_, _, _] _) _ _ _)); (fail_if_success (with_reducible show wpAny _ _ (pyIter _) _ _ _)); (fail_if_success (with_reducible show wpAny _ _ (call (Value.ref _) _) _ _ _)); first | (with_reducible refine gen_st ?_; intro _ _ _) | (with_reducible refine gen_nx (by with_reducible assumption) ?_) | (with_reducible refine gen_rt (by with_reducible assumption) ?_) | (k_unfold; (try dsimp only)) | (k_end; wrow_close) | walk1 | (dsimp only; walk1) | (leave1; (try dsimp only))))
  rename Fr _ _ _ _ => F2
  rename News _ _ _ _ => N2
  have N3 : News g' L' _ ((P, W.listOf #[Value.str (Str.ofString "/*") tk'] 0) :: (L' + 1, oB) :: (L' + 1 + 1, oX) :: (src, o7) :: (129, tabObj ps) :: rest) := News.sub N2 (by repeat' (first | exact sbR | refine sbK ?_ | exact .head _ | refine sbC ?_ ?_ | refine List.Mem.tail _ ?_ | refine sbT ?_))
  clear N2
  with_unfolding_all refine' For_invVF F2 ?k1 ?k2 ?_
  case k1 => exact rfl
  case k2 => exact rfl
  (repeat' ((fail_if_success (with_reducible show wpAny _ _ (exec (Stmt.While _ _ _ _) _) _ _ _)); (fail_if_success (with_reducible show wpAny _ _ (exec (Stmt.Raise _ _ _) _) _ _ _)); (fail_if_success (with_reducible show wpAny _ _ (exec (Stmt.For _ _ _ _ _) _) _ _ _)); (fail_if_success (with_reducible show wpAny _ _ (execs [_, _, _] _) _ _ _)); (fail_if_success (with_reducible show wpAny _ _ (pyIter _) _ _ _)); (fail_if_success (with_reducible show wpAny _ _ (call (Value.ref _) _) _ _ _)); first | (with_reducible refine gen_st ?_; intro _ _ _) | (with_reducible refine gen_nx (by with_reducible assumption) ?_) | (with_reducible refine gen_rt (by with_reducible assumption) ?_) | (k_unfold; (try dsimp only)) | (k_end; wrow_close) | walk1 | (dsimp only; walk1) | (leave1; (try dsimp only))))
  refine ctr_gen (draw_C w _ ho7 ?offd (by decide) (by decide)) B' F2 X' (news_mid [_, _, _] N3) T' rfl ?_ ?_ ?_
  case offd =>
    exact offK (by k_ne) (offK (by k_ne) (offK (by k_ne) (offK (by k_ne) (off))))
  · exact rmD hdp
  · exact rmU hun
  rintro Q3 hQ3 v news' h10 tk10 ⟨d, td, o8, rfl, hd1, hd2, ho8, e⟩ F10 N10
  subst e
  refine hQ3 _ _ ?_
  clear hQ3 Q3
  clear F2 N3
  dsimp only
  (repeat' ((fail_if_success (with_reducible show wpAny _ _ (exec (Stmt.While _ _ _ _) _) _ _ _)); (fail_if_success (with_reducible show wpAny _ _ (exec (Stmt.Raise _ _ _) _) _ _ _)); (fail_if_success (with_reducible show wpAny _ _ (exec (Stmt.For _ _ _ _ _) _) _ _ _)); (fail_if_success (with_reducible show wpAny _ _ (execs [_, _, _] _) _ _ _)); (fail_if_success (with_reducible show wpAny _ _ (pyIter _) _ _ _)); (fail_if_success (with_reducible show wpAny _ _ (call (Value.ref _) _) _ _ _)); first | (with_reducible refine gen_st ?_; intro _ _ _) | (with_reducible refine gen_nx (by with_reducible assumption) ?_) | (with_reducible refine gen_rt (by with_reducible assumption) ?_) | (k_unfold; (try dsimp only)) | (k_end; wrow_close) | walk1 | (dsimp only; walk1) | (leave1; (try dsimp only))))
  rename IsRange _ _ _ _ _ _ _ _ => hr
  rename Fr _ _ _ _ => F11
  rename News _ _ _ _ => N11
  have N12 : News g' L' _ ((P, W.listOf #[Value.str (Str.ofString "/*") tk'] 0) :: (L' + 1, oB) :: (L' + 1 + 1, oX) :: (src, o8) :: (129, tabObj ps) :: rest) := News.sub N11 (by repeat' (first | exact sbR | refine sbK ?_ | exact .head _ | refine sbC ?_ ?_ | refine List.Mem.tail _ ?_ | refine sbT ?_))
  clear N11
  refine iter_rangeUnr (n := (d - 0).toNat) rfl hr (small_d hd1 (Int.lt_trans hd2 (by decide))) (rangeSize_nat 0 d) F11 N12 fun I hI => ?_
  refine rangeRest_inv (n := (d - 0).toNat) (RemJ1 P L' src oB oX xa ta ((129, tabObj ps) :: rest)) ?st ?fn _ _ _ _ (Nat.zero_add _) ?j0
  case j0 =>
    refine ⟨[(Str.ofString "/*", tk')], 0, o8, none, rfl, List.forall_mem_singleton.mpr (.inl rfl), ⟨[], rfl⟩, ho8, mpY_of (mp_upd (mp_upd (mp_upd (m := fun _ => none) (l := []) rfl rfl) rfl) rfl) rfl rfl, rfl⟩
  case st =>
    rintro i m2 news2 t h12 tk12 hi hJ F13 N13
    refine gen_goal fun P hP => ?_
    obtain ⟨lr, c, o', vt, hlr, hpc, hfst, ho', rfl, rfl⟩ := hJ
    refine hP ?_
    clear hP P
    change Fr g' L' h12 _ at F13
    change News g' L' h12 _ at N13
    dsimp only at F13 N13 ⊢
    have lI := ltN (hI _ (.head _))
    dsimp only at lI
    clear F11 N12 hr
    (repeat' ((fail_if_success (with_reducible show wpAny _ _ (exec (Stmt.While _ _ _ _) _) _ _ _)); (fail_if_success (with_reducible show wpAny _ _ (exec (Stmt.Raise _ _ _) _) _ _ _)); (fail_if_success (with_reducible show wpAny _ _ (exec (Stmt.For _ _ _ _ _) _) _ _ _)); (fail_if_success (with_reducible show wpAny _ _ (execs [_, _, _] _) _ _ _)); (fail_if_success (with_reducible show wpAny _ _ (pyIter _) _ _ _)); (fail_if_success (with_reducible show wpAny _ _ (call (Value.ref _) _) _ _ _)); first | (with_reducible refine gen_st ?_; intro _ _ _) | (with_reducible refine gen_nx (by with_reducible assumption) ?_) | (with_reducible refine gen_rt (by with_reducible assumption) ?_) | (k_unfold; (try dsimp only)) | (k_end; wrow_close) | walk1 | (dsimp only; walk1) | (leave1; (try dsimp only))))
    rename_i lm2 h14 F14 N14 l14
    have offI : ∀ p ∈ rest, p.1 ≠ I := fun p hp => Nat.ne_of_lt (hI p (.tail _ (.tail _ (.tail _ (.tail _ (.tail _ hp))))))
    refine ctr_gen (one_C w ho' ?offm (.head _) (Nat.le_of_ble_eq_true rfl) (Nat.le_of_ble_eq_true rfl)) B' F14 X' (news_mid [_, _, _, _, _] N14) T' rfl ?_ ?_ ?_
    case offm =>
      exact offK (by k_ne) (offK (by k_ne) (offK (by k_ne) (offK (by k_ne) (offK (by k_ne) (offK (by k_ne) (off))))))
    · exact rmD hdp
    · exact rmU hun
    rintro Q3 hQ3 v15 news15 h15 tk15 ⟨hv15, o15, ho15, e15⟩ F15 N15
    subst e15
    have : ∃ y t, v15 = Value.str y t ∧ isPiece y := oneOf (P := fun v => ∃ y t, v = Value.str y t ∧ isPiece y) hv15 (by repeat' (first | exact allN | refine allK ⟨_, _, rfl, by unfold isPiece; decide⟩ ?_))
    obtain ⟨x15, t15, rfl, hx15⟩ := this
    refine hQ3 _ _ ?_
    clear hQ3 Q3
    clear F14 N14 hv15
    have N16 : News g' L' h15 ((P, W.listOf (strValues lr).toArray c) :: (I, itR (0 + ((i + 1 : Nat) : Int)) (((d - 0).toNat : Int) - ((i + 1 : Nat) : Int))) :: (L' + 1, oB) :: (L' + 1 + 1, oX) :: (src, o15) :: (129, tabObj ps) :: rest) := News.sub N15 (by repeat' (first | exact sbR | refine sbK ?_ | exact .head _ | refine sbC ?_ ?_ | refine List.Mem.tail _ ?_ | refine sbT ?_))
    have offPa : ∀ q ∈ (I, itR (0 + ((i + 1 : Nat) : Int)) (((d - 0).toNat : Int) - ((i + 1 : Nat) : Int))) :: (L' + 1, oB) :: (L' + 1 + 1, oX) :: (src, o15) :: (129, tabObj ps) :: rest, q.1 ≠ P :=
      offK (by k_ne) (offK (by k_ne) (offK (by k_ne) (offK (by k_ne) (offK (by k_ne) (offP)))))
    clear N15
    dsimp only
    (repeat' ((fail_if_success (with_reducible show wpAny _ _ (exec (Stmt.While _ _ _ _) _) _ _ _)); (fail_if_success (with_reducible show wpAny _ _ (exec (Stmt.Raise _ _ _) _) _ _ _)); (fail_if_success (with_reducible show wpAny _ _ (exec (Stmt.For _ _ _ _ _) _) _ _ _)); (fail_if_success (with_reducible show wpAny _ _ (execs [_, _, _] _) _ _ _)); (fail_if_success (with_reducible show wpAny _ _ (pyIter _) _ _ _)); (fail_if_success (with_reducible show wpAny _ _ (call (Value.ref _) _) _ _ _)); first | (with_reducible refine gen_st ?_; intro _ _ _) | (with_reducible refine gen_nx (by with_reducible assumption) ?_) | (with_reducible refine gen_rt (by with_reducible assumption) ?_) | (k_unfold; (try dsimp only)) | (k_end; wrow_close) | walk1 | (dsimp only; walk1) | (leave1; (try dsimp only))))
    refine append_K F15 N16 (.head offPa) (fun h17 F17 N17 => ?_) (by rw [sizeLine_eq]; simp [strValues]; omega)
    have hpush : (strValues lr).toArray.push (.str x15 t15) = (strValues (lr ++ [(x15, t15)])).toArray := by simp [strValues]
    rw [hpush] at N17
    clear F15 N16
    dsimp only
    (repeat' ((fail_if_success (with_reducible show wpAny _ _ (exec (Stmt.While _ _ _ _) _) _ _ _)); (fail_if_success (with_reducible show wpAny _ _ (exec (Stmt.Raise _ _ _) _) _ _ _)); (fail_if_success (with_reducible show wpAny _ _ (exec (Stmt.For _ _ _ _ _) _) _ _ _)); (fail_if_success (with_reducible show wpAny _ _ (execs [_, _, _] _) _ _ _)); (fail_if_success (with_reducible show wpAny _ _ (pyIter _) _ _ _)); (fail_if_success (with_reducible show wpAny _ _ (call (Value.ref _) _) _ _ _)); first | (with_reducible refine gen_st ?_; intro _ _ _) | (with_reducible refine gen_nx (by with_reducible assumption) ?_) | (with_reducible refine gen_rt (by with_reducible assumption) ?_) | (k_unfold; (try dsimp only)) | (k_end; wrow_close) | walk1 | (dsimp only; walk1) | (leave1; (try dsimp only))))
    refine UnrEnd.intro F17 N17 ((P, W.listOf (strValues (lr ++ [(x15, t15)])).toArray (c + 1)) :: (L' + 1, oB) :: (L' + 1 + 1, oX) :: (src, o15) :: (129, tabObj ps) :: rest) ?_ ?_ ⟨lr ++ [(x15, t15)], c + 1, o15, _, by simp [hlr], List.forall_mem_append.mpr ⟨hpc, List.forall_mem_singleton.mpr hx15⟩, ?_, ho15, mpY_turn rfl, rfl⟩
    · repeat' (first | exact sbR | refine sbK ?_ | exact .head _ | refine sbC ?_ ?_ | refine List.Mem.tail _ ?_ | refine sbT ?_)
    · exact offK (by k_ne) (offK (by k_ne) (offK (by k_ne) (offK (by k_ne) (offK (by k_ne) (offI)))))
    · obtain ⟨r, hr⟩ := hfst
      exact ⟨r ++ [x15], by rw [List.map_append, hr]; rfl⟩
  case fn =>
    rintro m2 news2 h12 tk12 hJ F13 N13
    refine gen_goal fun P hP => ?_
    obtain ⟨lr, c, o', vt, hlr, hpc, hfst, ho', rfl, rfl⟩ := hJ
    refine hP ?_
    clear hP P
    change Fr g' L' h12 _ at F13
    change News g' L' h12 _ at N13
    dsimp only at F13 N13 ⊢
    clear F11 N12 hr
    (repeat' ((fail_if_success (with_reducible show wpAny _ _ (exec (Stmt.While _ _ _ _) _) _ _ _)); (fail_if_success (with_reducible show wpAny _ _ (exec (Stmt.Raise _ _ _) _) _ _ _)); (fail_if_success (with_reducible show wpAny _ _ (exec (Stmt.For _ _ _ _ _) _) _ _ _)); (fail_if_success (with_reducible show wpAny _ _ (execs [_, _, _] _) _ _ _)); (fail_if_success (with_reducible show wpAny _ _ (pyIter _) _ _ _)); (fail_if_success (with_reducible show wpAny _ _ (call (Value.ref _) _) _ _ _)); first | (with_reducible refine gen_st ?_; intro _ _ _) | (with_reducible refine gen_nx (by with_reducible assumption) ?_) | (with_reducible refine gen_rt (by with_reducible assumption) ?_) | (k_unfold; (try dsimp only)) | (k_end; wrow_close) | walk1 | (dsimp only; walk1) | (leave1; (try dsimp only))))
    rename Fr _ _ _ _ => F18
    rename News _ _ _ _ => N18
    rename (_ = Data.cell (some (Value.int _ _))) => dB2
    rename Obj => oB2
    have N19 : News g' L' _ ((P, W.listOf (strValues lr).toArray c) :: (L' + 1, oB2) :: (L' + 1 + 1, oX) :: (src, o') :: (129, tabObj ps) :: rest) := News.sub N18 (by repeat' (first | exact sbR | refine sbK ?_ | exact .head _ | refine sbC ?_ ?_ | refine List.Mem.tail _ ?_ | refine sbT ?_))
    have F19 := fr_to F18 (mpY_upd (mpY_upd (mpY_upd (m := MpY vt none [("source", .ref src), ("ahead", .str xa ta), ("pieces", .ref P)]) rfl (by decide) (by decide) rfl) (by decide) (by decide) rfl) (by decide) (by decide) rfl)
    have hlt : ∀ p ∈ (src, o') :: (129, tabObj ps) :: rest, p.1 < L' := List.forall_mem_cons.mpr ⟨ls, fun p hp => l1 p (.tail _ hp)⟩
    have hd0 : (d - 0).toNat = d.toNat := by omega
    dsimp only
    with_unfolding_all refine rem_for (P := P) (l := lr) (vt := vt) CB offT hne off l8.1 hlt ht hpc hfst (by omega) hxa dB2 dX1 XB TB B' F19 N19 X' T' (rmE hdp) (rmF hun) ?_
    intro g7 h20 tk20 m20 ps20 rest20 T20 F20 N20 ht20 hr20
    refine hQ2 _ _ ?_
    dsimp only
    refine leaveT_ T20 F20 N20 fun h₀' T0 F0 N0 B0 => ?_
    exact hret _ _ _ _ _ ⟨rfl, o', ps20, rest20, ho', rfl, ht20, hr20⟩ T0 F0 N0 B0
end

/- part T3 -/
section
open PySem PySem.W PyProof.Rows

/-- the pieces of blanks and remarks -/
noncomputable def someL : List Str := [Str.ofString " ", Str.ofString "\t\n", Str.ofString "\r\x0b\x0c", Str.ofString "\u0085\u200e", Str.ofString "\u2028\u2029\u200f", Str.ofString "// a/*b\n", Str.ofString "/* c */", Str.ofString "/*/* */ // */", Str.ofString "//\n"]

theorem bs1 (c : Nat) (t : List Nat) (h : c ∈ BL) : bsp (c :: t) = sh 1 (bsp t) := bsp_blank h

theorem some_skip (p : Str) (hp : p ∈ someL) (t : List Nat) : bsp (cl p ++ t) = sh (cl p).length (bsp t) := by
  simp only [someL, List.mem_cons, List.not_mem_nil, or_false] at hp
  rcases hp with h | h | h | h | h | h | h | h | h <;> subst h
  · rw [show cl (Str.ofString " ") = [32] by decide]
    show bsp (32 :: t) = _
    rw [bs1 _ _ (by decide)]; rfl
  · rw [show cl (Str.ofString "\t\n") = [9, 10] by decide]
    show bsp (9 :: 10 :: t) = _
    rw [bs1 _ _ (by decide), bs1 _ _ (by decide), sh_sh]; rfl
  · rw [show cl (Str.ofString "\r\x0b\x0c") = [13, 11, 12] by decide]
    show bsp (13 :: 11 :: 12 :: t) = _
    rw [bs1 _ _ (by decide), bs1 _ _ (by decide), bs1 _ _ (by decide), sh_sh, sh_sh]; rfl
  · rw [show cl (Str.ofString "\u0085\u200e") = [133, 8206] by decide]
    show bsp (133 :: 8206 :: t) = _
    rw [bs1 _ _ (by decide), bs1 _ _ (by decide), sh_sh]; rfl
  · rw [show cl (Str.ofString "\u2028\u2029\u200f") = [8232, 8233, 8207] by decide]
    show bsp (8232 :: 8233 :: 8207 :: t) = _
    rw [bs1 _ _ (by decide), bs1 _ _ (by decide), bs1 _ _ (by decide), sh_sh, sh_sh]; rfl
  · rw [show cl (Str.ofString "// a/*b\n") = [47, 47, 32, 97, 47, 42, 98, 10] by decide]
    show bsp (47 :: 47 :: 32 :: 97 :: 47 :: 42 :: 98 :: 10 :: t) = _
    rw [bsp_row]
    have : nlAt (47 :: 47 :: 32 :: 97 :: 47 :: 42 :: 98 :: 10 :: t) = 7 := by simp [nlAt]
    rw [this]
    show sh 7 (bsp (10 :: t)) = _
    rw [bs1 _ _ (by decide), sh_sh]; rfl
  · rw [show cl (Str.ofString "/* c */") = [47, 42, 32, 99, 32, 42, 47] by decide]
    show bsp (47 :: 42 :: 32 :: 99 :: 32 :: 42 :: 47 :: t) = _
    rw [bsp_rem (n := 7) (by simp [remScan])]; rfl
  · rw [show cl (Str.ofString "/*/* */ // */") = [47, 42, 47, 42, 32, 42, 47, 32, 47, 47, 32, 42, 47] by decide]
    show bsp (47 :: 42 :: 47 :: 42 :: 32 :: 42 :: 47 :: 32 :: 47 :: 47 :: 32 :: 42 :: 47 :: t) = _
    rw [bsp_rem (n := 13) (by simp [remScan])]; rfl
  · rw [show cl (Str.ofString "//\n") = [47, 47, 10] by decide]
    show bsp (47 :: 47 :: 10 :: t) = _
    rw [bsp_row]
    have : nlAt (47 :: 47 :: 10 :: t) = 2 := by simp [nlAt]
    rw [this]
    show sh 2 (bsp (10 :: t)) = _
    rw [bs1 _ _ (by decide), sh_sh]; rfl

theorem some_all : ∀ (l : List Str) (t : List Nat), (∀ p ∈ l, p ∈ someL) → bsp ((l.map cl).flatten ++ t) = sh (l.map cl).flatten.length (bsp t)
  | [], t, _ => (sh_zero _).symm
  | p :: r, t, h => by
    rw [List.map_cons, List.flatten_cons, List.append_assoc, some_skip p (h p (.head _)), some_all r t (fun q hq => h q (.tail _ hq)), sh_sh, List.length_append]

theorem some_len (p : Str) (hp : p ∈ someL) : p.length ≤ 13 := by
  simp only [someL, List.mem_cons, List.not_mem_nil, or_false] at hp
  rcases hp with h | h | h | h | h | h | h | h | h <;> subst h <;> decide
/-- the ends and what is due at each, counted from the end's begin -/
noncomputable def endL : List Str := [Str.ofString "a b", Str.ofString "/ x", Str.ofString "*/ ", Str.ofString "1", Str.ofString "", Str.ofString "// no row ends", Str.ofString "/* x"]
noncomputable def endDue (e : Str) : Nat ⊕ Nat := if e = Str.ofString "// no row ends" then .inl e.length else if e = Str.ofString "/* x" then .inr 0 else .inl 0
theorem end_len (e : Str) (he : e ∈ endL) : e.length ≤ 20 := by
  simp only [endL, List.mem_cons, List.not_mem_nil, or_false] at he
  rcases he with h | h | h | h | h | h | h <;> subst h <;> decide
theorem end_due (e : Str) (he : e ∈ endL) : bsp (cl e) = endDue e := by
  simp only [endL, List.mem_cons, List.not_mem_nil, or_false] at he
  rcases he with h | h | h | h | h | h | h <;> subst h <;> decide

theorem blank_due (ahead : Str) (l : List Str) (e : Str) (hl : ∀ p ∈ l, p ∈ someL) (he : e ∈ endL) :
    blankAt ((ahead ++ Txt.join (Str.ofString "") l) ++ e) ahead.length = (endDue e).map (fun n : Nat => ((ahead ++ Txt.join (Str.ofString "") l).length : Int) + n) (fun n : Nat => ((ahead ++ Txt.join (Str.ofString "") l).length : Int) + n) := by
  unfold blankAt
  rw [cl_append, cl_append, join0_cl _ rfl]
  have h1 : ((ahead.length : Int)).toNat = (cl ahead).length := by rw [len_cl]; rfl
  rw [h1, List.append_assoc, List.drop_left, some_all l _ hl, end_due e he]
  have h2 : (ahead ++ Txt.join (Str.ofString "") l).length = ahead.length + (l.map cl).flatten.length := by
    rw [len_cl, cl_append, join0_cl _ rfl, List.length_append, ← len_cl]
  rw [h2]
  cases endDue e <;> simp [sh] <;> omega
end

/- part B0 -/
section
open PySem PySem.W PyProof.Rows PySem.Calls PySem.Spec
set_option maxRecDepth 100000
set_option maxHeartbeats 4000000
set_option linter.unusedVariables false

section
variable {w : World} {rest : List (Addr × Obj)} {ps : Array Value} {p : Program} {loose : List Str} {mean : ExcName → Option Value} {mg mb : Str → Option Value}
    {dp un : Nat} {gd : Option (List Code)} {cn : Str} {cs : Scope} {a : Addr} {ccd : Value} {cl : List (Str × Addr)} {outer : List Env} {base g : Heap} {L L' src : Addr} {o : Obj} {m' : Str → Option Value} {s : Shared} {Q : Flow → Shared → Prop} {E : Value → Shared → Prop}
noncomputable abbrev blkPos : Pos := ⟨118, 22, 118, 58⟩
noncomputable abbrev blkQual : Str := Str.ofString "_law_blank_right" ++ ".<locals>." ++ "<lambda>"
/-- what the law has put as due: a pair's tuple, or the unended's list -/
noncomputable def DueAt (r : Int ⊕ Int) (o : Obj) : Prop := (∃ n t, r = .inl n ∧ o = tup1 (.int n t)) ∨ ∃ n u t c, r = .inr n ∧ o = W.listOf #[.str MSG u, .int n t] c
theorem news_show {h₀ h : Heap} {L : Addr} {x y : Addr × Obj} {l : List (Addr × Obj)} (N : News h₀ L h (x :: l)) (hy : y ∈ l) : News h₀ L h (x :: y :: l) := fun p hp => by
  rcases List.mem_cons.mp hp with rfl | hp
  · exact N _ (.head _)
  · rcases List.mem_cons.mp hp with rfl | hp
    · exact N _ (.tail _ hy)
    · exact N _ (.tail _ hp)
theorem blk_tail {Dd : Addr} {oD oW oA : Obj} {xa xt xe : Str} {ta tt te : Tok}
    (CB : CodeHd base 138 136) (off : ∀ p ∈ rest, p.1 ≠ 136) (hs : src ≠ 136) (offS : ∀ p ∈ rest, p.1 ≠ src) (hD : L' + 1 + 1 + 1 + 1 < Dd) (hlt : ∀ p ∈ (src, o) :: (136, tabObj ps) :: rest, p.1 < L') (ht : TabIs ps blkPos blkQual rest) (hxt : xt.length ≤ 200) (hxe : xe.length ≤ 20) (hxa : xa.length ≤ xt.length)
    (dA : oA.data = .cell (some (.str xa ta))) (dW : oW.data = .cell none) (hdue : DueAt (blankAt (xt ++ xe) xa.length) oD)
    (XB : (hd.heap_39 w.params).In base) (TB : Top p loose mean mg mb base) (B' : Below (ktrTop dp un gd cn cs L a ccd cl outer) base (envX cn cs L a ccd cl :: outer) g)
    (F' : Fr g L' s.heap (Mp [("text", .str xt tt), ("end", .str xe te), ("due", .ref Dd)])) (N' : News g L' s.heap ((Dd, oD) :: (L' + 1 + 1 + 1 + 1, oW) :: (L' + 1 + 1 + 1, oA) :: (src, o) :: (136, tabObj ps) :: rest))
    (X' : (hd.heap_39 w.params).In g) (T' : Top p loose mean mg mb g) (hdp : dp + 20 < recursionLimit) (hun : un + 8 * 20 < cLine)
    (ret : ∀ g' h' tk' m'' ps' rest', KtsTurn (frs (envX cn cs L a ccd cl :: outer)) g g' → Fr g' L' h' m'' → News g' L' h' ((src, o) :: (136, tabObj ps') :: rest') → TabIs ps' blkPos blkQual rest' → (rest' = rest ∨ ∃ c₂ o₂, rest' = (c₂, o₂) :: rest ∧ ∀ q ∈ (src, o) :: (136, tabObj ps) :: rest, q.1 < c₂) → Q (.ret (.bool true)) { s with heap := h', toks := tk' }) :
    wpAny (model PySem.Challenge.rw_xw0154_01.row.prog w) ((ktrTop dp un gd cn cs L a ccd cl outer).deeper (envX (Str.ofString "_law_blank_right") (fnScope (hd.heap_39 w.params) 139) L' 139 (.ref 138) (cellsFrom (L' + 1) (fnScope (hd.heap_39 w.params) 139).names [])))
      (execs ((fnBody (hd.heap_39 w.params) 139).drop 8) (envX (Str.ofString "_law_blank_right") (fnScope (hd.heap_39 w.params) 139) L' 139 (.ref 138) (cellsFrom (L' + 1) (fnScope (hd.heap_39 w.params) 139).names []))) Q E s := by
  obtain ⟨sc, hsc⟩ : ∃ sc, sc = fnScope (hd.heap_39 w.params) 139 := ⟨_, rfl⟩
  obtain ⟨bd, hbd⟩ : ∃ bd, bd = (fnBody (hd.heap_39 w.params) 139).drop 8 := ⟨_, rfl⟩
  rw [← hsc, ← hbd]
  conv at hsc => rhs; whnf
  conv at hbd => rhs; whnf
  subst hsc hbd
  have lsrc := ltN (hlt _ (.head _))
  have ltab := ltN (hlt _ (.tail _ (.head _)))
  dsimp only at lsrc ltab
  have lD := ltN hD
  have off4 : ∀ p ∈ rest, p.1 ≠ L' + 1 + 1 + 1 + 1 := fun p hp => by have z := ltN (hlt _ (.tail _ (.tail _ hp))); k_ne
  w_on
  k_with_none
  (repeat' ((fail_if_success (with_reducible show wpAny _ _ (exec (Stmt.While _ _ _ _) _) _ _ _)); (fail_if_success (with_reducible show wpAny _ _ (exec (Stmt.Raise _ _ _) _) _ _ _)); (fail_if_success (with_reducible show wpAny _ _ (exec (Stmt.For _ _ _ _ _) _) _ _ _)); (fail_if_success (with_reducible show wpAny _ _ (eval (Expr.Lambda _ _ _ _) _) _ _ _)); (fail_if_success (with_reducible show wpAny _ _ (eval (Expr.Name (Str.ofString "whole") _) _) _ _ _)); (fail_if_success (with_reducible show wpAny _ _ (eval (Expr.Name (Str.ofString "ahead") _) _) _ _ _)); (fail_if_success (with_reducible show wpAny _ _ (call (Value.ref _) _) _ _ _)); first | (k_unfold; (try dsimp only)) | (k_end; wrow_close) | walk1 | (dsimp only; walk1) | (leave1; (try dsimp only))))
  (rename Fr _ _ _ _ => F1)
  (rename News _ _ _ _ => N1)
  rename (_ = Data.cell (some (Value.str (xt ++ xe) _))) => dW1
  rename Obj => oW1
  have N2 : News g L' _ ((136, tabObj ps) :: (Dd, oD) :: (L' + 1 + 1 + 1 + 1, oW1) :: (L' + 1 + 1 + 1, oA) :: (src, o) :: rest) := News.sub N1 (by repeat' (first | exact sbR | refine sbK ?_ | exact .head _ | refine sbC ?_ ?_ | refine List.Mem.tail _ ?_ | refine sbT ?_))
  have off9 : ∀ q ∈ (Dd, oD) :: (L' + 1 + 1 + 1 + 1, oW1) :: (L' + 1 + 1 + 1, oA) :: (src, o) :: rest, q.1 ≠ 136 := by
    exact offK (by k_ne) (offK (by k_ne) (offK (by k_ne) (offK hs off)))
  refine lam_make F1 N2 T' (CB.keeps B'.stays) rfl off9 (ht.sub fun p hp => .tail _ (.tail _ (.tail _ (.tail _ hp)))) rfl rfl ?_
  intro f c' ctv oc vs t ps' rest' h4 tk4 F4 N4 hm hd hv ht' hr hlt4
  have hall : ∀ q ∈ (Dd, oD) :: (L' + 1 + 1 + 1 + 1, oW1) :: (L' + 1 + 1 + 1, oA) :: (src, o) :: rest, q ∈ rest' := by
    rcases hr with ⟨rfl, _⟩ | ⟨c2, o2, rfl, _, _⟩
    · exact fun q hq => hq
    · exact fun q hq => .tail _ hq
  have hDd := hall _ (.head _)
  have hW := hall _ (.tail _ (.head _))
  have hA := hall _ (.tail _ (.tail _ (.head _)))
  clear F1 N1 N2
  dsimp only
  (repeat' ((fail_if_success (with_reducible show wpAny _ _ (exec (Stmt.While _ _ _ _) _) _ _ _)); (fail_if_success (with_reducible show wpAny _ _ (exec (Stmt.Raise _ _ _) _) _ _ _)); (fail_if_success (with_reducible show wpAny _ _ (exec (Stmt.For _ _ _ _ _) _) _ _ _)); (fail_if_success (with_reducible show wpAny _ _ (eval (Expr.Lambda _ _ _ _) _) _ _ _)); (fail_if_success (with_reducible show wpAny _ _ (eval (Expr.Name (Str.ofString "whole") _) _) _ _ _)); (fail_if_success (with_reducible show wpAny _ _ (eval (Expr.Name (Str.ofString "ahead") _) _) _ _ _)); (fail_if_success (with_reducible show wpAny _ _ (call (Value.ref _) _) _ _ _)); first | (k_unfold; (try dsimp only)) | (k_end; wrow_close) | walk1 | (dsimp only; walk1) | (leave1; (try dsimp only))))
  (rename Fr _ _ _ _ => F5)
  (rename News _ _ _ _ => N5)
  refine ctrT_gen (heard_S w f 7 _ (fun v => ∃ k t, blankAt (xt ++ xe) xa.length = .inl k ∧ v = .int k t) (fun b => blankAt (xt ++ xe) xa.length = .inr b) ?C _ _ _ _ (.head _)) B' F5 X' N5 T' XB TB rfl ?_ ?_ ?_
  case C =>
    intro p2 loose2 mean2 mg2 mb2 dp2 un2 gd2 cn2 cs2 a2 ccd2 cl2 outer2 A2 base2 h02 L2 m2 s2 Q2 E2 B2 F2 X2 N2 T2 hkd2 hdp2 hun2 hret2 herr2
    refine wpAny_call ?_
    k_dflt (refine' kla_code ?k1 ?k2 ?k3 ?k4 ?k5 ?kA ?kF ?kK ?k6 ?k7 ?k8 ?k9 ?kB ?_ ?c2 ?c3 ?c4 ?c5; (case kA => exact rfl); (case kF => exact rfl); (case kK => exact hkd2); (case k1 => k_asm); (case k2 => k_asm); (case k3 => k_asm); (case k4 => k_asm); (case k5 => k_asm); (case k6 => k_mem); (case k7 => exact codeRec_news N2 (.tail _ (.tail _ hm)) hd hv); (case k8 => ktr_room); (case k9 => exact rfl); (case c5 => decide); (case kB => exact locs rfl); (case c2 => exact rfl); (case c3 => exact rfl); (case c4 => exact rfl); k_whole; intro g' L' h' FG' F' N' B' X' T'; (try dsimp only); (try k_lift B'); (try k_fold))
    (repeat' ((fail_if_success (with_reducible show wpAny _ _ (exec (Stmt.While _ _ _ _) _) _ _ _)); (fail_if_success (with_reducible show wpAny _ _ (exec (Stmt.Raise _ _ _) _) _ _ _)); (fail_if_success (with_reducible show wpAny _ _ (exec (Stmt.For _ _ _ _ _) _) _ _ _)); (fail_if_success (with_reducible show wpAny _ _ (eval (Expr.Lambda _ _ _ _) _) _ _ _)); (fail_if_success (with_reducible show wpAny _ _ (eval (Expr.Name (Str.ofString "whole") _) _) _ _ _)); (fail_if_success (with_reducible show wpAny _ _ (eval (Expr.Name (Str.ofString "ahead") _) _) _ _ _)); (fail_if_success (with_reducible show wpAny _ _ (call (Value.ref _) _) _ _ _)); first | (k_unfold; (try dsimp only)) | (k_end; wrow_close) | walk1 | (dsimp only; walk1) | (leave1; (try dsimp only))))
    refine nameX_F N' rfl (.tail _ (.tail _ hW)) dW1 ?_
    (repeat' ((fail_if_success (with_reducible show wpAny _ _ (exec (Stmt.While _ _ _ _) _) _ _ _)); (fail_if_success (with_reducible show wpAny _ _ (exec (Stmt.Raise _ _ _) _) _ _ _)); (fail_if_success (with_reducible show wpAny _ _ (exec (Stmt.For _ _ _ _ _) _) _ _ _)); (fail_if_success (with_reducible show wpAny _ _ (eval (Expr.Lambda _ _ _ _) _) _ _ _)); (fail_if_success (with_reducible show wpAny _ _ (eval (Expr.Name (Str.ofString "whole") _) _) _ _ _)); (fail_if_success (with_reducible show wpAny _ _ (eval (Expr.Name (Str.ofString "ahead") _) _) _ _ _)); (fail_if_success (with_reducible show wpAny _ _ (call (Value.ref _) _) _ _ _)); first | (k_unfold; (try dsimp only)) | (k_end; wrow_close) | walk1 | (dsimp only; walk1) | (leave1; (try dsimp only))))
    refine nameX_F N' rfl (.tail _ (.tail _ hA)) dA ?_
    (repeat' ((fail_if_success (with_reducible show wpAny _ _ (exec (Stmt.While _ _ _ _) _) _ _ _)); (fail_if_success (with_reducible show wpAny _ _ (exec (Stmt.Raise _ _ _) _) _ _ _)); (fail_if_success (with_reducible show wpAny _ _ (exec (Stmt.For _ _ _ _ _) _) _ _ _)); (fail_if_success (with_reducible show wpAny _ _ (eval (Expr.Lambda _ _ _ _) _) _ _ _)); (fail_if_success (with_reducible show wpAny _ _ (eval (Expr.Name (Str.ofString "whole") _) _) _ _ _)); (fail_if_success (with_reducible show wpAny _ _ (eval (Expr.Name (Str.ofString "ahead") _) _) _ _ _)); (fail_if_success (with_reducible show wpAny _ _ (call (Value.ref _) _) _ _ _)); first | (k_unfold; (try dsimp only)) | (k_end; wrow_close) | walk1 | (dsimp only; walk1) | (leave1; (try dsimp only))))
    (rename Below _ _ _ _ => B9)
    (rename Frag.In _ _ => X9)
    (rename Top _ _ _ _ _ _ => T9)
    have hxl : (xt ++ xe).length ≤ 1000 := by omega
    have hxl2 : (xa.length : Int) ≤ (xt ++ xe).length := by omega
    refine ctrR_use (blank_end_C w (xt ++ xe) xa.length _ _ hxl (by omega) hxl2 _) B9 F' X9 N' T9 rfl ?_ ?_ ?_ ?_
    · exact rmD hdp2
    · exact rmU hun2
    · rintro v news' h3 tk3 ⟨⟨n, t, hn, rfl⟩, e⟩ F3 N3
      subst e
      dsimp only
      (repeat' ((fail_if_success (with_reducible show wpAny _ _ (exec (Stmt.While _ _ _ _) _) _ _ _)); (fail_if_success (with_reducible show wpAny _ _ (exec (Stmt.Raise _ _ _) _) _ _ _)); (fail_if_success (with_reducible show wpAny _ _ (exec (Stmt.For _ _ _ _ _) _) _ _ _)); (fail_if_success (with_reducible show wpAny _ _ (eval (Expr.Lambda _ _ _ _) _) _ _ _)); (fail_if_success (with_reducible show wpAny _ _ (eval (Expr.Name (Str.ofString "whole") _) _) _ _ _)); (fail_if_success (with_reducible show wpAny _ _ (eval (Expr.Name (Str.ofString "ahead") _) _) _ _ _)); (fail_if_success (with_reducible show wpAny _ _ (call (Value.ref _) _) _ _ _)); first | (k_unfold; (try dsimp only)) | (k_end; wrow_close) | walk1 | (dsimp only; walk1) | (leave1; (try dsimp only))))
      (rename Fr _ _ _ _ => kF)
      (rename News _ _ _ _ => kN)
      exact hret2 _ _ _ _ ⟨⟨n, t, hn, rfl⟩, rfl⟩ kF kN
    · rintro b e d t1 u1 t2 t3 g2 h3 tk3 hb F3 U3 R3
      (try k_unfold)
      dsimp only
      refine leave_onT B9 F3 R3 U3 rfl fun h4 R4 U4 => ?_
      exact herr2 _ e d _ _ _ _ _ _ _ hb (by assumption) U4 R4
  · exact rmD hdp
  · exact rmU hun
  rintro Q3 hQ3 v news' h3 tk3 g3 hR T3 F3 N3 B3
  have X3 := XB.keeps B3.stays
  have P3 := TB.keeps B3.stays
  clear F5 N5
  rcases hR with ⟨v1, D, ⟨k, t, hk, rfl⟩, rfl, hl3, rfl⟩ | ⟨b, D, u, t, c, hk, rfl, hl3, rfl⟩
  · rcases hdue with ⟨n, t2, hz, rfl⟩ | ⟨n, u2, t2, c2, hz, _⟩
    · rw [hk] at hz; cases hz
      have N4 := news_show N3 (.tail _ (.tail _ hDd))
      clear N3
      refine hQ3 _ _ ?_
      clear hQ3 Q3
      dsimp only
      (repeat' ((fail_if_success (with_reducible show wpAny _ _ (exec (Stmt.While _ _ _ _) _) _ _ _)); (fail_if_success (with_reducible show wpAny _ _ (exec (Stmt.Raise _ _ _) _) _ _ _)); (fail_if_success (with_reducible show wpAny _ _ (exec (Stmt.For _ _ _ _ _) _) _ _ _)); (fail_if_success (with_reducible show wpAny _ _ (eval (Expr.Lambda _ _ _ _) _) _ _ _)); (fail_if_success (with_reducible show wpAny _ _ (eval (Expr.Name (Str.ofString "whole") _) _) _ _ _)); (fail_if_success (with_reducible show wpAny _ _ (eval (Expr.Name (Str.ofString "ahead") _) _) _ _ _)); (fail_if_success (with_reducible show wpAny _ _ (call (Value.ref _) _) _ _ _)); first | (k_unfold; (try dsimp only)) | (k_end; wrow_close) | walk1 | (dsimp only; walk1) | (leave1; (try dsimp only))))
      (rename Fr _ _ _ _ => F6)
      (rename News _ _ _ _ => N6)
      obtain ⟨restN, N7, ht7, hr7⟩ := tab_close [_, _, _] [_, _, _] ht hr N6
      exact ret _ _ _ _ _ _ T3 F6 N7 ht7 hr7
    · rw [hk] at hz; cases hz
  · rcases hdue with ⟨n, t2, hz, _⟩ | ⟨n, u2, t2, c2, hz, rfl⟩
    · rw [hk] at hz; cases hz
    · rw [hk] at hz; cases hz
      have N4 := news_show N3 (.tail _ (.tail _ hDd))
      clear N3
      refine hQ3 _ _ ?_
      clear hQ3 Q3
      dsimp only
      (repeat' ((fail_if_success (with_reducible show wpAny _ _ (exec (Stmt.While _ _ _ _) _) _ _ _)); (fail_if_success (with_reducible show wpAny _ _ (exec (Stmt.Raise _ _ _) _) _ _ _)); (fail_if_success (with_reducible show wpAny _ _ (exec (Stmt.For _ _ _ _ _) _) _ _ _)); (fail_if_success (with_reducible show wpAny _ _ (eval (Expr.Lambda _ _ _ _) _) _ _ _)); (fail_if_success (with_reducible show wpAny _ _ (eval (Expr.Name (Str.ofString "whole") _) _) _ _ _)); (fail_if_success (with_reducible show wpAny _ _ (eval (Expr.Name (Str.ofString "ahead") _) _) _ _ _)); (fail_if_success (with_reducible show wpAny _ _ (call (Value.ref _) _) _ _ _)); first | (k_unfold; (try dsimp only)) | (k_end; wrow_close) | walk1 | (dsimp only; walk1) | (leave1; (try dsimp only))))
      (rename Fr _ _ _ _ => F6)
      (rename News _ _ _ _ => N6)
      obtain ⟨restN, N7, ht7, hr7⟩ := tab_close [_, _, _] [_, _, _] ht hr N6
      exact ret _ _ _ _ _ _ T3 F6 N7 ht7 hr7
end
end

/- part B1 -/
section
open PySem PySem.W PyProof.Rows PySem.Calls PySem.Spec
set_option maxRecDepth 100000
set_option maxHeartbeats 4000000
set_option linter.unusedVariables false

theorem news_as {h₀ h : Heap} {L : Addr} {x y y' : Addr × Obj} {r : List (Addr × Obj)} (N : News h₀ L h (x :: y :: r)) (e : y = y') : News h₀ L h (x :: y' :: r) := e ▸ N

theorem blank_right_C (w : World) {src : Addr} {o : Obj} {ps : Array Value} {rest : List (Addr × Obj)} (ho : Src o) (off : ∀ p ∈ rest, p.1 ≠ src) (offT : ∀ p ∈ rest, p.1 ≠ 136) (hne : src ≠ 136) (ht : TabIs ps blkPos blkQual rest) :
    CtrH (fun b => CodeHd b 138 136) w 139 [.ref src] 25 ((src, o) :: (136, tabObj ps) :: rest) (fun v news' => v = .bool true ∧ ∃ o' ps' rest', Src o' ∧ news' = (src, o') :: (136, tabObj ps') :: rest' ∧ TabIs ps' blkPos blkQual rest' ∧
      (rest' = rest ∨ ∃ c₂ o₂, rest' = (c₂, o₂) :: rest ∧ ∀ q ∈ (src, o') :: (136, tabObj ps) :: rest, q.1 < c₂)) := by
  intro p loose mean mg mb dp un gd cn cs a ccd cl outer A₀ base h₀ L m s Q E CB B F X N T XB TB hkd hdp hun hret
  w_on
  k_with_none
  refine wpAny_call ?_
  k_dflt (refine' code_defTC ?k1 ?k2 ?k3 ?k4 ?k5 ?kA ?kF ?kK ?k6 ?k7 ?k8 ?k9 ?kB ?kD ?_ ?c2 ?c3 ?c4; (case kA => exact rfl); (case kF => exact rfl); (case kK => assumption); (case k1 => k_asm); (case k2 => k_asm); (case k3 => k_asm); (case k4 => k_asm); (case k5 => k_asm); (case k6 => k_is); (case k7 => k_is); (case k8 => ktr_room); (case k9 => exact BindsTo.of_eq rfl); (case kB => exact rfl); (case kD => decide +kernel); (case c2 => exact rfl); (case c3 => exact rfl); (case c4 => exact rfl); k_whole; intro g' L' h' tk' cells' FG' F' N' Y' B' X' T' l1; (try dsimp only); (try k_lift B'); (try k_fold))
  refine gen_QE fun Q2 hQ2 => ?_
  refine gen_goal fun P hP => ?_
  have hY := CellsAre.four Y'
  obtain ⟨oW, oA, oM, oS, hE, dW, dA, dM, dS⟩ := hY
  subst hE
  refine hP ?_
  clear Y' hP P
  (try dsimp only [List.cons_append, List.nil_append] at N')
  have dW1 : oW.data = .cell none := dW
  have dA1 : oA.data = .cell none := dA
  have dM1 : oM.data = .cell none := dM
  have dS1 : oS.data = .cell (some (.ref src)) := dS
  clear dW dA dM dS
  have hneN : @Ne Nat src 136 := hne
  have ls := ltN (l1 _ (.head _))
  have lt := ltN (l1 _ (.tail _ (.head _)))
  dsimp only at ls lt
  have off1 : ∀ p ∈ rest, p.1 ≠ L' + 1 := fun p hp => by have z := ltN (l1 _ (.tail _ (.tail _ hp))); k_ne
  have off2 : ∀ p ∈ rest, p.1 ≠ L' + 1 + 1 := fun p hp => by have z := ltN (l1 _ (.tail _ (.tail _ hp))); k_ne
  have off3 : ∀ p ∈ rest, p.1 ≠ L' + 1 + 1 + 1 := fun p hp => by have z := ltN (l1 _ (.tail _ (.tail _ hp))); k_ne
  have off4 : ∀ p ∈ rest, p.1 ≠ L' + 1 + 1 + 1 + 1 := fun p hp => by have z := ltN (l1 _ (.tail _ (.tail _ hp))); k_ne
  (repeat' ((fail_if_success (with_reducible show wpAny _ _ (exec (Stmt.While _ _ _ _) _) _ _ _)); (fail_if_success (with_reducible show wpAny _ _ (exec (Stmt.Raise _ _ _) _) _ _ _)); (fail_if_success (with_reducible show wpAny _ _ (exec (Stmt.For _ _ _ _ _) _) _ _ _)); (fail_if_success (with_reducible show LCg.CompSrc _ _ _ _ _ _ _ _ _ _ _ _ _ _)); (fail_if_success (with_reducible show wpAny _ _ (execs [_, _] _) _ _ _)); (fail_if_success (with_reducible show wpAny _ _ (pyIter _) _ _ _)); (fail_if_success (with_reducible show wpAny _ _ (call (Value.ref _) _) _ _ _)); first | (k_unfold; (try dsimp only)) | (k_end; wrow_close) | walk1 | (dsimp only; walk1) | (leave1; (try dsimp only))))
  rename_i la ha l_a hb oM1 dM2 lb hc l_b Dm hd2 l_c he oM2 dM3 lq hf F1 N1 l_d
  obtain ⟨menu, hm0⟩ : ∃ menu : List Value, menu = [Value.str (Str.ofString " ") tk', Value.str (Str.ofString "\t\n") (tk' + 1), Value.str (Str.ofString "\x0d\x0b\x0c") (tk' + 1 + 1), Value.str (Str.ofString "\u0085\u200e") (tk' + 1 + 1 + 1), Value.str (Str.ofString "\u2028\u2029\u200f") (tk' + 1 + 1 + 1 + 1),
      Value.str (Str.ofString "// a/*b\n") (tk' + 1 + 1 + 1 + 1 + 1), Value.str (Str.ofString "/* c */") (tk' + 1 + 1 + 1 + 1 + 1 + 1), Value.str (Str.ofString "/*/* */ // */") (tk' + 1 + 1 + 1 + 1 + 1 + 1 + 1), Value.str (Str.ofString "//\n") (tk' + 1 + 1 + 1 + 1 + 1 + 1 + 1 + 1)] := ⟨_, rfl⟩
  have hmen : ∀ v ∈ menu, ∃ x t, v = Value.str x t ∧ x ∈ someL := by
    rw [hm0]
    repeat' (first | exact allN | refine allK ⟨_, _, rfl, by decide⟩ ?_)
  have hmlen : menu.length = 9 := by rw [hm0]; rfl
  have N2 := news_drop 2 2 N1
  dsimp only [List.take_succ_cons, List.take_zero, List.drop_succ_cons, List.drop_zero, List.cons_append, List.nil_append] at N2
  have N3 := news_as (y' := (Dm, W.listOf menu.toArray 0)) N2 (by rw [hm0])
  clear N1 N2 hm0
  have offDm : ∀ p ∈ rest, p.1 ≠ Dm := fun p hp => Nat.ne_of_lt (allLt_mem l_c.2.2.2.2.2.2.2.2 p hp)
  have lDm := ltN l_c.2.2.1
  have lq1 := ltN l_d.1
  clear l_a l_b l_c dM2
  refine ctr_gen (one_C w ho ?offm (.head _) (Nat.le_of_ble_eq_true rfl) (Nat.le_of_ble_eq_true rfl)) B' F1 X' (news_mid [_, _, _, _, _, _] N3) T' rfl ?_ ?_ ?_
  case offm =>
    exact offK (by k_ne) (offK (by k_ne) (offK (by k_ne) (offK (by k_ne) (offK (by k_ne) (offK (by k_ne) (offK (by k_ne) (off)))))))
  · exact rmD hdp
  · exact rmU hun
  rintro Q3 hQ3 v7 news7 h7 tk7 ⟨hv7, o7, ho7, e7⟩ F7 N7
  subst e7
  have : ∃ y t, v7 = Value.str y t ∧ y.length ≤ 2 := oneOf (P := fun v => ∃ y t, v = Value.str y t ∧ y.length ≤ 2) hv7 (by repeat' (first | exact allN | refine allK ⟨_, _, rfl, by decide⟩ ?_))
  obtain ⟨xa, ta, rfl, hxa⟩ := this
  refine hQ3 _ _ ?_
  clear hQ3 Q3
  have N8 : News g' L' h7 ((Dm, W.listOf menu.toArray 0) :: (L' + 1 + 1 + 1 + 1, oW) :: (L' + 1 + 1 + 1, oA) :: (L' + 1 + 1, oM2) :: (L' + 1, oS) :: (src, o7) :: (136, tabObj ps) :: rest) := News.sub N7 (by repeat' (first | exact sbR | refine sbK ?_ | exact .head _ | refine sbC ?_ ?_ | refine List.Mem.tail _ ?_ | refine sbT ?_))
  clear F1 N3 N7 hv7
  dsimp only
  (repeat' ((fail_if_success (with_reducible show wpAny _ _ (exec (Stmt.While _ _ _ _) _) _ _ _)); (fail_if_success (with_reducible show wpAny _ _ (exec (Stmt.Raise _ _ _) _) _ _ _)); (fail_if_success (with_reducible show wpAny _ _ (exec (Stmt.For _ _ _ _ _) _) _ _ _)); (fail_if_success (with_reducible show LCg.CompSrc _ _ _ _ _ _ _ _ _ _ _ _ _ _)); (fail_if_success (with_reducible show wpAny _ _ (execs [_, _] _) _ _ _)); (fail_if_success (with_reducible show wpAny _ _ (pyIter _) _ _ _)); (fail_if_success (with_reducible show wpAny _ _ (call (Value.ref _) _) _ _ _)); first | (k_unfold; (try dsimp only)) | (k_end; wrow_close) | walk1 | (dsimp only; walk1) | (leave1; (try dsimp only))))
  rename Fr _ _ _ _ => F9
  rename News _ _ _ _ => N9
  rename (_ = Data.cell (some (Value.str xa ta))) => dA2
  rename Obj => oA2
  refine ctr_gen (draw_C w _ ho7 ?offe (by decide) (by decide)) B' F9 X' (news_mid [_, _, _, _, _] N9) T' rfl ?_ ?_ ?_
  case offe =>
    exact offK (by k_ne) (offK (by k_ne) (offK (by k_ne) (offK (by k_ne) (offK (by k_ne) (offK (by k_ne) (off))))))
  · exact rmD hdp
  · exact rmU hun
  rintro Q3 hQ3 v news' h10 tk10 ⟨d, td, o8, rfl, hd1, hd3, ho8, e⟩ F10 N10
  subst e
  refine hQ3 _ _ ?_
  clear hQ3 Q3
  have N11 : News g' L' h10 ((src, o8) :: (Dm, W.listOf menu.toArray 0) :: (L' + 1 + 1 + 1 + 1, oW) :: (L' + 1 + 1 + 1, oA2) :: (L' + 1 + 1, oM2) :: (L' + 1, oS) :: (136, tabObj ps) :: rest) := News.sub N10 (by repeat' (first | exact sbR | refine sbK ?_ | exact .head _ | refine sbC ?_ ?_ | refine List.Mem.tail _ ?_ | refine sbT ?_))
  clear F9 N9 N10
  dsimp only
  (repeat' ((fail_if_success (with_reducible show wpAny _ _ (exec (Stmt.While _ _ _ _) _) _ _ _)); (fail_if_success (with_reducible show wpAny _ _ (exec (Stmt.Raise _ _ _) _) _ _ _)); (fail_if_success (with_reducible show wpAny _ _ (exec (Stmt.For _ _ _ _ _) _) _ _ _)); (fail_if_success (with_reducible show LCg.CompSrc _ _ _ _ _ _ _ _ _ _ _ _ _ _)); (fail_if_success (with_reducible show wpAny _ _ (execs [_, _] _) _ _ _)); (fail_if_success (with_reducible show wpAny _ _ (pyIter _) _ _ _)); (fail_if_success (with_reducible show wpAny _ _ (call (Value.ref _) _) _ _ _)); first | (k_unfold; (try dsimp only)) | (k_end; wrow_close) | walk1 | (dsimp only; walk1) | (leave1; (try dsimp only))))
  rename IsRange _ _ _ _ _ _ _ _ => hr
  rename Fr _ _ _ _ => F4
  rename News _ _ _ _ => N4
  dsimp only
  refine LCg.CompSrc.range (n := (d - 0).toNat) rfl F4 N4 hr (small_d hd1 (Int.lt_trans hd3 (by decide))) (rangeSize_nat 0 d) (size_d (Int.lt_trans hd3 (by decide))) ?_
  intro g''
  refine compRest_inv (n := (d - 0).toNat) (fun i ys news => (∃ l : List (Str × Tok), ys = strValues l ∧ l.length = i ∧ ∀ p ∈ l, p.1 ∈ someL) ∧ ∃ o', Src o' ∧ news = (src, o') :: (Dm, W.listOf menu.toArray 0) :: (L' + 1 + 1 + 1 + 1, oW) :: (L' + 1 + 1 + 1, oA2) :: (L' + 1 + 1, oM2) :: (L' + 1, oS) :: (136, tabObj ps) :: rest) ?st ?fn ((d - 0).toNat) 0 [] _ ?ee ?jj
  case ee => exact Nat.zero_add _
  case jj => exact ⟨⟨[], rfl, rfl, List.forall_mem_nil _⟩, o8, ho8, rfl⟩
  case st =>
    rintro i ys news v I oI C oC D m₂ h tk E' hi hJ hv hC hx F5 N5 o3z ne
    refine gen_goal fun P hP => ?_
    obtain ⟨⟨l, hyl, hli, hys⟩, o2, ho2, e⟩ := hJ
    refine hP ?_
    clear hP P
    rw [e] at N5 o3z
    clear hr F4 N4
    dsimp only
    (repeat' ((fail_if_success (with_reducible show wpAny _ _ (exec (Stmt.While _ _ _ _) _) _ _ _)); (fail_if_success (with_reducible show wpAny _ _ (exec (Stmt.Raise _ _ _) _) _ _ _)); (fail_if_success (with_reducible show wpAny _ _ (exec (Stmt.For _ _ _ _ _) _) _ _ _)); (fail_if_success (with_reducible show LCg.CompSrc _ _ _ _ _ _ _ _ _ _ _ _ _ _)); (fail_if_success (with_reducible show wpAny _ _ (execs [_, _] _) _ _ _)); (fail_if_success (with_reducible show wpAny _ _ (pyIter _) _ _ _)); (fail_if_success (with_reducible show wpAny _ _ (call (Value.ref _) _) _ _ _)); first | (k_unfold; (try dsimp only)) | (k_end; wrow_close) | walk1 | (dsimp only; walk1) | (leave1; (try dsimp only))))
    rename Fr _ _ _ _ => F6
    rename News _ _ _ _ => N6
    rename Below _ _ _ _ => B6
    rename Frag.In _ _ => X6
    rename Top _ _ _ _ _ _ => T6
    obtain ⟨n1, n2, n3⟩ := o3z.1
    refine ctr_gen (one_C w (vs := menu) ho2 ?offn (.tail _ (.tail _ (.tail _ (.head _)))) (by omega) (by omega)) B6 F6 X6 (news_mid [(I, oI), (C, oC), (D, LCg.lst ys)] N6) T6 rfl ?_ ?_ ?_
    case offn =>
      exact offK (Ne.symm n1) (offK (Ne.symm n2) (offK (Ne.symm n3) (offK (by k_ne) (offK (by k_ne) (offK (by k_ne) (offK (by k_ne) (offK (by k_ne) (offK (by k_ne) (off)))))))))
    · exact rmD hdp
    · exact rmU hun
    rintro Q3 hQ3 v7 news7 h7 tk7 ⟨hv7, o7, ho7, e7⟩ F7 N7
    subst e7
    obtain ⟨x7, t7, rfl, hx7⟩ := hmen _ hv7
    refine hQ3 _ _ ?_
    clear hQ3 Q3
    k_unfold
    dsimp only
    refine LCg.CompEnd.intro (news' := (src, o7) :: (Dm, W.listOf menu.toArray 0) :: (L' + 1 + 1 + 1 + 1, oW) :: (L' + 1 + 1 + 1, oA2) :: (L' + 1 + 1, oM2) :: (L' + 1, oS) :: (136, tabObj ps) :: rest) F7 N7 ?_ o3z trivial ⟨⟨l ++ [(x7, t7)], by rw [hyl, strs_append], by simp [hli], List.forall_mem_append.mpr ⟨hys, List.forall_mem_singleton.mpr hx7⟩⟩, o7, ho7, rfl⟩
    repeat' (first | exact sbR | refine sbK ?_ | exact .head _ | refine sbC ?_ ?_ | refine List.Mem.tail _ ?_ | refine sbT ?_)
  case fn =>
    rintro ys news hJ D h8 tk8 F8 N8 h8x
    refine gen_goal fun P hP => ?_
    obtain ⟨⟨l, hyl, hli, hys⟩, o2, ho2, e⟩ := hJ
    subst e hyl
    replace hli : l.length ≤ 5 := cut_len hli hd3
    clear hr F4 N4
    obtain ⟨o8a, o8b, o8c, o8d, o8e, o8f, o8g, o8h⟩ := h8x
    dsimp only at o8a o8b o8c o8d o8e o8f o8g
    refine hP ?_
    clear hP P
    (repeat' ((fail_if_success (with_reducible show wpAny _ _ (exec (Stmt.While _ _ _ _) _) _ _ _)); (fail_if_success (with_reducible show wpAny _ _ (exec (Stmt.Raise _ _ _) _) _ _ _)); (fail_if_success (with_reducible show wpAny _ _ (exec (Stmt.For _ _ _ _ _) _) _ _ _)); (fail_if_success (with_reducible show LCg.CompSrc _ _ _ _ _ _ _ _ _ _ _ _ _ _)); (fail_if_success (with_reducible show wpAny _ _ (execs [_, _] _) _ _ _)); (fail_if_success (with_reducible show wpAny _ _ (pyIter _) _ _ _)); (fail_if_success (with_reducible show wpAny _ _ (call (Value.ref _) _) _ _ _)); first | (k_unfold; (try dsimp only)) | (k_end; wrow_close) | walk1 | (dsimp only; walk1) | (leave1; (try dsimp only))))
    have hl13 : ∀ p ∈ l, p.1.length ≤ 13 := fun p hp => some_len _ (hys p hp)
    refine join_mem 13 N8 (.head _) hl13 (by show l.length * 13 + l.length * 0 ≤ _; omega) ?_
    intro t9 k9
    have hlen := join0_len (Str.ofString "") rfl (l.map (·.1)) 13 (by simpa using hl13)
    rw [List.length_map] at hlen
    replace hlen := Nat.le_trans hlen (Nat.mul_le_mul_right 13 hli)
    clear hli
    have hys2 : ∀ p ∈ l.map (·.1), p ∈ someL := by simpa using hys
    have hdue := fun e he => blank_due xa (l.map (·.1)) e hys2 he
    generalize Txt.join (Str.ofString "") (l.map (·.1)) = y at hlen hdue ⊢
    have N10 : News g' L' _ ((L' + 1 + 1 + 1 + 1, oW) :: (L' + 1 + 1 + 1, oA2) :: (L' + 1, oS) :: (src, o2) :: (136, tabObj ps) :: rest) := News.sub N8 (by repeat' (first | exact sbR | refine sbK ?_ | exact .head _ | refine sbC ?_ ?_ | refine List.Mem.tail _ ?_ | refine sbT ?_))
    clear N8 hl13 hys hys2 o8h
    dsimp only
    (repeat' ((fail_if_success (with_reducible show wpAny _ _ (exec (Stmt.While _ _ _ _) _) _ _ _)); (fail_if_success (with_reducible show wpAny _ _ (exec (Stmt.Raise _ _ _) _) _ _ _)); (fail_if_success (with_reducible show wpAny _ _ (exec (Stmt.For _ _ _ _ _) _) _ _ _)); (fail_if_success (with_reducible show LCg.CompSrc _ _ _ _ _ _ _ _ _ _ _ _ _ _)); (fail_if_success (with_reducible show wpAny _ _ (execs [_, _] _) _ _ _)); (fail_if_success (with_reducible show wpAny _ _ (pyIter _) _ _ _)); (fail_if_success (with_reducible show wpAny _ _ (call (Value.ref _) _) _ _ _)); first | (k_unfold; (try dsimp only)) | (k_end; wrow_close) | walk1 | (dsimp only; walk1) | (leave1; (try dsimp only))))
    rename_i lq2 hg F12 N12 l_e
    clear o8a o8b o8c o8d o8e o8f o8g l_d lq1
    refine ctr_gen (one_C w ho2 ?offq (.head _) (Nat.le_of_ble_eq_true rfl) (Nat.le_of_ble_eq_true rfl)) B' F12 X' (news_mid [_, _, _, _] N12) T' rfl ?_ ?_ ?_
    case offq =>
      exact offK (by k_ne) (offK (by k_ne) (offK (by k_ne) (offK (by k_ne) (offK (by k_ne) (off)))))
    · exact rmD hdp
    · exact rmU hun
    rintro Q3 hQ3 v13 news13 h13 tk13 ⟨hv13, o13, ho13, e13⟩ F13 N13
    subst e13
    have : ∃ y t, v13 = Value.str y t ∧ y ∈ endL := oneOf (P := fun v => ∃ y t, v = Value.str y t ∧ y ∈ endL) hv13 (by repeat' (first | exact allN | refine allK ⟨_, _, rfl, by decide⟩ ?_))
    obtain ⟨xe, te, rfl, hxe⟩ := this
    refine hQ3 _ _ ?_
    clear hQ3 Q3
    have hxel := end_len xe hxe
    have hdue2 := hdue xe hxe
    clear hdue
    have N14 : News g' L' h13 ((L' + 1 + 1 + 1 + 1, oW) :: (L' + 1 + 1 + 1, oA2) :: (src, o13) :: (136, tabObj ps) :: rest) := News.sub N13 (by repeat' (first | exact sbR | refine sbK ?_ | exact .head _ | refine sbC ?_ ?_ | refine List.Mem.tail _ ?_ | refine sbT ?_))
    clear F12 N12 N13 hv13 l_e
    have hlt : ∀ p ∈ (src, o13) :: (136, tabObj ps) :: rest, p.1 < L' := List.forall_mem_cons.mpr ⟨ls, fun p hp => l1 p (.tail _ hp)⟩
    dsimp only
    (repeat' ((fail_if_success (with_reducible show wpAny _ _ (exec (Stmt.While _ _ _ _) _) _ _ _)); (fail_if_success (with_reducible show wpAny _ _ (exec (Stmt.Raise _ _ _) _) _ _ _)); (fail_if_success (with_reducible show wpAny _ _ (exec (Stmt.For _ _ _ _ _) _) _ _ _)); (fail_if_success (with_reducible show LCg.CompSrc _ _ _ _ _ _ _ _ _ _ _ _ _ _)); (fail_if_success (with_reducible show wpAny _ _ (execs [_, _] _) _ _ _)); (fail_if_success (with_reducible show wpAny _ _ (pyIter _) _ _ _)); (fail_if_success (with_reducible show wpAny _ _ (call (Value.ref _) _) _ _ _)); first | (k_unfold; (try dsimp only)) | (k_end; wrow_close) | walk1 | (dsimp only; walk1) | (leave1; (try dsimp only))))
    · rename ((xe == Str.ofString "/* x") = true) => e1
      rename ((xe == Str.ofString "// no row ends") = true) => e2
      rw [eq_of_beq e1] at e2
      exact absurd e2 (by decide)
    · rename ((xe == Str.ofString "// no row ends") = true) => e2
      have e3 := eq_of_beq e2
      dsimp only
      rename Fr _ _ _ _ => F20
      rename News _ _ _ _ => N20
      have N21 := news_drop 1 1 N20
      dsimp only [List.take_succ_cons, List.take_zero, List.drop_succ_cons, List.drop_zero, List.cons_append, List.nil_append] at N21
      have F21 := fr_to F20 (mp_upd (mp_upd (mp_upd (mp_upd (m := fun _ => none) (l := []) rfl rfl) rfl) rfl) rfl)
      with_unfolding_all refine blk_tail (xt := xa ++ y) (xe := xe) (xa := xa) CB offT hne off ?hD hlt ht (by omega) hxel (by omega) dA2 dW1 ?hdu XB TB B' F21 N21 X' T' (rmE hdp) (rmF hun) ?rt
      case hD => show @LT.lt Nat _ _ _; omega
      case hdu => exact .inl ⟨_, _, by rw [hdue2]; unfold endDue; rw [if_pos e3]; rfl, rfl⟩
      case rt =>
        intro g7 h20 tk20 m20 ps20 rest20 T20 F20 N20 ht20 hr20
        refine hQ2 _ _ ?_
        dsimp only
        refine leaveT_ (T20) F20 N20 fun h₀' T0 F0 N0 B0 => ?_
        exact hret _ _ _ _ _ ⟨rfl, o13, ps20, rest20, ho13, rfl, ht20, hr20⟩ T0 F0 N0 B0
    · rename ((xe == Str.ofString "/* x") = true) => e1
      rename ((xe == Str.ofString "// no row ends") = false) => e2
      have e3 := eq_of_beq e1
      have e4 : ¬ xe = Str.ofString "// no row ends" := by rw [e3]; decide
      rename Fr _ _ _ _ => F17
      rename News _ _ _ _ => N17
      refine ctr_gen (unended_C w _ _ _) B' F17 X' N17 T' rfl ?_ ?_ ?_
      · exact rmD hdp
      · exact rmU hun
      rintro Q3 hQ3 v news' h18 tk18 ⟨D5, t5, c5, rfl, hl5, e⟩ F18 N18
      subst e
      refine hQ3 _ _ ?_
      clear hQ3 Q3
      clear F17 N17
      have lD5 := ltN (hl5 _ (.tail _ (.head _)))
      dsimp only at lD5
      dsimp only
      (repeat' ((fail_if_success (with_reducible show wpAny _ _ (exec (Stmt.While _ _ _ _) _) _ _ _)); (fail_if_success (with_reducible show wpAny _ _ (exec (Stmt.Raise _ _ _) _) _ _ _)); (fail_if_success (with_reducible show wpAny _ _ (exec (Stmt.For _ _ _ _ _) _) _ _ _)); (fail_if_success (with_reducible show LCg.CompSrc _ _ _ _ _ _ _ _ _ _ _ _ _ _)); (fail_if_success (with_reducible show wpAny _ _ (execs [_, _] _) _ _ _)); (fail_if_success (with_reducible show wpAny _ _ (pyIter _) _ _ _)); (fail_if_success (with_reducible show wpAny _ _ (call (Value.ref _) _) _ _ _)); first | (k_unfold; (try dsimp only)) | (k_end; wrow_close) | walk1 | (dsimp only; walk1) | (leave1; (try dsimp only))))
      dsimp only
      rename Fr _ _ _ _ => F20
      rename News _ _ _ _ => N20
      have N21 := news_drop 1 1 N20
      dsimp only [List.take_succ_cons, List.take_zero, List.drop_succ_cons, List.drop_zero, List.cons_append, List.nil_append] at N21
      have F21 := fr_to F20 (mp_upd (mp_upd (mp_upd (mp_upd (m := fun _ => none) (l := []) rfl rfl) rfl) rfl) rfl)
      with_unfolding_all refine blk_tail (xt := xa ++ y) (xe := xe) (xa := xa) CB offT hne off ?hD hlt ht (by omega) hxel (by omega) dA2 dW1 ?hdu XB TB B' F21 N21 X' T' (rmE hdp) (rmF hun) ?rt
      case hD => show @LT.lt Nat _ _ _; omega
      case hdu => exact .inr ⟨_, _, _, _, by rw [hdue2]; unfold endDue; rw [if_neg e4, if_pos e3]; simp, rfl⟩
      case rt =>
        intro g7 h20 tk20 m20 ps20 rest20 T20 F20 N20 ht20 hr20
        refine hQ2 _ _ ?_
        dsimp only
        refine leaveT_ (T20) F20 N20 fun h₀' T0 F0 N0 B0 => ?_
        exact hret _ _ _ _ _ ⟨rfl, o13, ps20, rest20, ho13, rfl, ht20, hr20⟩ T0 F0 N0 B0
    · rename ((xe == Str.ofString "/* x") = false) => e1
      rename ((xe == Str.ofString "// no row ends") = false) => e2
      have e3 : ¬ xe = Str.ofString "/* x" := fun h => by rw [h] at e1; exact absurd e1 (by decide)
      have e4 : ¬ xe = Str.ofString "// no row ends" := fun h => by rw [h] at e2; exact absurd e2 (by decide)
      dsimp only
      rename Fr _ _ _ _ => F20
      rename News _ _ _ _ => N20
      have N21 := news_drop 1 0 N20
      dsimp only [List.take_succ_cons, List.take_zero, List.drop_succ_cons, List.drop_zero, List.cons_append, List.nil_append] at N21
      have F21 := fr_to F20 (mp_upd (mp_upd (mp_upd (m := fun _ => none) (l := []) rfl rfl) rfl) rfl)
      with_unfolding_all refine blk_tail (xt := xa ++ y) (xe := xe) (xa := xa) CB offT hne off ?hD hlt ht (by omega) hxel (by omega) dA2 dW1 ?hdu XB TB B' F21 N21 X' T' (rmE hdp) (rmF hun) ?rt
      case hD => show @LT.lt Nat _ _ _; omega
      case hdu => exact .inl ⟨_, _, by rw [hdue2]; unfold endDue; rw [if_neg e4, if_neg e3]; simp, rfl⟩
      case rt =>
        intro g7 h20 tk20 m20 ps20 rest20 T20 F20 N20 ht20 hr20
        refine hQ2 _ _ ?_
        dsimp only
        refine leaveT_ (T20) F20 N20 fun h₀' T0 F0 N0 B0 => ?_
        exact hret _ _ _ _ _ ⟨rfl, o13, ps20, rest20, ho13, rfl, ht20, hr20⟩ T0 F0 N0 B0
end

/- part G1 -/
section
open PySem PySem.W PyProof.Rows PySem.Calls PySem.Spec
set_option maxRecDepth 100000
set_option maxHeartbeats 4000000
set_option linter.unusedVariables false

/-- names known, at and sign that may be bound -/
noncomputable abbrev MpS (va vs : Option Value) (l : List (Str × Value)) : Str → Option Value := fun z => if z = Str.ofString "at" then va else if z = Str.ofString "sign" then vs else Mp l z
theorem mpS_of {m : Str → Option Value} {l : List (Str × Value)} (h : m = Mp l) (h1 : Mp l (Str.ofString "at") = none) (h2 : Mp l (Str.ofString "sign") = none) : m = MpS none none l := by
  subst h
  funext z
  show Mp l z = if z = Str.ofString "at" then none else if z = Str.ofString "sign" then none else Mp l z
  by_cases r : z = Str.ofString "at"
  · rw [if_pos r, r, h1]
  · rw [if_neg r]
    by_cases r2 : z = Str.ofString "sign"
    · rw [if_pos r2, r2, h2]
    · rw [if_neg r2]
theorem mpS_at {m : Str → Option Value} {v : Value} {va vs : Option Value} {l : List (Str × Value)} (h : m = MpS va vs l) : (fun z => if z = Str.ofString "at" then some v else m z) = MpS (some v) vs l := by
  subst h
  funext z
  show (if z = Str.ofString "at" then some v else if z = Str.ofString "at" then va else if z = Str.ofString "sign" then vs else Mp l z) = if z = Str.ofString "at" then some v else if z = Str.ofString "sign" then vs else Mp l z
  by_cases r : z = Str.ofString "at"
  · rw [if_pos r, if_pos r]
  · rw [if_neg r, if_neg r, if_neg r]
theorem mpS_sign {m : Str → Option Value} {v : Value} {va vs : Option Value} {l : List (Str × Value)} (h : m = MpS va vs l) : (fun z => if z = Str.ofString "sign" then some v else m z) = MpS va (some v) l := by
  subst h
  funext z
  show (if z = Str.ofString "sign" then some v else if z = Str.ofString "at" then va else if z = Str.ofString "sign" then vs else Mp l z) = if z = Str.ofString "at" then va else if z = Str.ofString "sign" then some v else Mp l z
  by_cases r : z = Str.ofString "at"
  · have : z ≠ Str.ofString "sign" := by rw [r]; decide
    rw [if_neg this, if_pos r, if_pos r]
  · rw [if_neg r, if_neg r]
    by_cases r2 : z = Str.ofString "sign"
    · rw [if_pos r2, if_pos r2]
    · rw [if_neg r2, if_neg r2, if_neg r2]
theorem mpS_upd {m : Str → Option Value} {y : Str} {v : Value} {va vs : Option Value} {l l' : List (Str × Value)} (h : m = MpS va vs l) (h1 : y ≠ Str.ofString "at") (h2 : y ≠ Str.ofString "sign") (e : setL y v l = l') : (fun z => if z = y then some v else m z) = MpS va vs l' := by
  subst h
  funext z
  have := congrFun (mp_upd (m := Mp l) (x := y) (v := v) rfl e) z
  show (if z = y then some v else if z = Str.ofString "at" then va else if z = Str.ofString "sign" then vs else Mp l z) = if z = Str.ofString "at" then va else if z = Str.ofString "sign" then vs else Mp l' z
  by_cases q : z = y
  · rw [if_pos q, if_neg (fun r => h1 (q.symm.trans r)), if_neg (fun r => h2 (q.symm.trans r)), ← this, if_pos q]
  · rw [if_neg q]
    by_cases r : z = Str.ofString "at"
    · rw [if_pos r, if_pos r]
    · rw [if_neg r, if_neg r]
      by_cases r2 : z = Str.ofString "sign"
      · rw [if_pos r2, if_pos r2]
      · rw [if_neg r2, if_neg r2, ← this, if_neg q]

theorem worth_lowI (i : Int) (h0 : 0 ≤ i) (h1 : i < 16) : worth (Txt.item (Str.ofString "0123456789abcdef") i) = i ∧ (Txt.item (Str.ofString "0123456789abcdef") i).length ≤ 2 := by
  obtain ⟨n, rfl⟩ : ∃ n : Nat, i = n := ⟨i.toNat, by omega⟩
  have hn : n < 16 := by omega
  refine ⟨worth_low ⟨n, hn⟩, ?_⟩
  have : ∀ j : Fin 16, (Txt.item (Str.ofString "0123456789abcdef") (j.val : Int)).length ≤ 2 := by decide +kernel
  exact this ⟨n, hn⟩
theorem worth_upI (i : Int) (h0 : 0 ≤ i) (h1 : i < 6) : worth (Txt.item (Str.ofString "ABCDEF") i) = i + 10 ∧ (Txt.item (Str.ofString "ABCDEF") i).length ≤ 2 := by
  obtain ⟨n, rfl⟩ : ∃ n : Nat, i = n := ⟨i.toNat, by omega⟩
  have hn : n < 6 := by omega
  refine ⟨worth_up ⟨n, hn⟩, ?_⟩
  have : ∀ j : Fin 6, (Txt.item (Str.ofString "ABCDEF") (j.val : Int)).length ≤ 2 := by decide +kernel
  exact this ⟨n, hn⟩

structure W99 (x : Str) : Prop where
  w : worth x = 99
  l : x.length ≤ 2
noncomputable def Is99 (v : Value) : Prop := ∃ x t, v = Value.str x t ∧ W99 x
theorem is99 (x : Str) (t : Tok) (h : worth x = 99) (h2 : x.length ≤ 2) : Is99 (.str x t) := ⟨x, t, rfl, h, h2⟩
theorem arr_mem {arr : Array Value} {i : Nat} {v : Value} (h : arr[i]? = some v) : v ∈ arr.toList := by
  rw [← Array.getElem?_toList] at h
  exact List.mem_of_getElem? h

noncomputable def markL : List Str := [Str.ofString "0x", Str.ofString "0o", Str.ofString "0b", Str.ofString "0X", Str.ofString "00", Str.ofString "1x", Str.ofString "0d", Str.ofString ""]
theorem mark_at (xa xm : Str) (hm : xm ∈ markL) : markOf (Txt.slice ((xa ++ xm) ++ Str.ofString "1f") (some (xa.length : Int)) (some ((xa.length : Int) + 2))) = markOf xm := by
  have hle : (xa.length : Int) ≤ ((xa ++ xm) ++ Str.ofString "1f").length := by
    have h1 : ((xa ++ xm) ++ Str.ofString "1f").length = xa.length + (xm.length + 2) := by
      rw [len_cl, cl_append, cl_append, List.length_append, List.length_append, ← len_cl, ← len_cl, show (cl (Str.ofString "1f")).length = 2 by decide]
      omega
    omega
  rw [slice2 _ _ (by omega) hle, cl_append, cl_append]
  have h1 : ((xa.length : Int)).toNat = (cl xa).length := by rw [len_cl]; rfl
  rw [h1, List.append_assoc, List.drop_left]
  simp only [markL, List.mem_cons, List.not_mem_nil, or_false] at hm
  rcases hm with h | h | h | h | h | h | h | h <;> subst h <;> decide

theorem fgA {b n k : Int} (hc : (b = 16 ∧ n = k + 2) ∨ (b = 8 ∧ n = k + 2) ∨ (b = 2 ∧ n = k + 2) ∨ (b = 10 ∧ n = k)) (h : b < 10) : n = k + 2 := by omega
theorem fgB {b n k : Int} (hc : (b = 16 ∧ n = k + 2) ∨ (b = 8 ∧ n = k + 2) ∨ (b = 2 ∧ n = k + 2) ∨ (b = 10 ∧ n = k)) (h : b = 16) : n = k + 2 := by omega
theorem fgC {b n k : Int} (hc : (b = 16 ∧ n = k + 2) ∨ (b = 8 ∧ n = k + 2) ∨ (b = 2 ∧ n = k + 2) ∨ (b = 10 ∧ n = k)) (h : ¬ b < 10) (h2 : b ≠ 16) : n = k + 0 := by omega
section
variable {w : World} {rest : List (Addr × Obj)} {p : Program} {loose : List Str} {mean : ExcName → Option Value} {mg mb : Str → Option Value}
    {dp un : Nat} {gd : Option (List Code)} {cn : Str} {cs : Scope} {a : Addr} {ccd : Value} {cl : List (Str × Addr)} {outer : List Env} {base g : Heap} {L L' src : Addr} {o : Obj} {s : Shared} {Q : Flow → Shared → Prop} {E : Value → Shared → Prop} {va vs : Option Value}
theorem figs_end {b : Int} {xa xm : Str} {ta tm tb : Tok} (hxa : xa.length ≤ 2) (hxm : xm.length ≤ 2) (hb : (markOf xm = some b ∧ (b = 16 ∨ b = 8 ∨ b = 2)) ∨ (markOf xm = none ∧ b = 10))
    (hmk : markOf (Txt.slice ((xa ++ xm) ++ Str.ofString "1f") (some (xa.length : Int)) (some ((xa.length : Int) + 2))) = markOf xm)
    (F' : Fr g L' s.heap (MpS va vs [("source", .ref src), ("mark", .str xm tm), ("ahead", .str xa ta), ("base", .int b tb)])) (N' : News g L' s.heap ((src, o) :: rest)) (B' : Below (ktrTop dp un gd cn cs L a ccd cl outer) base (envX cn cs L a ccd cl :: outer) g)
    (X' : (hd.heap_39 w.params).In g) (T' : Top p loose mean mg mb g) (hdp : dp + 20 < recursionLimit) (hun : un + 8 * 20 < cLine)
    (ret : ∀ h' tk' m'', Fr g L' h' m'' → News g L' h' ((src, o) :: rest) → Q (.ret (.bool true)) { s with heap := h', toks := tk' }) :
    wpAny (model PySem.Challenge.rw_xw0154_01.row.prog w) ((ktrTop dp un gd cn cs L a ccd cl outer).deeper (envOf (Str.ofString "_law_figures_right") (fnScope (hd.heap_39 w.params) 144) L' 144 (.ref 143)))
      (execs ((fnBody (hd.heap_39 w.params) 144).drop 4) (envOf (Str.ofString "_law_figures_right") (fnScope (hd.heap_39 w.params) 144) L' 144 (.ref 143))) Q E s := by
  obtain ⟨sc, hsc⟩ : ∃ sc, sc = fnScope (hd.heap_39 w.params) 144 := ⟨_, rfl⟩
  obtain ⟨bd, hbd⟩ : ∃ bd, bd = (fnBody (hd.heap_39 w.params) 144).drop 4 := ⟨_, rfl⟩
  rw [← hsc, ← hbd]
  conv at hsc => rhs; whnf
  conv at hbd => rhs; whnf
  subst hsc hbd
  have h1f : (Str.ofString "1f").length = 2 := by decide
  w_on
  k_with_none
  walk1
  (repeat' ((fail_if_success (with_reducible show wpAny _ _ (exec (Stmt.While _ _ _ _) _) _ _ _)); (fail_if_success (with_reducible show wpAny _ _ (exec (Stmt.Raise _ _ _) _) _ _ _)); (fail_if_success (with_reducible show wpAny _ _ (exec (Stmt.For _ _ _ _ _) _) _ _ _)); (fail_if_success (with_reducible show LCt.CompSrcT _ _ _ _ _ _ _ _ _ _ _ _ _ _ _)); (fail_if_success (with_reducible show wpAny _ _ (eval (Expr.ListComp _ _ _ _) _) _ _ _)); (fail_if_success (with_reducible show wpAny _ _ (execs [_, _, _, _] _) _ _ _)); (fail_if_success (with_reducible show wpAny _ _ (execs [_, _] _) _ _ _)); (fail_if_success (with_reducible show wpAny _ _ (pyIter _) _ _ _)); (fail_if_success (with_reducible show wpAny _ _ (call (Value.ref _) _) _ _ _)); first | (k_unfold; (try dsimp only)) | (k_end; wrow_close) | walk1 | (dsimp only; walk1) | (leave1; (try dsimp only))))
  have hV : ∃ n : Int, (match markOf (Txt.slice ((xa ++ xm) ++ Str.ofString "1f") (some (xa.length : Int)) (some ((xa.length : Int) + 2))) with | some b => (b, (xa.length : Int) + 2) | none => (10, (xa.length : Int))) = (b, n) ∧ ((b = 16 ∧ n = xa.length + 2) ∨ (b = 8 ∧ n = xa.length + 2) ∨ (b = 2 ∧ n = xa.length + 2) ∨ (b = 10 ∧ n = xa.length)) := by
    rw [hmk]
    rcases hb with ⟨h1, h2⟩ | ⟨h1, rfl⟩
    · rw [h1]
      exact ⟨_, rfl, by rcases h2 with h | h | h <;> simp [h]⟩
    · rw [h1]
      exact ⟨_, rfl, by simp⟩
  obtain ⟨n, hn, hc⟩ := hV
  refine use_tup (base_V w _ _ b n _ _ _ hn (by omega) (by omega) (by omega)) fun D t3 t4 h3 k3 O3 F3 N3 => ?_
  clear hn hb hmk
  dsimp only
  (repeat' ((fail_if_success (with_reducible show wpAny _ _ (exec (Stmt.While _ _ _ _) _) _ _ _)); (fail_if_success (with_reducible show wpAny _ _ (exec (Stmt.Raise _ _ _) _) _ _ _)); (fail_if_success (with_reducible show wpAny _ _ (exec (Stmt.For _ _ _ _ _) _) _ _ _)); (fail_if_success (with_reducible show LCt.CompSrcT _ _ _ _ _ _ _ _ _ _ _ _ _ _ _)); (fail_if_success (with_reducible show wpAny _ _ (eval (Expr.ListComp _ _ _ _) _) _ _ _)); (fail_if_success (with_reducible show wpAny _ _ (execs [_, _, _, _] _) _ _ _)); (fail_if_success (with_reducible show wpAny _ _ (execs [_, _] _) _ _ _)); (fail_if_success (with_reducible show wpAny _ _ (pyIter _) _ _ _)); (fail_if_success (with_reducible show wpAny _ _ (call (Value.ref _) _) _ _ _)); first | (k_unfold; (try dsimp only)) | (k_end; wrow_close) | walk1 | (dsimp only; walk1) | (leave1; (try dsimp only))))
  · rw [show (n == (xa.length : Int) + 2) = true from by rw [beq_iff_eq]; first | exact fgA hc (by assumption) | exact fgB hc (by assumption)]
    rename News _ _ _ _ => N20
    refine ret _ _ _ (by assumption) (News.sub N20 ?_)
    repeat' (first | exact sbR | refine sbK ?_ | exact .head _ | refine sbC ?_ ?_ | refine List.Mem.tail _ ?_ | refine sbT ?_)
  · rw [show (n == (xa.length : Int) + 2) = true from by rw [beq_iff_eq]; first | exact fgA hc (by assumption) | exact fgB hc (by assumption)]
    rename News _ _ _ _ => N20
    refine ret _ _ _ (by assumption) (News.sub N20 ?_)
    repeat' (first | exact sbR | refine sbK ?_ | exact .head _ | refine sbC ?_ ?_ | refine List.Mem.tail _ ?_ | refine sbT ?_)
  · rw [show (n == (xa.length : Int) + 0) = true from by rw [beq_iff_eq]; exact fgC hc (by assumption) (by assumption)]
    rename News _ _ _ _ => N20
    refine ret _ _ _ (by assumption) (News.sub N20 ?_)
    repeat' (first | exact sbR | refine sbK ?_ | exact .head _ | refine sbC ?_ ?_ | refine List.Mem.tail _ ?_ | refine sbT ?_)
set_option maxHeartbeats 40000000 in
theorem figs_tail (ho : Src o) (off : ∀ p ∈ rest, p.1 ≠ src) (F' : Fr g L' s.heap (MpS va vs [("source", .ref src)])) (N' : News g L' s.heap ((src, o) :: rest)) (B' : Below (ktrTop dp un gd cn cs L a ccd cl outer) base (envX cn cs L a ccd cl :: outer) g)
    (X' : (hd.heap_39 w.params).In g) (T' : Top p loose mean mg mb g) (hdp : dp + 20 < recursionLimit) (hun : un + 8 * 20 < cLine)
    (ret : ∀ o' h' tk' m'', Src o' → Fr g L' h' m'' → News g L' h' ((src, o') :: rest) → Q (.ret (.bool true)) { s with heap := h', toks := tk' }) :
    wpAny (model PySem.Challenge.rw_xw0154_01.row.prog w) ((ktrTop dp un gd cn cs L a ccd cl outer).deeper (envOf (Str.ofString "_law_figures_right") (fnScope (hd.heap_39 w.params) 144) L' 144 (.ref 143)))
      (execs ((fnBody (hd.heap_39 w.params) 144).drop 2) (envOf (Str.ofString "_law_figures_right") (fnScope (hd.heap_39 w.params) 144) L' 144 (.ref 143))) Q E s := by
  obtain ⟨sc, hsc⟩ : ∃ sc, sc = fnScope (hd.heap_39 w.params) 144 := ⟨_, rfl⟩
  obtain ⟨bd, hbd⟩ : ∃ bd, bd = (fnBody (hd.heap_39 w.params) 144).drop 2 := ⟨_, rfl⟩
  rw [← hsc, ← hbd]
  conv at hsc => rhs; whnf
  conv at hbd => rhs; whnf
  subst hsc hbd
  w_on
  k_with_none
  walk1
  (repeat' ((fail_if_success (with_reducible show wpAny _ _ (exec (Stmt.While _ _ _ _) _) _ _ _)); (fail_if_success (with_reducible show wpAny _ _ (exec (Stmt.Raise _ _ _) _) _ _ _)); (fail_if_success (with_reducible show wpAny _ _ (exec (Stmt.For _ _ _ _ _) _) _ _ _)); (fail_if_success (with_reducible show LCt.CompSrcT _ _ _ _ _ _ _ _ _ _ _ _ _ _ _)); (fail_if_success (with_reducible show wpAny _ _ (eval (Expr.ListComp _ _ _ _) _) _ _ _)); (fail_if_success (with_reducible show wpAny _ _ (execs [_, _, _, _] _) _ _ _)); (fail_if_success (with_reducible show wpAny _ _ (execs [_, _] _) _ _ _)); (fail_if_success (with_reducible show wpAny _ _ (pyIter _) _ _ _)); (fail_if_success (with_reducible show wpAny _ _ (call (Value.ref _) _) _ _ _)); first | (k_unfold; (try dsimp only)) | (k_end; wrow_close) | walk1 | (dsimp only; walk1) | (leave1; (try dsimp only))))
  rename_i l1 h1 F1 N1 a1
  refine ctr_gen (one_C w ho (offK (by k_ne) (off)) (.head _) (Nat.le_of_ble_eq_true rfl) (Nat.le_of_ble_eq_true rfl)) B' F1 X' (news_mid [_] N1) T' rfl ?_ ?_ ?_
  · exact rmD hdp
  · exact rmU hun
  rintro Q3 hQ3 v7 news7 h7 tk7 ⟨hv7, o7, ho7, e7⟩ F7 N7
  subst e7
  have : ∃ y t, v7 = Value.str y t ∧ y.length ≤ 2 := oneOf (P := fun v => ∃ y t, v = Value.str y t ∧ y.length ≤ 2) hv7 (by repeat' (first | exact allN | refine allK ⟨_, _, rfl, by decide⟩ ?_))
  obtain ⟨xa, ta, rfl, hxa⟩ := this
  refine hQ3 _ _ ?_
  clear hQ3 Q3
  have N8 : News g L' h7 ((src, o7) :: rest) := News.sub N7 (by repeat' (first | exact sbR | refine sbK ?_ | exact .head _ | refine sbC ?_ ?_ | refine List.Mem.tail _ ?_ | refine sbT ?_))
  clear F1 N1 N7 hv7
  dsimp only
  (repeat' ((fail_if_success (with_reducible show wpAny _ _ (exec (Stmt.While _ _ _ _) _) _ _ _)); (fail_if_success (with_reducible show wpAny _ _ (exec (Stmt.Raise _ _ _) _) _ _ _)); (fail_if_success (with_reducible show wpAny _ _ (exec (Stmt.For _ _ _ _ _) _) _ _ _)); (fail_if_success (with_reducible show LCt.CompSrcT _ _ _ _ _ _ _ _ _ _ _ _ _ _ _)); (fail_if_success (with_reducible show wpAny _ _ (eval (Expr.ListComp _ _ _ _) _) _ _ _)); (fail_if_success (with_reducible show wpAny _ _ (execs [_, _, _, _] _) _ _ _)); (fail_if_success (with_reducible show wpAny _ _ (execs [_, _] _) _ _ _)); (fail_if_success (with_reducible show wpAny _ _ (pyIter _) _ _ _)); (fail_if_success (with_reducible show wpAny _ _ (call (Value.ref _) _) _ _ _)); first | (k_unfold; (try dsimp only)) | (k_end; wrow_close) | walk1 | (dsimp only; walk1) | (leave1; (try dsimp only))))
  rename_i l2 h2 F2 N2 a2
  refine ctr_gen (one_C w ho7 (offK (by k_ne) (off)) (.head _) (Nat.le_of_ble_eq_true rfl) (Nat.le_of_ble_eq_true rfl)) B' F2 X' (news_mid [_] N2) T' rfl ?_ ?_ ?_
  · exact rmD hdp
  · exact rmU hun
  rintro Q3 hQ3 v9 news9 h9 tk9 ⟨hv9, o9, ho9, e9⟩ F9 N9
  subst e9
  have : ∃ y t, v9 = Value.str y t ∧ y ∈ markL := oneOf (P := fun v => ∃ y t, v = Value.str y t ∧ y ∈ markL) hv9 (by repeat' (first | exact allN | refine allK ⟨_, _, rfl, by decide⟩ ?_))
  obtain ⟨xm, tm, rfl, hxm⟩ := this
  refine hQ3 _ _ ?_
  clear hQ3 Q3
  have N10 : News g L' h9 ((src, o9) :: rest) := News.sub N9 (by repeat' (first | exact sbR | refine sbK ?_ | exact .head _ | refine sbC ?_ ?_ | refine List.Mem.tail _ ?_ | refine sbT ?_))
  clear F2 N2 N9 hv9
  have hmk := mark_at xa xm hxm
  dsimp only
  (repeat' ((fail_if_success (with_reducible show wpAny _ _ (exec (Stmt.While _ _ _ _) _) _ _ _)); (fail_if_success (with_reducible show wpAny _ _ (exec (Stmt.Raise _ _ _) _) _ _ _)); (fail_if_success (with_reducible show wpAny _ _ (exec (Stmt.For _ _ _ _ _) _) _ _ _)); (fail_if_success (with_reducible show LCt.CompSrcT _ _ _ _ _ _ _ _ _ _ _ _ _ _ _)); (fail_if_success (with_reducible show wpAny _ _ (eval (Expr.ListComp _ _ _ _) _) _ _ _)); (fail_if_success (with_reducible show wpAny _ _ (execs [_, _, _, _] _) _ _ _)); (fail_if_success (with_reducible show wpAny _ _ (execs [_, _] _) _ _ _)); (fail_if_success (with_reducible show wpAny _ _ (pyIter _) _ _ _)); (fail_if_success (with_reducible show wpAny _ _ (call (Value.ref _) _) _ _ _)); first | (k_unfold; (try dsimp only)) | (k_end; wrow_close) | walk1 | (dsimp only; walk1) | (leave1; (try dsimp only))))
  dsimp only
  rename Fr _ _ _ _ => F20
  rename News _ _ _ _ => N20
  rename PyProof.V.Flat _ _ => hfl
  rename Value => v
  have hb : ∃ b t, v = Value.int b t ∧ ((markOf xm = some b ∧ (b = 16 ∨ b = 8 ∨ b = 2)) ∨ (markOf xm = none ∧ b = 10)) := by
    have hxm2 := hxm
    simp only [markL, List.mem_cons, List.not_mem_nil, or_false] at hxm2
    rcases hxm2 with h | h | h | h | h | h | h | h
    · rw [h] at hfl ⊢; obtain ⟨t, e⟩ := PyProof.V.Flat.int_inv (i := 16) hfl; exact ⟨_, t, e, (.inl ⟨rfl, by decide⟩)⟩
    · rw [h] at hfl ⊢; obtain ⟨t, e⟩ := PyProof.V.Flat.int_inv (i := 8) hfl; exact ⟨_, t, e, (.inl ⟨rfl, by decide⟩)⟩
    · rw [h] at hfl ⊢; obtain ⟨t, e⟩ := PyProof.V.Flat.int_inv (i := 2) hfl; exact ⟨_, t, e, (.inl ⟨rfl, by decide⟩)⟩
    · rw [h] at hfl ⊢; obtain ⟨t, e⟩ := PyProof.V.Flat.int_inv (i := 10) hfl; exact ⟨_, t, e, (.inr ⟨rfl, rfl⟩)⟩
    · rw [h] at hfl ⊢; obtain ⟨t, e⟩ := PyProof.V.Flat.int_inv (i := 10) hfl; exact ⟨_, t, e, (.inr ⟨rfl, rfl⟩)⟩
    · rw [h] at hfl ⊢; obtain ⟨t, e⟩ := PyProof.V.Flat.int_inv (i := 10) hfl; exact ⟨_, t, e, (.inr ⟨rfl, rfl⟩)⟩
    · rw [h] at hfl ⊢; obtain ⟨t, e⟩ := PyProof.V.Flat.int_inv (i := 10) hfl; exact ⟨_, t, e, (.inr ⟨rfl, rfl⟩)⟩
    · rw [h] at hfl ⊢; obtain ⟨t, e⟩ := PyProof.V.Flat.int_inv (i := 10) hfl; exact ⟨_, t, e, (.inr ⟨rfl, rfl⟩)⟩
  have hxl : xm.length ≤ 2 := by
    simp only [markL, List.mem_cons, List.not_mem_nil, or_false] at hxm
    rcases hxm with h | h | h | h | h | h | h | h <;> (rw [h]; decide)
  obtain ⟨b, tb, e, hb⟩ := hb
  rw [e] at F20
  have N21 : News g L' _ ((src, o9) :: rest) := News.sub N20 (by repeat' (first | exact sbR | refine sbK ?_ | exact .head _ | refine sbC ?_ ?_ | refine List.Mem.tail _ ?_ | refine sbT ?_))
  have F21 := fr_to F20 (mpS_upd (mpS_upd (mpS_upd (m := MpS va vs [("source", .ref src)]) rfl (by decide) (by decide) rfl) (by decide) (by decide) rfl) (by decide) (by decide) rfl)
  with_unfolding_all refine figs_end hxa hxl hb hmk F21 N21 B' X' T' hdp hun ?_
  intro h22 tk22 m22 F22 N22
  exact ret o9 _ _ _ ho9 F22 N22
end

theorem figures_right_C (w : World) {src : Addr} {o : Obj} {rest : List (Addr × Obj)} (ho : Src o) (off : ∀ p ∈ rest, p.1 ≠ src) :
    Ctr w 144 [.ref src] 25 ((src, o) :: rest) (fun v news' => v = .bool true ∧ ∃ o', Src o' ∧ news' = (src, o') :: rest) := by
  intro p loose mean mg mb dp un gd cn cs a ccd cl outer A₀ base h₀ L m s Q E B F X N T hkd hdp hun hret
  w_on
  k_with_none
  refine wpAny_call ?_
  k_dflt (refine' code_def ?k1 ?k2 ?k3 ?k4 ?k5 ?kA ?kF ?kK ?k6 ?k7 ?k8 ?k9 ?kB ?_ ?c2 ?c3 ?c4 ?c5; (case kA => exact rfl); (case kF => exact rfl); (case kK => assumption); (case k1 => k_asm); (case k2 => k_asm); (case k3 => k_asm); (case k4 => k_asm); (case k5 => k_asm); (case k6 => k_is); (case k7 => k_is); (case k8 => ktr_room); (case k9 => exact BindsTo.of_eq rfl); (case c5 => decide); (case kB => exact locs rfl); (case c2 => exact rfl); (case c3 => exact rfl); (case c4 => exact rfl); k_whole; intro g' L' h' FG' F2 N2 B' X' T'; (try dsimp only); (try k_lift B'); (try k_fold))
  refine gen_QT fun Q2 tkE hQ2 => ?_
  (with_unfolding_all change Fr _ _ _ (Mp [("source", .ref src)]) at F2)
  (repeat' ((fail_if_success (with_reducible show wpAny _ _ (exec (Stmt.While _ _ _ _) _) _ _ _)); (fail_if_success (with_reducible show wpAny _ _ (exec (Stmt.Raise _ _ _) _) _ _ _)); (fail_if_success (with_reducible show wpAny _ _ (exec (Stmt.For _ _ _ _ _) _) _ _ _)); (fail_if_success (with_reducible show LCt.CompSrcT _ _ _ _ _ _ _ _ _ _ _ _ _ _ _)); (fail_if_success (with_reducible show wpAny _ _ (eval (Expr.ListComp _ _ _ _) _) _ _ _)); (fail_if_success (with_reducible show wpAny _ _ (execs [_, _, _, _] _) _ _ _)); (fail_if_success (with_reducible show wpAny _ _ (execs [_, _] _) _ _ _)); (fail_if_success (with_reducible show wpAny _ _ (pyIter _) _ _ _)); (fail_if_success (with_reducible show wpAny _ _ (call (Value.ref _) _) _ _ _)); first | (k_unfold; (try dsimp only)) | (k_end; wrow_close) | walk1 | (dsimp only; walk1) | (leave1; (try dsimp only))))
  with_unfolding_all refine' For_invVF F2 ?k1 ?k2 ?_
  case k1 => exact rfl
  case k2 => exact rfl
  (repeat' ((fail_if_success (with_reducible show wpAny _ _ (exec (Stmt.While _ _ _ _) _) _ _ _)); (fail_if_success (with_reducible show wpAny _ _ (exec (Stmt.Raise _ _ _) _) _ _ _)); (fail_if_success (with_reducible show wpAny _ _ (exec (Stmt.For _ _ _ _ _) _) _ _ _)); (fail_if_success (with_reducible show LCt.CompSrcT _ _ _ _ _ _ _ _ _ _ _ _ _ _ _)); (fail_if_success (with_reducible show wpAny _ _ (eval (Expr.ListComp _ _ _ _) _) _ _ _)); (fail_if_success (with_reducible show wpAny _ _ (execs [_, _, _, _] _) _ _ _)); (fail_if_success (with_reducible show wpAny _ _ (execs [_, _] _) _ _ _)); (fail_if_success (with_reducible show wpAny _ _ (pyIter _) _ _ _)); (fail_if_success (with_reducible show wpAny _ _ (call (Value.ref _) _) _ _ _)); first | (k_unfold; (try dsimp only)) | (k_end; wrow_close) | walk1 | (dsimp only; walk1) | (leave1; (try dsimp only))))
  rename IsRange _ _ _ _ _ _ _ _ => hr
  rename Fr _ _ _ _ => F11
  rename News _ _ _ _ => N11
  refine iter_rangeUnr (n := 16) rfl hr (by decide) (by decide) F11 N11 fun I hI => ?_
  refine rangeRest_inv (n := 16) (fun i m news => (∃ va vs, m = MpS va vs [("source", .ref src)]) ∧ news = (src, o) :: rest) ?st ?fn _ _ _ _ (Nat.zero_add _) ?j0
  case j0 => exact ⟨⟨none, none, mpS_of rfl rfl rfl⟩, rfl⟩
  case st =>
    rintro i m2 news2 t h12 tk12 hi hJ F13 N13
    refine gen_goal fun P hP => ?_
    obtain ⟨⟨va, vs, rfl⟩, rfl⟩ := hJ
    refine hP ?_
    clear hP P
    change Fr g' L' h12 _ at F13
    change News g' L' h12 _ at N13
    have F14 := fr_to F13 (mpS_at rfl)
    dsimp only at F14 N13 ⊢
    clear F11 N11 hr F13
    walk1
    (repeat' ((fail_if_success (with_reducible show wpAny _ _ (exec (Stmt.While _ _ _ _) _) _ _ _)); (fail_if_success (with_reducible show wpAny _ _ (exec (Stmt.Raise _ _ _) _) _ _ _)); (fail_if_success (with_reducible show wpAny _ _ (exec (Stmt.For _ _ _ _ _) _) _ _ _)); (fail_if_success (with_reducible show LCt.CompSrcT _ _ _ _ _ _ _ _ _ _ _ _ _ _ _)); (fail_if_success (with_reducible show wpAny _ _ (eval (Expr.ListComp _ _ _ _) _) _ _ _)); (fail_if_success (with_reducible show wpAny _ _ (execs [_, _, _, _] _) _ _ _)); (fail_if_success (with_reducible show wpAny _ _ (execs [_, _] _) _ _ _)); (fail_if_success (with_reducible show wpAny _ _ (pyIter _) _ _ _)); (fail_if_success (with_reducible show wpAny _ _ (call (Value.ref _) _) _ _ _)); first | (k_unfold; (try dsimp only)) | (k_end; wrow_close) | walk1 | (dsimp only; walk1) | (leave1; (try dsimp only))))
    have e1 := worth_lowI (0 + (i : Int)) (by omega) (by omega)
    refine use_int (worth_V w _ (0 + (i : Int)) _ _ e1.1 e1.2) fun t3 h3 k3 F3 N3 => ?_
    dsimp only
    (repeat' ((fail_if_success (with_reducible show wpAny _ _ (exec (Stmt.While _ _ _ _) _) _ _ _)); (fail_if_success (with_reducible show wpAny _ _ (exec (Stmt.Raise _ _ _) _) _ _ _)); (fail_if_success (with_reducible show wpAny _ _ (exec (Stmt.For _ _ _ _ _) _) _ _ _)); (fail_if_success (with_reducible show LCt.CompSrcT _ _ _ _ _ _ _ _ _ _ _ _ _ _ _)); (fail_if_success (with_reducible show wpAny _ _ (eval (Expr.ListComp _ _ _ _) _) _ _ _)); (fail_if_success (with_reducible show wpAny _ _ (execs [_, _, _, _] _) _ _ _)); (fail_if_success (with_reducible show wpAny _ _ (execs [_, _] _) _ _ _)); (fail_if_success (with_reducible show wpAny _ _ (pyIter _) _ _ _)); (fail_if_success (with_reducible show wpAny _ _ (call (Value.ref _) _) _ _ _)); first | (k_unfold; (try dsimp only)) | (k_end; wrow_close) | walk1 | (dsimp only; walk1) | (leave1; (try dsimp only))))
    · exfalso; omega
    · have e2 := worth_upI (0 + (i : Int) - 10) (by omega) (by omega)
      refine use_int (worth_V w _ (0 + (i : Int)) _ _ (by rw [e2.1]; omega) e2.2) fun t3 h3 k3 F3 N3 => ?_
      dsimp only
      (repeat' ((fail_if_success (with_reducible show wpAny _ _ (exec (Stmt.While _ _ _ _) _) _ _ _)); (fail_if_success (with_reducible show wpAny _ _ (exec (Stmt.Raise _ _ _) _) _ _ _)); (fail_if_success (with_reducible show wpAny _ _ (exec (Stmt.For _ _ _ _ _) _) _ _ _)); (fail_if_success (with_reducible show LCt.CompSrcT _ _ _ _ _ _ _ _ _ _ _ _ _ _ _)); (fail_if_success (with_reducible show wpAny _ _ (eval (Expr.ListComp _ _ _ _) _) _ _ _)); (fail_if_success (with_reducible show wpAny _ _ (execs [_, _, _, _] _) _ _ _)); (fail_if_success (with_reducible show wpAny _ _ (execs [_, _] _) _ _ _)); (fail_if_success (with_reducible show wpAny _ _ (pyIter _) _ _ _)); (fail_if_success (with_reducible show wpAny _ _ (call (Value.ref _) _) _ _ _)); first | (k_unfold; (try dsimp only)) | (k_end; wrow_close) | walk1 | (dsimp only; walk1) | (leave1; (try dsimp only))))
      · exfalso; omega
      rename Fr _ _ _ _ => F9
      rename News _ _ _ _ => N9
      exact UnrEnd.intro F9 N9 ((src, o) :: rest) (fun p hp => hp) (fun p hp => Nat.ne_of_lt (hI p hp)) ⟨⟨_, _, mpS_sign rfl⟩, rfl⟩
    · rename Fr _ _ _ _ => F9
      rename News _ _ _ _ => N9
      exact UnrEnd.intro F9 N9 ((src, o) :: rest) (fun p hp => hp) (fun p hp => Nat.ne_of_lt (hI p hp)) ⟨⟨_, _, mpS_sign rfl⟩, rfl⟩
  case fn =>
    rintro m2 news2 h12 tk12 hJ F13 N13
    refine gen_goal fun P hP => ?_
    obtain ⟨⟨va, vs, rfl⟩, rfl⟩ := hJ
    refine hP ?_
    clear hP P
    change Fr g' L' h12 _ at F13
    change News g' L' h12 _ at N13
    dsimp only at F13 N13 ⊢
    clear F11 N11 hr
    (repeat' ((fail_if_success (with_reducible show wpAny _ _ (exec (Stmt.While _ _ _ _) _) _ _ _)); (fail_if_success (with_reducible show wpAny _ _ (exec (Stmt.Raise _ _ _) _) _ _ _)); (fail_if_success (with_reducible show wpAny _ _ (exec (Stmt.For _ _ _ _ _) _) _ _ _)); (fail_if_success (with_reducible show LCt.CompSrcT _ _ _ _ _ _ _ _ _ _ _ _ _ _ _)); (fail_if_success (with_reducible show wpAny _ _ (eval (Expr.ListComp _ _ _ _) _) _ _ _)); (fail_if_success (with_reducible show wpAny _ _ (execs [_, _, _, _] _) _ _ _)); (fail_if_success (with_reducible show wpAny _ _ (execs [_, _] _) _ _ _)); (fail_if_success (with_reducible show wpAny _ _ (pyIter _) _ _ _)); (fail_if_success (with_reducible show wpAny _ _ (call (Value.ref _) _) _ _ _)); first | (k_unfold; (try dsimp only)) | (k_end; wrow_close) | walk1 | (dsimp only; walk1) | (leave1; (try dsimp only))))
    k_dflt (refine LCt.ListComp_T (F₀ := by k_asm) (by with_unfolding_all rfl) (by decide) (by rfl) (by decide) (by rfl) ?_)
    (repeat' ((fail_if_success (with_reducible show wpAny _ _ (exec (Stmt.While _ _ _ _) _) _ _ _)); (fail_if_success (with_reducible show wpAny _ _ (exec (Stmt.Raise _ _ _) _) _ _ _)); (fail_if_success (with_reducible show wpAny _ _ (exec (Stmt.For _ _ _ _ _) _) _ _ _)); (fail_if_success (with_reducible show LCt.CompSrcT _ _ _ _ _ _ _ _ _ _ _ _ _ _ _)); (fail_if_success (with_reducible show wpAny _ _ (eval (Expr.ListComp _ _ _ _) _) _ _ _)); (fail_if_success (with_reducible show wpAny _ _ (execs [_, _, _, _] _) _ _ _)); (fail_if_success (with_reducible show wpAny _ _ (execs [_, _] _) _ _ _)); (fail_if_success (with_reducible show wpAny _ _ (pyIter _) _ _ _)); (fail_if_success (with_reducible show wpAny _ _ (call (Value.ref _) _) _ _ _)); first | (k_unfold; (try dsimp only)) | (k_end; wrow_close) | walk1 | (dsimp only; walk1) | (leave1; (try dsimp only))))
    rename_i ls hs F15 N15 ls1
    refine gen_goal fun P hP => ?_
    obtain ⟨arr, N16, harr, hsz⟩ : ∃ arr : Array Value, News g' L' hs ((ls, W.listOf arr 0) :: (src, o) :: rest) ∧ (∀ v ∈ arr.toList, Is99 v) ∧ arr.size ≤ 9 := by
      refine ⟨_, N15, ?_, Nat.le_of_ble_eq_true rfl⟩
      repeat' (first | exact allN | refine allK (is99 _ _ (by decide +kernel) (by decide)) ?_)
    refine hP ?_
    clear N15 hP P
    refine LCt.CompSrcT.ledger rfl F15 N16 (.head _) (by rw [sizeLine_eq]; omega) ?_
    intro g''
    refine compRestT_inv (fun i ys news => ys = [] ∧ news = (ls, W.listOf arr 0) :: (src, o) :: rest) ?st2 ?fn2 _ 0 [] _ (Nat.zero_add _) ⟨rfl, rfl⟩
    case st2 =>
      rintro i ys news v I oI C oC D m₂ h tk E' hi hJ hv hC hx F5 N5 o3z ne
      refine gen_goal fun P hP => ?_
      obtain ⟨rfl, rfl⟩ := hJ
      have hm := arr_mem hv
      have h9 := harr v hm
      unfold Is99 at h9
      obtain ⟨x, tx, rfl, hw⟩ := h9
      refine hP ?_
      clear hP P
      clear hv hm N16 F15
      dsimp only
      (repeat' ((fail_if_success (with_reducible show wpAny _ _ (exec (Stmt.While _ _ _ _) _) _ _ _)); (fail_if_success (with_reducible show wpAny _ _ (exec (Stmt.Raise _ _ _) _) _ _ _)); (fail_if_success (with_reducible show wpAny _ _ (exec (Stmt.For _ _ _ _ _) _) _ _ _)); (fail_if_success (with_reducible show LCt.CompSrcT _ _ _ _ _ _ _ _ _ _ _ _ _ _ _)); (fail_if_success (with_reducible show wpAny _ _ (eval (Expr.ListComp _ _ _ _) _) _ _ _)); (fail_if_success (with_reducible show wpAny _ _ (execs [_, _, _, _] _) _ _ _)); (fail_if_success (with_reducible show wpAny _ _ (execs [_, _] _) _ _ _)); (fail_if_success (with_reducible show wpAny _ _ (pyIter _) _ _ _)); (fail_if_success (with_reducible show wpAny _ _ (call (Value.ref _) _) _ _ _)); first | (k_unfold; (try dsimp only)) | (k_end; wrow_close) | walk1 | (dsimp only; walk1) | (leave1; (try dsimp only))))
      refine use_int (worth_V w x 99 _ _ hw.w hw.l) fun t3 h3 k3 F3 N3 => ?_
      dsimp only
      (repeat' ((fail_if_success (with_reducible show wpAny _ _ (exec (Stmt.While _ _ _ _) _) _ _ _)); (fail_if_success (with_reducible show wpAny _ _ (exec (Stmt.Raise _ _ _) _) _ _ _)); (fail_if_success (with_reducible show wpAny _ _ (exec (Stmt.For _ _ _ _ _) _) _ _ _)); (fail_if_success (with_reducible show LCt.CompSrcT _ _ _ _ _ _ _ _ _ _ _ _ _ _ _)); (fail_if_success (with_reducible show wpAny _ _ (eval (Expr.ListComp _ _ _ _) _) _ _ _)); (fail_if_success (with_reducible show wpAny _ _ (execs [_, _, _, _] _) _ _ _)); (fail_if_success (with_reducible show wpAny _ _ (execs [_, _] _) _ _ _)); (fail_if_success (with_reducible show wpAny _ _ (pyIter _) _ _ _)); (fail_if_success (with_reducible show wpAny _ _ (call (Value.ref _) _) _ _ _)); first | (k_unfold; (try dsimp only)) | (k_end; wrow_close) | walk1 | (dsimp only; walk1) | (leave1; (try dsimp only))))
      exact LCg.CompEnd.intro F3 N3 _ (fun p hp => hp) o3z (Or.inr ⟨_, .head _, rfl, _, rfl⟩) ⟨rfl, rfl⟩
    case fn2 =>
      rintro ys news hJ D h8 tk8 F8 N8 h8x
      refine gen_goal fun P hP => ?_
      obtain ⟨rfl, rfl⟩ := hJ
      obtain ⟨o8a, o8b, o8c⟩ := h8x
      refine hP ?_
      clear hP P
      dsimp only at o8a o8b
      (repeat' ((fail_if_success (with_reducible show wpAny _ _ (exec (Stmt.While _ _ _ _) _) _ _ _)); (fail_if_success (with_reducible show wpAny _ _ (exec (Stmt.Raise _ _ _) _) _ _ _)); (fail_if_success (with_reducible show wpAny _ _ (exec (Stmt.For _ _ _ _ _) _) _ _ _)); (fail_if_success (with_reducible show LCt.CompSrcT _ _ _ _ _ _ _ _ _ _ _ _ _ _ _)); (fail_if_success (with_reducible show wpAny _ _ (eval (Expr.ListComp _ _ _ _) _) _ _ _)); (fail_if_success (with_reducible show wpAny _ _ (execs [_, _, _, _] _) _ _ _)); (fail_if_success (with_reducible show wpAny _ _ (execs [_, _] _) _ _ _)); (fail_if_success (with_reducible show wpAny _ _ (pyIter _) _ _ _)); (fail_if_success (with_reducible show wpAny _ _ (call (Value.ref _) _) _ _ _)); first | (k_unfold; (try dsimp only)) | (k_end; wrow_close) | walk1 | (dsimp only; walk1) | (leave1; (try dsimp only))))
      dsimp only
      rename Fr _ _ _ _ => F17
      rename News _ _ _ _ => N17
      have N18 := news_drop 0 3 N17
      dsimp only [List.take_succ_cons, List.take_zero, List.drop_succ_cons, List.drop_zero, List.cons_append, List.nil_append] at N18
      with_unfolding_all refine figs_tail ho off F17 N18 B' X' T' (rmE hdp) (rmF hun) ?_
      intro o' h19 tk19 m19 ho' F19 N19
      refine hQ2 _ _ ?_
      (repeat' ((fail_if_success (with_reducible show wpAny _ _ (exec (Stmt.While _ _ _ _) _) _ _ _)); (fail_if_success (with_reducible show wpAny _ _ (exec (Stmt.Raise _ _ _) _) _ _ _)); (fail_if_success (with_reducible show wpAny _ _ (exec (Stmt.For _ _ _ _ _) _) _ _ _)); (fail_if_success (with_reducible show LCt.CompSrcT _ _ _ _ _ _ _ _ _ _ _ _ _ _ _)); (fail_if_success (with_reducible show wpAny _ _ (eval (Expr.ListComp _ _ _ _) _) _ _ _)); (fail_if_success (with_reducible show wpAny _ _ (execs [_, _, _, _] _) _ _ _)); (fail_if_success (with_reducible show wpAny _ _ (execs [_, _] _) _ _ _)); (fail_if_success (with_reducible show wpAny _ _ (pyIter _) _ _ _)); (fail_if_success (with_reducible show wpAny _ _ (call (Value.ref _) _) _ _ _)); first | (k_unfold; (try dsimp only)) | (k_end; wrow_close) | walk1 | (dsimp only; walk1) | (leave1; (try dsimp only))))
      rename Fr h₀ L _ m => kF
      rename News h₀ L _ _ => kN
      exact hret _ _ _ _ ⟨rfl, o', ho', rfl⟩ kF kN
end

/- part L1 -/
section
open PySem PySem.W PyProof.Rows PySem.Calls PySem.Spec
set_option maxRecDepth 100000
set_option maxHeartbeats 8000000
set_option linter.unusedVariables false

theorem ktsNil {h₀ h₁ h : Heap} {L : Addr} {m : Str → Option Value} {news : List (Addr × Obj)} (T : KtsTurn (frs []) h₀ h₁) (F : Fr h₁ L h m) (N : News h₁ L h news) : Fr h₀ L h m ∧ News h₀ L h news := by
  have up : ∀ b o, h₀.get? b = some o → h₁.get? b = some o := fun b o e => T.other b o e (by simp [frs])
  refine ⟨⟨F.ns, fun b o e => F.keep b o (up b o e), by rw [← T.size]; exact F.above⟩, fun p hp => ⟨(N p hp).1, (N p hp).2.1, ?_⟩⟩
  cases q : h₀.get? p.1 with
  | none => rfl
  | some o => have := (N p hp).2.2; rw [up _ _ q] at this; cases this
/-- a contract used in the law's own frame, which no frame calls -/
theorem ctrH_law {Hyp : Heap → Prop} {w : World} {f : Addr} {vs : List Value} {need : Nat} {news : List (Addr × Obj)} {Ret : Value → List (Addr × Obj) → Prop} (C : CtrH Hyp w f vs need news Ret) {p : Program} {loose : List Str} {mean : ExcName → Option Value} {mg mb : Str → Option Value}
    {dp un : Nat} {gd : Option (List Code)} {cn : Str} {cs : Scope} {a : Addr} {ccd : Value} {cl : List (Str × Addr)} {A₀ : Around} {base : Heap} {L : Addr} {m : Str → Option Value} {s : Shared} {Q E : Value → Shared → Prop}
    (H : Hyp base) (B : Below A₀ base [] base) (F : Fr base L s.heap m) (X : (hd.heap_39 w.params).In base) (N : News base L s.heap news) (T : Top p loose mean mg mb base) (hk : cs.kind = .function) (hd : dp + need < recursionLimit) (hu : un + 8 * need < cLine)
    (ret : ∀ Q3 : Value → Shared → Prop, (∀ v s2, Q v s2 → Q3 v s2) → ∀ v news' h' tk', Ret v news' → Fr base L h' m → News base L h' news' → Q3 v { s with heap := h', toks := tk' }) :
    wpAny (model PySem.Challenge.rw_xw0154_01.row.prog w) (ktrTop dp un gd cn cs L a ccd cl []) (call (.ref f) vs) Q E s :=
  C _ _ _ _ _ _ _ _ _ _ _ _ _ _ _ _ _ _ _ _ _ _ H B F X N T X T hk hd hu fun v news' h' tk' h₀' hR T' F' N' _ => by
    obtain ⟨F2, N2⟩ := ktsNil T' F' N'
    exact ret Q (fun _ _ h => h) v news' h' tk' hR F2 N2
theorem TabIs.no {ps : Array Value} {pos : Pos} {q : Str} {r : List (Addr × Obj)} (h : TabIs ps pos q r) : ∀ x t, ps[1]? ≠ some (.str x t) := by
  rcases h with rfl | ⟨c', oc, vs, t, rfl, _⟩
  · intro x t h; simp at h
  · intro x t h; simp [rawInt] at h
theorem TabIs.drop {ps : Array Value} {pos : Pos} {q : Str} {a : Addr} {vs0 : Array Value} {o : Obj} {r : List (Addr × Obj)} (h : TabIs ps pos q ((a, o) :: r)) (ho : o.data = .fields vs0) (hn : ∀ x t, vs0[1]? ≠ some (.str x t)) : TabIs ps pos q r := by
  rcases h with h | ⟨c', oc, vs, t, h1, h2, h3, h4⟩
  · exact .inl h
  · refine .inr ⟨c', oc, vs, t, h1, ?_, h3, h4⟩
    rcases List.mem_cons.mp h2 with e | e
    · cases e
      rw [ho] at h3
      cases h3
      exact absurd h4 (hn _ _)
    · exact e
theorem itR_no (x l : Int) : ∀ s t, (#[rawInt x, rawInt l, rawInt 1] : Array Value)[1]? ≠ some (.str s t) := by
  intro s t h; simp [rawInt] at h

theorem tab_next {src A B I : Addr} {o' : Obj} {psA psA' psB : Array Value} {x l : Int} {posA posB : Pos} {qA qB : Str} {rest restR : List (Addr × Obj)} (ht : TabIs psA' posA qA restR)
    (hr : restR = (B, tabObj psB) :: (I, itR x l) :: rest ∨ ∃ c o, restR = (c, o) :: (B, tabObj psB) :: (I, itR x l) :: rest ∧ ∀ q ∈ (src, o') :: (A, tabObj psA) :: (B, tabObj psB) :: (I, itR x l) :: rest, q.1 < c)
    (htB : TabIs psB posB qB rest) (hoff : ∀ p ∈ rest, p.1 ≠ src ∧ p.1 ≠ A ∧ p.1 ≠ B ∧ p.1 ≠ I) :
    ∃ rest1, (∀ p ∈ rest, p ∈ rest1) ∧ TabIs psA' posA qA rest1 ∧ TabIs psB posB qB rest1 ∧ (∀ p ∈ rest1, p.1 ≠ src ∧ p.1 ≠ A ∧ p.1 ≠ B ∧ p.1 ≠ I) ∧ (∀ p ∈ (B, tabObj psB) :: (I, itR x l) :: rest1, p ∈ restR) := by
  have no := htB.no
  rcases hr with rfl | ⟨c, o, rfl, hc⟩
  · exact ⟨rest, fun p hp => hp, (ht.drop rfl no).drop rfl (itR_no _ _), htB, hoff, fun p hp => hp⟩
  · refine ⟨(c, o) :: rest, fun p hp => .tail _ hp, ?_, htB.sub fun p hp => .tail _ hp, ?_, ?_⟩
    · have h2 : TabIs psA' posA qA ((B, tabObj psB) :: (I, itR x l) :: (c, o) :: rest) := ht.sub (by repeat' (first | exact sbR | refine sbK ?_ | exact .head _ | refine sbC ?_ ?_ | refine List.Mem.tail _ ?_ | refine sbT ?_))
      exact (h2.drop rfl no).drop rfl (itR_no _ _)
    · refine List.forall_mem_cons.mpr ⟨⟨?_, ?_, ?_, ?_⟩, hoff⟩
      · exact (Nat.ne_of_lt (hc _ (.head _))).symm
      · exact (Nat.ne_of_lt (hc _ (.tail _ (.head _)))).symm
      · exact (Nat.ne_of_lt (hc _ (.tail _ (.tail _ (.head _))))).symm
      · exact (Nat.ne_of_lt (hc _ (.tail _ (.tail _ (.tail _ (.head _)))))).symm
    · repeat' (first | exact sbR | refine sbK ?_ | exact .head _ | refine sbC ?_ ?_ | refine List.Mem.tail _ ?_ | refine sbT ?_)
theorem hcD : callerA.depth + 1 + 40 < recursionLimit := by (try simp only [depth_caller]); decide
theorem hcU : callerA.units + 1 + 8 * 40 < cLine := by
  have h := cLine_is
  (try simp only [units_caller])
  omega
theorem hcU3 : callerA.units + 3 + 8 * 30 < cLine := by
  have h := cLine_is
  (try simp only [units_caller])
  omega
theorem law1 : PySem.Challenge.rw_xw0154_01.Holds := hd (by
  k_go0
  all_goals try k_fold
  (repeat' ((fail_if_success (with_reducible show wpAny _ _ (exec (Stmt.While _ _ _ _) _) _ _ _)); (fail_if_success (with_reducible show wpAny _ _ (exec (Stmt.Raise _ _ _) _) _ _ _)); (fail_if_success (with_reducible show wpAny _ _ (exec (Stmt.For _ _ _ _ _) _) _ _ _)); (fail_if_success (with_reducible show wpAny _ _ (pyIter _) _ _ _)); (fail_if_success (with_reducible show wpAny _ _ (call (Value.ref _) _) _ _ _)); first | (with_reducible refine gen_st ?_; intro _ _ _) | (with_reducible refine gen_nx (by with_reducible assumption) ?_) | (with_reducible refine gen_rt (by with_reducible assumption) ?_) | (k_unfold; (try dsimp only)) | (k_end; wrow_close) | walk1 | (dsimp only; walk1) | (leave1; (try dsimp only))))
  (rename Fr _ _ _ _ => F1)
  (rename News _ _ _ _ => N1)
  (rename Below _ _ _ _ => B1)
  (rename Frag.In _ _ => X1)
  (rename Top _ _ _ _ _ _ => T1)
  (rename CodeHd _ 121 119 => C1)
  (rename CodeHd _ 133 129 => C2)
  (rename CodeHd _ 138 136 => C3)
  have N2 : News _ _ _ [(119, tabObj #[]), (136, tabObj #[]), (129, tabObj #[])] := News.sub N1 (by repeat' (first | exact sbR | refine sbK ?_ | exact .head _ | refine sbC ?_ ?_ | refine List.Mem.tail _ ?_ | refine sbT ?_))
  refine ctrH_law (told_C _ _ ?o1) C1 B1 F1 X1 N2 T1 rfl ?_ ?_ ?_
  case o1 => intro p hp; simp only [List.mem_cons, List.not_mem_nil, or_false] at hp; rcases hp with h | h <;> rw [h] <;> decide
  · exact rmE hcD
  · exact rmF hcU3
  rintro Q3 hQ3 v news' h3 tk3 ⟨rfl, ps3, e⟩ F3 N3
  subst e
  refine hQ3 _ _ ?_
  clear hQ3 Q3
  clear F1 N1 N2
  dsimp only
  (repeat' ((fail_if_success (with_reducible show wpAny _ _ (exec (Stmt.While _ _ _ _) _) _ _ _)); (fail_if_success (with_reducible show wpAny _ _ (exec (Stmt.Raise _ _ _) _) _ _ _)); (fail_if_success (with_reducible show wpAny _ _ (exec (Stmt.For _ _ _ _ _) _) _ _ _)); (fail_if_success (with_reducible show wpAny _ _ (pyIter _) _ _ _)); (fail_if_success (with_reducible show wpAny _ _ (call (Value.ref _) _) _ _ _)); first | (with_reducible refine gen_st ?_; intro _ _ _) | (with_reducible refine gen_nx (by with_reducible assumption) ?_) | (with_reducible refine gen_rt (by with_reducible assumption) ?_) | (k_unfold; (try dsimp only)) | (k_end; wrow_close) | walk1 | (dsimp only; walk1) | (leave1; (try dsimp only))))
  rename Fr _ _ _ _ => F4
  rename News _ _ _ _ => N4
  rename IntsAre _ _ => hI
  rename (¬ (_ : Int) < _) => hcond
  refine pool_C _ _ _ _ hI (by omega) _ _ _ _ _ _ _ _ _ _ _ _ _ _ _ _ _ _ _ _ _ _ _ lifted B1 F4 X1 N4 T1 rfl ?_ ?_ ?_
  · exact rmE hcD
  · exact rmF hcU3
  rintro v news' h5 tk5 ⟨src, o, rfl, ho, hoff, e⟩ F5 N5
  subst e
  clear F4 N4
  dsimp only
  (repeat' ((fail_if_success (with_reducible show wpAny _ _ (exec (Stmt.While _ _ _ _) _) _ _ _)); (fail_if_success (with_reducible show wpAny _ _ (exec (Stmt.Raise _ _ _) _) _ _ _)); (fail_if_success (with_reducible show wpAny _ _ (exec (Stmt.For _ _ _ _ _) _) _ _ _)); (fail_if_success (with_reducible show wpAny _ _ (pyIter _) _ _ _)); (fail_if_success (with_reducible show wpAny _ _ (call (Value.ref _) _) _ _ _)); first | (with_reducible refine gen_st ?_; intro _ _ _) | (with_reducible refine gen_nx (by with_reducible assumption) ?_) | (with_reducible refine gen_rt (by with_reducible assumption) ?_) | (k_unfold; (try dsimp only)) | (k_end; wrow_close) | walk1 | (dsimp only; walk1) | (leave1; (try dsimp only))))
  rename Fr _ _ _ _ => F6
  rename News _ _ _ _ => N6
  have hs3 := hoff _ (.head _)
  have hs6 := hoff _ (.tail _ (.head _))
  have hs9 := hoff _ (.tail _ (.tail _ (.head _)))
  dsimp only at hs3 hs6 hs9
  with_unfolding_all refine' For_invVF F6 ?k1 ?k2 ?_
  case k1 => exact rfl
  case k2 => exact rfl
  (repeat' ((fail_if_success (with_reducible show wpAny _ _ (exec (Stmt.While _ _ _ _) _) _ _ _)); (fail_if_success (with_reducible show wpAny _ _ (exec (Stmt.Raise _ _ _) _) _ _ _)); (fail_if_success (with_reducible show wpAny _ _ (exec (Stmt.For _ _ _ _ _) _) _ _ _)); (fail_if_success (with_reducible show wpAny _ _ (pyIter _) _ _ _)); (fail_if_success (with_reducible show wpAny _ _ (call (Value.ref _) _) _ _ _)); first | (with_reducible refine gen_st ?_; intro _ _ _) | (with_reducible refine gen_nx (by with_reducible assumption) ?_) | (with_reducible refine gen_rt (by with_reducible assumption) ?_) | (k_unfold; (try dsimp only)) | (k_end; wrow_close) | walk1 | (dsimp only; walk1) | (leave1; (try dsimp only))))
  rename IsRange _ _ _ _ _ _ _ _ => hr
  rename Fr _ _ _ _ => F7
  rename News _ _ _ _ => N7
  have N8 : News _ _ _ [(src, o), (129, tabObj #[]), (136, tabObj #[]), (119, tabObj ps3)] := News.sub N7 (by repeat' (first | exact sbR | refine sbK ?_ | exact .head _ | refine sbC ?_ ?_ | refine List.Mem.tail _ ?_ | refine sbT ?_))
  clear N7
  refine iter_rangeUnr (n := 3) rfl hr (by decide) (by decide) F7 N8 fun I hI2 => ?_
  have hIs := Nat.ne_of_lt (hI2 _ (.head _))
  have hI9 := Nat.ne_of_lt (hI2 _ (.tail _ (.head _)))
  have hI6 := Nat.ne_of_lt (hI2 _ (.tail _ (.tail _ (.head _))))
  have hI3 := Nat.ne_of_lt (hI2 _ (.tail _ (.tail _ (.tail _ (.head _)))))
  dsimp only at hIs hI3 hI6 hI9
  refine rangeRest_inv (n := 3) (fun i m news => ∃ (ws : Value) (o : Obj) (ps1 ps2 : Array Value) (rest : List (Addr × Obj)) (ve : Option Value), m = MpX (Str.ofString "turn") ve [(Str.ofString "script", ws), (Str.ofString "source", Value.ref src)] ∧ Src o ∧ news = (src, o) :: (129, tabObj ps1) :: (136, tabObj ps2) :: rest ∧ TabIs ps1 remPos remQual rest ∧ TabIs ps2 blkPos blkQual rest ∧
    (119, tabObj ps3) ∈ rest ∧ ∀ p ∈ rest, p.1 ≠ src ∧ p.1 ≠ 129 ∧ p.1 ≠ 136 ∧ p.1 ≠ I) ?st ?fn _ _ _ _ (Nat.zero_add _) ?j0
  case j0 =>
    exact ⟨_, o, #[], #[], [(119, tabObj ps3)], none, (mp_upd (l := [(Str.ofString "script", _)]) rfl rfl).trans (mpX_none rfl), ho, rfl, .inl rfl, .inl rfl, .head _, List.forall_mem_singleton.mpr ⟨hs3, (by decide : (119 : Nat) ≠ 129), (by decide : (119 : Nat) ≠ 136), hI3⟩⟩
  case st =>
    rintro i m2 news2 t h12 tk12 hi hJ F13 N13
    refine gen_goal fun P hP => ?_
    obtain ⟨ws, o1, ps1, ps2, rest, ve, rfl, ho1, rfl, ht1, ht2, h119, hoffs⟩ := hJ
    refine hP ?_
    clear hP P
    have F14 := fr_to F13 (mpX_at rfl)
    clear F13 F7 hr N8
    dsimp only at F14 N13 ⊢
    (repeat' ((fail_if_success (with_reducible show wpAny _ _ (exec (Stmt.While _ _ _ _) _) _ _ _)); (fail_if_success (with_reducible show wpAny _ _ (exec (Stmt.Raise _ _ _) _) _ _ _)); (fail_if_success (with_reducible show wpAny _ _ (exec (Stmt.For _ _ _ _ _) _) _ _ _)); (fail_if_success (with_reducible show wpAny _ _ (pyIter _) _ _ _)); (fail_if_success (with_reducible show wpAny _ _ (call (Value.ref _) _) _ _ _)); first | (with_reducible refine gen_st ?_; intro _ _ _) | (with_reducible refine gen_nx (by with_reducible assumption) ?_) | (with_reducible refine gen_rt (by with_reducible assumption) ?_) | (k_unfold; (try dsimp only)) | (k_end; wrow_close) | walk1 | (dsimp only; walk1) | (leave1; (try dsimp only))))
    (rename Fr _ _ _ _ => F15)
    (rename News _ _ _ _ => N15)
    have N16 : News _ _ _ ((src, o1) :: (129, tabObj ps1) :: (136, tabObj ps2) :: (I, itR (0 + ((i + 1 : Nat) : Int)) (((3 : Nat) : Int) - ((i + 1 : Nat) : Int))) :: rest) := News.sub N15 (by repeat' (first | exact sbR | refine sbK ?_ | exact .head _ | refine sbC ?_ ?_ | refine List.Mem.tail _ ?_ | refine sbT ?_))
    refine ctr_gen (run_right_C _ ho1 (offK (hs9) (offK (hs6) (offK (Ne.symm hIs) (fun p hp => (hoffs p hp).1))))) B1 F15 X1 N16 T1 rfl ?_ ?_ ?_
    · exact rmE hcD
    · exact rmF hcU3
    rintro Q3 hQ3 v news' h17 tk17 ⟨rfl, o2, ho2, e⟩ F17 N17
    subst e
    refine hQ3 _ _ ?_
    clear hQ3 Q3
    clear F15 N15 N16
    dsimp only
    (repeat' ((fail_if_success (with_reducible show wpAny _ _ (exec (Stmt.While _ _ _ _) _) _ _ _)); (fail_if_success (with_reducible show wpAny _ _ (exec (Stmt.Raise _ _ _) _) _ _ _)); (fail_if_success (with_reducible show wpAny _ _ (exec (Stmt.For _ _ _ _ _) _) _ _ _)); (fail_if_success (with_reducible show wpAny _ _ (pyIter _) _ _ _)); (fail_if_success (with_reducible show wpAny _ _ (call (Value.ref _) _) _ _ _)); first | (with_reducible refine gen_st ?_; intro _ _ _) | (with_reducible refine gen_nx (by with_reducible assumption) ?_) | (with_reducible refine gen_rt (by with_reducible assumption) ?_) | (k_unfold; (try dsimp only)) | (k_end; wrow_close) | walk1 | (dsimp only; walk1) | (leave1; (try dsimp only))))
    (rename Fr _ _ _ _ => F18)
    (rename News _ _ _ _ => N18)
    refine ctrH_law (remark_right_C _ ho2 (offK (hs6) (offK (Ne.symm hIs) (fun p hp => (hoffs p hp).1))) (offK ((by decide : (136 : Nat) ≠ 129)) (offK (Ne.symm hI9) (fun p hp => (hoffs p hp).2.1))) (Ne.symm hs9) (ht1.sub fun p hp => .tail _ (.tail _ hp))) C2 B1 F18 X1 N18 T1 rfl ?_ ?_ ?_
    · exact rmE hcD
    · exact rmF hcU3
    rintro Q3 hQ3 v news' h19 tk19 ⟨rfl, o3, ps1', restR, ho3, e, htR, hrR⟩ F19 N19
    subst e
    clear F18 N18
    obtain ⟨rest1, hsub1, ht1a, ht2a, hoffs1, hin1⟩ := tab_next htR hrR ht2 hoffs
    refine hQ3 _ _ ?_
    clear hQ3 Q3
    have N20 : News _ _ _ ((src, o3) :: (136, tabObj ps2) :: (129, tabObj ps1') :: (I, itR (0 + ((i + 1 : Nat) : Int)) (((3 : Nat) : Int) - ((i + 1 : Nat) : Int))) :: rest1) := News.sub N19 fun p hp => by
      rcases List.mem_cons.mp hp with rfl | hp
      · exact .head _
      rcases List.mem_cons.mp hp with rfl | hp
      · exact .tail _ (.tail _ (hin1 _ (.head _)))
      rcases List.mem_cons.mp hp with rfl | hp
      · exact .tail _ (.head _)
      · exact .tail _ (.tail _ (hin1 _ (.tail _ hp)))
    have hoffs1' : ∀ p ∈ rest1, p.1 ≠ src ∧ p.1 ≠ 136 ∧ p.1 ≠ 129 ∧ p.1 ≠ I := fun p hp => ⟨(hoffs1 p hp).1, (hoffs1 p hp).2.2.1, (hoffs1 p hp).2.1, (hoffs1 p hp).2.2.2⟩
    clear N19 htR hrR
    dsimp only
    (repeat' ((fail_if_success (with_reducible show wpAny _ _ (exec (Stmt.While _ _ _ _) _) _ _ _)); (fail_if_success (with_reducible show wpAny _ _ (exec (Stmt.Raise _ _ _) _) _ _ _)); (fail_if_success (with_reducible show wpAny _ _ (exec (Stmt.For _ _ _ _ _) _) _ _ _)); (fail_if_success (with_reducible show wpAny _ _ (pyIter _) _ _ _)); (fail_if_success (with_reducible show wpAny _ _ (call (Value.ref _) _) _ _ _)); first | (with_reducible refine gen_st ?_; intro _ _ _) | (with_reducible refine gen_nx (by with_reducible assumption) ?_) | (with_reducible refine gen_rt (by with_reducible assumption) ?_) | (k_unfold; (try dsimp only)) | (k_end; wrow_close) | walk1 | (dsimp only; walk1) | (leave1; (try dsimp only))))
    (rename Fr _ _ _ _ => F21)
    (rename News _ _ _ _ => N21)
    refine ctrH_law (blank_right_C _ ho3 (offK (hs9) (offK (Ne.symm hIs) (fun p hp => (hoffs1 p hp).1))) (offK ((by decide : (129 : Nat) ≠ 136)) (offK (Ne.symm hI6) (fun p hp => (hoffs1 p hp).2.2.1))) (Ne.symm hs6) (ht2a.sub fun p hp => .tail _ (.tail _ hp))) C3 B1 F21 X1 N21 T1 rfl ?_ ?_ ?_
    · exact rmE hcD
    · exact rmF hcU3
    rintro Q3 hQ3 v news' h22 tk22 ⟨rfl, o4, ps2', restR2, ho4, e, htR2, hrR2⟩ F22 N22
    subst e
    clear F21 N21
    obtain ⟨rest2, hsub2, ht2b, ht1b, hoffs2, hin2⟩ := tab_next htR2 hrR2 ht1a hoffs1'
    refine hQ3 _ _ ?_
    clear hQ3 Q3
    dsimp only
    (repeat' ((fail_if_success (with_reducible show wpAny _ _ (exec (Stmt.While _ _ _ _) _) _ _ _)); (fail_if_success (with_reducible show wpAny _ _ (exec (Stmt.Raise _ _ _) _) _ _ _)); (fail_if_success (with_reducible show wpAny _ _ (exec (Stmt.For _ _ _ _ _) _) _ _ _)); (fail_if_success (with_reducible show wpAny _ _ (pyIter _) _ _ _)); (fail_if_success (with_reducible show wpAny _ _ (call (Value.ref _) _) _ _ _)); first | (with_reducible refine gen_st ?_; intro _ _ _) | (with_reducible refine gen_nx (by with_reducible assumption) ?_) | (with_reducible refine gen_rt (by with_reducible assumption) ?_) | (k_unfold; (try dsimp only)) | (k_end; wrow_close) | walk1 | (dsimp only; walk1) | (leave1; (try dsimp only))))
    (rename Fr _ _ _ _ => F23)
    (rename News _ _ _ _ => N23)
    refine UnrEnd.intro F23 N23 ((src, o4) :: (129, tabObj ps1') :: (136, tabObj ps2') :: rest2) (fun p hp => ?_) ?_ ⟨ws, o4, ps1', ps2', rest2, _, rfl, ho4, rfl, ht1b, ht2b, hsub2 _ (hsub1 _ h119), fun p hp => ⟨(hoffs2 p hp).1, (hoffs2 p hp).2.2.1, (hoffs2 p hp).2.1, (hoffs2 p hp).2.2.2⟩⟩
    · rcases List.mem_cons.mp hp with rfl | hp
      · exact .tail _ (.tail _ (hin2 _ (.tail _ (.head _))))
      rcases List.mem_cons.mp hp with rfl | hp
      · exact .head _
      rcases List.mem_cons.mp hp with rfl | hp
      · exact .tail _ (.tail _ (hin2 _ (.head _)))
      rcases List.mem_cons.mp hp with rfl | hp
      · exact .tail _ (.head _)
      · exact .tail _ (.tail _ (hin2 _ (.tail _ (.tail _ hp))))
    · exact offK (hIs) (offK (hI9) (offK (hI6) (fun p hp => (hoffs2 p hp).2.2.2)))
  case fn =>
    rintro m2 news2 h12 tk12 hJ F13 N13
    refine gen_goal fun P hP => ?_
    obtain ⟨ws, o1, ps1, ps2, rest, ve, rfl, ho1, rfl, ht1, ht2, h119, hoffs⟩ := hJ
    refine hP ?_
    clear hP P
    clear F7 hr N8
    dsimp only at F13 N13 ⊢
    (repeat' ((fail_if_success (with_reducible show wpAny _ _ (exec (Stmt.While _ _ _ _) _) _ _ _)); (fail_if_success (with_reducible show wpAny _ _ (exec (Stmt.Raise _ _ _) _) _ _ _)); (fail_if_success (with_reducible show wpAny _ _ (exec (Stmt.For _ _ _ _ _) _) _ _ _)); (fail_if_success (with_reducible show wpAny _ _ (pyIter _) _ _ _)); (fail_if_success (with_reducible show wpAny _ _ (call (Value.ref _) _) _ _ _)); first | (with_reducible refine gen_st ?_; intro _ _ _) | (with_reducible refine gen_nx (by with_reducible assumption) ?_) | (with_reducible refine gen_rt (by with_reducible assumption) ?_) | (k_unfold; (try dsimp only)) | (k_end; wrow_close) | walk1 | (dsimp only; walk1) | (leave1; (try dsimp only))))
    (rename Fr _ _ _ _ => F14)
    (rename News _ _ _ _ => N14)
    refine ctr_gen (figures_right_C _ ho1 (offK (hs9) (offK (hs6) (fun p hp => (hoffs p hp).1)))) B1 F14 X1 N14 T1 rfl ?_ ?_ ?_
    · exact rmE hcD
    · exact rmF hcU3
    rintro Q3 hQ3 v news' h15 tk15 ⟨rfl, o2, ho2, e⟩ F15 N15
    subst e
    refine hQ3 _ _ ?_
    clear hQ3 Q3
    clear F14 N14
    refine ⟨?_, GrownAt.of N15 (.tail _ (.tail _ (.head _))), GrownAt.of N15 (.tail _ (.head _)), GrownAt.of N15 (.tail _ (.tail _ (.tail _ h119))), True.intro⟩
    refine goodW_bool F15 (by assumption) (fun _ => rfl) ?_
    wrow_post)
end

end
end Mine

set_option maxRecDepth 100000 in
set_option maxHeartbeats 8000000 in
theorem PySem.Challenge.cw_xw0154_01_holds : PySem.Challenge.rw_xw0154_01.Holds := by
  exact Mine.law1
