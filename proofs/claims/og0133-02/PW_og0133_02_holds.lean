import PyProof.Rows.All
import Wide.All
import OpenK.AllK
import Wide.FinOn
import PySem.Challenge.RW_og0133_02
set_option Elab.async false
section
open PySem PySem.W PyProof.Rows
namespace Mine
set_option maxRecDepth 100000 in
set_option maxHeartbeats 8000000 in
open_top hd for PySem.Challenge.rw_og0133_02
end Mine
end
namespace Mine
theorem walkReset1 : True := by w_top off; trivial
end Mine
section

namespace Mine
/-- the octets from place i up to e -/
def win (ks : List Int) (i e : Int) : List Int := (ks.take e.toNat).drop i.toNat
/-- the length of the line's end at the head -/
def eol : List Int → Nat
  | [] => 0
  | k :: r => if k = 13 then (match r with | [] => 1 | k2 :: _ => if k2 = 10 then 2 else 1) else if k = 10 then 1 else 0
theorem win_cons {ks : List Int} {i e : Int} (h0 : 0 ≤ i) (h1 : i < e) (h2 : e ≤ ks.length) : win ks i e = ks.getD i.toNat 0 :: win ks (i + 1) e := by
  unfold win
  have hl : i.toNat < (ks.take e.toNat).length := by rw [List.length_take]; omega
  have hl2 : i.toNat < ks.length := by omega
  rw [List.drop_eq_getElem_cons hl, List.getElem_take, List.getD_eq_getElem?_getD, List.getElem?_eq_getElem hl2, Option.getD_some, show (i + 1).toNat = i.toNat + 1 from by omega]
theorem win_nil {ks : List Int} {i e : Int} (h1 : e ≤ i) : win ks i e = [] := by
  unfold win
  refine List.drop_eq_nil_of_le ?_
  rw [List.length_take]
  omega
section
variable {ks : List Int} {i e : Int} (h0 : 0 ≤ i) (h2 : e ≤ ks.length)
include h0 h2
theorem eol_two (a : i + 0 < e) (b : ks.getD (i + 0).toNat 0 = 13) (c : i + 1 + 0 < e) (d : ks.getD (i + 1 + 0).toNat 0 = 10) : eol (win ks i e) = 2 := by
  rw [Int.add_zero] at *
  rw [win_cons h0 a h2, win_cons (by omega) c h2]
  generalize ks.getD i.toNat 0 = p at *
  generalize ks.getD (i + 1).toNat 0 = q at *
  simp [eol, b, d]
theorem eol_one_a (a : i + 0 < e) (b : ks.getD (i + 0).toNat 0 = 13) (c : i + 1 + 0 < e) (d : ks.getD (i + 1 + 0).toNat 0 ≠ 10) : eol (win ks i e) = 1 := by
  rw [Int.add_zero] at *
  rw [win_cons h0 a h2, win_cons (by omega) c h2]
  generalize ks.getD i.toNat 0 = p at *
  generalize ks.getD (i + 1).toNat 0 = q at *
  simp [eol, b, d]
theorem eol_one_b (a : i + 0 < e) (b : ks.getD (i + 0).toNat 0 = 13) (c : ¬ i + 1 + 0 < e) : eol (win ks i e) = 1 := by
  rw [Int.add_zero] at *
  rw [win_cons h0 a h2, win_nil (by omega)]
  generalize ks.getD i.toNat 0 = p at *
  simp [eol, b]
theorem eol_one_c (a : i + 0 < e) (b : ks.getD (i + 0).toNat 0 ≠ 13) (d : ks.getD (i + 0).toNat 0 = 10) : eol (win ks i e) = 1 := by
  rw [Int.add_zero] at *
  rw [win_cons h0 a h2]
  generalize ks.getD i.toNat 0 = p at *
  simp [eol, d]
theorem eol_zero_a (a : i + 0 < e) (b : ks.getD (i + 0).toNat 0 ≠ 13) (d : ks.getD (i + 0).toNat 0 ≠ 10) : eol (win ks i e) = 0 := by
  rw [Int.add_zero] at *
  rw [win_cons h0 a h2]
  generalize ks.getD i.toNat 0 = p at *
  simp [eol, b, d]
omit h0 h2 in
theorem eol_zero_b (a : ¬ i + 0 < e) : eol (win ks i e) = 0 := by
  rw [Int.add_zero] at *
  rw [win_nil (by omega)]
  rfl
end
theorem eol_le : ∀ (r : List Int), eol r ≤ r.length
  | [] => by simp [eol]
  | [k] => by simp only [eol]; split <;> (try split) <;> simp
  | k :: k2 :: r => by simp only [eol]; split <;> (try split) <;> simp <;> omega
theorem win_length {ks : List Int} {i e : Int} (h0 : 0 ≤ i) (h1 : i ≤ e) (h2 : e ≤ ks.length) : ((win ks i e).length : Int) = e - i := by
  unfold win
  rw [List.length_drop, List.length_take]
  omega
end Mine
end
namespace Mine
theorem walkReset2 : True := by w_top off; trivial
end Mine
section
open PySem PySem.W
namespace Mine
/-- an octet that is neither white nor a delimiter -/
def isReg (c : Int) : Bool := !([0, 9, 10, 12, 13, 32].any fun x => x == c) && !([40, 41, 60, 62, 91, 93, 123, 125, 47, 37].any fun x => x == c)
def isWhite (c : Int) : Bool := [0, 9, 10, 12, 13, 32].any fun x => x == c
def isDelim (c : Int) : Bool := [40, 41, 60, 62, 91, 93, 123, 125, 47].any fun x => x == c
theorem isReg_is {c : Int} (h : c ≠ 37) : isReg c = (!isWhite c && !isDelim c) := by
  have : (37 == c) = false := by simpa using fun e => h e.symm
  simp [isReg, isWhite, isDelim, this]
theorem isReg_37 : isReg 37 = false := rfl
abbrev Pts := List (Int × List Int)
def appLast (f : Pts) (k : Int) : Pts := match f.getLast? with
  | some (p, cs) => f.dropLast ++ [(p, cs ++ [k])]
  | none => f
theorem appLast_snoc (f : Pts) (p : Int) (cs : List Int) (k : Int) : appLast (f ++ [(p, cs)]) k = f ++ [(p, cs ++ [k])] := by
  simp [appLast]
/-- the plain reading, from a state -/
def go : Pts → Int → Bool → Bool → List Int → Pts
  | f, _, _, _, [] => f
  | f, a, cm, run, k :: r =>
    if cm then go f (a + 1) (!([10, 13].any fun x => x == k)) false r
    else if k = 37 then go f (a + 1) true false r
    else if isWhite k then go f (a + 1) false false r
    else if isDelim k then go (f ++ [(a, [k])]) (a + 1) false false r
    else if run then go (appLast f k) (a + 1) false true r
    else go (f ++ [(a, [k])]) (a + 1) false true r
theorem go_nil (f : Pts) (a : Int) (cm run : Bool) : go f a cm run [] = f := by rw [go]
theorem go_cm (f : Pts) (a : Int) (run : Bool) (k : Int) (r : List Int) : go f a true run (k :: r) = go f (a + 1) (!([10, 13].any fun x => x == k)) false r := by rw [go, if_pos rfl]
theorem go_37 (f : Pts) (a : Int) (run : Bool) (r : List Int) : go f a false run (37 :: r) = go f (a + 1) true false r := by rw [go, if_neg (by decide), if_pos rfl]
theorem go_white (f : Pts) (a : Int) (run : Bool) {k : Int} (r : List Int) (h : k ≠ 37) (hw : isWhite k = true) : go f a false run (k :: r) = go f (a + 1) false false r := by
  rw [go, if_neg (by decide), if_neg h, if_pos hw]
theorem go_delim (f : Pts) (a : Int) (run : Bool) {k : Int} (r : List Int) (h : k ≠ 37) (hw : isWhite k = false) (hd : isDelim k = true) : go f a false run (k :: r) = go (f ++ [(a, [k])]) (a + 1) false false r := by
  rw [go, if_neg (by decide), if_neg h, if_neg (by rw [hw]; decide), if_pos hd]
theorem go_more (f : Pts) (a : Int) {k : Int} (r : List Int) (h : k ≠ 37) (hw : isWhite k = false) (hd : isDelim k = false) : go f a false true (k :: r) = go (appLast f k) (a + 1) false true r := by
  rw [go, if_neg (by decide), if_neg h, if_neg (by rw [hw]; decide), if_neg (by rw [hd]; decide), if_pos rfl]
theorem go_new (f : Pts) (a : Int) {k : Int} (r : List Int) (h : k ≠ 37) (hw : isWhite k = false) (hd : isDelim k = false) : go f a false false (k :: r) = go (f ++ [(a, [k])]) (a + 1) false true r := by
  rw [go, if_neg (by decide), if_neg h, if_neg (by rw [hw]; decide), if_neg (by rw [hd]; decide), if_neg (by decide)]
theorem isReg_parts {k : Int} (h : isReg k = true) : k ≠ 37 ∧ isWhite k = false ∧ isDelim k = false := by
  have h1 : k ≠ 37 := fun e => by rw [e, isReg_37] at h; cases h
  rw [isReg_is h1] at h
  simpa [h1] using h
theorem go_run (f : Pts) (p : Int) : ∀ (r cs : List Int) (a : Int), go (f ++ [(p, cs)]) a false true r = go (f ++ [(p, cs ++ r.takeWhile isReg)]) (a + (r.takeWhile isReg).length) false true (r.dropWhile isReg) := by
  intro r
  induction r with
  | nil => intro cs a; simp
  | cons k r ih =>
    intro cs a
    by_cases hk : isReg k = true
    · obtain ⟨h1, h2, h3⟩ := isReg_parts hk
      rw [go_more _ _ _ h1 h2 h3, appLast_snoc, ih, List.takeWhile_cons, List.dropWhile_cons, hk]
      simp [Int.add_comm, Int.add_left_comm]
    · rw [List.takeWhile_cons, List.dropWhile_cons]
      simp [hk]
theorem go_norun (f : Pts) (a : Int) {r : List Int} (h : ∀ k, r.head? = some k → isReg k = false) : go f a false true r = go f a false false r := by
  cases r with
  | nil => rw [go_nil, go_nil]
  | cons k r =>
    have hk := h k rfl
    by_cases h1 : k = 37
    · rw [h1, go_37, go_37]
    · rw [isReg_is h1] at hk
      by_cases h2 : isWhite k = true
      · rw [go_white _ _ _ _ h1 h2, go_white _ _ _ _ h1 h2]
      · have h2' : isWhite k = false := by simpa using h2
        have h3 : isDelim k = true := by rw [h2'] at hk; simpa using hk
        rw [go_delim _ _ _ _ h1 h2' h3, go_delim _ _ _ _ h1 h2' h3]
theorem drop_head {p : Int → Bool} : ∀ (r : List Int) (k : Int), (r.dropWhile p).head? = some k → p k = false
  | [], k, h => by simp at h
  | c :: r, k, h => by
    rw [List.dropWhile_cons] at h
    by_cases hc : p c = true
    · rw [if_pos hc] at h; exact drop_head r k h
    · rw [if_neg hc] at h
      simp only [List.head?_cons, Option.some.injEq] at h
      rw [← h]; simpa using hc
theorem go_take (f : Pts) (a : Int) {r : List Int} (h : r.takeWhile isReg ≠ []) : go f a false false r = go (f ++ [(a, r.takeWhile isReg)]) (a + (r.takeWhile isReg).length) false false (r.dropWhile isReg) := by
  cases r with
  | nil => simp at h
  | cons k r =>
    by_cases hk : isReg k = true
    · obtain ⟨h1, h2, h3⟩ := isReg_parts hk
      rw [go_new _ _ _ h1 h2 h3, go_run, go_norun _ _ (drop_head _), List.takeWhile_cons, List.dropWhile_cons, hk]
      simp [Int.add_comm, Int.add_left_comm]
    · rw [List.takeWhile_cons] at h
      simp [hk] at h
theorem go_one (f : Pts) (a : Int) {k : Int} {r : List Int} (h : isReg k = false) (h1 : k ≠ 37) (h2 : isWhite k = false) : go f a false false (k :: r) = go (f ++ [(a, [k])]) (a + 1) false false r := by
  rw [isReg_is h1, h2] at h
  exact go_delim _ _ _ _ h1 h2 (by simpa using h)
/-- the octets of a stretch are all of a kind -/
@[irreducible] def AllIn (p : Int → Bool) (ks : List Int) (i j : Int) : Prop := ∀ k : Int, i ≤ k → k < j → p (ks.getD k.toNat 0) = true
theorem allIn_nil {p : Int → Bool} {ks : List Int} {i : Int} : AllIn p ks i i := by unfold AllIn; intro k h1 h2; omega
theorem allIn_step {p : Int → Bool} {ks : List Int} {i j : Int} (h : AllIn p ks i j) (h1 : p (ks.getD j.toNat 0) = true) : AllIn p ks i (j + 1) := by
  unfold AllIn at h ⊢
  intro k hk1 hk2
  by_cases e : k < j
  · exact h k hk1 e
  · have e2 : k = j := by omega
    rw [e2]; exact h1
theorem win_split {ks : List Int} {i j e : Int} (h0 : 0 ≤ i) (h1 : i ≤ j) (h2 : j ≤ e) : win ks i e = win ks i j ++ win ks j e := by
  have key : ∀ (n : Nat) (i j : Nat) (l : List Int), i ≤ j → j ≤ n → (l.take n).drop i = (l.take j).drop i ++ (l.take n).drop j := by
    intro n i j l hij hjn
    have e1 : l.take j = (l.take n).take j := by rw [List.take_take, Nat.min_eq_left hjn]
    rw [e1]
    generalize l.take n = q
    have e2 : q.drop j = (q.drop i).drop (j - i) := by rw [List.drop_drop]; congr 1; omega
    rw [List.drop_take, e2, List.take_append_drop]
  unfold win
  exact key _ _ _ _ (by omega) (by omega)
theorem win_mem {ks : List Int} {i j k : Int} (h0 : 0 ≤ i) (h1 : j ≤ ks.length) (hk : k ∈ win ks i j) : ∃ p : Int, i ≤ p ∧ p < j ∧ ks.getD p.toNat 0 = k := by
  unfold win at hk
  obtain ⟨n, hn, e⟩ := List.getElem_of_mem hk
  rw [List.length_drop, List.length_take] at hn
  refine ⟨i + n, by omega, by omega, ?_⟩
  rw [List.getElem_drop, List.getElem_take] at e
  have hl : (i + (n : Int)).toNat < ks.length := by omega
  rw [List.getD_eq_getElem?_getD, List.getElem?_eq_getElem hl, Option.getD_some, ← e]
  congr 1
  omega
theorem win_all {p : Int → Bool} {ks : List Int} {i j : Int} (h0 : 0 ≤ i) (h1 : j ≤ ks.length) (h : AllIn p ks i j) : ∀ k ∈ win ks i j, p k = true := by
  intro k hk
  obtain ⟨q, h2, h3, e⟩ := win_mem h0 h1 hk
  unfold AllIn at h
  have := h q h2 h3
  rw [e] at this
  exact this
theorem span_at {p : Int → Bool} {ks : List Int} {i j e : Int} (h0 : 0 ≤ i) (h1 : i ≤ j) (h2 : j ≤ e) (h3 : e ≤ ks.length) (hp : AllIn p ks i j) (hend : ¬ j < e ∨ p (ks.getD j.toNat 0) = false) :
    (win ks i e).takeWhile p = win ks i j ∧ (win ks i e).dropWhile p = win ks j e := by
  have ha := win_all h0 (by omega) hp
  have hh : (win ks j e).takeWhile p = [] ∧ (win ks j e).dropWhile p = win ks j e := by
    by_cases hj : j < e
    · have hend : p (ks.getD j.toNat 0) = false := hend.resolve_left (fun q => q hj)
      rw [win_cons (by omega) hj h3, List.takeWhile_cons, List.dropWhile_cons, hend]
      exact ⟨rfl, rfl⟩
    · rw [win_nil (by omega)]; exact ⟨rfl, rfl⟩
  rw [win_split h0 h1 h2]
  rw [List.takeWhile_append_of_pos ha, List.dropWhile_append_of_pos ha, hh.1, hh.2, List.append_nil]
  exact ⟨rfl, rfl⟩
theorem clip_win {ks : List Int} {i j : Int} (h0 : 0 ≤ i) (h1 : i ≤ j) (h2 : j ≤ ks.length) : List.take (clipAt ks.length j - clipAt ks.length i) (List.drop (clipAt ks.length i) ks) = win ks i j := by
  have c1 := clipAt_cast ks.length i
  have c2 := clipAt_cast ks.length j
  rw [if_neg (by omega)] at c1 c2
  have e1 : clipAt ks.length i = i.toNat := by omega
  have e2 : clipAt ks.length j = j.toNat := by omega
  rw [e1, e2]
  unfold win
  rw [List.drop_take]
theorem reg_fin {ks : List Int} {i j e : Int} {l : List Int} (hP : AllIn isReg ks i j) (hend : ¬ j < e ∨ isReg (ks.getD j.toNat 0) = false) (hk : l = List.take (clipAt ks.length j - clipAt ks.length i) (List.drop (clipAt ks.length i) ks))
    (h0 : 0 ≤ i) (h3 : e ≤ ks.length) (h1 : i ≤ j) (h2 : j ≤ e) : l = (win ks i e).takeWhile isReg ∧ j = i + (((win ks i e).takeWhile isReg).length : Int) ∧ win ks j e = (win ks i e).dropWhile isReg := by
  obtain ⟨e1, e2⟩ := span_at h0 h1 h2 h3 hP hend
  rw [e1, hk, clip_win h0 h1 (by omega), e2, win_length h0 h1 (by omega)]
  exact ⟨rfl, by omega, rfl⟩
/-- what is skipped from i to j yields nothing -/
@[irreducible] def Skips (ks : List Int) (i j e : Int) : Prop := ∀ f, go f i false false (win ks i e) = go f j false false (win ks j e)
/-- the same, and j stands in a comment -/
@[irreducible] def SkipsC (ks : List Int) (i j e : Int) : Prop := ∀ f, go f i false false (win ks i e) = go f j true false (win ks j e)
theorem skips_nil {ks : List Int} {i e : Int} : Skips ks i i e := by unfold Skips; intro f; rfl
section
variable {ks : List Int} {i j e : Int} (h0 : 0 ≤ j) (h1 : j < e) (h2 : e ≤ ks.length)
include h0 h1 h2
theorem skips_white (h : Skips ks i j e) (hn : ks.getD j.toNat 0 ≠ 37) (hw : ([0, 9, 10, 12, 13, 32].any fun x => x == ks.getD j.toNat 0) = true) : Skips ks i (j + 1) e := by
  unfold Skips at h ⊢
  intro f
  rw [h f, win_cons h0 h1 h2]
  exact go_white _ _ _ _ hn hw
theorem skips_open (h : Skips ks i j e) (hc : ks.getD j.toNat 0 = 37) : SkipsC ks i j e := by
  unfold Skips at h
  unfold SkipsC
  intro f
  rw [h f, win_cons h0 h1 h2, hc, go_37, go_cm]
  rfl
theorem skips_in (h : SkipsC ks i j e) (hc : ([10, 13].any fun x => x == ks.getD j.toNat 0) = false) : SkipsC ks i (j + 1) e := by
  unfold SkipsC at h ⊢
  intro f
  rw [h f, win_cons h0 h1 h2, go_cm, hc]
  rfl
theorem skips_close (h : SkipsC ks i j e) (hc : ([10, 13].any fun x => x == ks.getD j.toNat 0) = true) : Skips ks i j e := by
  unfold SkipsC at h
  unfold Skips
  intro f
  have hn : ks.getD j.toNat 0 = 10 ∨ ks.getD j.toNat 0 = 13 := by
    simp only [List.any_cons, List.any_nil, Bool.or_false, Bool.or_eq_true, beq_iff_eq] at hc
    rcases hc with q | q
    · exact .inl q.symm
    · exact .inr q.symm
  rw [h f, win_cons h0 h1 h2, go_cm, hc, go_white _ _ _ _ (by rcases hn with q | q <;> rw [q] <;> decide) (by rcases hn with q | q <;> rw [q] <;> rfl)]
  rfl
end
theorem skips_end {ks : List Int} {i j e : Int} (h1 : ¬ j < e) (h : SkipsC ks i j e) : Skips ks i j e := by
  unfold SkipsC at h
  unfold Skips
  intro f
  rw [h f, win_nil (by omega), go_nil, go_nil]
theorem moved {ks : List Int} {j l e : Int} (h : j ≤ l) (h1 : j < e) (hc : ks.getD j.toNat 0 = 37) (hend : ¬ l < e ∨ ([10, 13].any fun x => x == ks.getD l.toNat 0) = true) : j < l := by
  by_cases q : j = l
  · subst q
    rcases hend with z | z
    · exact absurd h1 z
    · rw [hc] at z; cases z
  · omega
end Mine
end
namespace Mine
theorem walkReset3 : True := by w_top off; trivial
end Mine
section
open PySem PySem.W PyProof.Rows PySem.Spec
namespace Mine
theorem gen_toks {α : Type} {M : Model} {A : Around} {E : Value → Shared → Prop} {t : Sem α} {Q : α → Shared → Prop} {h : Heap} {g : Array GenState} {d : Drawn} {x : Nat} {o : OsState}
    (H : ∀ tk, wpAny M A t Q E ⟨h, g, d, tk, o⟩) : wpAny M A t Q E ⟨h, g, d, x, o⟩ := H x
abbrev curD (P : Params) (k1 k2 k3 : Tok) (b : Array UInt8) (t0 : Tok) (a : Int) (ta : Tok) (e : Int) (te : Tok) : Obj :=
  dictOf [{ hash := PyData.keyHash P (Str.ofString "data"), key := Value.str (Str.ofString "data") k1, val := Value.bytes b t0 },
    { hash := PyData.keyHash P (Str.ofString "at"), key := Value.str (Str.ofString "at") k2, val := Value.int a ta },
    { hash := PyData.keyHash P (Str.ofString "end"), key := Value.str (Str.ofString "end") k3, val := Value.int e te }] 3
end Mine
end
namespace Mine
theorem walkReset4 : True := by w_top off; trivial
end Mine
section
open PySem PySem.W PyProof.Rows PySem.Spec
namespace Mine
local macro_rules | `(tactic| k_all) => `(tactic| assumption)
theorem small_mul {a b : Int} (ha : -1000000 < a) (ha2 : a < 1000000) (hb : -1000000 < b) (hb2 : b < 1000000) : IntMulOk a b :=
  IntMulOk.of_le (m := 64) (n := 64) (intBits_le_64 (by omega) (by omega)) (intBits_le_64 (by omega) (by omega)) (by decide)
local macro_rules | `(tactic| mul_fits) => `(tactic| (refine small_mul ?_ ?_ ?_ ?_ <;> (simp only [Int.toNat_one, Int.toNat_zero, List.getD_cons_succ, List.getD_cons_zero, Nat.reduceAdd]; omega)))
@[irreducible] def PenGood (n : Int) : Prop := 0 ≤ n ∧ Builtin.Int.intBits n ≤ 2000000
theorem penGood_le {n n' : Int} (h : PenGood n) (h0 : 0 ≤ n') (h1 : n' ≤ n) : PenGood n' := by
  unfold PenGood at h ⊢
  refine ⟨h0, ?_⟩
  have h2 := intBits_le_iff.mp h.2
  exact intBits_le_iff.mpr (Nat.lt_of_le_of_lt (by omega) h2)
theorem penGood_out {n : Int} (h : PenGood n) : 0 ≤ n ∧ Builtin.Int.intBits n ≤ 2000000 := by unfold PenGood at h; exact h
set_option maxRecDepth 100000 in
set_option maxHeartbeats 8000000 in
theorem draw {w : World} {mean : ExcName → Option Value} {mg mb : Str → Option Value} {dp un : Nat} {gd : Option (List Code)} {cn : Str} {cs : Scope} {a : Addr} {ccd : Value} {cl : List (Str × Addr)} {outer : List Env} {A₀ : Around} {base h₀ : Heap} {L : Addr} {m : Str → Option Value} {s : Shared} {Q E : Value → Shared → Prop}
    {p : Addr} {n c : Int} {t1 t2 : Tok} {k : Nat} {news : List (Addr × Obj)} {many : Int} {tm : Tok}
    (B : Below A₀ base outer h₀) (F : Fr h₀ L s.heap m) (X : (hd.heap_39 w.params).In h₀)
    (N : News h₀ L s.heap ((p, listOf (List.toArray [.int n t1, .int c t2]) k) :: news)) (hne : ∀ q ∈ news, q.1 ≠ p)
    (T : Top hd.view_39 (looseW hd.view_39 []) mean mg mb h₀) (hk : cs.kind = .function)
    (hg : PenGood n) (hc : 0 ≤ c) (hc2 : c ≤ 1000) (hm : 0 < many) (hm2 : many ≤ 100)
    (hdp : dp + 1 < recursionLimit) (hu : un + 8 < cLine)
    (ret : ∀ d t n' t1' t2' h' tk', 0 ≤ d → d < many → PenGood n' → Fr h₀ L h' m → News h₀ L h' ((p, listOf (List.toArray [.int n' t1', .int (c+1) t2']) k) :: news) → Q (.int d t) { s with heap := h', toks := tk' }) :
    wpAny (model PySem.Challenge.rw_og0133_02.row.prog w) (ktrTop dp un gd cn cs L a ccd cl outer) (call (.ref 158) [.ref p, .int many tm]) Q E s := by
  obtain ⟨h0, hn⟩ := penGood_out hg
  revert X
  k_fill
  intro X
  refine wpAny_call ?_
  k_dflt cell_enter
  k_steps
  · simp only [show Int.toNat 1 = 1 from rfl, show Int.toNat 0 = 0 from rfl, List.getD_cons_succ, List.getD_cons_zero] at *
    refine ret _ _ _ _ _ _ _ (Int.fmod_nonneg_of_pos _ hm) (Int.fmod_lt_of_pos _ hm) (penGood_le hg ?_ ?_) (by assumption) (by assumption)
    · exact Int.fdiv_nonneg h0 (by omega)
    · rw [Int.fdiv_eq_ediv_of_nonneg _ (by omega)]
      exact Int.ediv_le_self _ h0
  · simp only [show Int.toNat 1 = 1 from rfl, show Int.toNat 0 = 0 from rfl, List.getD_cons_succ, List.getD_cons_zero] at *
    exact ret _ _ _ _ _ _ _ (Int.fmod_nonneg_of_pos _ hm) (Int.fmod_lt_of_pos _ hm) hg (by assumption) (by assumption)
end Mine
end
namespace Mine
theorem walkReset5 : True := by w_top off; trivial
end Mine
section
open PySem PySem.W PyProof.Rows PySem.Spec
namespace Mine
local macro_rules | `(tactic| k_all) => `(tactic| assumption)
local macro_rules | `(tactic| k_room) => `(tactic| ktr_room)
local macro_rules | `(tactic| k_units) => `(tactic| first | exact Nat.le_of_ble_eq_true rfl | ktr_units)
local macro_rules | `(tactic| units_room) => `(tactic| ktr_units)
local macro_rules | `(tactic| k_enter) => `(tactic| (refine' code_def ?k1 ?k2 ?k3 ?k4 ?k5 ?kA ?kF ?kK ?k6 ?k7 ?k8 ?k9 ?kB ?_ ?c2 ?c3 ?c4 ?c5; (case kA => exact rfl); (case kF => exact rfl); (case kK => first | exact rfl | assumption); (case k1 => k_asm); (case k2 => k_asm); (case k3 => k_asm); (case k4 => k_asm); (case k5 => k_asm); (case k6 => k_is); (case k7 => k_is); (case k8 => k_room); (case k9 => first | exact BindsTo.of_eq rfl | exact binds_K (by k_in) rfl (by k_is) rfl rfl rfl | fail "k_enter: no rule for these arguments"); (case c5 => decide); (case kB => exact locs rfl); (case c2 => exact rfl); (case c3 => exact rfl); (case c4 => exact rfl); k_whole; intro g' L' h' FG' F' N' B' X' T'; (try dsimp only); (try k_lift B'); (try k_fold)))
local macro_rules | `(tactic| walk_at "execs nil") => `(tactic| refine wpAny_execs_nil ?_)
local macro_rules | `(tactic| walk_at "execs cons") => `(tactic| ((with_reducible refine wpAny_execs_cons ?_); (try (refine gen_toks ?_; intro tk9)); (try dsimp only)))
local macro_rules | `(tactic| k_steps) => `(tactic| repeat' (first | (k_unfold; (try dsimp only)) | ((fail_if_success (with_reducible show wpAny _ _ (exec (Stmt.While _ _ _ _) _) _ _ _)); (fail_if_success (with_reducible show KswEnd _ _ _ _ _ _ _ _ _ _ _ _)); first | walk1 | (dsimp only; walk1)) | fail "no step"))
@[irreducible] def PenOk (k : Nat) (n : Int) : Prop := 0 ≤ n ∧ Builtin.Int.intBits n ≤ 1048580 + 25 * k
theorem pen_mul {n : Int} {k : Nat} (h : PenOk k n) (hk : k < 24) : IntMulOk n 1000003 := by
  unfold PenOk at h
  exact IntMulOk.of_le (m := 2000000) (n := 64) (Nat.le_trans h.2 (by omega)) (by decide) (by decide)
theorem cell_bits {ns : List Int} {n : Int} (hm : n ∈ ns.take 24) (hlay : (PyData.list (ns.map PyData.int)).layable0 = true) : Builtin.Int.intBits n ≤ 1048576 :=
  intBits_le_of_item (List.mem_of_mem_take hm) hlay
theorem cell_mul {ns : List Int} {n : Int} (hm : n ∈ ns.take 24) (hlay : (PyData.list (ns.map PyData.int)).layable0 = true) : IntMulOk 2 (if n < 0 then -n else n) := by
  have e : (if n < 0 then -n else n) = (n.natAbs : Int) := by split <;> omega
  rw [e]
  exact IntMulOk.of_le (m := 64) (n := 1048576) (by decide) (intBits_natAbs_le (cell_bits hm hlay)) (by decide)
theorem pen_good {n : Int} {k : Nat} (h : PenOk k n) (hk : k ≤ 24) : PenGood n := by unfold PenOk at h; unfold PenGood; exact ⟨h.1, Nat.le_trans h.2 (by omega)⟩
theorem pen_start : PenOk ([] : List Int).length 0 := by unfold PenOk; exact ⟨Int.le_refl _, by decide⟩
theorem pen_bits {x y e : Int} {B C : Nat} (e1 : Builtin.Int.intBits x ≤ B + 20) (e2 : Builtin.Int.intBits y ≤ C) (hC : C ≤ B) (hB : 2 ≤ B) (h0 : 0 ≤ e) (h1 : e ≤ 1) : Builtin.Int.intBits (x + y + e + 1) ≤ B + 25 := by
  have e3 := intBits_add_le e1 e2
  have e4 : Builtin.Int.intBits (e + 1) ≤ 2 := intBits_le_iff.mpr (by omega)
  have e5 := intBits_add_le e3 e4
  rw [Int.add_assoc]
  exact Nat.le_trans e5 (by omega)
theorem pen_bits2 {k y n e : Int} {B C : Nat} (hk : Builtin.Int.intBits k ≤ B) (hb : Builtin.Int.intBits n ≤ C) (hC : C + 2 ≤ B) (h0 : 0 ≤ e) (h1 : e ≤ 1) : Builtin.Int.intBits (k * 1000003 + 2 * (n.natAbs : Int) + e + 1) ≤ B + 25 :=
  pen_bits (C := 2 + C) (intBits_mul_le (n := 20) hk (by decide)) (intBits_mul_le (m := 2) (n := C) (by decide) (intBits_natAbs_le hb)) (by omega) (by omega) h0 h1
theorem pen_turn {ns pre : List Int} {n k e : Int} (h : PenOk pre.length k) (hm : n ∈ ns.take 24) (hlay : (PyData.list (ns.map PyData.int)).layable0 = true) (h0 : 0 ≤ e) (h1 : e ≤ 1) {x y : Int} (hx : x = k * 1000003) (hy : y = 2 * (if n < 0 then -n else n)) :
    PenOk (pre ++ [n]).length (x + y + e + 1) := by
  have e9 : (if n < 0 then -n else n) = (n.natAbs : Int) := by split <;> omega
  rw [hx, hy, e9]
  have hb := cell_bits hm hlay
  unfold PenOk at h ⊢
  obtain ⟨hk, hB⟩ := h
  rw [List.length_append, List.length_singleton]
  refine ⟨by omega, ?_⟩
  have := pen_bits2 (y := y) hB hb (by omega) h0 h1
  exact Nat.le_trans this (by omega)
theorem mul_gen {prog : Program} {w : World} {A : Around} {E Q : Value → Shared → Prop} {s : Shared} {a b : Int} {t u : Tok} (hm : IntMulOk a b)
    (h : ∀ x v, x = a * b → Q (.int x v) { s with toks := s.toks + 1 }) : wpAny (model prog w) A (binaryOp .Mult (.int a t) (.int b u)) Q E s :=
  mul_int (h _ _ rfl) hm
section
local macro_rules | `(tactic| walk_at "binaryOp Mult int int") => `(tactic| (refine mul_gen (by mul_fits) ?_; intro x9 v9 hx9))
local macro_rules | `(tactic| mul_fits) => `(tactic| first | exact pen_mul (by assumption) (by assumption) | exact cell_mul (by assumption) (by assumption))
set_option maxRecDepth 100000 in
set_option maxHeartbeats 1000000 in
theorem pen {w : World} {mean : ExcName → Option Value} {mg mb : Str → Option Value} {dp un : Nat} {gd : Option (List Code)} {cn : Str} {cs : Scope} {a : Addr} {ccd : Value} {cl : List (Str × Addr)} {outer : List Env} {A₀ : Around} {base h₀ : Heap} {L : Addr} {m : Str → Option Value} {s : Shared} {Q E : Value → Shared → Prop}
    {l : Addr} {vs : List Value} {ns : List Int} {news : List (Addr × Obj)}
    (B : Below A₀ base outer h₀) (F : Fr h₀ L s.heap m) (X : (hd.heap_39 w.params).In h₀)
    (N : News h₀ L s.heap news)
    (T : Top hd.view_39 (looseW hd.view_39 []) mean mg mb h₀) (hk : cs.kind = .function)
    (hl : base.IsList l vs.toArray) (hi : IntsAre vs ns) (hlay : (PyData.list (ns.map PyData.int)).layable0 = true)
    (hdp : dp + 1 < recursionLimit) (hu : un + 8 < cLine)
    (ret : ∀ p n t1 t2 k h' tk', PenGood n → (∀ q ∈ news, q.1 < p) → Fr h₀ L h' m → News h₀ L h' ((p, listOf (List.toArray [.int n t1, .int 0 t2]) k) :: news) → Q (.ref p) { s with heap := h', toks := tk' }) :
    wpAny (model PySem.Challenge.rw_og0133_02.row.prog w) (ktrTop dp un gd cn cs L a ccd cl outer) (call (.ref 151) [.ref l]) Q E s := by
  revert X
  k_fill
  intro X
  refine wpAny_call ?_
  k_dflt cell_enter
  k_with "pyIter ref" => k_state (fun pre number => PenOk pre.length number) "number"
  k_with "state" => (first | exact pen_start | exact pen_turn (by assumption) (by assumption) (by assumption) (by decide) (by decide) (by assumption) (by assumption))
  k_steps
  k_with_none
  rename (_ < _ ∧ AllLt _ _) => hL9
  rename PenOk _ _ => hP9
  rename News h₀ _ _ _ => hN9
  exact ret _ _ _ _ _ _ _ (pen_good hP9 (by rw [List.length_take]; omega)) (kst_ltOf hL9.2) (by assumption) (fun p hp => hN9 p (by
    rcases List.mem_cons.mp hp with rfl | h9
    · exact .head _
    · exact .tail _ (.tail _ h9)))
end
end Mine
end
namespace Mine
theorem walkReset6 : True := by w_top off; trivial
end Mine
section
open PySem PySem.W PyProof.Rows PySem.Spec
namespace Mine
local macro_rules | `(tactic| k_all) => `(tactic| assumption)
local macro_rules | `(tactic| k_room) => `(tactic| ktr_room)
local macro_rules | `(tactic| k_units) => `(tactic| first | exact Nat.le_of_ble_eq_true rfl | ktr_units)
local macro_rules | `(tactic| units_room) => `(tactic| ktr_units)
local macro_rules | `(tactic| k_enter) => `(tactic| (refine' code_def ?k1 ?k2 ?k3 ?k4 ?k5 ?kA ?kF ?kK ?k6 ?k7 ?k8 ?k9 ?kB ?_ ?c2 ?c3 ?c4 ?c5; (case kA => exact rfl); (case kF => exact rfl); (case kK => first | exact rfl | assumption); (case k1 => k_asm); (case k2 => k_asm); (case k3 => k_asm); (case k4 => k_asm); (case k5 => k_asm); (case k6 => k_is); (case k7 => k_is); (case k8 => k_room); (case k9 => first | exact BindsTo.of_eq rfl | exact binds_K (by k_in) rfl (by k_is) rfl rfl rfl | fail "k_enter: no rule for these arguments"); (case c5 => decide); (case kB => exact locs rfl); (case c2 => exact rfl); (case c3 => exact rfl); (case c4 => exact rfl); k_whole; intro g' L' h' FG' F' N' B' X' T'; (try dsimp only); (try k_lift B'); (try k_fold)))
local macro_rules | `(tactic| walk_at "execs nil") => `(tactic| refine wpAny_execs_nil ?_)
local macro_rules | `(tactic| walk_at "execs cons") => `(tactic| ((with_reducible refine wpAny_execs_cons ?_); (try (refine gen_toks ?_; intro tk9)); (try dsimp only)))
local macro_rules | `(tactic| k_steps) => `(tactic| repeat' (first | (k_unfold; (try dsimp only)) | ((fail_if_success (with_reducible show wpAny _ _ (exec (Stmt.While _ _ _ _) _) _ _ _)); (fail_if_success (with_reducible show LCg.CompSrc _ _ _ _ _ _ _ _ _ _ _ _ _ _)); (fail_if_success (with_reducible show KswEnd _ _ _ _ _ _ _ _ _ _ _ _)); first | walk1 | (dsimp only; walk1)) | fail "no step"))
local macro_rules | `(tactic| walk_at "eval ListComp") => `(tactic| (k_here; lcf_look; k_dflt (refine LCg.ListComp_U (F₀ := by k_asm) (by with_unfolding_all rfl) (by decide) (by rfl) (by decide) (by rfl) ?_)))
set_option maxRecDepth 100000 in
set_option maxHeartbeats 1000000 in
theorem make1 {w : World} {mean : ExcName → Option Value} {mg mb : Str → Option Value} {dp un : Nat} {gd : Option (List Code)} {cn : Str} {cs : Scope} {a : Addr} {ccd : Value} {cl : List (Str × Addr)} {outer : List Env} {A₀ : Around} {base h₀ : Heap} {L : Addr} {m : Str → Option Value} {s : Shared} {Q E : Value → Shared → Prop}
    {b : Array UInt8} {ks : List Int} {t0 : Tok} {news : List (Addr × Obj)}
    (B : Below A₀ base outer h₀) (F : Fr h₀ L s.heap m) (X : (hd.heap_39 w.params).In h₀)
    (N : News h₀ L s.heap news)
    (T : Top hd.view_39 (looseW hd.view_39 []) mean mg mb h₀) (hk : cs.kind = .function)
    (hb : KBw.bInts b = ks) (h3 : ks.length ≤ 64)
    (hdp : dp + 2 < recursionLimit) (hu : un + 16 < cLine)
    (ret : ∀ x d k1 k2 k3 t1 te h' tk', (∀ q ∈ news, q.1 < d) → @LT.lt Nat _ d x → Fr h₀ L h' m → News h₀ L h' ((x, instObj 140 d) :: (d, curD w.params k1 k2 k3 b t0 0 t1 ks.length te) :: news) → Q (.ref x) { s with heap := h', toks := tk' }) :
    wpAny (model PySem.Challenge.rw_og0133_02.row.prog w) (ktrTop dp un gd cn cs L a ccd cl outer) (call (.ref 140) [.bytes b t0]) Q E s := by
  have hbs : b.size = ks.length := by rw [← KBw.ints_length, hb]
  revert X
  k_fill
  intro X
  k_steps
  rename News h₀ _ _ _ => hN9
  rename (∀ _ ∈ news, _ < _) => hl9
  rename (_ < _) => hl8
  replace hl8 := ltN hl8
  exact ret _ _ _ _ _ _ _ _ _ hl9 hl8 (by assumption) hN9
set_option maxRecDepth 100000 in
set_option maxHeartbeats 1000000 in
theorem done {w : World} {mean : ExcName → Option Value} {mg mb : Str → Option Value} {dp un : Nat} {gd : Option (List Code)} {cn : Str} {cs : Scope} {a : Addr} {ccd : Value} {cl : List (Str × Addr)} {outer : List Env} {A₀ : Around} {base h₀ : Heap} {L : Addr} {m : Str → Option Value} {s : Shared} {Q E : Value → Shared → Prop}
    {x d : Addr} {k1 k2 k3 : Tok} {b : Array UInt8} {t0 : Tok} {i : Int} {ti : Tok} {e : Int} {te : Tok} {news : List (Addr × Obj)}
    (B : Below A₀ base outer h₀) (F : Fr h₀ L s.heap m) (X : (hd.heap_39 w.params).In h₀)
    (N : News h₀ L s.heap ((x, instObj 140 d) :: (d, curD w.params k1 k2 k3 b t0 i ti e te) :: news))
    (T : Top hd.view_39 (looseW hd.view_39 []) mean mg mb h₀) (hk : cs.kind = .function)
    (hdp : dp + 2 < recursionLimit) (hu : un + 16 < cLine)
    (ret : ∀ h' tk', Fr h₀ L h' m → News h₀ L h' ((x, instObj 140 d) :: (d, curD w.params k1 k2 k3 b t0 i ti e te) :: news) → Q (.bool (decide (e ≤ i))) { s with heap := h', toks := tk' }) :
    wpAny (model PySem.Challenge.rw_og0133_02.row.prog w) (ktrTop dp un gd cn cs L a ccd cl outer) (call (.ref 59) [.ref x]) Q E s := by
  revert X
  k_fill
  intro X
  k_steps
  exact ret _ _ (by assumption) (by assumption)
set_option maxRecDepth 100000 in
set_option maxHeartbeats 1000000 in
theorem take {w : World} {mean : ExcName → Option Value} {mg mb : Str → Option Value} {dp un : Nat} {gd : Option (List Code)} {cn : Str} {cs : Scope} {a : Addr} {ccd : Value} {cl : List (Str × Addr)} {outer : List Env} {A₀ : Around} {base h₀ : Heap} {L : Addr} {m : Str → Option Value} {s : Shared} {Q E : Value → Shared → Prop}
    {x d : Addr} {k1 k2 k3 : Tok} {b : Array UInt8} {ks : List Int} {t0 : Tok} {i : Int} {ti : Tok} {e : Int} {te : Tok} {news : List (Addr × Obj)}
    (B : Below A₀ base outer h₀) (F : Fr h₀ L s.heap m) (X : (hd.heap_39 w.params).In h₀)
    (N : News h₀ L s.heap ((x, instObj 140 d) :: (d, curD w.params k1 k2 k3 b t0 i ti e te) :: news))
    (T : Top hd.view_39 (looseW hd.view_39 []) mean mg mb h₀) (hk : cs.kind = .function)
    (hdx : @LT.lt Nat _ d x) (hne : ∀ q ∈ news, q.1 ≠ d) (hb : KBw.bInts b = ks)
    (h0 : 0 ≤ i) (h1 : i < e) (h2 : e ≤ ks.length) (h3 : ks.length ≤ 64)
    (hdp : dp + 2 < recursionLimit) (hu : un + 16 < cLine)
    (ret : ∀ tc j tj h' tk', Fr h₀ L h' m → News h₀ L h' ((x, instObj 140 d) :: (d, curD w.params k1 k2 k3 b t0 j tj e te) :: news) → j = i + 1 → Q (.int (ks.getD i.toNat 0) tc) { s with heap := h', toks := tk' }) :
    wpAny (model PySem.Challenge.rw_og0133_02.row.prog w) (ktrTop dp un gd cn cs L a ccd cl outer) (call (.ref 74) [.ref x]) Q E s := by
  revert X
  k_fill
  intro X
  k_steps
  exact ret _ _ _ _ _ (by assumption) (by assumption) rfl
section
local macro_rules | `(tactic| walk_at "compareOp NotIn int ref") => `(tactic| (k_here; (with_reducible show wpAny _ _ (compareOp CmpOp.NotIn (Value.int _ _) (Value.ref 22)) _ _ _); k_dflt (refine' notin_tuple_ints (ns := [0, 9, 10, 12, 13, 32]) ?k1 ?k2 ?_; (case k1 => exact kun_topT (by k_asm) (by k_asm) (by k_is)); (case k2 => l_intsW); k_whole)))
local macro_rules | `(tactic| walk_at "compareOp NotIn int ref") => `(tactic| (k_here; (with_reducible show wpAny _ _ (compareOp CmpOp.NotIn (Value.int _ _) (Value.ref 23)) _ _ _); k_dflt (refine' notin_tuple_ints (ns := [40, 41, 60, 62, 91, 93, 123, 125, 47, 37]) ?k1 ?k2 ?_; (case k1 => exact kun_topT (by k_asm) (by k_asm) (by k_is)); (case k2 => l_intsW); k_whole)))
set_option maxRecDepth 100000 in
set_option maxHeartbeats 1000000 in
theorem isreg {w : World} {mean : ExcName → Option Value} {mg mb : Str → Option Value} {dp un : Nat} {gd : Option (List Code)} {cn : Str} {cs : Scope} {a : Addr} {ccd : Value} {cl : List (Str × Addr)} {outer : List Env} {A₀ : Around} {base h₀ : Heap} {L : Addr} {m : Str → Option Value} {s : Shared} {Q E : Value → Shared → Prop}
    {c : Int} {tc : Tok} {news : List (Addr × Obj)}
    (B : Below A₀ base outer h₀) (F : Fr h₀ L s.heap m) (X : (hd.heap_39 w.params).In h₀)
    (N : News h₀ L s.heap news)
    (T : Top hd.view_39 (looseW hd.view_39 []) mean mg mb h₀) (hk : cs.kind = .function)
    (h0 : 0 ≤ c) (h1 : c < 256)
    (hdp : dp + 2 < recursionLimit) (hu : un + 16 < cLine)
    (ret : ∀ h' tk', Fr h₀ L h' m → News h₀ L h' news → Q (.bool (isReg c)) { s with heap := h', toks := tk' }) :
    wpAny (model PySem.Challenge.rw_og0133_02.row.prog w) (ktrTop dp un gd cn cs L a ccd cl outer) (call (.ref 30) [.int c tc]) Q E s := by
  revert X
  k_fill
  intro X
  k_steps
  · rename (List.any _ _ = true) => q9
    have e9 : (!([0, 9, 10, 12, 13, 32].any fun x => x == c)) = isReg c := by unfold isReg; rw [q9]; rfl
    rw [e9]
    exact ret _ _ (by assumption) (by assumption)
  · rename (List.any _ _ = false) => q9
    have e9 : (!([40, 41, 60, 62, 91, 93, 123, 125, 47, 37].any fun x => x == c)) = isReg c := by unfold isReg; rw [q9]; rfl
    rw [e9]
    exact ret _ _ (by assumption) (by assumption)
end
end Mine
end
namespace Mine
theorem walkReset7 : True := by w_top off; trivial
end Mine
section
open PySem PySem.W PyProof.Rows PySem.Spec
namespace Mine
local macro_rules | `(tactic| k_all) => `(tactic| assumption)
local macro_rules | `(tactic| k_room) => `(tactic| ktr_room)
local macro_rules | `(tactic| k_units) => `(tactic| first | exact Nat.le_of_ble_eq_true rfl | ktr_units)
local macro_rules | `(tactic| units_room) => `(tactic| ktr_units)
local macro_rules | `(tactic| k_enter) => `(tactic| (refine' code_def ?k1 ?k2 ?k3 ?k4 ?k5 ?kA ?kF ?kK ?k6 ?k7 ?k8 ?k9 ?kB ?_ ?c2 ?c3 ?c4 ?c5; (case kA => exact rfl); (case kF => exact rfl); (case kK => first | exact rfl | assumption); (case k1 => k_asm); (case k2 => k_asm); (case k3 => k_asm); (case k4 => k_asm); (case k5 => k_asm); (case k6 => k_is); (case k7 => k_is); (case k8 => k_room); (case k9 => first | exact BindsTo.of_eq rfl | exact binds_K (by k_in) rfl (by k_is) rfl rfl rfl | fail "k_enter: no rule for these arguments"); (case c5 => decide); (case kB => exact locs rfl); (case c2 => exact rfl); (case c3 => exact rfl); (case c4 => exact rfl); k_whole; intro g' L' h' FG' F' N' B' X' T'; (try dsimp only); (try k_lift B'); (try k_fold)))
local macro_rules | `(tactic| walk_at "execs nil") => `(tactic| refine wpAny_execs_nil ?_)
local macro_rules | `(tactic| walk_at "execs cons") => `(tactic| ((with_reducible refine wpAny_execs_cons ?_); (try (refine gen_toks ?_; intro tk9)); (try dsimp only)))
local macro_rules | `(tactic| k_steps) => `(tactic| repeat' (first | (k_unfold; (try dsimp only)) | ((fail_if_success (with_reducible show wpAny _ _ (exec (Stmt.While _ _ _ _) _) _ _ _)); (fail_if_success (with_reducible show LCg.CompSrc _ _ _ _ _ _ _ _ _ _ _ _ _ _)); (fail_if_success (with_reducible show KswEnd _ _ _ _ _ _ _ _ _ _ _ _)); first | walk1 | (dsimp only; walk1)) | fail "no step"))
local macro_rules | `(tactic| walk_at "eval ListComp") => `(tactic| (k_here; lcf_look; k_dflt (refine LCg.ListComp_U (F₀ := by k_asm) (by with_unfolding_all rfl) (by decide) (by rfl) (by decide) (by rfl) ?_)))
theorem news_tl {h₀ h : Heap} {L : Addr} {p : Addr × Obj} {news : List (Addr × Obj)} (N : News h₀ L h (p :: news)) : News h₀ L h news := fun q hq => N q (.tail _ hq)
section
local macro_rules | `(tactic| walk_at "call ref") => `(tactic| (k_here; (k_dflt (show wpAny _ _ (call (Value.ref 30) [Value.int _ _]) _ _ _)); k_dflt ((refine' isreg ?B ?F ?X ?N ?T ?hk ?h0 ?h1 ?hdp ?hu ?_); (case B => k_asm); (case F => k_asm); (case X => k_asm); (case N => k_asm); (case T => k_asm); (case hk => first | exact rfl | assumption); (case h0 => omega); (case h1 => omega); (case hdp => ktr_room); (case hu => ktr_units); intro h9 tk9 F9 N9; (try dsimp only); (try k_fold))))
set_option maxRecDepth 100000 in
set_option maxHeartbeats 1000000 in
theorem taker {w : World} {mean : ExcName → Option Value} {mg mb : Str → Option Value} {dp un : Nat} {gd : Option (List Code)} {cn : Str} {cs : Scope} {a : Addr} {ccd : Value} {cl : List (Str × Addr)} {outer : List Env} {A₀ : Around} {base h₀ : Heap} {L : Addr} {m : Str → Option Value} {s : Shared} {Q E : Value → Shared → Prop}
    {x d : Addr} {k1 k2 k3 : Tok} {b : Array UInt8} {ks : List Int} {t0 : Tok} {i : Int} {ti : Tok} {e : Int} {te : Tok} {news : List (Addr × Obj)}
    (B : Below A₀ base outer h₀) (F : Fr h₀ L s.heap m) (X : (hd.heap_39 w.params).In h₀)
    (N : News h₀ L s.heap ((x, instObj 140 d) :: (d, curD w.params k1 k2 k3 b t0 i ti e te) :: news))
    (T : Top hd.view_39 (looseW hd.view_39 []) mean mg mb h₀) (hk : cs.kind = .function)
    (hdx : @LT.lt Nat _ d x) (hne : ∀ q ∈ news, q.1 ≠ d) (hb : KBw.bInts b = ks)
    (h0 : 0 ≤ i) (h1 : i ≤ e) (h2 : e ≤ ks.length) (h3 : ks.length ≤ 64)
    (hdp : dp + 3 < recursionLimit) (hu : un + 24 < cLine)
    (ret : ∀ lb tl j tj h' tk', Fr h₀ L h' m → News h₀ L h' ((x, instObj 140 d) :: (d, curD w.params k1 k2 k3 b t0 j tj e te) :: news) → KBw.bInts lb = (win ks i e).takeWhile isReg → j = i + (((win ks i e).takeWhile isReg).length : Int) → win ks j e = (win ks i e).dropWhile isReg → Q (.bytes lb tl) { s with heap := h', toks := tk' }) :
    wpAny (model PySem.Challenge.rw_og0133_02.row.prog w) (ktrTop dp un gd cn cs L a ccd cl outer) (call (.ref 102) [.ref x]) Q E s := by
  revert X
  k_fill
  intro X
  dsimp only [curD] at N
  k_with "state" => (first | exact ⟨Int.le_refl _, h1, allIn_nil⟩ | exact ⟨by omega, by omega, allIn_step (by assumption) (by assumption)⟩)
  k_steps
  k_while (fun _ at9 => i ≤ at9 ∧ at9 ≤ e ∧ AllIn isReg ks i at9) (fun _ at9 => (e - at9).toNat) "self.at"
  k_steps
  all_goals (try walk1)
  k_with_none
  all_goals (rename AllIn isReg ks i _ => hP9; rename (KBw.bInts _ = List.take _ _) => hK9; obtain ⟨q1, q2, q3⟩ := reg_fin hP9 (by first | exact .inr (by assumption) | exact .inl (by assumption)) hK9 h0 h2 (by assumption) (by assumption); exact ret _ _ _ _ _ _ (by assumption) (by first | assumption | exact news_tl (by assumption)) q1 q2 q3)
end
end Mine
end
namespace Mine
theorem walkReset8 : True := by w_top off; trivial
end Mine
section
open PySem PySem.W PyProof.Rows PySem.Spec
namespace Mine
local macro_rules | `(tactic| k_all) => `(tactic| assumption)
local macro_rules | `(tactic| k_room) => `(tactic| ktr_room)
local macro_rules | `(tactic| k_units) => `(tactic| first | exact Nat.le_of_ble_eq_true rfl | ktr_units)
local macro_rules | `(tactic| units_room) => `(tactic| ktr_units)
local macro_rules | `(tactic| k_enter) => `(tactic| (refine' code_def ?k1 ?k2 ?k3 ?k4 ?k5 ?kA ?kF ?kK ?k6 ?k7 ?k8 ?k9 ?kB ?_ ?c2 ?c3 ?c4 ?c5; (case kA => exact rfl); (case kF => exact rfl); (case kK => first | exact rfl | assumption); (case k1 => k_asm); (case k2 => k_asm); (case k3 => k_asm); (case k4 => k_asm); (case k5 => k_asm); (case k6 => k_is); (case k7 => k_is); (case k8 => k_room); (case k9 => first | exact BindsTo.of_eq rfl | exact binds_K (by k_in) rfl (by k_is) rfl rfl rfl | fail "k_enter: no rule for these arguments"); (case c5 => decide); (case kB => exact locs rfl); (case c2 => exact rfl); (case c3 => exact rfl); (case c4 => exact rfl); k_whole; intro g' L' h' FG' F' N' B' X' T'; (try dsimp only); (try k_lift B'); (try k_fold)))
local macro_rules | `(tactic| walk_at "execs nil") => `(tactic| refine wpAny_execs_nil ?_)
local macro_rules | `(tactic| walk_at "execs cons") => `(tactic| ((with_reducible refine wpAny_execs_cons ?_); (try (refine gen_toks ?_; intro tk9)); (try dsimp only)))
local macro_rules | `(tactic| k_steps) => `(tactic| repeat' (first | (k_unfold; (try dsimp only)) | ((fail_if_success (with_reducible show wpAny _ _ (exec (Stmt.While _ _ _ _) _) _ _ _)); (fail_if_success (with_reducible show LCg.CompSrc _ _ _ _ _ _ _ _ _ _ _ _ _ _)); (fail_if_success (with_reducible show KswEnd _ _ _ _ _ _ _ _ _ _ _ _)); first | walk1 | (dsimp only; walk1)) | fail "no step"))
local macro_rules | `(tactic| walk_at "eval ListComp") => `(tactic| (k_here; lcf_look; k_dflt (refine LCg.ListComp_U (F₀ := by k_asm) (by with_unfolding_all rfl) (by decide) (by rfl) (by decide) (by rfl) ?_)))
section
local macro_rules | `(tactic| walk_at "compareOp In int ref") => `(tactic| (k_here; (with_reducible show wpAny _ _ (compareOp CmpOp.In (Value.int _ _) (Value.ref 22)) _ _ _); k_dflt (refine' in_tuple_ints (ns := [0, 9, 10, 12, 13, 32]) ?k1 ?k2 ?_; (case k1 => exact kun_topT (by k_asm) (by k_asm) (by k_is)); (case k2 => l_intsW); k_whole)))
set_option maxRecDepth 100000 in
set_option maxHeartbeats 1000000 in
theorem skipw {w : World} {mean : ExcName → Option Value} {mg mb : Str → Option Value} {dp un : Nat} {gd : Option (List Code)} {cn : Str} {cs : Scope} {a : Addr} {ccd : Value} {cl : List (Str × Addr)} {outer : List Env} {A₀ : Around} {base h₀ : Heap} {L : Addr} {m : Str → Option Value} {s : Shared} {Q E : Value → Shared → Prop}
    {x d : Addr} {k1 k2 k3 : Tok} {b : Array UInt8} {ks : List Int} {t0 : Tok} {i : Int} {ti : Tok} {e : Int} {te : Tok} {news : List (Addr × Obj)}
    (B : Below A₀ base outer h₀) (F : Fr h₀ L s.heap m) (X : (hd.heap_39 w.params).In h₀)
    (N : News h₀ L s.heap ((x, instObj 140 d) :: (d, curD w.params k1 k2 k3 b t0 i ti e te) :: news))
    (T : Top hd.view_39 (looseW hd.view_39 []) mean mg mb h₀) (hk : cs.kind = .function)
    (hdx : @LT.lt Nat _ d x) (hne : ∀ q ∈ news, q.1 ≠ d) (hb : KBw.bInts b = ks)
    (h0 : 0 ≤ i) (h1 : i ≤ e) (h2 : e ≤ ks.length) (h3 : ks.length ≤ 64)
    (hdp : dp + 3 < recursionLimit) (hu : un + 24 < cLine)
    (ret : ∀ j tj h' tk', Fr h₀ L h' m → News h₀ L h' ((x, instObj 140 d) :: (d, curD w.params k1 k2 k3 b t0 j tj e te) :: news) → i ≤ j → j ≤ e → Skips ks i j e → (¬ j < e ∨ (ks.getD j.toNat 0 ≠ 37 ∧ isWhite (ks.getD j.toNat 0) = false)) → Q .none { s with heap := h', toks := tk' }) :
    wpAny (model PySem.Challenge.rw_og0133_02.row.prog w) (ktrTop dp un gd cn cs L a ccd cl outer) (call (.ref 95) [.ref x]) Q E s := by
  revert X
  k_fill
  intro X
  dsimp only [curD] at N
  k_with "state" => (first | exact ⟨Int.le_refl _, h1, skips_nil⟩)
  k_steps
  k_while (fun _ at9 => i ≤ at9 ∧ at9 ≤ e ∧ Skips ks i at9 e) (fun _ at9 => (e - at9).toNat) "self.at"
  k_steps
  · rename ((_ : Int) = 37) => h37
    rename Skips ks i _ e => hS9
    rename (_ < e) => hlt9
    rename (i ≤ _) => hle9
    rename Int => a9
    have hC9 := skips_open (Int.le_trans h0 hle9) hlt9 h2 hS9 h37
    k_with "state" => (first | exact ⟨Int.le_refl _, Int.le_of_lt hlt9, hC9⟩ | exact ⟨by omega, by omega, skips_in (by omega) (by omega) h2 (by assumption) (by assumption)⟩)
    k_while (fun _ b9 => a9 ≤ b9 ∧ b9 ≤ e ∧ SkipsC ks i b9 e) (fun _ b9 => (e - b9).toNat) "self.at"
    k_steps
    k_with "state" => (first | exact ⟨by omega, by omega, skips_close (by omega) (by omega) h2 (by assumption) (by assumption)⟩ | exact ⟨by omega, by omega, skips_end (by assumption) (by assumption)⟩ | exact ⟨by omega, by omega, skips_in (by omega) (by omega) h2 (by assumption) (by assumption)⟩)
    all_goals first
      | (rename (a9 ≤ _) => hl8; have hm9 := moved hl8 hlt9 h37 (by first | exact .inr (by assumption) | exact .inl (by assumption)); walk1)
      | walk1
  · k_with "state" => exact ⟨by omega, by omega, skips_white (by omega) (by omega) h2 (by assumption) (by assumption) (by assumption)⟩
    walk1
  · k_with_none
    exact ret _ _ _ _ (by assumption) (by assumption) (by assumption) (by assumption) (by assumption) (.inr ⟨by assumption, by assumption⟩)
  · k_with_none
    exact ret _ _ _ _ (by assumption) (by assumption) (by assumption) (by assumption) (by assumption) (.inl (by assumption))
end
end Mine
end
namespace Mine
theorem walkReset9 : True := by w_top off; trivial
end Mine
section
open PySem PySem.W PyProof.Rows PySem.Spec
namespace Mine
def TEnd {σ : Type} (h₀ : Heap) (L : Addr) (s : Shared) (Led : σ → List (Addr × Obj)) (ps : σ → List (Str × Value)) (stored : List Str) (m₀ : Str → Option Value) (P : σ → Prop) (I : Addr) (oI : Obj) (s₂ : Shared) : Prop :=
  ∃ (c' : σ) (h' : Heap) (tk : Nat) (m' : Str → Option Value) (news' : List (Addr × Obj)), s₂ = { s with heap := h', toks := tk } ∧ Fr h₀ L h' m' ∧ News h₀ L h' news' ∧ (∀ p ∈ (I, oI) :: Led c', p ∈ news') ∧ (∀ p ∈ Led c', p.1 ≠ I) ∧ (∀ p ∈ ps c', m' p.1 = some p.2) ∧ (∀ z, (∀ p ∈ ps c', z ≠ p.1) → stored.contains z = false → m' z = m₀ z) ∧ P c'
def TPost {σ : Type} (h₀ : Heap) (L : Addr) (s : Shared) (Led : σ → List (Addr × Obj)) (ps : σ → List (Str × Value)) (stored : List Str) (m₀ : Str → Option Value) (P : σ → Prop) (I : Addr) (oI : Obj) (Q : Flow → Shared → Prop) (f : Flow) (s₂ : Shared) : Prop :=
  match f with
  | .ret v => Q (.ret v) s₂
  | .brk => Q .next s₂
  | _ => TEnd h₀ L s Led ps stored m₀ P I oI s₂
theorem tend {σ : Type} {h₀ : Heap} {L : Addr} {s : Shared} {Led : σ → List (Addr × Obj)} {ps : σ → List (Str × Value)} {stored : List Str} {m₀ m' : Str → Option Value} {P : σ → Prop} {I : Addr} {oI : Obj} {h' : Heap} {tk : Nat} {news' : List (Addr × Obj)} (c' : σ)
    (F : Fr h₀ L h' m') (N : News h₀ L h' news') (hn : ∀ p ∈ (I, oI) :: Led c', p ∈ news') (ha : ∀ p ∈ Led c', p.1 ≠ I) (hk : ∀ p ∈ ps c', m' p.1 = some p.2) (hr : ∀ z, (∀ p ∈ ps c', z ≠ p.1) → stored.contains z = false → m' z = m₀ z) (hp : P c') :
    TEnd h₀ L s Led ps stored m₀ P I oI { s with heap := h', toks := tk } := ⟨c', h', tk, m', news', rfl, F, N, hn, ha, hk, hr, hp⟩
section
variable {prog : Program} {w : World} {A : Around} {E : Value → Shared → Prop} {Q : Flow → Shared → Prop} {s : Shared} {env : Env} {h₀ : Heap} {target : PySem.Expr} {body : List Stmt}
theorem turns_core {σ : Type} {I : Addr} {fp : List Addr} {n : Nat} {P : Nat → Value → Prop} {St : Nat → Heap → Prop} {m₀ : Str → Option Value} (Led : σ → List (Addr × Obj)) (ps : σ → List (Str × Value)) (stored : List Str) (Inv : Nat → σ → Prop) (c₀ : σ)
    (W : Walks prog w A I fp [I] n P St) (hgo : ∀ i v (s : Shared) (Q : Unit → Shared → Prop) (E : Value → Shared → Prop), St i s.heap → Q () s → wpAny (model prog w) A (letOwnedTupleGo target (.ref I) v) Q E s)
    (hfp : ∀ b ∈ fp, b = I ∨ ∃ o, ∀ c, (b, o) ∈ Led c) (hIo : ∀ i h, St i h → ∃ o, h.get? I = some o) (hLf : env.locals ∉ fp) (hI₀ : h₀.get? I = none) (hst : St 0 s.heap)
    (F : Fr h₀ env.locals s.heap m₀) (N : News h₀ env.locals s.heap (Led c₀)) (hne : ∀ p ∈ Led c₀, p.1 ≠ I) (hk : ∀ p ∈ ps c₀, m₀ p.1 = some p.2) (hI : Inv 0 c₀)
    (turn : ∀ i v c (u : Str → Option Value) h tk oI, i < n → P i v → Inv i c → (∀ p ∈ Led c, p.1 ≠ I) → Fr h₀ env.locals h (kstB (fun z => if stored.contains z then u z else m₀ z) (ps c)) → News h₀ env.locals h ((I, oI) :: Led c) →
      wpAny (model prog w) A (assign target env v) (fun _ s₃ => wpAny (model prog w) A (execs body env) (TPost h₀ env.locals { s with heap := h, toks := tk } Led ps stored m₀ (Inv (i + 1)) I oI Q) E s₃) E { s with heap := h, toks := tk })
    (done : ∀ c (u : Str → Option Value) h tk, Inv n c → Fr h₀ env.locals h (kstB (fun z => if stored.contains z then u z else m₀ z) (ps c)) → News h₀ env.locals h (Led c) → Q .next { s with heap := h, toks := tk }) :
    TurnsAt prog w A h₀ env target body Q E (.ref I) s := by
  refine ⟨I, fp, [I], n, _, _, St, m₀, Led c₀, (fun i m nx => ∃ c, nx = Led c ∧ (∀ p ∈ ps c, m p.1 = some p.2) ∧ (∀ z, (∀ p ∈ ps c, z ≠ p.1) → stored.contains z = false → m z = m₀ z) ∧ Inv i c), rfl, KTurns.ofWalks W hgo, hLf, ?_, ?_, hst, F, N, ⟨c₀, rfl, hk, fun _ _ _ => rfl, hI⟩, ?_, ?_⟩
  · intro b hb
    rw [List.mem_singleton.mp hb]
    exact hI₀
  · intro p hp hm
    exact hne p hp (List.mem_singleton.mp hm)
  · rintro i v m₁ news₁ h₁ tk₁ own hi hP ⟨c, rfl, h1, h2, hInv⟩ hoff hown hget hall hst₁ F₁ N₁
    obtain ⟨oI, hoI⟩ := hIo _ _ hst₁
    have hIown : (I, oI) ∈ own := hall I (W.sub I (List.mem_singleton.mpr rfl)) hI₀ oI hoI
    have hneI : ∀ p ∈ Led c, p.1 ≠ I := fun p hp e => hoff p hp (List.mem_singleton.mpr e)
    have N₂ : News h₀ env.locals h₁ ((I, oI) :: Led c) := fun p hp => N₁ p (by
      rcases List.mem_cons.mp hp with rfl | hp
      · exact List.mem_append_left _ hIown
      · exact List.mem_append_right _ hp)
    refine wpAny_mono (turn i v c m₁ h₁ tk₁ oI hi hP hInv hneI (ksw_fr h1 h2 F₁) N₂) (fun _ s₃ hq => wpAny_mono hq (fun f s₄ p => ?_) fun _ _ e => e) fun _ _ e => e
    have fin : TEnd h₀ env.locals { s with heap := h₁, toks := tk₁ } Led ps stored m₀ (Inv (i + 1)) I oI s₄ → LoopStepU h₀ env.locals [I] own (fun m nx => ∃ c, nx = Led c ∧ (∀ p ∈ ps c, m p.1 = some p.2) ∧ (∀ z, (∀ p ∈ ps c, z ≠ p.1) → stored.contains z = false → m z = m₀ z) ∧ Inv (i + 1) c) { s with heap := h₁, toks := tk₁ } .next s₄ := by
      rintro ⟨c', h', tk, m', news', e, F', N', hn, ha, hk', hr', hInv'⟩
      refine ⟨rfl, h', tk, m', Led c', e, F', fun p hp => ?_, fun p hp hm => ha p hp (List.mem_singleton.mp hm), c', rfl, hk', hr', hInv'⟩
      rcases List.mem_append.mp hp with hp | hp
      · rcases hfp p.1 (hown p hp) with e1 | ⟨o, ho⟩
        · have h3 : p.2 = oI := by
            have := hget p hp
            rw [e1, hoI] at this
            exact (Option.some.inj this).symm
          have : p = (I, oI) := Prod.ext e1 h3
          rw [this]
          exact N' _ (hn _ (.head _))
        · have h3 : p.2 = o := by
            have h4 := hget p hp
            have h5 := (N₂ _ (.tail _ (ho c))).1
            rw [h5] at h4
            exact (Option.some.inj h4).symm
          have h6 : p = (p.1, o) := Prod.ext rfl h3
          rw [h6]
          exact N' _ (hn _ (.tail _ (ho c')))
      · exact N' p (hn p (.tail _ hp))
    cases f with
    | ret v => exact p
    | brk => exact p
    | cont => exact fin p
    | next => exact fin p
  · rintro h' tk m' news' F' N' _ ⟨c, rfl, h1, h2, hInv⟩
    exact done c m' h' tk hInv (ksw_fr h1 h2 F') N'
theorem turns_list {σ : Type} {l : Addr} {vs : List Value} {nn : Nat} {m₀ : Str → Option Value} (Led : σ → List (Addr × Obj)) (ps : σ → List (Str × Value)) (stored : List Str) (Inv : Nat → σ → Prop) (c₀ : σ)
    (hh : A.handled = none) (hl : ∀ c : σ, (l, listOf vs.toArray nn) ∈ Led c)
    (F : Fr h₀ env.locals s.heap m₀) (N : News h₀ env.locals s.heap (Led c₀)) (hk : ∀ p ∈ ps c₀, m₀ p.1 = some p.2) (hI : Inv 0 c₀)
    (turn : ∀ i v c (u : Str → Option Value) h tk I oI, i < vs.length → vs[i]? = some v → Inv i c → (∀ p ∈ Led c, p.1 ≠ I) → Fr h₀ env.locals h (kstB (fun z => if stored.contains z then u z else m₀ z) (ps c)) → News h₀ env.locals h ((I, oI) :: Led c) →
      wpAny (model prog w) A (assign target env v) (fun _ s₃ => wpAny (model prog w) A (execs body env) (TPost h₀ env.locals { s with heap := h, toks := tk } Led ps stored m₀ (Inv (i + 1)) I oI Q) E s₃) E { s with heap := h, toks := tk })
    (done : ∀ c (u : Str → Option Value) h tk, Inv vs.length c → Fr h₀ env.locals h (kstB (fun z => if stored.contains z then u z else m₀ z) (ps c)) → News h₀ env.locals h (Led c) → Q .next { s with heap := h, toks := tk }) :
    wpAny (model prog w) A (pyIter (.ref l)) (fun it s₂ => TurnsAt prog w A h₀ env target body Q E it s₂) E s := by
  have hol : s.heap.get? l = some (listOf vs.toArray nn) := (N _ (hl c₀)).1
  have hls : s.heap.IsList l vs.toArray := ⟨_, hol, rfl, nn, rfl⟩
  have hne : l ≠ s.heap.objs.size := Nat.ne_of_lt (Heap.lt_size hol)
  refine wpAny_pyIter_list hls ?_
  have W := Walks.list (prog := prog) (w := w) hh s.heap.objs.size l hne vs.toArray
  refine turns_core (s := { s with heap := _ }) Led ps stored Inv c₀ W (fun i v s Q E st q => letGo_listiter st.1 q) ?_ ?_ ?_ (next_is_new F) ⟨⟨_, Heap.get?_push_size _ rfl, rfl, rfl⟩, hls.at fun o e => Heap.get?_push_of_some _ e⟩ (F.push _) (fun p hp => ⟨Heap.get?_push_of_some _ (N p hp).1, (N p hp).2⟩) ?_ hk hI ?_ ?_
  · intro b hb
    rcases List.mem_cons.mp hb with e | hb
    · exact .inl e
    · rw [List.mem_singleton.mp hb]; exact .inr ⟨_, hl⟩
  · rintro i h ⟨⟨o, e, _⟩, _⟩
    exact ⟨o, e⟩
  · intro hm
    rcases List.mem_cons.mp hm with e | hm
    · exact absurd F.ns.lt (e ▸ Nat.lt_irrefl _)
    · exact (N _ (hl c₀)).2.1 ((List.mem_singleton.mp hm).symm)
  · intro p hp e
    exact absurd (Heap.lt_size (N p hp).1) (by rw [e]; exact Nat.lt_irrefl _)
  · intro i v c u h tk oI hi hP hInv hn F1 N1
    exact turn i v c u h tk _ oI (by simpa using hi) (by simpa using hP) hInv hn F1 N1
  · intro c u h tk hInv F1 N1
    exact done c u h tk (by simpa using hInv) F1 N1
theorem turns_bytes {σ : Type} {b : Array UInt8} {ks : List Int} {tb : Tok} {m₀ : Str → Option Value} (Led : σ → List (Addr × Obj)) (ps : σ → List (Str × Value)) (stored : List Str) (Inv : Nat → σ → Prop) (c₀ : σ)
    (hb : KBw.bInts b = ks) (hh : A.handled = none) (hgo : ∀ it v, letOwnedTupleGo target it v = pure ())
    (F : Fr h₀ env.locals s.heap m₀) (N : News h₀ env.locals s.heap (Led c₀)) (hk : ∀ p ∈ ps c₀, m₀ p.1 = some p.2) (hI : Inv 0 c₀)
    (turn : ∀ i k tv c (u : Str → Option Value) h tk I oI, i < ks.length → ks.getD i 0 = k → 0 ≤ k → k < 256 → Inv i c → (∀ p ∈ Led c, p.1 ≠ I) → Fr h₀ env.locals h (kstB (fun z => if stored.contains z then u z else m₀ z) (ps c)) → News h₀ env.locals h ((I, oI) :: Led c) →
      wpAny (model prog w) A (assign target env (.int k tv)) (fun _ s₃ => wpAny (model prog w) A (execs body env) (TPost h₀ env.locals { s with heap := h, toks := tk } Led ps stored m₀ (Inv (i + 1)) I oI Q) E s₃) E { s with heap := h, toks := tk })
    (done : ∀ c (u : Str → Option Value) h tk, Inv ks.length c → Fr h₀ env.locals h (kstB (fun z => if stored.contains z then u z else m₀ z) (ps c)) → News h₀ env.locals h (Led c) → Q .next { s with heap := h, toks := tk }) :
    wpAny (model prog w) A (pyIter (.bytes b tb)) (fun it s₂ => TurnsAt prog w A h₀ env target body Q E it s₂) E s := by
  have hsz : b.size = ks.length := by rw [← KBw.ints_length, hb]
  refine KBw.pyIter_bytes ?_
  have W := KBw.walks (prog := prog) (w := w) hh s.heap.objs.size b tb
  refine turns_core (s := { s with heap := _ }) Led ps stored Inv c₀ W (fun i v s Q E st q => wpAny_of_eq (hgo _ _) q) ?_ ?_ ?_ (next_is_new F) ⟨_, Heap.get?_push_size _ rfl, rfl, rfl⟩ (F.push _) (fun p hp => ⟨Heap.get?_push_of_some _ (N p hp).1, (N p hp).2⟩) ?_ hk hI ?_ ?_
  · intro c hc
    exact .inl (List.mem_singleton.mp hc)
  · rintro i h ⟨o, e, _⟩
    exact ⟨o, e⟩
  · intro hm
    exact absurd F.ns.lt ((List.mem_singleton.mp hm) ▸ Nat.lt_irrefl _)
  · intro p hp e
    exact absurd (Heap.lt_size (N p hp).1) (by rw [e]; exact Nat.lt_irrefl _)
  · rintro i v c u h tk oI hi ⟨n, t, hn, rfl⟩ hInv hne F1 N1
    have h1 := KBw.ints_get hn
    rw [hb] at h1
    have h2 := KBw.ints_in (List.mem_of_getElem? (hb ▸ h1 : (KBw.bInts b)[i]? = some _))
    exact turn i _ t c u h tk _ oI (hsz ▸ hi) (by rw [List.getD_eq_getElem?_getD, h1]; rfl) h2.1 h2.2 hInv hne F1 N1
  · intro c u h tk hInv F1 N1
    exact done c u h tk (hsz ▸ hInv) F1 N1
theorem turns_range {σ : Type} {r : Addr} {a b : Int} {t1 t2 t3 : Tok} {n : Nat} {m₀ : Str → Option Value} (Led : σ → List (Addr × Obj)) (ps : σ → List (Str × Value)) (stored : List Str) (Inv : Nat → σ → Prop) (c₀ : σ)
    (hr : IsRange s.heap r a b 1 t1 t2 t3) (hsm : Builtin.Range.small a b 1 = true) (hn : Builtin.Range.rangeSize a b 1 = ((n : Nat) : Int)) (hh : A.handled = none) (hgo : ∀ it v, letOwnedTupleGo target it v = pure ())
    (F : Fr h₀ env.locals s.heap m₀) (N : News h₀ env.locals s.heap (Led c₀)) (hk : ∀ p ∈ ps c₀, m₀ p.1 = some p.2) (hI : Inv 0 c₀)
    (turn : ∀ i tv c (u : Str → Option Value) h tk I oI, i < n → Inv i c → (∀ p ∈ Led c, p.1 ≠ I) → Fr h₀ env.locals h (kstB (fun z => if stored.contains z then u z else m₀ z) (ps c)) → News h₀ env.locals h ((I, oI) :: Led c) →
      wpAny (model prog w) A (assign target env (.int (a + (i : Int)) tv)) (fun _ s₃ => wpAny (model prog w) A (execs body env) (TPost h₀ env.locals { s with heap := h, toks := tk } Led ps stored m₀ (Inv (i + 1)) I oI Q) E s₃) E { s with heap := h, toks := tk })
    (done : ∀ c (u : Str → Option Value) h tk, Inv n c → Fr h₀ env.locals h (kstB (fun z => if stored.contains z then u z else m₀ z) (ps c)) → News h₀ env.locals h (Led c) → Q .next { s with heap := h, toks := tk }) :
    wpAny (model prog w) A (pyIter (.ref r)) (fun it s₂ => TurnsAt prog w A h₀ env target body Q E it s₂) E s := by
  refine wpAny_pyIter_range hr hsm ?_
  have W := LCg.range_walks (prog := prog) (w := w) (I := s.heap.objs.size) hh a n
  refine turns_core (s := { s with heap := _ }) Led ps stored Inv c₀ W (fun i v s Q E st q => wpAny_of_eq (hgo _ _) q) ?_ ?_ ?_ (next_is_new F) ?_ (F.push _) (fun p hp => ⟨Heap.get?_push_of_some _ (N p hp).1, (N p hp).2⟩) ?_ hk hI ?_ ?_
  · intro c hc
    exact .inl (List.mem_singleton.mp hc)
  · intro i h e
    exact ⟨_, e⟩
  · intro hm
    exact absurd F.ns.lt ((List.mem_singleton.mp hm) ▸ Nat.lt_irrefl _)
  · rw [hn]
    refine (Heap.get?_push_size _ rfl).trans ?_
    simp [rawInt]
  · intro p hp e
    exact absurd (Heap.lt_size (N p hp).1) (by rw [e]; exact Nat.lt_irrefl _)
  · rintro i v c u h tk oI hi ⟨t, rfl⟩ hInv hne F1 N1
    exact turn i t c u h tk _ oI hi hInv hne F1 N1
  · intro c u h tk hInv F1 N1
    exact done c u h tk hInv F1 N1
end
end Mine
end
namespace Mine
theorem walkReset10 : True := by w_top off; trivial
end Mine
section
open PySem PySem.W PyProof.Rows PySem.Spec
namespace Mine
abbrev pairO (p : Int) (t : Tok) (b : Addr) (ka : Nat) : Obj := listOf (List.toArray [Value.int p t, Value.ref b]) ka
/-- vs are references to lists of a place and a list of octets, in tl -/
inductive PartsIn (tl : List (Addr × Obj)) : List Value → Pts → Prop
  | nil : PartsIn tl [] []
  | snoc {vs : List Value} {ps : Pts} {a b : Addr} {p : Int} {t : Tok} {ws : List Value} {cs : List Int} {ka kb : Nat} (h : PartsIn tl vs ps) (hm : (a, pairO p t b ka) ∈ tl) (hb : (b, listOf ws.toArray kb) ∈ tl) (hi : IntsAre ws cs) (hin : KBa.In cs) (hz : ws.length ≤ 64) :
      PartsIn tl (vs ++ [.ref a]) (ps ++ [(p, cs)])
theorem PartsIn.mono {tl tl' : List (Addr × Obj)} {vs : List Value} {ps : Pts} (h : PartsIn tl vs ps) (hs : ∀ p ∈ tl, p ∈ tl') : PartsIn tl' vs ps := by
  induction h with
  | nil => exact .nil
  | snoc _ hm hb hi hin hz ih => exact .snoc ih (hs _ hm) (hs _ hb) hi hin hz
theorem PartsIn.length {tl : List (Addr × Obj)} {vs : List Value} {ps : Pts} (h : PartsIn tl vs ps) : vs.length = ps.length := by
  induction h with
  | nil => rfl
  | snoc _ _ _ _ _ _ ih => simp [ih]
theorem PartsIn.get {tl : List (Addr × Obj)} {vs : List Value} {ps : Pts} (h : PartsIn tl vs ps) : ∀ (i : Nat) (v : Value), vs[i]? = some v → ∃ a b p t ws cs ka kb, v = .ref a ∧ (a, pairO p t b ka) ∈ tl ∧ (b, listOf ws.toArray kb) ∈ tl ∧ IntsAre ws cs ∧ KBa.In cs ∧ ps[i]? = some (p, cs) ∧ ws.length ≤ 64 := by
  induction h with
  | nil => intro i v h; simp at h
  | @snoc vs ps a b p t ws cs ka kb h hm hb hi hin hz ih =>
    intro i v hv
    by_cases hlt : i < vs.length
    · rw [List.getElem?_append_left hlt] at hv
      obtain ⟨a', b', p', t', ws', cs', ka', kb', e1, e2, e3, e4, e5, e6, e7⟩ := ih i v hv
      exact ⟨a', b', p', t', ws', cs', ka', kb', e1, e2, e3, e4, e5, by rw [List.getElem?_append_left (by rw [← h.length]; exact hlt)]; exact e6, e7⟩
    · have hge : vs.length ≤ i := by omega
      rw [List.getElem?_append_right hge] at hv
      have h0 : i - vs.length = 0 := by
        by_cases q : i - vs.length = 0
        · exact q
        · rw [List.getElem?_eq_none (by simp; omega)] at hv; cases hv
      rw [h0] at hv
      simp only [List.getElem?_cons_zero, Option.some.injEq] at hv
      refine ⟨a, b, p, t, ws, cs, ka, kb, hv.symm, hm, hb, hi, hin, ?_, hz⟩
      rw [List.getElem?_append_right (by rw [← h.length]; exact hge), ← h.length, h0]
      rfl
structure PS where
  j : Int
  tj : Tok
  cm : Bool
  run : Bool
  vs : List Value
  kf : Nat
  ps : Pts
  tl : List (Addr × Obj)
/-- the last part stands ahead in tl, and may grow -/
def LastOk (news : List (Addr × Obj)) (fd : Addr) (i : Nat) (vs : List Value) (ps : Pts) (tl : List (Addr × Obj)) : Prop :=
  ∃ (a b : Addr) (p : Int) (t : Tok) (ws : List Value) (cs : List Int) (ka kb : Nat) (vs' : List Value) (ps' : Pts) (tl' : List (Addr × Obj)),
    tl = (b, listOf ws.toArray kb) :: (a, pairO p t b ka) :: tl' ∧ vs = vs' ++ [.ref a] ∧ ps = ps' ++ [(p, cs)] ∧ IntsAre ws cs ∧ KBa.In cs ∧ PartsIn tl' vs' ps' ∧ ws.length ≤ i ∧ (∀ q ∈ (a, pairO p t b ka) :: (tl' ++ news), q.1 ≠ b) ∧ (@Ne Nat b fd)
structure PInv (ks : List Int) (news : List (Addr × Obj)) (fd : Addr) (i : Nat) (c : PS) : Prop where
  at' : c.j = (i : Int)
  parts : PartsIn c.tl c.vs c.ps
  last : c.run = true → LastOk news fd i c.vs c.ps c.tl
  eq : go [] 0 false false ks = go c.ps (i : Int) c.cm c.run (ks.drop i)
  lenP : c.ps.length ≤ i
  neF : ∀ q ∈ c.tl ++ news, q.1 ≠ fd
  ap : ∀ q ∈ c.tl, ∀ p ∈ news, p.1 ≠ q.1
theorem drop_nth {ks : List Int} {i : Nat} {k : Int} (h : i < ks.length) (hk : ks.getD i 0 = k) : ks.drop i = k :: ks.drop (i + 1) := by
  rw [List.drop_eq_getElem_cons h, ← hk, List.getD_eq_getElem?_getD, List.getElem?_eq_getElem h, Option.getD_some]
section
variable {ks : List Int} {news : List (Addr × Obj)} {fd : Addr} {i : Nat} {j : Int} {tj : Tok} {cm run : Bool} {vs : List Value} {kf : Nat} {ps : Pts} {tl : List (Addr × Obj)} {k : Int}
theorem pinv_skip (h : PInv ks news fd i ⟨j, tj, cm, run, vs, kf, ps, tl⟩) (hi : i < ks.length) (hk : ks.getD i 0 = k) {j' : Int} {tj' : Tok} {cm' : Bool} {kf' : Nat} (hj : j' = j + 1)
    (he : ∀ r, go ps (i : Int) cm run (k :: r) = go ps ((i : Int) + 1) cm' false r) : PInv ks news fd (i + 1) ⟨j', tj', cm', false, vs, kf', ps, tl⟩ := by
  obtain ⟨i1, i2, i3, i4, i5, i6, i7⟩ := h
  dsimp only at *
  refine ⟨by dsimp only; omega, i2, (fun q => nomatch q), ?_, by dsimp only; omega, i6, i7⟩
  dsimp only
  rw [i4, drop_nth hi hk, he]
  rfl
theorem pinv_new (h : PInv ks news fd i ⟨j, tj, cm, run, vs, kf, ps, tl⟩) (hi : i < ks.length) (hk : ks.getD i 0 = k) {j' : Int} {tj' t tk : Tok} {cm' run' : Bool} {kf' ka kb : Nat} {a b : Addr} (hj : j' = j + 1) (h0 : 0 ≤ k) (h1 : k < 256)
    (he : ∀ r, go ps (i : Int) cm run (k :: r) = go (ps ++ [((i : Int), [k])]) ((i : Int) + 1) cm' run' r)
    (hab : @Ne Nat a b) (haf : @Ne Nat a fd) (hbf : @Ne Nat b fd) (ha : ∀ q ∈ tl ++ news, q.1 ≠ a) (hb : ∀ q ∈ tl ++ news, q.1 ≠ b) :
    PInv ks news fd (i + 1) ⟨j', tj', cm', run', vs ++ [.ref a], kf', ps ++ [(j, [k])], (b, listOf (List.toArray [Value.int k tk]) kb) :: (a, pairO j t b ka) :: tl⟩ := by
  obtain ⟨i1, i2, i3, i4, i5, i6, i7⟩ := h
  dsimp only at *
  subst i1
  have hin : KBa.In [k] := fun z hz => by rw [List.mem_singleton.mp hz]; exact ⟨h0, h1⟩
  refine ⟨by dsimp only; omega, .snoc (i2.mono fun p hp => .tail _ (.tail _ hp)) (.tail _ (.head _)) (.head _) (.cons _ _ .nil) hin (by simp), fun _ => ⟨a, b, _, t, [Value.int k tk], [k], ka, kb, vs, ps, tl, rfl, rfl, rfl, .cons _ _ .nil, hin, i2, by simp, ?_, hbf⟩, ?_, by dsimp only; simp; omega, ?_, ?_⟩
  · intro q hq
    rcases List.mem_cons.mp hq with rfl | hq
    · exact hab
    · exact hb q hq
  · dsimp only
    rw [i4, drop_nth hi hk, he]
    rfl
  · dsimp only
    intro q hq
    rcases List.mem_cons.mp hq with rfl | hq
    · exact hbf
    rcases List.mem_cons.mp hq with rfl | hq
    · exact haf
    · exact i6 q hq
  · dsimp only
    intro q hq p hp
    rcases List.mem_cons.mp hq with rfl | hq
    · exact hb p (List.mem_append_right _ hp)
    rcases List.mem_cons.mp hq with rfl | hq
    · exact ha p (List.mem_append_right _ hp)
    · exact i7 q hq p hp
end
theorem pinv_more {ks : List Int} {news : List (Addr × Obj)} {fd : Addr} {i : Nat} {j : Int} {tj : Tok} {cm : Bool} {vs' : List Value} {kf : Nat} {ps' : Pts} {tl' : List (Addr × Obj)} {k : Int} {a b : Addr} {p : Int} {t : Tok} {ws : List Value} {cs : List Int} {ka kb : Nat}
    (h : PInv ks news fd i ⟨j, tj, cm, true, vs' ++ [.ref a], kf, ps' ++ [(p, cs)], (b, listOf ws.toArray kb) :: (a, pairO p t b ka) :: tl'⟩) (h3 : ks.length ≤ 64) (hi : i < ks.length) (hk : ks.getD i 0 = k) {j' : Int} {tj' tk : Tok} {kf' kb' : Nat} (hj : j' = j + 1) (h0 : 0 ≤ k) (h1 : k < 256)
    (q1 : IntsAre ws cs) (q2 : KBa.In cs) (q3 : PartsIn tl' vs' ps') (q4 : ws.length ≤ i) (q5 : ∀ q ∈ (a, pairO p t b ka) :: (tl' ++ news), q.1 ≠ b) (q6 : @Ne Nat b fd)
    (he : ∀ r, go (ps' ++ [(p, cs)]) (i : Int) cm true (k :: r) = go (ps' ++ [(p, cs ++ [k])]) ((i : Int) + 1) false true r) :
    PInv ks news fd (i + 1) ⟨j', tj', false, true, vs' ++ [.ref a], kf', ps' ++ [(p, cs ++ [k])], (b, listOf (ws ++ [Value.int k tk]).toArray kb') :: (a, pairO p t b ka) :: tl'⟩ := by
  obtain ⟨i1, i2, i3, i4, i5, i6, i7⟩ := h
  dsimp only at *
  have hin : KBa.In (cs ++ [k]) := fun z hz => by
    rcases List.mem_append.mp hz with hz | hz
    · exact q2 z hz
    · rw [List.mem_singleton.mp hz]; exact ⟨h0, h1⟩
  have hia : IntsAre (ws ++ [Value.int k tk]) (cs ++ [k]) := IntsAre.append q1 (.cons _ _ .nil)
  refine ⟨by dsimp only; omega, .snoc (q3.mono fun p hp => .tail _ (.tail _ hp)) (.tail _ (.head _)) (.head _) hia hin (by simp; omega), fun _ => ⟨a, b, p, t, _, _, ka, kb', vs', ps', tl', rfl, rfl, rfl, hia, hin, q3, by simp; omega, q5, q6⟩, ?_, ?_, ?_, ?_⟩
  · dsimp only
    rw [i4, drop_nth hi hk, he]
    rfl
  · simp at i5 ⊢; omega
  · dsimp only
    intro q hq
    rcases List.mem_cons.mp hq with rfl | hq
    · exact q6
    · exact i6 q (.tail _ hq)
  · dsimp only
    intro q hq p hp
    rcases List.mem_cons.mp hq with rfl | hq
    · exact q5 p (.tail _ (List.mem_append_right _ hp))
    · exact i7 q (.tail _ hq) p hp
/-- a written tuple of a place and octets -/
abbrev ptO (p : Int) (tp : Tok) (b : Array UInt8) (t : Tok) : Obj := { cls := .type "tuple", data := .seq (List.toArray [Value.int p tp, Value.bytes b t]) }
/-- vs are references to such tuples -/
inductive PtsAre (tl : List (Addr × Obj)) : List Value → Pts → Prop
  | nil : PtsAre tl [] []
  | snoc {vs : List Value} {ps : Pts} {a : Addr} {b : Array UInt8} {t tp : Tok} {p : Int} {l : List Int} (h : PtsAre tl vs ps) (hm : (a, ptO p tp b t) ∈ tl) (hb : KBw.bInts b = l) : PtsAre tl (vs ++ [.ref a]) (ps ++ [(p, l)])
theorem PtsAre.mono {tl tl' : List (Addr × Obj)} {vs : List Value} {ps : Pts} (h : PtsAre tl vs ps) (hs : ∀ p ∈ tl, p ∈ tl') : PtsAre tl' vs ps := by
  induction h with
  | nil => exact .nil
  | snoc _ hm hb ih => exact .snoc ih (hs _ hm) hb
theorem PtsAre.length {tl : List (Addr × Obj)} {vs : List Value} {ps : Pts} (h : PtsAre tl vs ps) : vs.length = ps.length := by
  induction h with
  | nil => rfl
  | snoc _ _ _ ih => simp [ih]
theorem PtsAre.get {tl : List (Addr × Obj)} {vs : List Value} {ps : Pts} (h : PtsAre tl vs ps) : ∀ (i : Nat) (p : Int) (l : List Int), ps[i]? = some (p, l) → ∃ a b t tp, vs[i]? = some (.ref a) ∧ (a, ptO p tp b t) ∈ tl ∧ KBw.bInts b = l := by
  induction h with
  | nil => intro i p l h; simp at h
  | @snoc vs ps a b t tp p l h hm hb ih =>
    intro i p' l' hi
    by_cases hlt : i < ps.length
    · rw [List.getElem?_append_left hlt] at hi
      obtain ⟨a', b', t', tp', e1, e2, e3⟩ := ih i p' l' hi
      exact ⟨a', b', t', tp', by rw [List.getElem?_append_left (by rw [h.length]; exact hlt)]; exact e1, e2, e3⟩
    · have hge : ps.length ≤ i := by omega
      rw [List.getElem?_append_right hge] at hi
      have h0 : i - ps.length = 0 := by
        by_cases q : i - ps.length = 0
        · exact q
        · rw [List.getElem?_eq_none (by simp; omega)] at hi; cases hi
      rw [h0] at hi
      simp only [List.getElem?_cons_zero, Option.some.injEq, Prod.mk.injEq] at hi
      obtain ⟨rfl, rfl⟩ := hi
      refine ⟨a, b, t, tp, ?_, hm, hb⟩
      rw [List.getElem?_append_right (by rw [h.length]; exact hge), h.length, h0]
      rfl
end Mine
end
namespace Mine
theorem walkReset11 : True := by w_top off; trivial
end Mine
section
open PySem PySem.W PyProof.Rows PySem.Spec PySem.Calls
namespace Mine
section
variable {prog : Program} {w : World} {A : Around} {E : Value → Shared → Prop} {s : Shared} {env : Env}
/-- two names out of a list of two -/
theorem pair_list {elts : List PySem.Expr} {x1} {pos : Pos} {l : Addr} {v1 v2 : Value} {Q : Unit → Shared → Prop} (hh : A.handled = none) (hl : s.heap.IsList l (List.toArray [v1, v2]))
    (hn : (assignEach elts env).length = 2) (hstar : (assignEach elts env).findIdx? (·.1) = none)
    (h : ∀ h' tk, (∀ b o, s.heap.get? b = some o → h'.get? b = some o) → wpAny (model prog w) A (assignInOrder ((assignEach elts env).map (·.2)) [v1, v2]) Q E { s with heap := h', toks := tk }) :
    wpAny (model prog w) A (assign (.Tuple elts x1 pos) env (.ref l)) Q E s := by
  have hlt : l ≠ s.heap.objs.size := by obtain ⟨o, ho, _⟩ := hl; exact Nat.ne_of_lt (Heap.lt_size ho)
  have W := Walks.list (prog := prog) (w := w) hh s.heap.objs.size l hlt (List.toArray [v1, v2])
  have keep : ∀ (g g' : Heap), (∀ b o, b ∉ [s.heap.objs.size] → g.get? b = some o → g'.get? b = some o) → (∀ b o, s.heap.get? b = some o → g.get? b = some o) → ∀ b o, s.heap.get? b = some o → g'.get? b = some o :=
    fun g g' k k0 b o e => k b o (fun hm => Nat.ne_of_lt (Heap.lt_size e) (List.mem_singleton.mp hm)) (k0 b o e)
  rw [assign_Tuple]
  refine wpAny_bind (wpAny_standAt ?_)
  unfold unpack
  rw [hn, hstar]
  refine wpAny_bind (wpAny_holding ?_)
  unfold unpackItems notIterableAtAll
  refine wpAny_bind (wpAny_bind (wpAny_specialOf hl.typeIs slot_list_iter.lookup (wpAny_pure ?_)))
  simp only [Bool.false_eq_true, if_false]
  refine wpAny_bind (wpAny_holding (wpAny_pyIter_list hl ?_))
  have k0 : ∀ b o, s.heap.get? b = some o → (s.heap.push { cls := .type "list_iterator", data := .fields #[.ref l, .int 0 0] }).get? b = some o := fun b o e => Heap.get?_push_of_some _ e
  refine wpAny_bind (wpAny_holding ?_)
  show wpAny _ _ (pyNext _ >>= _) _ _ _
  refine wpAny_bind (W.item 0 _ _ _ (by simp) ⟨⟨_, Heap.get?_push_size _ rfl, rfl, rfl⟩, hl.push _⟩ fun v g1 tk1 hv1 st1 k1 => ?_)
  have e1 : v = v1 := by simpa using hv1.symm
  subst e1
  refine wpAny_bind (wpAny_holding ?_)
  show wpAny _ _ (pyNext _ >>= _) _ _ _
  refine wpAny_bind (W.item 1 _ _ _ (by simp) st1 fun u g2 tk2 hv2 st2 k2 => ?_)
  have e2 : u = v2 := by simpa using hv2.symm
  subst e2
  refine wpAny_bind (wpAny_holding (wpAny_pure (wpAny_pure (wpAny_pure ?_))))
  rw [if_neg (by simp)]
  refine wpAny_bind (wpAny_holding (W.done _ _ _ st2 fun g3 tk3 k3 => ?_))
  simp only [Option.isSome_none, Bool.false_eq_true, if_false]
  exact wpAny_pure (h g3 tk3 (keep _ _ k3 (keep _ _ k2 (keep _ _ k1 k0))))
variable {h₀ : Heap} {L : Addr} {m : Str → Option Value}
/-- a comprehension over a list of lists of two, element by element, with a state -/
theorem comp_pairs {σ : Type} {elt iter : PySem.Expr} {x y : Str} {px py tp : Pos} {x1} {scope : Scope} {cl : List (Str × Addr)} {pos : Pos} {Q : Value → Shared → Prop} {ax : Addr} {vs : List Value} {kv : Nat}
    (Led : σ → List (Addr × Obj)) (I : Nat → List Value → σ → Prop) (c₀ : σ) (F₀ : Fr h₀ L s.heap m)
    (hclos : closureFor scope env = pure cl) (hcell : ∀ z ∈ scope.names, z.2 ≠ .cell) (hkind : scope.kind = .function)
    (hnames : ∀ z ∈ scope.names, z.2 = .local → scope.names.lookup z.1 = some .local) (hx : scope.names.lookup x = some .local) (hy : scope.names.lookup y = some .local) (hxy : x ≠ y)
    (hh : A.handled = none) (hsz : vs.length ≤ sizeLine)
    (hax : ∀ c, (ax, listOf vs.toArray kv) ∈ Led c)
    (hitem : ∀ (i : Nat) (v : Value), vs[i]? = some v → ∃ (a : Addr) (v1 v2 : Value) (n : Nat), v = .ref a ∧ ∀ c, (a, listOf (List.toArray [v1, v2]) n) ∈ Led c)
    (hiter : wpAny (model prog w) A (eval iter env) (fun xv s₁ => xv = .ref ax ∧ ∃ h tk, s₁ = { s with heap := h, toks := tk } ∧ Fr h₀ L h m ∧ News h₀ L h (Led c₀)) E s)
    (hI : I 0 [] c₀)
    (turn : ∀ (i : Nat) (a : Addr) (v1 v2 : Value) (n : Nat) c ys J oJ C oC D m₂ h tk (E' : Value → Shared → Prop), vs[i]? = some (.ref a) → (∀ c, (a, listOf (List.toArray [v1, v2]) n) ∈ Led c) → I i ys c → LCg.NsObj oC m₂ → m₂ x = some v1 → m₂ y = some v2 → Fr h₀ L h m →
      News h₀ L h ((J, oJ) :: (C, oC) :: (D, LCg.lst ys) :: Led c) → LCg.Off3 J C D (Led c) → ((@Ne Nat J C) ∧ (@Ne Nat J D) ∧ (@Ne Nat C D)) →
      wpAny (model prog w) A (eval elt (compEnvC scope cl C env)) (LCg.CompEnd h₀ L m { s with heap := h, toks := tk } J oJ C oC D (LCg.lst ys) (fun _ => True) (fun z news' => ∃ c', (∀ p ∈ Led c', p ∈ news') ∧ I (i + 1) (ys ++ [z]) c')) E' { s with heap := h, toks := tk })
    (fin : ∀ c ys D h tk, I vs.length ys c → Fr h₀ L h m → News h₀ L h ((D, LCg.lst ys) :: Led c) → (∀ p ∈ Led c, p.1 ≠ D) → Q (.ref D) { s with heap := h, toks := tk })
    (hs : ∀ z, foldedSetIterable iter env z = pure z := by intro _; rfl) :
    wpAny (model prog w) A (eval (.ListComp elt [⟨.Tuple [.Name x px, .Name y py] x1 tp, iter, [], 0⟩] scope pos) env) Q E s := by
  rw [eval_ListComp]
  refine wpAny_comprehension_free (use := none) rfl hs hclos hkind hnames (wpAny_mono hiter (fun xv s₁ h₁ => ?_) fun _ _ e => e)
  obtain ⟨rfl, g, tk₁, rfl, F, N⟩ := h₁
  have hl : g.IsList ax vs.toArray := News.isList N (hax c₀)
  have hlt : ax < g.objs.size := by obtain ⟨_, e, _⟩ := hl; exact Heap.lt_size e
  refine wpAny_pyIter_list hl ?_
  -- J: the iterator; D: the new list; C: the new scope
  generalize hJ : g.objs.size = J
  refine wpAny_newObj_type (wpAny_newFunctionEnv hcell (by intro z hz; simp at hz) (fun g₃ ns₃ sb₃ => ?_) hkind)
  dsimp only at ns₃ sb₃ ⊢
  generalize hg₁ : g.push { cls := .type "list_iterator", data := .fields #[.ref ax, .int 0 0] } = g₁ at ns₃ sb₃ ⊢
  generalize hg₂ : g₁.push { cls := .type "list", dict := none, data := .seq ([] : List Value).toArray } = g₂ at ns₃ sb₃ ⊢
  have z₁ : g₁.objs.size = J + 1 := by rw [← hg₁, Heap.size_push, hJ]
  have z₂ : g₂.objs.size = J + 2 := by rw [← hg₂, Heap.size_push, z₁]
  rw [z₂] at ns₃ sb₃ ⊢
  rw [z₁]
  have up₁ : ∀ b o, g.get? b = some o → g₁.get? b = some o := fun b o e => by rw [← hg₁]; exact Heap.get?_push_of_some _ e
  have up₂ : ∀ b o, g₁.get? b = some o → g₂.get? b = some o := fun b o e => by rw [← hg₂]; exact Heap.get?_push_of_some _ e
  have up₃ : ∀ b o, b ≠ J + 2 → g₂.get? b = some o → g₃.get? b = some o := fun b o hb e => sb₃.extBut b o hb (Heap.get?_push_of_some _ e)
  have old : ∀ b o, g.get? b = some o → g₃.get? b = some o := fun b o e => up₃ b o (neN <| by have := ltN (Heap.lt_size e); omega) (up₂ b o (up₁ b o e))
  have itJ : g₃.IsListIter J ax 0 := ⟨_, up₃ J _ (neN (by omega)) (up₂ J _ (by rw [← hg₁, ← hJ]; exact Heap.get?_push_size _ rfl)), rfl, rfl⟩
  have atD : g₃.get? (J + 1) = some (LCg.lst []) := up₃ _ _ (neN (by omega)) (by rw [← hg₂, ← z₁]; exact Heap.get?_push_size _ rfl)
  have none₀ : ∀ b, J ≤ b → h₀.get? b = none := fun b hb => by
    cases e : h₀.get? b with
    | none => rfl
    | some o => have := ltN (Heap.lt_size (F.keep b o e)); omega
  have lL : @LT.lt Nat _ L J := by have := ltN F.ns.lt; omega
  have lt₀ : ∀ p ∈ Led c₀, @LT.lt Nat _ p.1 J := fun p hp => by have := ltN (Heap.lt_size (N p hp).1); omega
  have loop : ∀ s₃ : Shared, s₃ = { s with heap := g₃, toks := tk₁ + ([] : List (Str × Value)).length } →
      codeAny (model prog w) A (.compLoop (.ListComp elt [⟨.Tuple [.Name x px, .Name y py] x1 tp, iter, [], 0⟩] scope pos) 0 (.ref J) (.ref (J + 1)) (compEnvC scope cl (J + 2) env))
        (compPost (model prog w) A E none Q (.ref (J + 1)) (J + 2)) s₃ := by
    rintro s₃ rfl
    refine LCp.codeAny_compLoop_pair
      (fun k s' => ∃ h' tk i ys m' c, s' = { s with heap := h', toks := tk } ∧ i ≤ vs.length ∧ k = vs.length + 1 - i ∧ ys.length = i ∧ h'.IsListIter J ax i ∧ Fr h₀ L h' m ∧ h'.Ns (J + 2) m' ∧ News h₀ L h' ((J + 1, LCg.lst ys) :: Led c) ∧
        (∀ p ∈ Led c, p.1 ≠ J ∧ p.1 ≠ J + 2 ∧ p.1 ≠ J + 1) ∧ I i ys c) ?_ (vs.length + 1)
      ⟨g₃, _, 0, [], _, c₀, rfl, Nat.zero_le _, rfl, rfl, itJ, F.keeps old, ns₃, fun p hp => ?_, fun p hp => ?_, hI⟩
    · rintro k s' ⟨h', tk, i, ys, m', c, rfl, hi, rfl, hyl, it', F', ns', N', off', hI'⟩
      have hl' : h'.IsList ax vs.toArray := News.isList N' (.tail _ (hax c))
      by_cases hlt : i < vs.length
      · refine wpAny_pyNext_list_item it' hl' (x := vs[i]) (by simp [hlt]) fun h₂ it₂ sb₂ => ?_
        obtain ⟨a, v1, v2, n, ev, hm⟩ := hitem i vs[i] (List.getElem?_eq_getElem hlt)
        have hvi : vs[i]? = some (.ref a) := by rw [List.getElem?_eq_getElem hlt, ev]
        rw [ev]
        have up2 : ∀ b o, b ≠ J → h'.get? b = some o → h₂.get? b = some o := fun b o hb e => sb₂.extBut b o hb e
        have N₂ : News h₀ L h₂ ((J + 1, LCg.lst ys) :: Led c) := fun p hp => ⟨up2 _ _ (by
          rcases List.mem_cons.mp hp with rfl | hp
          · exact Nat.succ_ne_self J
          · exact (off' p hp).1) (N' p hp).1, (N' p hp).2⟩
        have F₂ : Fr h₀ L h₂ m := F'.change sb₂ (Ne.symm (Nat.ne_of_lt lL)) (none₀ _ (Nat.le_refl _))
        refine wpAny_letOwnedTupleGo_listiter it₂ ?_
        refine pair_list hh (News.isList N₂ (.tail _ (hm c))) rfl rfl fun h₄ tk₄ up4 => ?_
        have F₄ : Fr h₀ L h₄ m := F₂.keeps up4
        have ns₄ : h₄.Ns (J + 2) m' := (ns'.at' fun o e => up2 _ o (neN (by omega)) e).at' fun o e => up4 _ o e
        refine assignInOrder_cons (wpAny_assign_Name (wpAny_storeName_local (lookup_relabel_local hx) ns₄ (fun h₅ ns₅ sb₅ => ?_) (by simp [compEnvC, relabel, hkind])))
        refine assignInOrder_cons (wpAny_assign_Name (wpAny_storeName_local (lookup_relabel_local hy) ns₅ (fun h₆ ns₆ sb₆ => ?_) (by simp [compEnvC, relabel, hkind])))
        refine assignInOrder_nil ?_
        have up6 : ∀ b o, b ≠ J + 2 → h₂.get? b = some o → h₆.get? b = some o := fun b o hb e => sb₆.extBut b o hb (sb₅.extBut b o hb (up4 b o e))
        have nC₀ : h₀.get? (J + 2) = none := none₀ _ (by omega)
        have nCL : J + 2 ≠ L := neN (by omega)
        have F₆ : Fr h₀ L h₆ m := (F₄.change sb₅ nCL nC₀).change sb₆ nCL nC₀
        obtain ⟨oJ, eJ, qJ⟩ := it₂
        obtain ⟨oC, eC, hoC⟩ := LCg.ns_obj ns₆
        have eJ₆ := up6 J oJ (neN (by omega)) eJ
        have N₆ : News h₀ L h₆ ((J, oJ) :: (J + 2, oC) :: (J + 1, LCg.lst ys) :: Led c) := fun p hp => by
          rcases List.mem_cons.mp hp with rfl | hp
          · exact ⟨eJ₆, Ne.symm (Nat.ne_of_lt lL), none₀ _ (Nat.le_refl _)⟩
          rcases List.mem_cons.mp hp with rfl | hp
          · exact ⟨eC, nCL, nC₀⟩
          refine ⟨up6 _ _ ?_ (N₂ p hp).1, (N₂ p hp).2⟩
          rcases List.mem_cons.mp hp with rfl | hp
          · exact Nat.ne_of_lt (Nat.lt_succ_self _)
          · exact (off' p hp).2.1
        refine wpAny_mono (turn i a v1 v2 n c ys J oJ (J + 2) oC (J + 1) _ h₆ _ _ hvi hm hI' hoC (by simp [hxy]) (by simp) F₆ N₆ (LCg.Off3.of off') ⟨neN (by omega), neN (by omega), neN (by omega)⟩) (fun z s₇ q => ?_) fun _ _ e => e
        obtain ⟨h₇, tk₇, nw, rfl, F₇, N₇, off₇, -, c', hc', hI₇⟩ := q
        have off7 := off₇.mem
        have Nw : News h₀ L h₇ nw := fun p hp => N₇ p (.tail _ (.tail _ (.tail _ hp)))
        have aJ := (N₇ (J, oJ) (.head _)).1
        have aC := (N₇ (J + 2, oC) (.tail _ (.head _))).1
        have aD := (N₇ (J + 1, LCg.lst ys) (.tail _ (.tail _ (.head _)))).1
        refine append_at (hsz := by show ys.toArray.size ≤ sizeLine; rw [List.size_toArray, hyl]; exact Nat.le_trans hi hsz) aD fun h₈ sb₈ eD => ?_
        refine ⟨vs.length + 1 - (i + 1), by omega, h₈, tk₇, i + 1, ys ++ [z], _, c', rfl, hlt, rfl, by rw [List.length_append, List.length_singleton, hyl], ?_, F₇.change sb₈ (neN (by omega)) (none₀ _ (by omega)), (hoC.ns aC).sameBut sb₈ (neN (by omega)), fun p hp => ?_, fun p hp => off7 p (hc' p hp), hI₇⟩
        · exact ⟨oJ, sb₈.extBut _ _ (neN (by omega)) aJ, qJ⟩
        · rcases List.mem_cons.mp hp with rfl | hp
          · exact ⟨eD.trans (congrArg some (LCg.lst_snoc ys z)), neN (by omega), none₀ _ (by omega)⟩
          · have hp' := hc' p hp
            exact ⟨sb₈.extBut _ _ (off7 p hp').2.2 (Nw p hp').1, (Nw p hp').2⟩
      · have ei : i = vs.length := by omega
        subst ei
        refine wpAny_pyNext_list_end hh it' hl' (by simp) fun h₂ eb₂ => ?_
        have up2 : ∀ b o, b ≠ J → h'.get? b = some o → h₂.get? b = some o := fun b o hb e => eb₂ b o hb e
        have F₂ : Fr h₀ L h₂ m := ⟨F'.ns.at' fun o e => up2 L o (neN (by omega)) e, fun b o e => up2 b o (fun q => by rw [q, none₀ _ (Nat.le_refl _)] at e; cases e) (F'.keep b o e), F'.above⟩
        have ns₂ : h₂.Ns (J + 2) m' := ns'.at' fun o e => up2 _ o (neN (by omega)) e
        refine ⟨m', ns₂, fun h₉ sb₉ => fin c ys (J + 1) h₉ tk hI' (F₂.change sb₉ (neN (by omega)) (none₀ _ (by omega))) (fun p hp => ?_) fun p hp => (off' p hp).2.2⟩
        refine ⟨sb₉.extBut _ _ ?_ (up2 _ _ ?_ (N' p hp).1), (N' p hp).2⟩
        · rcases List.mem_cons.mp hp with rfl | hp
          · exact Nat.ne_of_lt (Nat.lt_succ_self _)
          · exact (off' p hp).2.1
        · rcases List.mem_cons.mp hp with rfl | hp
          · exact Nat.succ_ne_self J
          · exact (off' p hp).1
    · rcases List.mem_cons.mp hp with rfl | hp
      · exact ⟨atD, neN (by omega), none₀ _ (by omega)⟩
      · exact ⟨old _ _ (N p hp).1, (N p hp).2⟩
    · have := lt₀ p hp
      exact ⟨(neN (by omega)), (neN (by omega)), (neN (by omega))⟩
  exact codeAny_compStart_list (loop _ rfl) (wpAny_pyIter_listiter itJ (loop _ rfl))
end
end Mine
end
namespace Mine
theorem walkReset12 : True := by w_top off; trivial
end Mine
section
open PySem PySem.W PyProof.Rows PySem.Spec
namespace Mine
/-- what a turn of the drawing comprehension leaves -/
@[irreducible] def PenEl (p : Addr) (k : Nat) (r : List (Addr × Obj)) (c : Int) (y : Value) (news' : List (Addr × Obj)) : Prop :=
  ∃ n' t1' t2' d td, (∀ q ∈ (p, listOf (List.toArray [.int n' t1', .int c t2']) k) :: r, q ∈ news') ∧ PenGood n' ∧ y = .int d td ∧ 0 ≤ d ∧ d < 256
theorem penEl_intro {p : Addr} {k : Nat} {r news' : List (Addr × Obj)} {c c' n' d : Int} {t1' t2' td : Tok} (hs : ∀ q ∈ (p, listOf (List.toArray [.int n' t1', .int c t2']) k) :: r, q ∈ news') (hg : PenGood n') (h0 : 0 ≤ d) (h1 : d < 256) (hc : c = c') : PenEl p k r c' (.int d td) news' := by
  unfold PenEl; subst hc; exact ⟨n', t1', t2', d, td, hs, hg, rfl, h0, h1⟩
section
variable {prog : Program} {w : World} {A : Around} {h₀ : Heap} {L : Addr} {m : Str → Option Value} {env : Env} {elt : PySem.Expr} {x : Str} {scope : Scope} {cl : List (Str × Addr)} {s : Shared} {S : List (Addr × Obj) → Prop} {P : Nat → Value → Prop} {Fin : List Value → List (Addr × Obj) → Prop} {news : List (Addr × Obj)}
theorem comp_state {σ : Type} {n : Nat} (Led : σ → List (Addr × Obj)) (I : Nat → List Value → σ → Prop) (c₀ : σ) (h0 : ∀ p ∈ Led c₀, p ∈ news) (hI : I 0 [] c₀)
    (turn : ∀ i c ys v I' oI C oC D m₂ h tk (E' : Value → Shared → Prop), i < n → I i ys c → P i v → LCg.NsObj oC m₂ → m₂ x = some v → Fr h₀ L h m → News h₀ L h ((I', oI) :: (C, oC) :: (D, LCg.lst ys) :: Led c) → LCg.Off3 I' C D (Led c) → ((@Ne Nat I' C) ∧ (@Ne Nat I' D) ∧ (@Ne Nat C D)) →
      wpAny (model prog w) A (eval elt (compEnvC scope cl C env)) (LCg.CompEnd h₀ L m { s with heap := h, toks := tk } I' oI C oC D (LCg.lst ys) S (fun y news' => ∃ c', (∀ p ∈ Led c', p ∈ news') ∧ I (i + 1) (ys ++ [y]) c')) E' { s with heap := h, toks := tk })

    (fin : ∀ c ys, I n ys c → Fin ys (Led c)) (fmono : ∀ ys a b, (∀ p ∈ b, p ∈ a) → Fin ys b → Fin ys a) : LCg.CompRest prog w A h₀ L m env elt x scope cl s S P Fin n 0 [] news := by
  have key : ∀ (j i : Nat) (c : σ) (ys : List Value) (news : List (Addr × Obj)), i + j = n → (∀ p ∈ Led c, p ∈ news) → I i ys c → LCg.CompRest prog w A h₀ L m env elt x scope cl s S P Fin j i ys news := by
    intro j
    induction j with
    | zero =>
      intro i c ys news hi hs hI
      have e : i = n := by omega
      subst e
      exact LCg.CompRest.zero (fmono _ _ _ hs (fin c ys hI))
    | succ j ih =>
      intro i c ys news hi hs hI
      refine LCg.CompRest.succ ?_
      intro v I' oI C oC D m₂ h tk E' hv hC hx F N off ne
      have N2 : News h₀ L h ((I', oI) :: (C, oC) :: (D, LCg.lst ys) :: Led c) := fun p hp => N p (by
        rcases List.mem_cons.mp hp with rfl | hp
        · exact .head _
        rcases List.mem_cons.mp hp with rfl | hp
        · exact .tail _ (.head _)
        rcases List.mem_cons.mp hp with rfl | hp
        · exact .tail _ (.tail _ (.head _))
        exact .tail _ (.tail _ (.tail _ (hs p hp))))
      have off2 : LCg.Off3 I' C D (Led c) := LCg.Off3.of fun p hp => off.mem p (hs p hp)
      refine wpAny_mono (turn i c ys v I' oI C oC D m₂ h tk E' (by omega) hI hv hC hx F N2 off2 ne) (fun y s₂ hq => ?_) fun _ _ e => e
      obtain ⟨h', tk', nw, e, F', N', off', hS, c', hn, hI'⟩ := hq
      exact ⟨h', tk', nw, e, F', N', off', hS, ih (i + 1) c' _ nw (by omega) hn hI'⟩
  exact key n 0 c₀ [] news (by omega) h0 hI
theorem finE_mono {Q : Value → Shared → Prop} {ys : List Value} {a b : List (Addr × Obj)} (hs : ∀ p ∈ b, p ∈ a) (h : LCg.FinE h₀ L m s Q ys b) : LCg.FinE h₀ L m s Q ys a := by
  intro D h' tk F N o
  refine h D h' tk F (fun p hp => N p ?_) ?_
  · rcases List.mem_cons.mp hp with rfl | hp
    · exact .head _
    · exact .tail _ (hs p hp)
  · revert o hs
    clear h N F
    intro hs o
    have key : ∀ p ∈ a, @Ne Nat p.1 D := by
      clear hs
      induction a with
      | nil => intro p hp; cases hp
      | cons q r ih =>
        intro p hp
        rcases List.mem_cons.mp hp with rfl | hp
        · exact o.1
        · exact ih o.2 p hp
    clear o
    induction b with
    | nil => exact trivial
    | cons q r ih => exact ⟨key q (hs q (.head _)), ih fun p hp => hs p (.tail _ hp)⟩
theorem comp_pen {s' : Shared} {Q : Value → Shared → Prop} {p : Addr} {k : Nat} {r : List (Addr × Obj)} {c0 : Int} {cnt : Nat} {n₀ : Int} {t1₀ t2₀ : Tok} (hg : PenGood n₀)
    (turn : ∀ (i : Nat) (n : Int) (t1 t2 : Tok) ys v I' oI C oC D m₂ h tk (E' : Value → Shared → Prop), i < cnt → PenGood n → P i v → LCg.NsObj oC m₂ → m₂ x = some v → Fr h₀ L h m → News h₀ L h ((p, listOf (List.toArray [.int n t1, .int (c0 + i) t2]) k) :: (I', oI) :: (C, oC) :: (D, LCg.lst ys) :: r) → LCg.Off3 I' C D ((p, listOf (List.toArray [.int n t1, .int (c0 + i) t2]) k) :: r) → ((@Ne Nat I' C) ∧ (@Ne Nat I' D) ∧ (@Ne Nat C D)) →
      wpAny (model prog w) A (eval elt (compEnvC scope cl C env)) (LCg.CompEnd h₀ L m { s with heap := h, toks := tk } I' oI C oC D (LCg.lst ys) S (PenEl p k r (c0 + i + 1))) E' { s with heap := h, toks := tk })
    (fin : ∀ n t1 t2 ys ks, PenGood n → IntsAre ys ks → KBa.In ks → ks.length = cnt → LCg.FinE h₀ L m s' Q ys ((p, listOf (List.toArray [.int n t1, .int (c0 + cnt) t2]) k) :: r)) :
    LCg.CompRest prog w A h₀ L m env elt x scope cl s S P (LCg.FinE h₀ L m s' Q) cnt 0 [] ((p, listOf (List.toArray [.int n₀ t1₀, .int c0 t2₀]) k) :: r) := by
  refine comp_state (σ := Int × Int × Tok × Tok) (fun c => (p, listOf (List.toArray [.int c.1 c.2.2.1, .int c.2.1 c.2.2.2]) k) :: r) (fun i ys c => PenGood c.1 ∧ c.2.1 = c0 + i ∧ ∃ ks, IntsAre ys ks ∧ KBa.In ks ∧ ks.length = i) (n₀, c0, t1₀, t2₀) (fun _ h => h) ⟨hg, (Int.add_zero _).symm, [], .nil, (fun _ h => nomatch h), rfl⟩ ?_ ?_ (fun ys a b hs h => finE_mono hs h)
  · rintro i ⟨n, c, t1, t2⟩ ys v I' oI C oC D m₂ h tk E' hi ⟨hg, hc, ks, hI, hIn, hl⟩ hv hC hx F N off ne
    dsimp only at hg hc N off ⊢
    subst hc
    refine wpAny_mono (turn i n t1 t2 ys v I' oI C oC D m₂ h tk E' hi hg hv hC hx F (fun q hq => N q ?_) off ne) (fun y s₂ hq => ?_) fun _ _ e => e
    · rcases List.mem_cons.mp hq with rfl | hq
      · exact .tail _ (.tail _ (.tail _ (.head _)))
      rcases List.mem_cons.mp hq with rfl | hq
      · exact .head _
      rcases List.mem_cons.mp hq with rfl | hq
      · exact .tail _ (.head _)
      rcases List.mem_cons.mp hq with rfl | hq
      · exact .tail _ (.tail _ (.head _))
      exact .tail _ (.tail _ (.tail _ (.tail _ hq)))
    · obtain ⟨h', tk', nw, e, F', N', off', hS, hq⟩ := hq
      unfold PenEl at hq
      obtain ⟨n', t1', t2', d, td, hn, hg', hy, hd0, hd1⟩ := hq
      refine ⟨h', tk', nw, e, F', N', off', hS, (n', c0 + i + 1, t1', t2'), hn, hg', by dsimp only; omega, ks ++ [d], ?_, ?_, by simp [hl]⟩
      · rw [hy]; exact IntsAre.append hI (.cons _ _ .nil)
      · intro z hz
        rcases List.mem_append.mp hz with hz | hz
        · exact hIn z hz
        · rw [List.mem_singleton.mp hz]; exact ⟨hd0, hd1⟩
  · rintro ⟨n, c, t1, t2⟩ ys ⟨hg, hc, ks, hI, hIn, hl⟩
    dsimp only at hg hc ⊢
    subst hc
    exact fin n t1 t2 ys ks hg hI hIn hl
end
end Mine
end
namespace Mine
theorem walkReset13 : True := by w_top off; trivial
end Mine
section
open PySem PySem.W PyProof.Rows PySem.Spec
namespace Mine
local macro_rules | `(tactic| k_all) => `(tactic| assumption)
local macro_rules | `(tactic| k_room) => `(tactic| ktr_room)
local macro_rules | `(tactic| k_units) => `(tactic| first | exact Nat.le_of_ble_eq_true rfl | ktr_units)
local macro_rules | `(tactic| units_room) => `(tactic| ktr_units)
local macro_rules | `(tactic| k_enter) => `(tactic| (refine' code_def ?k1 ?k2 ?k3 ?k4 ?k5 ?kA ?kF ?kK ?k6 ?k7 ?k8 ?k9 ?kB ?_ ?c2 ?c3 ?c4 ?c5; (case kA => exact rfl); (case kF => exact rfl); (case kK => first | exact rfl | assumption); (case k1 => k_asm); (case k2 => k_asm); (case k3 => k_asm); (case k4 => k_asm); (case k5 => k_asm); (case k6 => k_is); (case k7 => k_is); (case k8 => k_room); (case k9 => first | exact BindsTo.of_eq rfl | exact binds_K (by k_in) rfl (by k_is) rfl rfl rfl | fail "k_enter: no rule for these arguments"); (case c5 => decide); (case kB => exact locs rfl); (case c2 => exact rfl); (case c3 => exact rfl); (case c4 => exact rfl); k_whole; intro g' L' h' FG' F' N' B' X' T'; (try dsimp only); (try k_lift B'); (try k_fold)))
local macro_rules | `(tactic| walk_at "execs nil") => `(tactic| refine wpAny_execs_nil ?_)
local macro_rules | `(tactic| walk_at "execs cons") => `(tactic| ((with_reducible refine wpAny_execs_cons ?_); (try (refine gen_toks ?_; intro tk9)); (try dsimp only)))
local macro_rules | `(tactic| k_steps) => `(tactic| repeat' (first | (k_unfold; (try dsimp only)) | ((fail_if_success (with_reducible show wpAny _ _ (exec (Stmt.While _ _ _ _) _) _ _ _)); (fail_if_success (with_reducible show LCg.CompSrc _ _ _ _ _ _ _ _ _ _ _ _ _ _)); (fail_if_success (with_reducible show KswEnd _ _ _ _ _ _ _ _ _ _ _ _)); first | walk1 | (dsimp only; walk1)) | fail "no step"))
local macro_rules | `(tactic| walk_at "eval ListComp") => `(tactic| (k_here; lcf_look; k_dflt (refine LCg.ListComp_U (F₀ := by k_asm) (by with_unfolding_all rfl) (by decide) (by rfl) (by decide) (by rfl) ?_)))
section
local macro_rules | `(tactic| k_steps) => `(tactic| repeat' (first | (k_unfold; (try dsimp only)) | ((fail_if_success (with_reducible show wpAny _ _ (exec (Stmt.While _ _ _ _) _) _ _ _)); (fail_if_success (with_reducible show wpAny _ _ (eval (PySem.Expr.ListComp _ _ _ _) _) _ _ _)); (fail_if_success (with_reducible show wpAny _ _ (exec (Stmt.For _ _ _ _ _) _) _ _ _)); (fail_if_success (with_reducible show wpAny _ _ (pyIter _) _ _ _)); first | walk1 | (dsimp only; walk1)) | fail "no step"))
theorem seq_last (vs : List Value) (v : Value) : seqIndex? (-1) (vs ++ [v]).length = some vs.length := by
  rw [List.length_append, List.length_singleton]
  unfold seqIndex?
  simp
  omega
theorem get_last (vs : List Value) (v : Value) : (vs ++ [v])[vs.length]? = some v := by simp
local macro_rules | `(tactic| walk_at "subscriptTail Name UnaryOp ref int") => `(tactic| (k_here; (with_reducible show wpAny _ _ (subscriptTail _ _ (Value.ref _) (Value.int _ _)) _ _ _); (with_unfolding_all refine' kde_neg ?k1 ?k2 ?k3 (seq_last _ _) (get_last _ _) ?_ ?k6; (case k1 => exact News.isList (by k_asm) (by k_mem)); (case k2 => decide); (case k3 => decide); (case k6 => with_unfolding_all rfl); k_whole)))
/-- the comprehension's state: the tuples made -/
structure CInv (ps : Pts) (news : List (Addr × Obj)) (i : Nat) (ys : List Value) (tl2 : List (Addr × Obj)) : Prop where
  pts : PtsAre tl2 ys (ps.take i)
  ap : ∀ q ∈ tl2, ∀ p ∈ news, p.1 ≠ q.1
theorem cinv_next {ps : Pts} {news tl2 : List (Addr × Obj)} {i : Nat} {ys : List Value} {p : Int} {cs : List Int} {b : Array UInt8} {t tp : Tok} {D : Addr} (h : CInv ps news i ys tl2) (e : ps[i]? = some (p, cs)) (hb : KBw.bInts b = cs) (hD : ∀ q ∈ news, q.1 ≠ D) :
    CInv ps news (i + 1) (ys ++ [.ref D]) ((D, ptO p tp b t) :: tl2) := by
  obtain ⟨h1, h2⟩ := h
  refine ⟨?_, ?_⟩
  · rw [List.take_add_one, e]
    exact .snoc (h1.mono fun p hp => .tail _ hp) (.head _) hb
  · intro q hq p hp
    rcases List.mem_cons.mp hq with rfl | hq
    · exact hD p hp
    · exact h2 q hq p hp
theorem cinv_item {tl news : List (Addr × Obj)} {vs : List Value} {ps : Pts} {fd : Addr} {kf : Nat} (h : PartsIn tl vs ps) {i : Nat} {v : Value} (hv : vs[i]? = some v) :
    ∃ (a : Addr) (v1 v2 : Value) (n : Nat), v = .ref a ∧ ∀ tl2 : List (Addr × Obj), (a, listOf (List.toArray [v1, v2]) n) ∈ tl2 ++ ((fd, listOf vs.toArray kf) :: (tl ++ news)) := by
  obtain ⟨a, b, p, t, ws, cs, ka, kb, e1, e2, _⟩ := h.get i v hv
  exact ⟨a, _, _, ka, e1, fun tl2 => List.mem_append_right _ (.tail _ (List.mem_append_left _ e2))⟩
theorem named_addr {news : List (Addr × Obj)} {P : Prop} (z : Addr) (q : ∀ p ∈ news, p.1 < z) (k : ∀ z' : Addr, z' = z → P) : P := k z rfl
theorem pair_same {g h : Heap} {L a : Addr} {news : List (Addr × Obj)} {v1 v2 : Value} {n k : Nat} {p : Int} {t : Tok} {b : Addr} (N : News g L h news) (h1 : (a, W.listOf (List.toArray [v1, v2]) n) ∈ news) (h2 : (a, pairO p t b k) ∈ news) : v1 = .int p t ∧ v2 = .ref b := by
  have e1 := (N _ h1).1
  have e2 := (N _ h2).1
  rw [e1] at e2
  have e3 := Option.some.inj e2
  unfold pairO W.listOf at e3
  simp at e3
  exact e3.1
/-- the ledger of the reading's loop -/
abbrev ledP (fd : Addr) (news : List (Addr × Obj)) (c : PS) : List (Addr × Obj) := (fd, listOf c.vs.toArray c.kf) :: (c.tl ++ news)
abbrev psP (c : PS) : List (Str × Value) := [(Str.ofString "at", .int c.j c.tj), (Str.ofString "is_comment", .bool c.cm), (Str.ofString "is_run", .bool c.run)]
abbrev stP : List Str := [Str.ofString "code"]
set_option maxRecDepth 100000 in
set_option maxHeartbeats 1000000 in
theorem partsC {w : World} {mean : ExcName → Option Value} {mg mb : Str → Option Value} {dp un : Nat} {gd : Option (List Code)} {cn : Str} {cs : Scope} {a : Addr} {ccd : Value} {cl : List (Str × Addr)} {outer : List Env} {A₀ : Around} {base h₀ : Heap} {L : Addr} {m : Str → Option Value} {s : Shared} {Q E : Value → Shared → Prop}
    {b : Array UInt8} {ks : List Int} {t0 : Tok} {news : List (Addr × Obj)}
    (B : Below A₀ base outer h₀) (F : Fr h₀ L s.heap m) (X : (hd.heap_39 w.params).In h₀)
    (N : News h₀ L s.heap news)
    (T : Top hd.view_39 (looseW hd.view_39 []) mean mg mb h₀) (hk : cs.kind = .function)
    (hb : KBw.bInts b = ks) (h3 : ks.length ≤ 64)
    (hdp : dp + 3 < recursionLimit) (hu : un + 200 < cLine)
    (ret : ∀ r tl ws k h' tk', Fr h₀ L h' m → News h₀ L h' ((r, listOf ws.toArray k) :: (tl ++ news)) → (∀ q ∈ (r, listOf ws.toArray k) :: tl, ∀ p ∈ news, p.1 ≠ q.1) → PtsAre tl ws (go [] 0 false false ks) → Q (.ref r) { s with heap := h', toks := tk' }) :
    wpAny (model PySem.Challenge.rw_og0133_02.row.prog w) (ktrTop dp un gd cn cs L a ccd cl outer) (call (.ref 163) [.bytes b t0]) Q E s := by
  revert X
  k_fill
  intro X
  k_steps
  rename News _ _ _ _ => N9
  rename Fr _ _ _ _ => F9
  rename (∀ _ ∈ news, _ < _) => hl8
  refine named_addr _ hl8 ?_
  intro fd9 e9
  subst e9
  refine For_turns F9 ?_
  k_steps
  rename News _ _ _ _ => N7
  rename Fr _ _ _ _ => F7
  refine' turns_bytes (σ := PS) (ledP _ news) psP stP (PInv ks news _) ⟨0, _, false, false, [], 0, [], []⟩ hb (by rfl) (fun _ _ => rfl) F7 N7 (List.forall_mem_cons.mpr ⟨rfl, List.forall_mem_cons.mpr ⟨rfl, List.forall_mem_cons.mpr ⟨rfl, List.forall_mem_nil _⟩⟩⟩) ⟨rfl, .nil, (fun q => nomatch q), rfl, Nat.le_refl _, fun q hq => Nat.ne_of_lt (hl8 q hq), (fun _ h => nomatch h)⟩ ?_ ?_
  · rintro i k tv ⟨j, tj, cm, run, vs, kf, ps, tl⟩ uu h tk I oI hi hk9 hk0 hk1 hI hne F1 N1
    dsimp only [ledP, psP] at F1 N1 hne
    clear N7 F7
    have hvl : vs.length ≤ 64 := by
      have q1 := hI.parts.length
      have q2 := hI.lenP
      dsimp only at q1 q2
      omega
    obtain ⟨i1, i2, i3, i4, i5, i6, i7⟩ := id hI
    dsimp only at i1 i2 i3 i4 i5 i6 i7
    have hfI := neN (hne _ (.head _))
    have hIt : ∀ q ∈ tl ++ news, q.1 ≠ I := fun q hq => hne q (.tail _ hq)
    dsimp only at hfI
    cases cm with
    | true =>
      (try dsimp only)
      (try k_fold)
      k_steps
      · rename News _ _ _ _ => N5
        rename Fr _ _ _ _ => F5
        try simp only [List.push_toArray] at N5
        refine' tend ⟨j + 1, _, _, false, vs, kf, ps, tl⟩ F5 N5 (List.forall_mem_cons.mpr ⟨by k_mem, List.forall_mem_cons.mpr ⟨by k_mem, by intro p hp; kst_mem⟩⟩) (List.forall_mem_cons.mpr ⟨hfI, hIt⟩) (List.forall_mem_cons.mpr ⟨rfl, List.forall_mem_cons.mpr ⟨rfl, List.forall_mem_cons.mpr ⟨rfl, List.forall_mem_nil _⟩⟩⟩) ?qr ?qp
        case qr =>
          intro z9 h9 h8
          have a1 := h9 _ (.head _)
          have a2 := h9 _ (.tail _ (.head _))
          have a3 := h9 _ (.tail _ (.tail _ (.head _)))
          dsimp only at a1 a2 a3
          simp only [stP, List.contains_cons, List.contains_nil, Bool.or_false, beq_eq_false_iff_ne, ne_eq] at h8
          simp [kstB, a1, a2, a3, h8]
        case qp => exact pinv_skip hI hi hk9 rfl (fun r => go_cm _ _ _ _ r)
    | false =>
      cases run with
      | false =>
        (try dsimp only)
        (try k_fold)
        k_steps
        · rename News _ _ _ _ => N5
          rename Fr _ _ _ _ => F5
          try simp only [List.push_toArray] at N5
          rename (k = 37) => h37
          refine' tend ⟨j + 1, _, _, false, vs, kf, ps, tl⟩ F5 N5 (List.forall_mem_cons.mpr ⟨by k_mem, List.forall_mem_cons.mpr ⟨by k_mem, by intro p hp; kst_mem⟩⟩) (List.forall_mem_cons.mpr ⟨hfI, hIt⟩) (List.forall_mem_cons.mpr ⟨rfl, List.forall_mem_cons.mpr ⟨rfl, List.forall_mem_cons.mpr ⟨rfl, List.forall_mem_nil _⟩⟩⟩) ?qr ?qp
          case qr =>
            intro z9 h9 h8
            have a1 := h9 _ (.head _)
            have a2 := h9 _ (.tail _ (.head _))
            have a3 := h9 _ (.tail _ (.tail _ (.head _)))
            dsimp only at a1 a2 a3
            simp only [stP, List.contains_cons, List.contains_nil, Bool.or_false, beq_eq_false_iff_ne, ne_eq] at h8
            simp [kstB, a1, a2, a3, h8]
          case qp => exact pinv_skip hI hi hk9 rfl (fun r => by rw [h37]; exact go_37 _ _ _ _)
        · rename News _ _ _ _ => N5
          rename Fr _ _ _ _ => F5
          try simp only [List.push_toArray] at N5
          refine' tend ⟨j + 1, _, _, false, vs, kf, ps, tl⟩ F5 N5 (List.forall_mem_cons.mpr ⟨by k_mem, List.forall_mem_cons.mpr ⟨by k_mem, by intro p hp; kst_mem⟩⟩) (List.forall_mem_cons.mpr ⟨hfI, hIt⟩) (List.forall_mem_cons.mpr ⟨rfl, List.forall_mem_cons.mpr ⟨rfl, List.forall_mem_cons.mpr ⟨rfl, List.forall_mem_nil _⟩⟩⟩) ?qr ?qp
          case qr =>
            intro z9 h9 h8
            have a1 := h9 _ (.head _)
            have a2 := h9 _ (.tail _ (.head _))
            have a3 := h9 _ (.tail _ (.tail _ (.head _)))
            dsimp only at a1 a2 a3
            simp only [stP, List.contains_cons, List.contains_nil, Bool.or_false, beq_eq_false_iff_ne, ne_eq] at h8
            simp [kstB, a1, a2, a3, h8]
          case qp => exact pinv_skip hI hi hk9 rfl (fun r => go_white _ _ _ _ (by assumption) (by assumption))
        · rename News _ _ _ _ => N5
          rename Fr _ _ _ _ => F5
          try simp only [List.push_toArray] at N5
          refine' tend ⟨j + 1, _, false, false, vs ++ [.ref _], kf + 1, ps ++ [(j, [k])], (_, listOf (List.toArray [Value.int k tv]) 0) :: (_, pairO j tj _ 0) :: tl⟩ F5 N5 (List.forall_mem_cons.mpr ⟨by k_mem, List.forall_mem_cons.mpr ⟨by k_mem, List.forall_mem_cons.mpr ⟨by k_mem, List.forall_mem_cons.mpr ⟨by k_mem, by intro p hp; kst_mem⟩⟩⟩⟩) (List.forall_mem_cons.mpr ⟨hfI, List.forall_mem_cons.mpr ⟨by refine neN ?_; omega, List.forall_mem_cons.mpr ⟨by refine neN ?_; omega, hIt⟩⟩⟩) (List.forall_mem_cons.mpr ⟨rfl, List.forall_mem_cons.mpr ⟨rfl, List.forall_mem_cons.mpr ⟨rfl, List.forall_mem_nil _⟩⟩⟩) ?qr ?qp
          case qr =>
            intro z9 h9 h8
            have a1 := h9 _ (.head _)
            have a2 := h9 _ (.tail _ (.head _))
            have a3 := h9 _ (.tail _ (.tail _ (.head _)))
            dsimp only at a1 a2 a3
            simp only [stP, List.contains_cons, List.contains_nil, Bool.or_false, beq_eq_false_iff_ne, ne_eq] at h8
            simp [kstB, a1, a2, a3, h8]
          case qp => exact pinv_new hI hi hk9 rfl hk0 hk1 (fun r => go_delim _ _ _ _ (by assumption) (by assumption) (by assumption)) (by refine neN ?_; omega) (by refine neN ?_; omega) (by refine neN ?_; omega) (by kst_allNe) (by kst_allNe)
        · rename News _ _ _ _ => N5
          rename Fr _ _ _ _ => F5
          try simp only [List.push_toArray] at N5
          refine' tend ⟨j + 1, _, false, true, vs ++ [.ref _], kf + 1, ps ++ [(j, [k])], (_, listOf (List.toArray [Value.int k tv]) 0) :: (_, pairO j tj _ 0) :: tl⟩ F5 N5 (List.forall_mem_cons.mpr ⟨by k_mem, List.forall_mem_cons.mpr ⟨by k_mem, List.forall_mem_cons.mpr ⟨by k_mem, List.forall_mem_cons.mpr ⟨by k_mem, by intro p hp; kst_mem⟩⟩⟩⟩) (List.forall_mem_cons.mpr ⟨hfI, List.forall_mem_cons.mpr ⟨by refine neN ?_; omega, List.forall_mem_cons.mpr ⟨by refine neN ?_; omega, hIt⟩⟩⟩) (List.forall_mem_cons.mpr ⟨rfl, List.forall_mem_cons.mpr ⟨rfl, List.forall_mem_cons.mpr ⟨rfl, List.forall_mem_nil _⟩⟩⟩) ?qr ?qp
          case qr =>
            intro z9 h9 h8
            have a1 := h9 _ (.head _)
            have a2 := h9 _ (.tail _ (.head _))
            have a3 := h9 _ (.tail _ (.tail _ (.head _)))
            dsimp only at a1 a2 a3
            simp only [stP, List.contains_cons, List.contains_nil, Bool.or_false, beq_eq_false_iff_ne, ne_eq] at h8
            simp [kstB, a1, a2, a3, h8]
          case qp => exact pinv_new hI hi hk9 rfl hk0 hk1 (fun r => go_new _ _ _ (by assumption) (by assumption) (by assumption)) (by refine neN ?_; omega) (by refine neN ?_; omega) (by refine neN ?_; omega) (by kst_allNe) (by kst_allNe)
      | true =>
        obtain ⟨a9, b9, p9, t9, ws9, cs9, ka9, kb9, vs9, ps9, tl9, rfl, rfl, rfl, q1, q2, q3, q4, q5, q6⟩ := i3 rfl
        rw [List.length_append, List.length_singleton] at hvl
        have hwl := q1.length
        clear i3
        simp only [List.cons_append] at N1
        have w1 := neN (i6 _ (.tail _ (.head _)))
        have w2 := neN (hIt _ (.head _))
        have w3 := neN (hIt _ (.tail _ (.head _)))
        have w4 := neN (q5 _ (.head _))
        have w5 : ∀ q ∈ tl9 ++ news, q.1 ≠ b9 := fun q hq => q5 q (.tail _ hq)
        have w6 : ∀ q ∈ tl9 ++ news, q.1 ≠ _ := fun q hq => i6 q (.tail _ (.tail _ hq))
        have w7 : ∀ q ∈ tl9 ++ news, q.1 ≠ I := fun q hq => hIt q (.tail _ (.tail _ hq))
        (try dsimp only)
        (try k_fold)
        k_steps
        · rename News _ _ _ _ => N5
          rename Fr _ _ _ _ => F5
          try simp only [List.push_toArray] at N5
          rename (k = 37) => h37
          refine' tend ⟨j + 1, _, _, false, vs9 ++ [.ref a9], kf, ps9 ++ [(p9, cs9)], ((b9, listOf ws9.toArray kb9) :: (a9, pairO p9 t9 b9 ka9) :: tl9)⟩ F5 N5 (List.forall_mem_cons.mpr ⟨by k_mem, List.forall_mem_cons.mpr ⟨by k_mem, List.forall_mem_cons.mpr ⟨by k_mem, List.forall_mem_cons.mpr ⟨by k_mem, by intro p hp; kst_mem⟩⟩⟩⟩) (List.forall_mem_cons.mpr ⟨hfI, List.forall_mem_cons.mpr ⟨w2, List.forall_mem_cons.mpr ⟨w3, w7⟩⟩⟩) (List.forall_mem_cons.mpr ⟨rfl, List.forall_mem_cons.mpr ⟨rfl, List.forall_mem_cons.mpr ⟨rfl, List.forall_mem_nil _⟩⟩⟩) ?qr ?qp
          case qr =>
            intro z9 h9 h8
            have a1 := h9 _ (.head _)
            have a2 := h9 _ (.tail _ (.head _))
            have a3 := h9 _ (.tail _ (.tail _ (.head _)))
            dsimp only at a1 a2 a3
            simp only [stP, List.contains_cons, List.contains_nil, Bool.or_false, beq_eq_false_iff_ne, ne_eq] at h8
            simp [kstB, a1, a2, a3, h8]
          case qp => exact pinv_skip hI hi hk9 rfl (fun r => by rw [h37]; exact go_37 _ _ _ _)
        · rename News _ _ _ _ => N5
          rename Fr _ _ _ _ => F5
          try simp only [List.push_toArray] at N5
          refine' tend ⟨j + 1, _, _, false, vs9 ++ [.ref a9], kf, ps9 ++ [(p9, cs9)], ((b9, listOf ws9.toArray kb9) :: (a9, pairO p9 t9 b9 ka9) :: tl9)⟩ F5 N5 (List.forall_mem_cons.mpr ⟨by k_mem, List.forall_mem_cons.mpr ⟨by k_mem, List.forall_mem_cons.mpr ⟨by k_mem, List.forall_mem_cons.mpr ⟨by k_mem, by intro p hp; kst_mem⟩⟩⟩⟩) (List.forall_mem_cons.mpr ⟨hfI, List.forall_mem_cons.mpr ⟨w2, List.forall_mem_cons.mpr ⟨w3, w7⟩⟩⟩) (List.forall_mem_cons.mpr ⟨rfl, List.forall_mem_cons.mpr ⟨rfl, List.forall_mem_cons.mpr ⟨rfl, List.forall_mem_nil _⟩⟩⟩) ?qr ?qp
          case qr =>
            intro z9 h9 h8
            have a1 := h9 _ (.head _)
            have a2 := h9 _ (.tail _ (.head _))
            have a3 := h9 _ (.tail _ (.tail _ (.head _)))
            dsimp only at a1 a2 a3
            simp only [stP, List.contains_cons, List.contains_nil, Bool.or_false, beq_eq_false_iff_ne, ne_eq] at h8
            simp [kstB, a1, a2, a3, h8]
          case qp => exact pinv_skip hI hi hk9 rfl (fun r => go_white _ _ _ _ (by assumption) (by assumption))
        · rename News _ _ _ _ => N5
          rename Fr _ _ _ _ => F5
          try simp only [List.push_toArray] at N5
          refine' tend ⟨j + 1, _, false, false, vs9 ++ [.ref a9] ++ [.ref _], kf + 1, ps9 ++ [(p9, cs9)] ++ [(j, [k])], (_, listOf (List.toArray [Value.int k tv]) 0) :: (_, pairO j tj _ 0) :: ((b9, listOf ws9.toArray kb9) :: (a9, pairO p9 t9 b9 ka9) :: tl9)⟩ F5 N5 (List.forall_mem_cons.mpr ⟨by k_mem, List.forall_mem_cons.mpr ⟨by k_mem, List.forall_mem_cons.mpr ⟨by k_mem, List.forall_mem_cons.mpr ⟨by k_mem, List.forall_mem_cons.mpr ⟨by k_mem, List.forall_mem_cons.mpr ⟨by k_mem, by intro p hp; kst_mem⟩⟩⟩⟩⟩⟩) (List.forall_mem_cons.mpr ⟨hfI, List.forall_mem_cons.mpr ⟨by refine neN ?_; omega, List.forall_mem_cons.mpr ⟨by refine neN ?_; omega, List.forall_mem_cons.mpr ⟨w2, List.forall_mem_cons.mpr ⟨w3, w7⟩⟩⟩⟩⟩) (List.forall_mem_cons.mpr ⟨rfl, List.forall_mem_cons.mpr ⟨rfl, List.forall_mem_cons.mpr ⟨rfl, List.forall_mem_nil _⟩⟩⟩) ?qr ?qp
          case qr =>
            intro z9 h9 h8
            have a1 := h9 _ (.head _)
            have a2 := h9 _ (.tail _ (.head _))
            have a3 := h9 _ (.tail _ (.tail _ (.head _)))
            dsimp only at a1 a2 a3
            simp only [stP, List.contains_cons, List.contains_nil, Bool.or_false, beq_eq_false_iff_ne, ne_eq] at h8
            simp [kstB, a1, a2, a3, h8]
          case qp => exact pinv_new hI hi hk9 rfl hk0 hk1 (fun r => go_delim _ _ _ _ (by assumption) (by assumption) (by assumption)) (by refine neN ?_; omega) (by refine neN ?_; omega) (by refine neN ?_; omega) (List.forall_mem_cons.mpr ⟨by refine neN ?_; omega, List.forall_mem_cons.mpr ⟨by refine neN ?_; omega, by kst_allNe⟩⟩) (List.forall_mem_cons.mpr ⟨by refine neN ?_; omega, List.forall_mem_cons.mpr ⟨by refine neN ?_; omega, by kst_allNe⟩⟩)
        · rename News _ _ _ _ => N5
          rename Fr _ _ _ _ => F5
          try simp only [List.push_toArray] at N5
          refine' tend ⟨j + 1, _, false, true, vs9 ++ [.ref a9], kf, ps9 ++ [(p9, cs9 ++ [k])], (b9, listOf (ws9 ++ [Value.int k tv]).toArray (kb9 + 1)) :: (a9, pairO p9 t9 b9 ka9) :: tl9⟩ F5 N5 (List.forall_mem_cons.mpr ⟨by k_mem, List.forall_mem_cons.mpr ⟨by k_mem, List.forall_mem_cons.mpr ⟨by k_mem, List.forall_mem_cons.mpr ⟨by k_mem, by intro p hp; kst_mem⟩⟩⟩⟩) (List.forall_mem_cons.mpr ⟨hfI, List.forall_mem_cons.mpr ⟨w2, List.forall_mem_cons.mpr ⟨w3, w7⟩⟩⟩) (List.forall_mem_cons.mpr ⟨rfl, List.forall_mem_cons.mpr ⟨rfl, List.forall_mem_cons.mpr ⟨rfl, List.forall_mem_nil _⟩⟩⟩) ?qr ?qp
          case qr =>
            intro z9 h9 h8
            have a1 := h9 _ (.head _)
            have a2 := h9 _ (.tail _ (.head _))
            have a3 := h9 _ (.tail _ (.tail _ (.head _)))
            dsimp only at a1 a2 a3
            simp only [stP, List.contains_cons, List.contains_nil, Bool.or_false, beq_eq_false_iff_ne, ne_eq] at h8
            simp [kstB, a1, a2, a3, h8]
          case qp => exact pinv_more hI h3 hi hk9 rfl hk0 hk1 q1 q2 q3 q4 q5 q6 (fun r => by rw [go_more _ _ _ (by assumption) (by assumption) (by assumption), appLast_snoc])
  · rintro ⟨j, tj, cm, run, vs, kf, ps, tl⟩ uu h tk hI F1 N1
    dsimp only [ledP, psP] at F1 N1
    clear N7 F7
    obtain ⟨i1, i2, i3, i4, i5, i6, i7⟩ := id hI
    dsimp only at i1 i2 i3 i4 i5 i6 i7
    rw [List.drop_length, go_nil] at i4
    have hvl := i2.length
    have hsz9 : vs.length ≤ sizeLine := by rw [PySem.sizeLine_eq]; omega
    (try dsimp only)
    (try k_fold)
    k_steps
    rename Fr _ _ _ _ => F5
    rename News _ _ _ _ => N5
    refine' comp_pairs (σ := List (Addr × Obj)) (ax := fd9) (vs := vs) (kv := kf) (fun tl2 => tl2 ++ ((fd9, listOf vs.toArray kf) :: (tl ++ news))) (CInv ps news) [] F5 (by with_unfolding_all rfl) (by decide) (by rfl) (by decide) (by rfl) (by rfl) (by decide) (by rfl) hsz9 (fun c => List.mem_append_right _ (.head _)) (fun i v hv => cinv_item i2 hv) ?hit ⟨.nil, (fun _ h => nomatch h)⟩ ?trn ?fin
    case hit =>
      k_steps
      all_goals first | exact rfl | exact F5 | exact N5
    case trn =>
      intro i9 a9 v19 v29 n9 tl29 ys9 J9 oJ9 C9 oC9 D9 m29 h9 tk9 E9 hv9 hm9 hI9 hC9 hx9 hy9 F9 N9 off9 ne9
      clear N5 F5
      obtain ⟨a8, b8, p8, t8, ws8, cs8, ka8, kb8, e1, e2, e3, e4, e5, e6, e7⟩ := i2.get i9 _ hv9
      obtain rfl : a9 = a8 := by injection e1
      obtain ⟨rfl, rfl⟩ := pair_same N9 (.tail _ (.tail _ (.tail _ (hm9 _)))) (.tail _ (.tail _ (.tail _ (List.mem_append_right _ (.tail _ (List.mem_append_left _ e2))))))
      have N8 : News _ _ h9 ((J9, oJ9) :: (C9, oC9) :: (D9, LCg.lst ys9) :: (b8, listOf ws8.toArray kb8) :: (tl29 ++ ((fd9, listOf vs.toArray kf) :: (tl ++ news)))) := fun p hp => by
        rcases List.mem_cons.mp hp with rfl | hp
        · exact N9 _ (.head _)
        rcases List.mem_cons.mp hp with rfl | hp
        · exact N9 _ (.tail _ (.head _))
        rcases List.mem_cons.mp hp with rfl | hp
        · exact N9 _ (.tail _ (.tail _ (.head _)))
        rcases List.mem_cons.mp hp with rfl | hp
        · exact N9 _ (.tail _ (.tail _ (.tail _ (List.mem_append_right _ (.tail _ (List.mem_append_left _ e3))))))
        · exact N9 _ (.tail _ (.tail _ (.tail _ hp)))
      have o1 := off9.mem
      have o2 := o1 _ (List.mem_append_right _ (.tail _ (List.mem_append_left _ e3)))
      have o3 : LCg.Off3 J9 C9 D9 ((b8, listOf ws8.toArray kb8) :: (tl29 ++ ((fd9, listOf vs.toArray kf) :: (tl ++ news)))) := ⟨o2, off9⟩
      clear N9
      have hwl := e4.length
      k_steps
      rename News _ _ _ _ => N6
      rename Fr _ _ _ _ => F6
      exact LCg.CompEnd.intro F6 N6 ((_, ptO p8 t8 (byteArr cs8) _) :: (tl29 ++ ((fd9, listOf vs.toArray kf) :: (tl ++ news))))
        (List.forall_mem_cons.mpr ⟨by k_mem, List.forall_mem_cons.mpr ⟨by k_mem, List.forall_mem_cons.mpr ⟨by k_mem, List.forall_mem_cons.mpr ⟨by k_mem, by intro p hp; kst_mem⟩⟩⟩⟩)
        ⟨⟨by refine neN ?_; omega, by refine neN ?_; omega, by refine neN ?_; omega⟩, off9⟩ trivial ⟨(_, ptO p8 t8 (byteArr cs8) _) :: tl29, fun p hp => hp, cinv_next hI9 e6 (KBa.ints_make e5) (fun q hq => (by kst_allNe : ∀ q ∈ tl29 ++ ((fd9, listOf vs.toArray kf) :: (tl ++ news)), q.1 ≠ _) q (List.mem_append_right _ (.tail _ (List.mem_append_right _ hq))))⟩
    case fin =>
      intro tl29 ys9 D9 h9 tk9 hI9 F9 N9 off9
      clear N5 F5
      obtain ⟨c1, c2⟩ := hI9
      k_steps
      rename News _ _ _ _ => N6
      rename Fr _ _ _ _ => F6
      rw [List.take_of_length_le (by omega)] at c1
      refine ret D9 tl29 ys9 ys9.length _ _ F6 (cb_drop N6 (List.forall_mem_cons.mpr ⟨.head _, fun p hp => (List.mem_append.mp hp).elim (fun q => .tail _ (List.mem_append_left _ q)) (fun q => .tail _ (List.mem_append_right _ (.tail _ (List.mem_append_right _ q))))⟩)) ?_ (by rw [i4]; exact c1)
      intro q hq p hp
      rcases List.mem_cons.mp hq with rfl | hq
      · exact off9 p (List.mem_append_right _ (.tail _ (List.mem_append_right _ hp)))
      · exact c2 q hq p hp
end
end Mine
end
namespace Mine
theorem walkReset14 : True := by w_top off; trivial
end Mine
section
open PySem PySem.W PyProof.Rows PySem.Spec
namespace Mine
theorem octet_in {b : Array UInt8} {ks : List Int} {i : Int} (hb : KBw.bInts b = ks) (h0 : 0 ≤ i) (h1 : i < ks.length) : 0 ≤ ks.getD i.toNat 0 ∧ ks.getD i.toNat 0 < 256 := by
  subst hb
  have h2 : i.toNat < (KBw.bInts b).length := by omega
  rw [List.getD_eq_getElem?_getD, List.getElem?_eq_getElem h2, Option.getD_some]
  exact KBw.ints_in (List.getElem_mem h2)
section
variable {w : World} {mean : ExcName → Option Value} {mg mb : Str → Option Value} {dp un : Nat} {gd : Option (List Code)} {cn : Str} {cs : Scope} {a : Addr} {ccd : Value} {cl : List (Str × Addr)} {outer : List Env} {A₀ : Around} {base h₀ : Heap} {L : Addr} {m : Str → Option Value} {s : Shared} {Q E : Value → Shared → Prop} {all : List (Addr × Obj)} {g : Obj → List (Addr × Obj)}
theorem upd_front {d : Addr} {o : Obj} (U : UpdF d o all g) : ∃ news, (∀ q ∈ news, q.1 ≠ d) ∧ (∀ q ∈ (d, o) :: news, q ∈ all) ∧ (∀ o', ∀ q ∈ g o', q ∈ (d, o') :: news) ∧ (∀ q ∈ all, q.1 ≠ d → q ∈ news) := by
  obtain ⟨pre, post, e1, e2, h1, h2⟩ := U.split
  subst e1
  refine ⟨pre ++ post, ?_, ?_, ?_, ?_⟩
  · intro q hq
    rcases List.mem_append.mp hq with hq | hq
    · exact h1 q hq
    · exact h2 q hq
  · intro q hq
    rcases List.mem_cons.mp hq with rfl | hq
    · exact List.mem_append_right _ (.head _)
    rcases List.mem_append.mp hq with hq | hq
    · exact List.mem_append_left _ hq
    · exact List.mem_append_right _ (.tail _ hq)
  · intro o' q hq
    rw [e2] at hq
    rcases List.mem_append.mp hq with hq | hq
    · exact .tail _ (List.mem_append_left _ hq)
    rcases List.mem_cons.mp hq with rfl | hq
    · exact .head _
    · exact .tail _ (List.mem_append_right _ hq)
  · intro q hq hn
    rcases List.mem_append.mp hq with hq | hq
    · exact List.mem_append_left _ hq
    rcases List.mem_cons.mp hq with rfl | hq
    · exact absurd rfl hn
    · exact List.mem_append_right _ hq
theorem drawU {p : Addr} {n c : Int} {t1 t2 : Tok} {k : Nat} {many : Int} {tm : Tok}
    (B : Below A₀ base outer h₀) (F : Fr h₀ L s.heap m) (X : (hd.heap_39 w.params).In h₀)
    (N : News h₀ L s.heap all) (U : UpdF p (listOf (List.toArray [.int n t1, .int c t2]) k) all g)
    (T : Top hd.view_39 (looseW hd.view_39 []) mean mg mb h₀) (hk : cs.kind = .function)
    (hg : PenGood n) (hc : 0 ≤ c) (hc2 : c ≤ 1000) (hm : 0 < many) (hm2 : many ≤ 100)
    (hdp : dp + 1 < recursionLimit) (hu : un + 8 < cLine)
    (ret : ∀ d t n' t1' t2' h' tk', 0 ≤ d → d < many → PenGood n' → Fr h₀ L h' m → News h₀ L h' (g (listOf (List.toArray [.int n' t1', .int (c+1) t2']) k)) → Q (.int d t) { s with heap := h', toks := tk' }) :
    wpAny (model PySem.Challenge.rw_og0133_02.row.prog w) (ktrTop dp un gd cn cs L a ccd cl outer) (call (.ref 158) [.ref p, .int many tm]) Q E s := by
  obtain ⟨news, hne, hs, hb, _⟩ := upd_front U
  exact draw B F X (cb_drop N hs) hne T hk hg hc hc2 hm hm2 hdp hu fun d t n' t1' t2' h' tk' d0 d1 hg' F' N' => ret d t n' t1' t2' h' tk' d0 d1 hg' F' (cb_drop N' (hb _))
theorem doneU {x d : Addr} {k1 k2 k3 : Tok} {b : Array UInt8} {t0 : Tok} {i : Int} {ti : Tok} {e : Int} {te : Tok}
    (B : Below A₀ base outer h₀) (F : Fr h₀ L s.heap m) (X : (hd.heap_39 w.params).In h₀)
    (N : News h₀ L s.heap all) (hx : (x, instObj 140 d) ∈ all) (hd' : (d, curD w.params k1 k2 k3 b t0 i ti e te) ∈ all)
    (T : Top hd.view_39 (looseW hd.view_39 []) mean mg mb h₀) (hk : cs.kind = .function)
    (hdp : dp + 2 < recursionLimit) (hu : un + 16 < cLine)
    (ret : ∀ h' tk', Fr h₀ L h' m → News h₀ L h' all → Q (.bool (decide (e ≤ i))) { s with heap := h', toks := tk' }) :
    wpAny (model PySem.Challenge.rw_og0133_02.row.prog w) (ktrTop dp un gd cn cs L a ccd cl outer) (call (.ref 59) [.ref x]) Q E s :=
  done (news := all) B F X (fun q hq => N q (by
    rcases List.mem_cons.mp hq with rfl | hq
    · exact hx
    rcases List.mem_cons.mp hq with rfl | hq
    · exact hd'
    exact hq)) T hk hdp hu fun h' tk' F' N' => ret h' tk' F' (fun q hq => N' q (.tail _ (.tail _ hq)))
theorem skipwU {x d : Addr} {k1 k2 k3 : Tok} {b : Array UInt8} {ks : List Int} {t0 : Tok} {i : Int} {ti : Tok} {e : Int} {te : Tok}
    (B : Below A₀ base outer h₀) (F : Fr h₀ L s.heap m) (X : (hd.heap_39 w.params).In h₀)
    (N : News h₀ L s.heap all) (hx : (x, instObj 140 d) ∈ all) (U : UpdF d (curD w.params k1 k2 k3 b t0 i ti e te) all g) (hdx : @LT.lt Nat _ d x)
    (T : Top hd.view_39 (looseW hd.view_39 []) mean mg mb h₀) (hk : cs.kind = .function) (hb : KBw.bInts b = ks)
    (h0 : 0 ≤ i) (h1 : i ≤ e) (h2 : e ≤ ks.length) (h3 : ks.length ≤ 64)
    (hdp : dp + 3 < recursionLimit) (hu : un + 24 < cLine)
    (ret : ∀ j tj h' tk', Fr h₀ L h' m → News h₀ L h' (g (curD w.params k1 k2 k3 b t0 j tj e te)) → i ≤ j → j ≤ e → Skips ks i j e → (¬ j < e ∨ (ks.getD j.toNat 0 ≠ 37 ∧ isWhite (ks.getD j.toNat 0) = false)) → Q .none { s with heap := h', toks := tk' }) :
    wpAny (model PySem.Challenge.rw_og0133_02.row.prog w) (ktrTop dp un gd cn cs L a ccd cl outer) (call (.ref 95) [.ref x]) Q E s := by
  obtain ⟨news, hne, hs, hbk, hr⟩ := upd_front U
  have hxn : (x, instObj 140 d) ∈ news := hr _ hx (Nat.ne_of_gt hdx)
  refine skipw (ti := ti) (news := news) B F X (fun q hq => N q ?_) T hk hdx hne hb h0 h1 h2 h3 hdp hu fun j tj h' tk' F' N' e1 e2 e3 e4 => ret j tj h' tk' F' (cb_drop N' fun q hq => .tail _ (hbk _ q hq)) e1 e2 e3 e4
  rcases List.mem_cons.mp hq with rfl | hq
  · exact hx
  · exact hs q hq
theorem takerU {x d : Addr} {k1 k2 k3 : Tok} {b : Array UInt8} {ks : List Int} {t0 : Tok} {i : Int} {ti : Tok} {e : Int} {te : Tok}
    (B : Below A₀ base outer h₀) (F : Fr h₀ L s.heap m) (X : (hd.heap_39 w.params).In h₀)
    (N : News h₀ L s.heap all) (hx : (x, instObj 140 d) ∈ all) (U : UpdF d (curD w.params k1 k2 k3 b t0 i ti e te) all g) (hdx : @LT.lt Nat _ d x)
    (T : Top hd.view_39 (looseW hd.view_39 []) mean mg mb h₀) (hk : cs.kind = .function) (hb : KBw.bInts b = ks)
    (h0 : 0 ≤ i) (h1 : i ≤ e) (h2 : e ≤ ks.length) (h3 : ks.length ≤ 64)
    (hdp : dp + 3 < recursionLimit) (hu : un + 24 < cLine)
    (ret : ∀ lb tl j tj h' tk', Fr h₀ L h' m → News h₀ L h' (g (curD w.params k1 k2 k3 b t0 j tj e te)) → KBw.bInts lb = (win ks i e).takeWhile isReg → j = i + (((win ks i e).takeWhile isReg).length : Int) → win ks j e = (win ks i e).dropWhile isReg → Q (.bytes lb tl) { s with heap := h', toks := tk' }) :
    wpAny (model PySem.Challenge.rw_og0133_02.row.prog w) (ktrTop dp un gd cn cs L a ccd cl outer) (call (.ref 102) [.ref x]) Q E s := by
  obtain ⟨news, hne, hs, hbk, hr⟩ := upd_front U
  have hxn : (x, instObj 140 d) ∈ news := hr _ hx (Nat.ne_of_gt hdx)
  refine taker (ti := ti) (news := news) B F X (fun q hq => N q ?_) T hk hdx hne hb h0 h1 h2 h3 hdp hu fun lb tl j tj h' tk' F' N' e1 e2 e3 => ret lb tl j tj h' tk' F' (cb_drop N' fun q hq => .tail _ (hbk _ q hq)) e1 e2 e3
  rcases List.mem_cons.mp hq with rfl | hq
  · exact hx
  · exact hs q hq
theorem takeU {x d : Addr} {k1 k2 k3 : Tok} {b : Array UInt8} {ks : List Int} {t0 : Tok} {i : Int} {ti : Tok} {e : Int} {te : Tok}
    (B : Below A₀ base outer h₀) (F : Fr h₀ L s.heap m) (X : (hd.heap_39 w.params).In h₀)
    (N : News h₀ L s.heap all) (hx : (x, instObj 140 d) ∈ all) (U : UpdF d (curD w.params k1 k2 k3 b t0 i ti e te) all g) (hdx : @LT.lt Nat _ d x)
    (T : Top hd.view_39 (looseW hd.view_39 []) mean mg mb h₀) (hk : cs.kind = .function) (hb : KBw.bInts b = ks)
    (h0 : 0 ≤ i) (h1 : i < e) (h2 : e ≤ ks.length) (h3 : ks.length ≤ 64)
    (hdp : dp + 2 < recursionLimit) (hu : un + 16 < cLine)
    (ret : ∀ tc j tj h' tk', Fr h₀ L h' m → News h₀ L h' (g (curD w.params k1 k2 k3 b t0 j tj e te)) → j = i + 1 → 0 ≤ ks.getD i.toNat 0 → ks.getD i.toNat 0 < 256 → Q (.int (ks.getD i.toNat 0) tc) { s with heap := h', toks := tk' }) :
    wpAny (model PySem.Challenge.rw_og0133_02.row.prog w) (ktrTop dp un gd cn cs L a ccd cl outer) (call (.ref 74) [.ref x]) Q E s := by
  obtain ⟨news, hne, hs, hbk, hr⟩ := upd_front U
  have hxn : (x, instObj 140 d) ∈ news := hr _ hx (Nat.ne_of_gt hdx)
  refine take (ti := ti) (news := news) B F X (fun q hq => N q ?_) T hk hdx hne hb h0 h1 h2 h3 hdp hu fun tc j tj h' tk' F' N' e1 => ret tc j tj h' tk' F' (cb_drop N' fun q hq => .tail _ (hbk _ q hq)) e1 (octet_in hb h0 (by omega)).1 (octet_in hb h0 (by omega)).2
  rcases List.mem_cons.mp hq with rfl | hq
  · exact hx
  · exact hs q hq
end
end Mine
end
namespace Mine
theorem walkReset15 : True := by w_top off; trivial
end Mine
section
open PySem PySem.W PyProof.Rows PySem.Spec PySem.SeqAt
namespace Mine
theorem bInts_inj {a b : Array UInt8} (h : KBw.bInts a = KBw.bInts b) : a = b := by
  unfold KBw.bInts at h
  have key : ∀ (x y : List UInt8), x.map (fun c => (c.toNat : Int)) = y.map (fun c => (c.toNat : Int)) → x = y := by
    intro x
    induction x with
    | nil => intro y e; cases y with
      | nil => rfl
      | cons c r => simp at e
    | cons c r ih =>
      intro y e
      cases y with
      | nil => simp at e
      | cons d q =>
        simp only [List.map_cons, List.cons.injEq] at e
        have h1 : c.toNat = d.toNat := by omega
        rw [UInt8.toNat_inj.mp h1, ih q e.2]
  have := key a.toList b.toList h
  exact Array.toList_inj.mp this
structure LS2 where
  j : Int
  tj : Tok
  vs : List Value
  kf : Nat
  ps : Pts
  tl : List (Addr × Obj)
structure Inv2 (ks : List Int) (sp d : Addr) (i : Nat) (c : LS2) : Prop where
  lo : 0 ≤ c.j
  hi : c.j ≤ ks.length
  pr : (i : Int) ≤ c.j ∨ c.j = ks.length
  pts : PtsAre c.tl c.vs c.ps
  eq : go [] 0 false false ks = go c.ps c.j false false (win ks c.j ks.length)
  lenP : (c.ps.length : Int) ≤ c.j
  neS : ∀ q ∈ c.tl, q.1 ≠ sp
  neD : ∀ q ∈ c.tl, q.1 ≠ d
theorem win_all' (ks : List Int) : win ks 0 ks.length = ks := by simp [win]
theorem inv2_start {ks : List Int} {sp d : Addr} {tj : Tok} {kf : Nat} : Inv2 ks sp d 0 ⟨0, tj, [], kf, [], []⟩ := by
  refine ⟨by simp, by simp, by simp, .nil, ?_, by simp, (fun _ h => nomatch h), (fun _ h => nomatch h)⟩
  dsimp only
  rw [win_all']
section
variable {ks : List Int} {sp d : Addr} {i : Nat} {j0 : Int} {tj0 : Tok} {vs : List Value} {kf : Nat} {ps : Pts} {tl : List (Addr × Obj)} (h : Inv2 ks sp d i ⟨j0, tj0, vs, kf, ps, tl⟩)
include h
theorem inv2_done {j1 : Int} {tj1 : Tok} {kf' : Nat} (h1 : j0 ≤ j1) (h2 : j1 ≤ ks.length) (h3 : Skips ks j0 j1 ks.length) (h4 : ¬ j1 < ks.length) : Inv2 ks sp d (i + 1) ⟨j1, tj1, vs, kf', ps, tl⟩ := by
  obtain ⟨i1, i2, i3, i4, i5, i6, i7, i8⟩ := h
  dsimp only at *
  unfold Skips at h3
  refine ⟨by dsimp only; omega, h2, .inr (by dsimp only; omega), i4, ?_, by dsimp only; omega, i7, i8⟩
  dsimp only
  rw [i5, h3]
theorem inv2_run {j1 j2 : Int} {tj1 tj2 t : Tok} {kf' : Nat} {A : Addr} {rb : Array UInt8} (h1 : j0 ≤ j1) (h2 : j1 < ks.length) (h3 : Skips ks j0 j1 ks.length) (hr : KBw.bInts rb = (win ks j1 ks.length).takeWhile isReg) (hn : rb.size ≠ 0)
    (hj : j2 = j1 + (((win ks j1 ks.length).takeWhile isReg).length : Int)) (hw : win ks j2 ks.length = (win ks j1 ks.length).dropWhile isReg) (hA : @Ne Nat A sp) (hAd : @Ne Nat A d) :
    Inv2 ks sp d (i + 1) ⟨j2, tj2, vs ++ [.ref A], kf', ps ++ [(j1, (win ks j1 ks.length).takeWhile isReg)], (A, ptO j1 tj1 rb t) :: tl⟩ := by
  obtain ⟨i1, i2, i3, i4, i5, i6, i7, i8⟩ := h
  dsimp only at *
  unfold Skips at h3
  have hl : 0 < ((win ks j1 ks.length).takeWhile isReg).length := by
    rw [← hr, KBw.ints_length]; omega
  have hle : j2 ≤ ks.length := by
    have q1 := win_length (ks := ks) (i := j1) (e := ks.length) (by omega) (by omega) (Int.le_refl _)
    have q2 : ((win ks j1 ks.length).takeWhile isReg).length ≤ (win ks j1 ks.length).length := (List.takeWhile_sublist _).length_le
    omega
  refine ⟨by dsimp only; omega, hle, by dsimp only; omega, .snoc (i4.mono fun p hp => .tail _ hp) (.head _) hr, ?_, by dsimp only; simp; omega, ?_, ?_⟩
  · dsimp only
    rw [i5, h3, go_take _ _ (by intro q; rw [q] at hl; exact absurd hl (by simp)), hw, hj]
  · dsimp only
    intro q hq
    rcases List.mem_cons.mp hq with rfl | hq
    · exact hA
    · exact i7 q hq
  · dsimp only
    intro q hq
    rcases List.mem_cons.mp hq with rfl | hq
    · exact hAd
    · exact i8 q hq
theorem inv2_one {j1 j2 j3 : Int} {tj1 tj3 t : Tok} {kf' : Nat} {A : Addr} {rb ob : Array UInt8} (h1 : j0 ≤ j1) (h2 : j1 < ks.length) (h3 : Skips ks j0 j1 ks.length) (hr : KBw.bInts rb = (win ks j1 ks.length).takeWhile isReg) (hn : rb.size = 0)
    (hj : j2 = j1 + (((win ks j1 ks.length).takeWhile isReg).length : Int)) (hj3 : j3 = j2 + 1) (h37 : ks.getD j1.toNat 0 ≠ 37) (hwh : isWhite (ks.getD j1.toNat 0) = false) (hob : KBw.bInts ob = [ks.getD j2.toNat 0]) (hA : @Ne Nat A sp) (hAd : @Ne Nat A d) :
    Inv2 ks sp d (i + 1) ⟨j3, tj3, vs ++ [.ref A], kf', ps ++ [(j1, [ks.getD j1.toNat 0])], (A, ptO j1 tj1 ob t) :: tl⟩ := by
  obtain ⟨i1, i2, i3, i4, i5, i6, i7, i8⟩ := h
  dsimp only at *
  unfold Skips at h3
  have hl : (win ks j1 ks.length).takeWhile isReg = [] := by
    have : ((win ks j1 ks.length).takeWhile isReg).length = 0 := by rw [← hr, KBw.ints_length]; exact hn
    exact List.eq_nil_of_length_eq_zero this
  rw [hl] at hj
  have e2 : j2 = j1 := by rw [hj]; simp
  subst e2
  have hw := win_cons (ks := ks) (i := j2) (e := ks.length) (by omega) h2 (Int.le_refl _)
  have hk : isReg (ks.getD j2.toNat 0) = false := by
    rw [hw, List.takeWhile_cons] at hl
    cases q : isReg (ks.getD j2.toNat 0) with
    | false => rfl
    | true => rw [q] at hl; exact absurd hl (by simp)
  refine ⟨by dsimp only; omega, by dsimp only; omega, by dsimp only; omega, .snoc (i4.mono fun p hp => .tail _ hp) (.head _) hob, ?_, by dsimp only; simp; omega, ?_, ?_⟩
  · dsimp only
    rw [i5, h3, hw, go_one _ _ hk h37 hwh, hj3]
  · dsimp only
    intro q hq
    rcases List.mem_cons.mp hq with rfl | hq
    · exact hA
    · exact i7 q hq
  · dsimp only
    intro q hq
    rcases List.mem_cons.mp hq with rfl | hq
    · exact hAd
    · exact i8 q hq
end
theorem named_skip {ks : List Int} {i j e : Int} {P : Prop} (q : Skips ks i j e) (k : ∀ z : Int, z = j → P) : P := k j rfl
theorem one_octet {c : UInt8} {k : Int} (h : ((c.toNat : Nat) : Int) = k) : KBw.bInts #[c] = [k] := by
  unfold KBw.bInts
  simp [h]
theorem take_lt {lb : Array UInt8} {l : List Int} {j1 j2 n : Int} (h : (lb.toList != #[].toList) = false) (hb : KBw.bInts lb = l) (hj : j2 = j1 + (l.length : Int)) (hn : ¬ n ≤ j1) : j2 < n := by
  have e : lb.toList = [] := by simpa using h
  have : l = [] := by rw [← hb]; unfold KBw.bInts; rw [e]; rfl
  rw [this] at hj
  simp at hj
  omega
theorem size_zero {lb : Array UInt8} (h : (lb.toList != #[].toList) = false) : lb.size = 0 := by
  have e : lb.toList = [] := by simpa using h
  rw [← Array.length_toList, e]; rfl
theorem size_pos {lb : Array UInt8} (h : (lb.toList != #[].toList) = true) : lb.size ≠ 0 := by
  intro q
  have e : lb.toList = [] := List.eq_nil_of_length_eq_zero (by rw [Array.length_toList]; exact q)
  rw [e] at h
  exact absurd h (by simp)
theorem inv2_end {ks : List Int} {sp d : Addr} {n : Nat} {c : LS2} (h : Inv2 ks sp d n c) (hn : (n : Int) = ks.length + 1) : c.j = ks.length ∧ go [] 0 false false ks = c.ps := by
  obtain ⟨i1, i2, i3, i4, i5, i6, i7, i8⟩ := h
  have hj : c.j = ks.length := by omega
  refine ⟨hj, ?_⟩
  rw [i5, hj, win_nil (Int.le_refl _), go_nil]
section
variable {prog : Program} {w : World} {A : Around} {E : Value → Shared → Prop} {s : Shared}
theorem eqAt_bytes (b : Array UInt8) (t u : Tok) : MeetsSeq.EqGives (.bytes b t) (.bytes b u) true := by
  intro prog w A E s Q hq
  unfold eqBool
  refine wpAny_holding ?_
  refine wpAny_ite_split (fun _ => wpAny_bind (wpAny_rule (wpAny_pure hq))) (fun _ => ?_)
  exact wpAny_bind (show wpAny (model prog w) A (compareOp .Eq (.bytes b t) (.bytes b u)) _ E s from eq_bytes (wpAny_truthy_bool (by simpa using hq)))
theorem pts_eqAt {h₀ : Heap} {L a1 a2 : Addr} {news : List (Addr × Obj)} {p : Int} {l : List Int} {b1 b2 : Array UInt8} {t1 t2 u1 u2 : Tok} (N : News h₀ L s.heap news) (m1 : (a1, ptO p t1 b1 u1) ∈ news) (m2 : (a2, ptO p t2 b2 u2) ∈ news)
    (e1 : KBw.bInts b1 = l) (e2 : KBw.bInts b2 = l) (hu : A.units < cLine) : EqAt A s (.ref a1) (.ref a2) true := by
  have eb := bInts_inj (e1.trans e2.symm)
  subst eb
  by_cases hne : a1 = a2
  · subst hne; exact EqAt.same _
  · refine EqAt.of_refs hne ?_
    have q := RcAt.tuples (e := fun _ => true) (News.isTup N m1) (News.isTup N m2) hu (fun j h1 h2 => ?_)
    · exact q
    · match j, h1, h2 with
      | 0, _, _ => exact (by simpa using MeetsSeq.EqGives.at (MeetsSeq.EqGives.int p p t1 t2) A.in1 s)
      | 1, _, _ => exact (eqAt_bytes b1 u1 u2).at A.in1 s
      | n + 2, h1, _ => exact absurd h1 (by simp)
theorem pts_eqK {h₀ : Heap} {L a b : Addr} {news tl1 tl2 : List (Addr × Obj)} {vs ws : List Value} {ps : Pts} {ka kb : Nat} {Q : Value → Shared → Prop} (N : News h₀ L s.heap news) (ha : (a, listOf vs.toArray ka) ∈ news) (hb : (b, listOf ws.toArray kb) ∈ news)
    (pa : PtsAre tl1 vs ps) (sa : ∀ p ∈ tl1, p ∈ news) (pb : PtsAre tl2 ws ps) (sb : ∀ p ∈ tl2, p ∈ news) (hu : A.units + 64 < cLine) (h : Q (.bool true) s) :
    wpAny (model prog w) A (compareOp .Eq (.ref a) (.ref b)) Q E s := by
  have l1 := pa.length
  have l2 := pb.length
  refine eq_listAt (e := fun _ => true) (News.isList N ha) (News.isList N hb) (by simp; omega) (by omega) (fun j h1 h2 => ?_) (by rw [List.all_eq_true.mpr (fun _ _ => rfl)]; exact h)
  have hj : j < ps.length := by simp at h1; omega
  obtain ⟨a1, b1, u1, t1, x1, x2, x3⟩ := pa.get j ps[j].1 ps[j].2 (List.getElem?_eq_getElem hj)
  obtain ⟨a2, b2, u2, t2, y1, y2, y3⟩ := pb.get j ps[j].1 ps[j].2 (List.getElem?_eq_getElem hj)
  have v1 : vs.toArray[j] = .ref a1 := by
    have h3 : j < vs.length := by omega
    rw [List.getElem?_eq_getElem h3] at x1
    simpa using x1
  have v2 : ws.toArray[j] = .ref a2 := by
    have h3 : j < ws.length := by omega
    rw [List.getElem?_eq_getElem h3] at y1
    simpa using y1
  rw [v1, v2]
  exact pts_eqAt N (sa _ x2) (sb _ y2) x3 y3 (by rw [units_in1]; omega)
end
end Mine
end
namespace Mine
theorem walkReset16 : True := by w_top off; trivial
end Mine
section
open PySem PySem.W PyProof.Rows PySem.Spec
namespace Mine
abbrev led2 (P : Params) (sp x d : Addr) (k1 k2 k3 : Tok) (b : Array UInt8) (t0 : Tok) (en : Int) (te : Tok) (c : LS2) : List (Addr × Obj) :=
  (sp, listOf c.vs.toArray c.kf) :: (x, instObj 140 d) :: (d, curD P k1 k2 k3 b t0 c.j c.tj en te) :: c.tl
abbrev ps2 (c : LS2) : List (Str × Value) := []
abbrev st2 : List Str := [Str.ofString "turn", Str.ofString "place", Str.ofString "run"]
section
variable {prog : Program} {w : World} {A : Around} {E : Value → Shared → Prop} {Q : Flow → Shared → Prop} {s : Shared} {env : Env} {h₀ : Heap} {target : PySem.Expr} {body : List Stmt}
theorem loop2 {ks : List Int} {P : Params} {sp x d r : Addr} {k1 k2 k3 : Tok} {b : Array UInt8} {t0 tj0 te t1 t2 t3 : Tok} {kf0 : Nat} {rest : List (Addr × Obj)} {m₀ : Str → Option Value}
    (hh : A.handled = none) (hgo : ∀ it v, letOwnedTupleGo target it v = pure ()) (F : Fr h₀ env.locals s.heap m₀)
    (N : News h₀ env.locals s.heap ((sp, listOf (List.toArray []) kf0) :: (x, instObj 140 d) :: (d, curD P k1 k2 k3 b t0 0 tj0 ks.length te) :: rest))
    (hr : IsRange s.heap r 0 ((ks.length : Int) + 1) 1 t1 t2 t3) (h3 : ks.length ≤ 64) (hds : @LT.lt Nat _ d sp) (hxs : @LT.lt Nat _ x sp)
    (turn : ∀ i tv j tj vs kf ps tl (uu : Str → Option Value) h tk I oI, Inv2 ks sp d i ⟨j, tj, vs, kf, ps, tl⟩ → (@Ne Nat sp I) → (@Ne Nat x I) → (@Ne Nat d I) → (∀ q ∈ tl, q.1 ≠ I) →
      Fr h₀ env.locals h (kstB (fun z => if st2.contains z then uu z else m₀ z) []) → News h₀ env.locals h ((I, oI) :: (sp, listOf vs.toArray kf) :: (x, instObj 140 d) :: (d, curD P k1 k2 k3 b t0 j tj ks.length te) :: tl) →
      wpAny (model prog w) A (assign target env (.int (0 + (i : Int)) tv)) (fun _ s₃ => wpAny (model prog w) A (execs body env) (TPost h₀ env.locals { s with heap := h, toks := tk } (led2 P sp x d k1 k2 k3 b t0 ks.length te) ps2 st2 m₀ (Inv2 ks sp d (i + 1)) I oI Q) E s₃) E { s with heap := h, toks := tk })
    (done : ∀ tj vs kf tl (uu : Str → Option Value) h tk, PtsAre tl vs (go [] 0 false false ks) → (∀ q ∈ tl, q.1 ≠ sp) → (∀ q ∈ tl, q.1 ≠ d) →
      Fr h₀ env.locals h (kstB (fun z => if st2.contains z then uu z else m₀ z) []) → News h₀ env.locals h ((sp, listOf vs.toArray kf) :: (x, instObj 140 d) :: (d, curD P k1 k2 k3 b t0 ks.length tj ks.length te) :: tl) → Q .next { s with heap := h, toks := tk }) :
    wpAny (model prog w) A (pyIter (.ref r)) (fun it s₂ => TurnsAt prog w A h₀ env target body Q E it s₂) E s := by
  refine turns_range (led2 P sp x d k1 k2 k3 b t0 ks.length te) ps2 st2 (Inv2 ks sp d) ⟨0, tj0, [], kf0, [], []⟩ (n := ks.length + 1) hr ?_ ?_ hh hgo F (fun p hp => N p ?_) (fun _ h => nomatch h) inv2_start ?_ ?_
  · exact small_one (a := 0) (b := (ks.length : Int) + 1) (by decide) (by decide) (by omega) (by omega)
  · have := rangeSize_nat 0 ((ks.length : Int) + 1)
    rw [this]
    omega
  · rcases List.mem_cons.mp hp with rfl | hp
    · exact .head _
    rcases List.mem_cons.mp hp with rfl | hp
    · exact .tail _ (.head _)
    rcases List.mem_cons.mp hp with rfl | hp
    · exact .tail _ (.tail _ (.head _))
    · cases hp
  · rintro i tv ⟨j, tj, vs, kf, ps, tl⟩ uu h tk I oI hi hI hne F1 N1
    exact turn i tv j tj vs kf ps tl uu h tk I oI hI (hne _ (.head _)) (hne _ (.tail _ (.head _))) (hne _ (.tail _ (.tail _ (.head _)))) (fun q hq => hne q (.tail _ (.tail _ (.tail _ hq)))) F1 N1
  · rintro ⟨j, tj, vs, kf, ps, tl⟩ uu h tk hI F1 N1
    obtain ⟨e1, e2⟩ := inv2_end hI (by omega)
    have i4 := hI.pts
    have i7 := hI.neS
    have i8 := hI.neD
    dsimp only at e1 e2 i4 i7 i8 F1 N1
    subst e1
    exact done tj vs kf tl uu h tk (e2 ▸ i4) i7 i8 F1 N1
end
end Mine
end
namespace Mine
theorem walkReset17 : True := by w_top off; trivial
end Mine
section
open PySem PySem.W PyProof.Rows PySem.Spec
namespace Mine
local macro_rules | `(tactic| k_all) => `(tactic| assumption)
local macro_rules | `(tactic| k_room) => `(tactic| ktr_room)
local macro_rules | `(tactic| k_units) => `(tactic| first | exact Nat.le_of_ble_eq_true rfl | ktr_units)
local macro_rules | `(tactic| units_room) => `(tactic| ktr_units)
local macro_rules | `(tactic| k_enter) => `(tactic| (refine' code_def ?k1 ?k2 ?k3 ?k4 ?k5 ?kA ?kF ?kK ?k6 ?k7 ?k8 ?k9 ?kB ?_ ?c2 ?c3 ?c4 ?c5; (case kA => exact rfl); (case kF => exact rfl); (case kK => first | exact rfl | assumption); (case k1 => k_asm); (case k2 => k_asm); (case k3 => k_asm); (case k4 => k_asm); (case k5 => k_asm); (case k6 => k_is); (case k7 => k_is); (case k8 => k_room); (case k9 => first | exact BindsTo.of_eq rfl | exact binds_K (by k_in) rfl (by k_is) rfl rfl rfl | fail "k_enter: no rule for these arguments"); (case c5 => decide); (case kB => exact locs rfl); (case c2 => exact rfl); (case c3 => exact rfl); (case c4 => exact rfl); k_whole; intro g' L' h' FG' F' N' B' X' T'; (try dsimp only); (try k_lift B'); (try k_fold)))
local macro_rules | `(tactic| walk_at "execs nil") => `(tactic| refine wpAny_execs_nil ?_)
local macro_rules | `(tactic| walk_at "execs cons") => `(tactic| ((with_reducible refine wpAny_execs_cons ?_); (try (refine gen_toks ?_; intro tk9)); (try dsimp only)))
local macro_rules | `(tactic| k_steps) => `(tactic| repeat' (first | (k_unfold; (try dsimp only)) | ((fail_if_success (with_reducible show wpAny _ _ (exec (Stmt.While _ _ _ _) _) _ _ _)); (fail_if_success (with_reducible show LCg.CompSrc _ _ _ _ _ _ _ _ _ _ _ _ _ _)); (fail_if_success (with_reducible show KswEnd _ _ _ _ _ _ _ _ _ _ _ _)); first | walk1 | (dsimp only; walk1)) | fail "no step"))
local macro_rules | `(tactic| walk_at "eval ListComp") => `(tactic| (k_here; lcf_look; k_dflt (refine LCg.ListComp_U (F₀ := by k_asm) (by with_unfolding_all rfl) (by decide) (by rfl) (by decide) (by rfl) ?_)))
section
local macro_rules | `(tactic| walk_at "call ref") => `(tactic| (k_here; (k_dflt (show wpAny _ _ (call (Value.ref 151) [Value.ref _]) _ _ _)); k_dflt ((refine' pen ?B ?F ?X ?N ?T ?hk ?hl ?hi ?hlay ?hdp ?hu ?_); (case B => first | k_asm | fail "B"); (case F => first | k_asm | fail "F"); (case X => first | k_asm | fail "X"); (case N => first | k_asm | fail "N"); (case T => first | k_asm | fail "T"); (case hk => first | first | exact rfl | assumption | fail "hk"); (case hl => first | k_asm | fail "hl"); (case hi => first | k_asm | fail "hi"); (case hlay => first | lay_of | fail "hlay"); (case hdp => first | ktr_room | fail "hdp"); (case hu => first | ((try simp only [units_in1, units_deeper, Around.mark_units, units_caller]); (rw [cLine_is]); first | decide | omega) | ktr_units | fail "hu"); intro p9 n9 t91 t92 k9 h9 tk9 e91 e92 F9 N9; (have e93 := ltN (e92 _ (.head _))); clear e92; (try dsimp only); (try k_fold))))
local macro_rules | `(tactic| walk_at "call ref") => `(tactic| (k_here; (k_dflt (show wpAny _ _ (call (Value.ref 158) [Value.ref _, Value.int _ _]) _ _ _)); k_dflt ((refine' drawU ?B ?F ?X ?N ?U ?T ?hk ?hg ?hc ?hc2 ?hm ?hm2 ?hdp ?hu ?_); (case B => first | k_asm | fail "B"); (case F => first | k_asm | fail "F"); (case X => first | k_asm | fail "X"); (case N => first | k_asm | fail "N"); (case U => first | k_updF | fail "U"); (case T => first | k_asm | fail "T"); (case hk => first | first | exact rfl | assumption | fail "hk"); (case hg => first | assumption | fail "hg"); (case hc => first | omega | fail "hc"); (case hc2 => first | omega | fail "hc2"); (case hm => first | omega | fail "hm"); (case hm2 => first | omega | fail "hm2"); (case hdp => first | ktr_room | fail "hdp"); (case hu => first | ((try simp only [units_in1, units_deeper, Around.mark_units, units_caller]); (rw [cLine_is]); first | decide | omega) | ktr_units | fail "hu"); intro d9 td9 n9 t91 t92 h9 tk9 e90 e91 e92 F9 N9; (try dsimp only); (try k_fold))))
local macro_rules | `(tactic| walk_at "call ref") => `(tactic| (k_here; (k_dflt (show wpAny _ _ (call (Value.ref 140) [Value.bytes _ _]) _ _ _)); k_dflt ((refine' make1 ?B ?F ?X ?N ?T ?hk ?hb ?h3 ?hdp ?hu ?_); (case B => first | k_asm | fail "B"); (case F => first | k_asm | fail "F"); (case X => first | k_asm | fail "X"); (case N => first | k_asm | fail "N"); (case T => first | k_asm | fail "T"); (case hk => first | first | exact rfl | assumption | fail "hk"); (case hb => first | assumption | fail "hb"); (case h3 => first | omega | fail "h3"); (case hdp => first | ktr_room | fail "hdp"); (case hu => first | ((try simp only [units_in1, units_deeper, Around.mark_units, units_caller]); (rw [cLine_is]); first | decide | omega) | ktr_units | fail "hu"); intro x9 d9 k91 k92 k93 t19 te9 h9 tk9 e91 e92 F9 N9; (have e93 := allLt_of e91); (try k_lt e93); (replace e92 := ltN e92); (try dsimp only [curD] at N9); (try dsimp only); (try k_fold))))
local macro_rules | `(tactic| walk_at "call ref") => `(tactic| (k_here; (k_dflt (show wpAny _ _ (call (Value.ref 59) [Value.ref _]) _ _ _)); k_dflt ((refine' doneU ?B ?F ?X ?N ?hx ?hd8 ?T ?hk ?hdp ?hu ?_); (case B => first | k_asm | fail "B"); (case F => first | k_asm | fail "F"); (case X => first | k_asm | fail "X"); (case N => first | k_asm | fail "N"); (case hx => first | k_mem | fail "hx"); (case hd8 => first | k_mem | fail "hd8"); (case T => first | k_asm | fail "T"); (case hk => first | first | exact rfl | assumption | fail "hk"); (case hdp => first | ktr_room | fail "hdp"); (case hu => first | ((try simp only [units_in1, units_deeper, Around.mark_units, units_caller]); (rw [cLine_is]); first | decide | omega) | ktr_units | fail "hu"); intro h9 tk9 F9 N9; (try dsimp only); (try k_fold))))
local macro_rules | `(tactic| walk_at "call ref") => `(tactic| (k_here; (k_dflt (show wpAny _ _ (call (Value.ref 95) [Value.ref _]) _ _ _)); k_dflt ((refine' skipwU ?B ?F ?X ?N ?hx ?U ?hdx ?T ?hk ?hb ?h0 ?h1 ?h2 ?h3 ?hdp ?hu ?_); (case B => first | k_asm | fail "B"); (case F => first | k_asm | fail "F"); (case X => first | k_asm | fail "X"); (case N => first | k_asm | fail "N"); (case hx => first | k_mem | fail "hx"); (case U => first | k_updF | fail "U"); (case hdx => first | assumption | fail "hdx"); (case T => first | k_asm | fail "T"); (case hk => first | first | exact rfl | assumption | fail "hk"); (case hb => first | assumption | fail "hb"); (case h0 => first | omega | fail "h0"); (case h1 => first | omega | fail "h1"); (case h2 => first | omega | fail "h2"); (case h3 => first | omega | fail "h3"); (case hdp => first | ktr_room | fail "hdp"); (case hu => first | ((try simp only [units_in1, units_deeper, Around.mark_units, units_caller]); (rw [cLine_is]); first | decide | omega) | ktr_units | fail "hu"); intro j9 tj9 h9 tk9 F9 N9 sk1 sk2 sk3 sk4; (try dsimp only); (try k_fold))))
local macro_rules | `(tactic| walk_at "call ref") => `(tactic| (k_here; (k_dflt (show wpAny _ _ (call (Value.ref 102) [Value.ref _]) _ _ _)); k_dflt ((refine' takerU ?B ?F ?X ?N ?hx ?U ?hdx ?T ?hk ?hb ?h0 ?h1 ?h2 ?h3 ?hdp ?hu ?_); (case B => first | k_asm | fail "B"); (case F => first | k_asm | fail "F"); (case X => first | k_asm | fail "X"); (case N => first | k_asm | fail "N"); (case hx => first | k_mem | fail "hx"); (case U => first | k_updF | fail "U"); (case hdx => first | assumption | fail "hdx"); (case T => first | k_asm | fail "T"); (case hk => first | first | exact rfl | assumption | fail "hk"); (case hb => first | assumption | fail "hb"); (case h0 => first | omega | fail "h0"); (case h1 => first | omega | fail "h1"); (case h2 => first | omega | fail "h2"); (case h3 => first | omega | fail "h3"); (case hdp => first | ktr_room | fail "hdp"); (case hu => first | ((try simp only [units_in1, units_deeper, Around.mark_units, units_caller]); (rw [cLine_is]); first | decide | omega) | ktr_units | fail "hu"); intro lb9 tl9 j9 tj9 h9 tk9 F9 N9 tr1 tr2 tr3; (try dsimp only); (try k_fold))))
local macro_rules | `(tactic| walk_at "call ref") => `(tactic| (k_here; (k_dflt (show wpAny _ _ (call (Value.ref 74) [Value.ref _]) _ _ _)); k_dflt ((refine' takeU ?B ?F ?X ?N ?hx ?U ?hdx ?T ?hk ?hb ?h0 ?h1 ?h2 ?h3 ?hdp ?hu ?_); (case B => first | k_asm | fail "B"); (case F => first | k_asm | fail "F"); (case X => first | k_asm | fail "X"); (case N => first | k_asm | fail "N"); (case hx => first | k_mem | fail "hx"); (case U => first | k_updF | fail "U"); (case hdx => first | assumption | fail "hdx"); (case T => first | k_asm | fail "T"); (case hk => first | first | exact rfl | assumption | fail "hk"); (case hb => first | assumption | fail "hb"); (case h0 => first | omega | fail "h0"); (case h1 => first | first | exact take_lt (by assumption) (by assumption) (by assumption) (by assumption) | omega | fail "h1"); (case h2 => first | omega | fail "h2"); (case h3 => first | omega | fail "h3"); (case hdp => first | ktr_room | fail "hdp"); (case hu => first | ((try simp only [units_in1, units_deeper, Around.mark_units, units_caller]); (rw [cLine_is]); first | decide | omega) | ktr_units | fail "hu"); intro tc9 j9 tj9 h9 tk9 F9 N9 ta1 ta2 ta3; (try dsimp only); (try k_fold))))
local macro_rules | `(tactic| walk_at "call ref") => `(tactic| (k_here; (k_dflt (show wpAny _ _ (call (Value.ref 163) [Value.bytes _ _]) _ _ _)); k_dflt ((refine' partsC ?B ?F ?X ?N ?T ?hk ?hb ?h3 ?hdp ?hu ?_); (case B => first | k_asm | fail "B"); (case F => first | k_asm | fail "F"); (case X => first | k_asm | fail "X"); (case N => first | k_asm | fail "N"); (case T => first | k_asm | fail "T"); (case hk => first | first | exact rfl | assumption | fail "hk"); (case hb => first | assumption | fail "hb"); (case h3 => first | omega | fail "h3"); (case hdp => first | ktr_room | fail "hdp"); (case hu => first | ((try simp only [units_in1, units_deeper, Around.mark_units, units_caller]); (rw [cLine_is]); first | decide | omega) | ktr_units | fail "hu"); intro r9 tl9 ws9 k9 h9 tk9 F9 N9 ap9 pt9; (try dsimp only); (try k_fold))))
local macro_rules | `(tactic| walk_at "subscriptTail") => `(tactic| (k_here; (with_reducible show wpAny _ _ (subscriptTail (PySem.Expr.Name _ _) _ (Value.ref _) (Value.int _ _)) _ _ _); (with_unfolding_all (refine' item_anyT ?k1 ?k2 ?k3 ?k4 ?k5 ?_; (case k1 => first | exact News.isTup (by k_asm) (by k_mem) | fail "k1"); (case k2 => first | l_ints | fail "k2"); (case k3 => first | assumption | fail "k3"); (case k4 => first | (simp only [List.length_cons, List.length_nil]; omega) | fail "k4"); (case k5 => first | omega | fail "k5"); k_whole)); intro _; kmn_bounds))
local macro_rules | `(tactic| ktr_unf) => `(tactic| repeat' (first | (k_unfold; (try dsimp only)) | ((fail_if_success (with_reducible show wpAny _ _ (exec (Stmt.While _ _ _ _) _) _ _ _)); (fail_if_success (with_reducible show LCg.CompSrc _ _ _ _ _ _ _ _ _ _ _ _ _ _)); (fail_if_success (with_reducible show KswEnd _ _ _ _ _ _ _ _ _ _ _ _)); first | walk1 | (dsimp only; walk1)) | fail "no step"))
local macro_rules | `(tactic| k_steps) => `(tactic| repeat' (first | (k_unfold; (try dsimp only)) | ((fail_if_success (with_reducible show wpAny _ _ (exec (Stmt.While _ _ _ _) _) _ _ _)); (fail_if_success (with_reducible show LCg.CompSrc _ _ _ _ _ _ _ _ _ _ _ _ _ _)); (fail_if_success (with_reducible show wpAny _ _ (exec (Stmt.For _ _ _ _ _) _) _ _ _)); (fail_if_success (with_reducible show wpAny _ _ (pyIter _) _ _ _)); (fail_if_success (with_reducible show wpAny _ _ (compareOp CmpOp.Eq (Value.ref _) (Value.ref _)) _ _ _)); first | walk1 | (dsimp only; walk1)) | fail "no step"))
theorem news_pen {g h : Heap} {L : Addr} {q p : Addr × Obj} {r : List (Addr × Obj)} (N : News g L h (q :: p :: r)) : News g L h (p :: q :: r) := fun z hz => N z (by
  rcases List.mem_cons.mp hz with rfl | hz
  · exact .tail _ (.head _)
  rcases List.mem_cons.mp hz with rfl | hz
  · exact .head _
  · exact .tail _ (.tail _ hz))
theorem boolT {P : Bool → Prop} {b : Bool} (hb : b = true) (h : P true) : P b := by rw [hb]; exact h
theorem fin_led2 {g h : Heap} {L : Addr} {q p1 p2 p3 : Addr × Obj} {t1 t2 : List (Addr × Obj)} (N : News g L h (q :: (t1 ++ (p1 :: p2 :: p3 :: t2)))) : News g L h [p2, p3] := fun z hz => N z (by
  rcases List.mem_cons.mp hz with rfl | hz
  · exact .tail _ (List.mem_append_right _ (.tail _ (.head _)))
  rcases List.mem_cons.mp hz with rfl | hz
  · exact .tail _ (List.mem_append_right _ (.tail _ (.tail _ (.head _))))
  · cases hz)
set_option maxRecDepth 100000 in
set_option maxHeartbeats 4000000 in
theorem lawx : PySem.Challenge.rw_og0133_02.Holds := hd (by
  k_go0
  all_goals (try k_fold)
  k_steps
  rename (IsRange _ _ _ _ _ _ _ _) => hR
  rename News _ _ _ _ => N9
  rename Fr _ _ _ _ => F9
  rename PenGood _ => hg9
  refine LCg.CompSrc.range (by rfl) F9 (news_pen N9) hR (by first | exact small_one (by kcf_bnd) (by kcf_bnd) (by kcf_bnd) (by kcf_bnd) | decide) (by first | exact rangeSize_nat _ _ | rfl) (by rw [PySem.sizeLine_eq]; omega) ?_
  intro g'
  refine comp_pen hg9 ?_ ?_
  · intro i9 n9 t19 t29 ys9 v9 I9 oI9 C9 oC9 D9 m29 h9 tk9 E9 hi9 hg9 hP9 hC9 hx9 F9 N9 off9 ne9
    obtain ⟨tv9, e9⟩ := hP9
    subst e9
    simp only [LCg.Off3, and_true] at off9
    k_steps
    rename PenGood _ => hg8
    refine' penEl_intro ?pz1 hg8 ?pz2 ?pz3 ?pz4
    case pz1 => kcf_all
    case pz2 => omega
    case pz3 => omega
    case pz4 => omega
  · intro n9 t19 t29 ys9 ks9 hg9 hI9 hIn9 hl9
    have hb9 := KBa.ints_make hIn9
    k_steps
    rename Fr _ _ _ _ => F8
    refine For_turns F8 ?_
    k_steps
    rename (IsRange _ _ _ _ _ _ _ _) => hR8
    rename News _ _ _ _ => N7
    rename Fr _ _ _ _ => F7
    refine loop2 (by rfl) (fun _ _ => rfl) F7 N7 hR8 (by omega) (by refine ltN ?_; omega) (by refine ltN ?_; omega) ?_ ?_
    · intro i tv j tj vs kf ps tl uu h tk I oI hT hd1 hd2 hd3 hd4 F6 N6
      clear N7 F7
      obtain ⟨f1, f2, f3, f4, f5, f6, f7, f8⟩ := id hT
      dsimp only at f1 f2 f3 f4 f5 f6 f7 f8
      have hvl := f4.length
      dsimp only [curD] at N6
      (try dsimp only)
      (try k_fold)
      k_steps
      · rename News _ _ _ _ => N5
        rename Fr _ _ _ _ => F5
        try simp only [List.push_toArray] at N5
        refine' tend ⟨_, _, vs, kf, ps, tl⟩ F5 N5 (fun p hp => hp) (List.forall_mem_cons.mpr ⟨hd1, List.forall_mem_cons.mpr ⟨hd2, List.forall_mem_cons.mpr ⟨hd3, hd4⟩⟩⟩) (fun _ h => nomatch h) ?qr ?qp
        case qr =>
          intro z9 h9 h8
          simp only [st2, List.contains_cons, List.contains_nil, Bool.or_false, Bool.or_eq_false_iff, beq_eq_false_iff_ne, ne_eq] at h8
          simp [kstB, h8.1, h8.2.1, h8.2.2]
        case qp => exact inv2_done hT (by assumption) (by assumption) (by assumption) (by omega)
      · rename News _ _ _ _ => N5
        rename Fr _ _ _ _ => F5
        try simp only [List.push_toArray] at N5
        rename Skips _ _ _ _ => sk8
        refine named_skip sk8 ?_
        intro jA eA
        subst eA
        refine' tend ⟨_, _, vs ++ [.ref _], kf + 1, ps ++ [(jA, (win ks9 jA ks9.length).takeWhile isReg)], (_, ptO jA _ _ _) :: tl⟩ F5 N5 (List.forall_mem_cons.mpr ⟨by k_mem, List.forall_mem_cons.mpr ⟨by k_mem, List.forall_mem_cons.mpr ⟨by k_mem, List.forall_mem_cons.mpr ⟨by k_mem, List.forall_mem_cons.mpr ⟨by k_mem, by intro p hp; kst_mem⟩⟩⟩⟩⟩) (List.forall_mem_cons.mpr ⟨hd1, List.forall_mem_cons.mpr ⟨hd2, List.forall_mem_cons.mpr ⟨hd3, List.forall_mem_cons.mpr ⟨by refine neN ?_; omega, hd4⟩⟩⟩⟩) (fun _ h => nomatch h) ?qr ?qp
        case qr =>
          intro z9 h9 h8
          simp only [st2, List.contains_cons, List.contains_nil, Bool.or_false, Bool.or_eq_false_iff, beq_eq_false_iff_ne, ne_eq] at h8
          simp [kstB, h8.1, h8.2.1, h8.2.2]
        case qp => exact inv2_run hT (by assumption) (by omega) (by assumption) (by assumption) (size_pos (by assumption)) (by assumption) (by assumption) (by refine neN ?_; omega) (by refine neN ?_; omega)
      · rename News _ _ _ _ => N5
        rename Fr _ _ _ _ => F5
        try simp only [List.push_toArray] at N5
        rename Skips _ _ _ _ => sk8
        refine named_skip sk8 ?_
        intro jA eA
        subst eA
        refine' tend ⟨_, _, vs ++ [.ref _], kf + 1, ps ++ [(jA, [ks9.getD jA.toNat 0])], (_, ptO jA _ _ _) :: tl⟩ F5 N5 (List.forall_mem_cons.mpr ⟨by k_mem, List.forall_mem_cons.mpr ⟨by k_mem, List.forall_mem_cons.mpr ⟨by k_mem, List.forall_mem_cons.mpr ⟨by k_mem, List.forall_mem_cons.mpr ⟨by k_mem, by intro p hp; kst_mem⟩⟩⟩⟩⟩) (List.forall_mem_cons.mpr ⟨hd1, List.forall_mem_cons.mpr ⟨hd2, List.forall_mem_cons.mpr ⟨hd3, List.forall_mem_cons.mpr ⟨by refine neN ?_; omega, hd4⟩⟩⟩⟩) (fun _ h => nomatch h) ?qr ?qp
        case qr =>
          intro z9 h9 h8
          simp only [st2, List.contains_cons, List.contains_nil, Bool.or_false, Bool.or_eq_false_iff, beq_eq_false_iff_ne, ne_eq] at h8
          simp [kstB, h8.1, h8.2.1, h8.2.2]
        case qp =>
          rename (¬ _ < _ ∨ _ ∧ _) => hw9
          have hw8 := hw9.resolve_left (by omega)
          exact inv2_one hT (by assumption) (by omega) (by assumption) (by assumption) (size_zero (by assumption)) (by assumption) (by assumption) hw8.1 hw8.2 (one_octet (by assumption)) (by refine neN ?_; omega) (by refine neN ?_; omega)
    · intro tj vs kf tl uu h tk hpt hd1 hd2 F6 N6
      clear N7 F7
      dsimp only [curD] at N6
      (try dsimp only)
      (try k_fold)
      k_steps
      rename PtsAre _ _ _ => pt7
      rename News _ _ _ _ => N5
      refine pts_eqK N5 (.tail _ (List.mem_append_right _ (.head _))) (.head _) hpt (fun p hp => .tail _ (List.mem_append_right _ (.tail _ (.tail _ (.tail _ hp))))) pt7 (fun p hp => .tail _ (List.mem_append_left _ hp)) (by (try simp only [units_in1, units_deeper, Around.mark_units, units_caller]); (rw [cLine_is]); first | decide | omega) ?_
      have N4 := fin_led2 N5
      clear N5 N6 pt7
      (try dsimp only)
      (try k_fold)
      k_steps
      refine boolT (P := fun q => GoodW _ _ _ _ _ (Except.ok (Flow.ret (Value.bool q))) _) ?_ ?_
      · exact decide_eq_true (Int.le_refl _)
      · (k_end; kc_close))
end
end Mine
end
theorem PySem.Challenge.cw_og0133_02_holds : PySem.Challenge.rw_og0133_02.Holds :=
  Mine.lawx
