import PyProof.Rows.All
import Wide.All
import OpenK.AllK
import Wide.FinOn
import PySem.Challenge.RW_og0133_01
set_option Elab.async false
section
open PySem PySem.W PyProof.Rows
namespace Mine
set_option maxRecDepth 100000 in
set_option maxHeartbeats 8000000 in
open_top hd for PySem.Challenge.rw_og0133_01
end Mine
end
namespace Mine
theorem walkReset1 : True := by w_top off; trivial
end Mine
section

namespace Mine
/-- the octets from place i up to e -/
def win (ks : List Int) (i e : Int) : List Int := (ks.take e.toNat).drop i.toNat
/-- the length of the line's end at the head -/
def eol : List Int → Nat
  | [] => 0
  | k :: r => if k = 13 then (match r with | [] => 1 | k2 :: _ => if k2 = 10 then 2 else 1) else if k = 10 then 1 else 0
theorem win_cons {ks : List Int} {i e : Int} (h0 : 0 ≤ i) (h1 : i < e) (h2 : e ≤ ks.length) : win ks i e = ks.getD i.toNat 0 :: win ks (i + 1) e := by
  unfold win
  have hl : i.toNat < (ks.take e.toNat).length := by rw [List.length_take]; omega
  have hl2 : i.toNat < ks.length := by omega
  rw [List.drop_eq_getElem_cons hl, List.getElem_take, List.getD_eq_getElem?_getD, List.getElem?_eq_getElem hl2, Option.getD_some, show (i + 1).toNat = i.toNat + 1 from by omega]
theorem win_nil {ks : List Int} {i e : Int} (h1 : e ≤ i) : win ks i e = [] := by
  unfold win
  refine List.drop_eq_nil_of_le ?_
  rw [List.length_take]
  omega
section
variable {ks : List Int} {i e : Int} (h0 : 0 ≤ i) (h2 : e ≤ ks.length)
include h0 h2
theorem eol_two (a : i + 0 < e) (b : ks.getD (i + 0).toNat 0 = 13) (c : i + 1 + 0 < e) (d : ks.getD (i + 1 + 0).toNat 0 = 10) : eol (win ks i e) = 2 := by
  rw [Int.add_zero] at *
  rw [win_cons h0 a h2, win_cons (by omega) c h2]
  generalize ks.getD i.toNat 0 = p at *
  generalize ks.getD (i + 1).toNat 0 = q at *
  simp [eol, b, d]
theorem eol_one_a (a : i + 0 < e) (b : ks.getD (i + 0).toNat 0 = 13) (c : i + 1 + 0 < e) (d : ks.getD (i + 1 + 0).toNat 0 ≠ 10) : eol (win ks i e) = 1 := by
  rw [Int.add_zero] at *
  rw [win_cons h0 a h2, win_cons (by omega) c h2]
  generalize ks.getD i.toNat 0 = p at *
  generalize ks.getD (i + 1).toNat 0 = q at *
  simp [eol, b, d]
theorem eol_one_b (a : i + 0 < e) (b : ks.getD (i + 0).toNat 0 = 13) (c : ¬ i + 1 + 0 < e) : eol (win ks i e) = 1 := by
  rw [Int.add_zero] at *
  rw [win_cons h0 a h2, win_nil (by omega)]
  generalize ks.getD i.toNat 0 = p at *
  simp [eol, b]
theorem eol_one_c (a : i + 0 < e) (b : ks.getD (i + 0).toNat 0 ≠ 13) (d : ks.getD (i + 0).toNat 0 = 10) : eol (win ks i e) = 1 := by
  rw [Int.add_zero] at *
  rw [win_cons h0 a h2]
  generalize ks.getD i.toNat 0 = p at *
  simp [eol, d]
theorem eol_zero_a (a : i + 0 < e) (b : ks.getD (i + 0).toNat 0 ≠ 13) (d : ks.getD (i + 0).toNat 0 ≠ 10) : eol (win ks i e) = 0 := by
  rw [Int.add_zero] at *
  rw [win_cons h0 a h2]
  generalize ks.getD i.toNat 0 = p at *
  simp [eol, b, d]
omit h0 h2 in
theorem eol_zero_b (a : ¬ i + 0 < e) : eol (win ks i e) = 0 := by
  rw [Int.add_zero] at *
  rw [win_nil (by omega)]
  rfl
end
theorem eol_le : ∀ (r : List Int), eol r ≤ r.length
  | [] => by simp [eol]
  | [k] => by simp only [eol]; split <;> (try split) <;> simp
  | k :: k2 :: r => by simp only [eol]; split <;> (try split) <;> simp <;> omega
theorem win_length {ks : List Int} {i e : Int} (h0 : 0 ≤ i) (h1 : i ≤ e) (h2 : e ≤ ks.length) : ((win ks i e).length : Int) = e - i := by
  unfold win
  rw [List.length_drop, List.length_take]
  omega
end Mine
end
namespace Mine
theorem walkReset2 : True := by w_top off; trivial
end Mine
section
open PySem PySem.W
namespace Mine
@[irreducible] def Plain (ks : List Int) (i j : Int) : Prop := ∀ k : Int, i ≤ k → k < j → ks.getD k.toNat 0 ≠ 10 ∧ ks.getD k.toNat 0 ≠ 13
theorem plain_nil {ks : List Int} {i : Int} : Plain ks i i := by unfold Plain; intro k h1 h2; omega
theorem plain_step {ks : List Int} {i j : Int} (h : Plain ks i j) (h1 : ([10, 13].any fun x => x == ks.getD j.toNat 0) = false) : Plain ks i (j + 1) := by
  unfold Plain at h ⊢
  simp only [List.any_cons, List.any_nil, Bool.or_false, Bool.or_eq_false_iff, beq_eq_false_iff_ne, ne_eq] at h1
  intro k hk1 hk2
  by_cases e : k < j
  · exact h k hk1 e
  · have e2 : k = j := by omega
    rw [e2]; exact ⟨fun q => h1.1 q.symm, fun q => h1.2 q.symm⟩
def notEnd (k : Int) : Bool := k != 10 && k != 13
theorem win_split {ks : List Int} {i j e : Int} (h0 : 0 ≤ i) (h1 : i ≤ j) (h2 : j ≤ e) : win ks i e = win ks i j ++ win ks j e := by
  have key : ∀ (n : Nat) (i j : Nat) (l : List Int), i ≤ j → j ≤ n → (l.take n).drop i = (l.take j).drop i ++ (l.take n).drop j := by
    intro n i j l hij hjn
    have e1 : l.take j = (l.take n).take j := by rw [List.take_take, Nat.min_eq_left hjn]
    rw [e1]
    generalize l.take n = q
    have e2 : q.drop j = (q.drop i).drop (j - i) := by rw [List.drop_drop]; congr 1; omega
    rw [List.drop_take, e2, List.take_append_drop]
  unfold win
  exact key _ _ _ _ (by omega) (by omega)
theorem win_mem {ks : List Int} {i j k : Int} (h0 : 0 ≤ i) (h1 : j ≤ ks.length) (hk : k ∈ win ks i j) : ∃ p : Int, i ≤ p ∧ p < j ∧ ks.getD p.toNat 0 = k := by
  unfold win at hk
  obtain ⟨n, hn, e⟩ := List.getElem_of_mem hk
  rw [List.length_drop, List.length_take] at hn
  refine ⟨i + n, by omega, by omega, ?_⟩
  rw [List.getElem_drop, List.getElem_take] at e
  have hl : (i + (n : Int)).toNat < ks.length := by omega
  rw [List.getD_eq_getElem?_getD, List.getElem?_eq_getElem hl, Option.getD_some, ← e]
  congr 1
  omega
theorem win_plain {ks : List Int} {i j : Int} (h0 : 0 ≤ i) (h1 : j ≤ ks.length) (h : Plain ks i j) : ∀ k ∈ win ks i j, notEnd k = true := by
  intro k hk
  obtain ⟨p, h2, h3, e⟩ := win_mem h0 h1 hk
  unfold Plain at h
  have := h p h2 h3
  rw [e] at this
  simp [notEnd, this.1, this.2]
theorem line_at {ks : List Int} {i j e : Int} (h0 : 0 ≤ i) (h1 : i ≤ j) (h2 : j ≤ e) (h3 : e ≤ ks.length) (hp : Plain ks i j) (hend : ¬ j < e ∨ ([10, 13].any fun x => x == ks.getD j.toNat 0) = true) :
    (win ks i e).takeWhile notEnd = win ks i j ∧ (win ks i e).dropWhile notEnd = win ks j e := by
  have ha := win_plain h0 (by omega) hp
  have hh : (win ks j e).takeWhile notEnd = [] ∧ (win ks j e).dropWhile notEnd = win ks j e := by
    rcases hend with hend | hend
    · rw [win_nil (by omega)]; exact ⟨rfl, rfl⟩
    · by_cases hj : j < e
      · rw [win_cons (by omega) hj h3]
        have : notEnd (ks.getD j.toNat 0) = false := by
          simp only [List.any_cons, List.any_nil, Bool.or_false, Bool.or_eq_true, beq_iff_eq] at hend
          rcases hend with q | q <;> rw [← q] <;> rfl
        rw [List.takeWhile_cons, List.dropWhile_cons, this]
        exact ⟨rfl, rfl⟩
      · rw [win_nil (by omega)]; exact ⟨rfl, rfl⟩
  rw [win_split h0 h1 h2]
  rw [List.takeWhile_append_of_pos ha, List.dropWhile_append_of_pos ha, hh.1, hh.2, List.append_nil]
  exact ⟨rfl, rfl⟩
theorem clip_win {ks : List Int} {i j : Int} (h0 : 0 ≤ i) (h1 : i ≤ j) (h2 : j ≤ ks.length) : List.take (clipAt ks.length j - clipAt ks.length i) (List.drop (clipAt ks.length i) ks) = win ks i j := by
  have c1 := clipAt_cast ks.length i
  have c2 := clipAt_cast ks.length j
  rw [if_neg (by omega)] at c1 c2
  have e1 : clipAt ks.length i = i.toNat := by omega
  have e2 : clipAt ks.length j = j.toNat := by omega
  rw [e1, e2]
  unfold win
  rw [List.drop_take]
theorem take_fin1 {ks : List Int} {i j e : Int} {l : List Int} (hP : Plain ks i j) (hend : ¬ j < e ∨ ([10, 13].any fun x => x == ks.getD j.toNat 0) = true) (hk : l = List.take (clipAt ks.length j - clipAt ks.length i) (List.drop (clipAt ks.length i) ks))
    (h0 : 0 ≤ i) (h3 : e ≤ ks.length) (h1 : i ≤ j) (h2 : j ≤ e) : l = (win ks i e).takeWhile notEnd := by
  rw [(line_at h0 h1 h2 h3 hP hend).1, hk, clip_win h0 h1 (by omega)]
theorem take_fin2 {ks : List Int} {i j j2 e : Int} {r : Nat} (hP : Plain ks i j) (hend : ¬ j < e ∨ ([10, 13].any fun x => x == ks.getD j.toNat 0) = true)
    (h0 : 0 ≤ i) (h3 : e ≤ ks.length) (h1 : i ≤ j) (h2 : j ≤ e) (he : eol (win ks j e) = r) (hj : j2 = j + r) : j2 = i + (((win ks i e).takeWhile notEnd).length : Int) + (eol ((win ks i e).dropWhile notEnd) : Int) := by
  obtain ⟨e1, e2⟩ := line_at h0 h1 h2 h3 hP hend
  rw [e1, e2, he, win_length h0 h1 (by omega)]
  omega
end Mine
end
namespace Mine
theorem walkReset3 : True := by w_top off; trivial
end Mine
section
open PySem PySem.W PyProof.Rows PySem.Spec
namespace Mine
theorem gen_toks {α : Type} {M : Model} {A : Around} {E : Value → Shared → Prop} {t : Sem α} {Q : α → Shared → Prop} {h : Heap} {g : Array GenState} {d : Drawn} {x : Nat} {o : OsState}
    (H : ∀ tk, wpAny M A t Q E ⟨h, g, d, tk, o⟩) : wpAny M A t Q E ⟨h, g, d, x, o⟩ := H x
abbrev curD (P : Params) (k1 k2 k3 : Tok) (b : Array UInt8) (t0 : Tok) (a : Int) (ta : Tok) (e : Int) (te : Tok) : Obj :=
  dictOf [{ hash := PyData.keyHash P (Str.ofString "data"), key := Value.str (Str.ofString "data") k1, val := Value.bytes b t0 },
    { hash := PyData.keyHash P (Str.ofString "at"), key := Value.str (Str.ofString "at") k2, val := Value.int a ta },
    { hash := PyData.keyHash P (Str.ofString "end"), key := Value.str (Str.ofString "end") k3, val := Value.int e te }] 3
end Mine
end
namespace Mine
theorem walkReset4 : True := by w_top off; trivial
end Mine
section
open PySem PySem.W PyProof.Rows PySem.Spec
namespace Mine
local macro_rules | `(tactic| k_all) => `(tactic| assumption)
theorem small_mul {a b : Int} (ha : -1000000 < a) (ha2 : a < 1000000) (hb : -1000000 < b) (hb2 : b < 1000000) : IntMulOk a b :=
  IntMulOk.of_le (m := 64) (n := 64) (intBits_le_64 (by omega) (by omega)) (intBits_le_64 (by omega) (by omega)) (by decide)
local macro_rules | `(tactic| mul_fits) => `(tactic| (refine small_mul ?_ ?_ ?_ ?_ <;> (simp only [Int.toNat_one, Int.toNat_zero, List.getD_cons_succ, List.getD_cons_zero, Nat.reduceAdd]; omega)))
@[irreducible] def PenGood (n : Int) : Prop := 0 ≤ n ∧ Builtin.Int.intBits n ≤ 2000000
theorem penGood_le {n n' : Int} (h : PenGood n) (h0 : 0 ≤ n') (h1 : n' ≤ n) : PenGood n' := by
  unfold PenGood at h ⊢
  refine ⟨h0, ?_⟩
  have h2 := intBits_le_iff.mp h.2
  exact intBits_le_iff.mpr (Nat.lt_of_le_of_lt (by omega) h2)
theorem penGood_out {n : Int} (h : PenGood n) : 0 ≤ n ∧ Builtin.Int.intBits n ≤ 2000000 := by unfold PenGood at h; exact h
set_option maxRecDepth 100000 in
set_option maxHeartbeats 8000000 in
theorem draw {w : World} {mean : ExcName → Option Value} {mg mb : Str → Option Value} {dp un : Nat} {gd : Option (List Code)} {cn : Str} {cs : Scope} {a : Addr} {ccd : Value} {cl : List (Str × Addr)} {outer : List Env} {A₀ : Around} {base h₀ : Heap} {L : Addr} {m : Str → Option Value} {s : Shared} {Q E : Value → Shared → Prop}
    {p : Addr} {n c : Int} {t1 t2 : Tok} {k : Nat} {news : List (Addr × Obj)} {many : Int} {tm : Tok}
    (B : Below A₀ base outer h₀) (F : Fr h₀ L s.heap m) (X : (hd.heap_39 w.params).In h₀)
    (N : News h₀ L s.heap ((p, listOf (List.toArray [.int n t1, .int c t2]) k) :: news)) (hne : ∀ q ∈ news, q.1 ≠ p)
    (T : Top hd.view_39 (looseW hd.view_39 []) mean mg mb h₀) (hk : cs.kind = .function)
    (hg : PenGood n) (hc : 0 ≤ c) (hc2 : c ≤ 1000) (hm : 0 < many) (hm2 : many ≤ 100)
    (hdp : dp + 1 < recursionLimit) (hu : un + 8 < cLine)
    (ret : ∀ d t n' t1' t2' h' tk', 0 ≤ d → d < many → PenGood n' → Fr h₀ L h' m → News h₀ L h' ((p, listOf (List.toArray [.int n' t1', .int (c+1) t2']) k) :: news) → Q (.int d t) { s with heap := h', toks := tk' }) :
    wpAny (model PySem.Challenge.rw_og0133_01.row.prog w) (ktrTop dp un gd cn cs L a ccd cl outer) (call (.ref 149) [.ref p, .int many tm]) Q E s := by
  obtain ⟨h0, hn⟩ := penGood_out hg
  revert X
  k_fill
  intro X
  refine wpAny_call ?_
  k_dflt cell_enter
  k_steps
  · simp only [show Int.toNat 1 = 1 from rfl, show Int.toNat 0 = 0 from rfl, List.getD_cons_succ, List.getD_cons_zero] at *
    refine ret _ _ _ _ _ _ _ (Int.fmod_nonneg_of_pos _ hm) (Int.fmod_lt_of_pos _ hm) (penGood_le hg ?_ ?_) (by assumption) (by assumption)
    · exact Int.fdiv_nonneg h0 (by omega)
    · rw [Int.fdiv_eq_ediv_of_nonneg _ (by omega)]
      exact Int.ediv_le_self _ h0
  · simp only [show Int.toNat 1 = 1 from rfl, show Int.toNat 0 = 0 from rfl, List.getD_cons_succ, List.getD_cons_zero] at *
    exact ret _ _ _ _ _ _ _ (Int.fmod_nonneg_of_pos _ hm) (Int.fmod_lt_of_pos _ hm) hg (by assumption) (by assumption)
end Mine
end
namespace Mine
theorem walkReset5 : True := by w_top off; trivial
end Mine
section
open PySem PySem.W PyProof.Rows PySem.Spec
namespace Mine
local macro_rules | `(tactic| k_all) => `(tactic| assumption)
local macro_rules | `(tactic| k_room) => `(tactic| ktr_room)
local macro_rules | `(tactic| k_units) => `(tactic| first | exact Nat.le_of_ble_eq_true rfl | ktr_units)
local macro_rules | `(tactic| units_room) => `(tactic| ktr_units)
local macro_rules | `(tactic| k_enter) => `(tactic| (refine' code_def ?k1 ?k2 ?k3 ?k4 ?k5 ?kA ?kF ?kK ?k6 ?k7 ?k8 ?k9 ?kB ?_ ?c2 ?c3 ?c4 ?c5; (case kA => exact rfl); (case kF => exact rfl); (case kK => first | exact rfl | assumption); (case k1 => k_asm); (case k2 => k_asm); (case k3 => k_asm); (case k4 => k_asm); (case k5 => k_asm); (case k6 => k_is); (case k7 => k_is); (case k8 => k_room); (case k9 => first | exact BindsTo.of_eq rfl | exact binds_K (by k_in) rfl (by k_is) rfl rfl rfl | fail "k_enter: no rule for these arguments"); (case c5 => decide); (case kB => exact locs rfl); (case c2 => exact rfl); (case c3 => exact rfl); (case c4 => exact rfl); k_whole; intro g' L' h' FG' F' N' B' X' T'; (try dsimp only); (try k_lift B'); (try k_fold)))
local macro_rules | `(tactic| walk_at "execs nil") => `(tactic| refine wpAny_execs_nil ?_)
local macro_rules | `(tactic| walk_at "execs cons") => `(tactic| ((with_reducible refine wpAny_execs_cons ?_); (try (refine gen_toks ?_; intro tk9)); (try dsimp only)))
local macro_rules | `(tactic| k_steps) => `(tactic| repeat' (first | (k_unfold; (try dsimp only)) | ((fail_if_success (with_reducible show wpAny _ _ (exec (Stmt.While _ _ _ _) _) _ _ _)); (fail_if_success (with_reducible show KswEnd _ _ _ _ _ _ _ _ _ _ _ _)); first | walk1 | (dsimp only; walk1)) | fail "no step"))
@[irreducible] def PenOk (k : Nat) (n : Int) : Prop := 0 ≤ n ∧ Builtin.Int.intBits n ≤ 1048580 + 25 * k
theorem pen_mul {n : Int} {k : Nat} (h : PenOk k n) (hk : k < 24) : IntMulOk n 1000003 := by
  unfold PenOk at h
  exact IntMulOk.of_le (m := 2000000) (n := 64) (Nat.le_trans h.2 (by omega)) (by decide) (by decide)
theorem cell_bits {ns : List Int} {n : Int} (hm : n ∈ ns.take 24) (hlay : (PyData.list (ns.map PyData.int)).layable0 = true) : Builtin.Int.intBits n ≤ 1048576 :=
  intBits_le_of_item (List.mem_of_mem_take hm) hlay
theorem cell_mul {ns : List Int} {n : Int} (hm : n ∈ ns.take 24) (hlay : (PyData.list (ns.map PyData.int)).layable0 = true) : IntMulOk 2 (if n < 0 then -n else n) := by
  have e : (if n < 0 then -n else n) = (n.natAbs : Int) := by split <;> omega
  rw [e]
  exact IntMulOk.of_le (m := 64) (n := 1048576) (by decide) (intBits_natAbs_le (cell_bits hm hlay)) (by decide)
theorem pen_good {n : Int} {k : Nat} (h : PenOk k n) (hk : k ≤ 24) : PenGood n := by unfold PenOk at h; unfold PenGood; exact ⟨h.1, Nat.le_trans h.2 (by omega)⟩
theorem pen_start : PenOk ([] : List Int).length 0 := by unfold PenOk; exact ⟨Int.le_refl _, by decide⟩
theorem pen_bits {x y e : Int} {B C : Nat} (e1 : Builtin.Int.intBits x ≤ B + 20) (e2 : Builtin.Int.intBits y ≤ C) (hC : C ≤ B) (hB : 2 ≤ B) (h0 : 0 ≤ e) (h1 : e ≤ 1) : Builtin.Int.intBits (x + y + e + 1) ≤ B + 25 := by
  have e3 := intBits_add_le e1 e2
  have e4 : Builtin.Int.intBits (e + 1) ≤ 2 := intBits_le_iff.mpr (by omega)
  have e5 := intBits_add_le e3 e4
  rw [Int.add_assoc]
  exact Nat.le_trans e5 (by omega)
theorem pen_bits2 {k y n e : Int} {B C : Nat} (hk : Builtin.Int.intBits k ≤ B) (hb : Builtin.Int.intBits n ≤ C) (hC : C + 2 ≤ B) (h0 : 0 ≤ e) (h1 : e ≤ 1) : Builtin.Int.intBits (k * 1000003 + 2 * (n.natAbs : Int) + e + 1) ≤ B + 25 :=
  pen_bits (C := 2 + C) (intBits_mul_le (n := 20) hk (by decide)) (intBits_mul_le (m := 2) (n := C) (by decide) (intBits_natAbs_le hb)) (by omega) (by omega) h0 h1
theorem pen_turn {ns pre : List Int} {n k e : Int} (h : PenOk pre.length k) (hm : n ∈ ns.take 24) (hlay : (PyData.list (ns.map PyData.int)).layable0 = true) (h0 : 0 ≤ e) (h1 : e ≤ 1) {x y : Int} (hx : x = k * 1000003) (hy : y = 2 * (if n < 0 then -n else n)) :
    PenOk (pre ++ [n]).length (x + y + e + 1) := by
  have e9 : (if n < 0 then -n else n) = (n.natAbs : Int) := by split <;> omega
  rw [hx, hy, e9]
  have hb := cell_bits hm hlay
  unfold PenOk at h ⊢
  obtain ⟨hk, hB⟩ := h
  rw [List.length_append, List.length_singleton]
  refine ⟨by omega, ?_⟩
  have := pen_bits2 (y := y) hB hb (by omega) h0 h1
  exact Nat.le_trans this (by omega)
theorem mul_gen {prog : Program} {w : World} {A : Around} {E Q : Value → Shared → Prop} {s : Shared} {a b : Int} {t u : Tok} (hm : IntMulOk a b)
    (h : ∀ x v, x = a * b → Q (.int x v) { s with toks := s.toks + 1 }) : wpAny (model prog w) A (binaryOp .Mult (.int a t) (.int b u)) Q E s :=
  mul_int (h _ _ rfl) hm
section
local macro_rules | `(tactic| walk_at "binaryOp Mult int int") => `(tactic| (refine mul_gen (by mul_fits) ?_; intro x9 v9 hx9))
local macro_rules | `(tactic| mul_fits) => `(tactic| first | exact pen_mul (by assumption) (by assumption) | exact cell_mul (by assumption) (by assumption))
set_option maxRecDepth 100000 in
set_option maxHeartbeats 1000000 in
theorem pen {w : World} {mean : ExcName → Option Value} {mg mb : Str → Option Value} {dp un : Nat} {gd : Option (List Code)} {cn : Str} {cs : Scope} {a : Addr} {ccd : Value} {cl : List (Str × Addr)} {outer : List Env} {A₀ : Around} {base h₀ : Heap} {L : Addr} {m : Str → Option Value} {s : Shared} {Q E : Value → Shared → Prop}
    {l : Addr} {vs : List Value} {ns : List Int} {news : List (Addr × Obj)}
    (B : Below A₀ base outer h₀) (F : Fr h₀ L s.heap m) (X : (hd.heap_39 w.params).In h₀)
    (N : News h₀ L s.heap news)
    (T : Top hd.view_39 (looseW hd.view_39 []) mean mg mb h₀) (hk : cs.kind = .function)
    (hl : base.IsList l vs.toArray) (hi : IntsAre vs ns) (hlay : (PyData.list (ns.map PyData.int)).layable0 = true)
    (hdp : dp + 1 < recursionLimit) (hu : un + 8 < cLine)
    (ret : ∀ p n t1 t2 k h' tk', PenGood n → (∀ q ∈ news, q.1 < p) → Fr h₀ L h' m → News h₀ L h' ((p, listOf (List.toArray [.int n t1, .int 0 t2]) k) :: news) → Q (.ref p) { s with heap := h', toks := tk' }) :
    wpAny (model PySem.Challenge.rw_og0133_01.row.prog w) (ktrTop dp un gd cn cs L a ccd cl outer) (call (.ref 142) [.ref l]) Q E s := by
  revert X
  k_fill
  intro X
  refine wpAny_call ?_
  k_dflt cell_enter
  k_with "pyIter ref" => k_state (fun pre number => PenOk pre.length number) "number"
  k_with "state" => (first | exact pen_start | exact pen_turn (by assumption) (by assumption) (by assumption) (by decide) (by decide) (by assumption) (by assumption))
  k_steps
  k_with_none
  rename (_ < _ ∧ AllLt _ _) => hL9
  rename PenOk _ _ => hP9
  rename News h₀ _ _ _ => hN9
  exact ret _ _ _ _ _ _ _ (pen_good hP9 (by rw [List.length_take]; omega)) (kst_ltOf hL9.2) (by assumption) (fun p hp => hN9 p (by
    rcases List.mem_cons.mp hp with rfl | h9
    · exact .head _
    · exact .tail _ (.tail _ h9)))
end
end Mine
end
namespace Mine
theorem walkReset6 : True := by w_top off; trivial
end Mine
section
open PySem PySem.W PyProof.Rows PySem.Spec
namespace Mine
local macro_rules | `(tactic| k_all) => `(tactic| assumption)
local macro_rules | `(tactic| k_room) => `(tactic| ktr_room)
local macro_rules | `(tactic| k_units) => `(tactic| first | exact Nat.le_of_ble_eq_true rfl | ktr_units)
local macro_rules | `(tactic| k_enter) => `(tactic| (refine' code_def ?k1 ?k2 ?k3 ?k4 ?k5 ?kA ?kF ?kK ?k6 ?k7 ?k8 ?k9 ?kB ?_ ?c2 ?c3 ?c4 ?c5; (case kA => exact rfl); (case kF => exact rfl); (case kK => first | exact rfl | assumption); (case k1 => k_asm); (case k2 => k_asm); (case k3 => k_asm); (case k4 => k_asm); (case k5 => k_asm); (case k6 => k_is); (case k7 => k_is); (case k8 => k_room); (case k9 => first | exact BindsTo.of_eq rfl | exact binds_K (by k_in) rfl (by k_is) rfl rfl rfl | fail "k_enter: no rule for these arguments"); (case c5 => decide); (case kB => exact locs rfl); (case c2 => exact rfl); (case c3 => exact rfl); (case c4 => exact rfl); k_whole; intro g' L' h' FG' F' N' B' X' T'; (try dsimp only); (try k_lift B'); (try k_fold)))
local macro_rules | `(tactic| walk_at "execs nil") => `(tactic| refine wpAny_execs_nil ?_)
local macro_rules | `(tactic| walk_at "execs cons") => `(tactic| ((with_reducible refine wpAny_execs_cons ?_); (try (refine gen_toks ?_; intro tk9)); (try dsimp only)))
local macro_rules | `(tactic| k_steps) => `(tactic| repeat' (first | (k_unfold; (try dsimp only)) | walk1 | (dsimp only; walk1) | fail "no step"))
set_option maxRecDepth 100000 in
set_option maxHeartbeats 1000000 in
theorem make3 {w : World} {mean : ExcName → Option Value} {mg mb : Str → Option Value} {dp un : Nat} {gd : Option (List Code)} {cn : Str} {cs : Scope} {a : Addr} {ccd : Value} {cl : List (Str × Addr)} {outer : List Env} {A₀ : Around} {base h₀ : Heap} {L : Addr} {m : Str → Option Value} {s : Shared} {Q E : Value → Shared → Prop}
    {b : Array UInt8} {ks : List Int} {first en : Int} {t0 t1 t2 : Tok} {news : List (Addr × Obj)}
    (B : Below A₀ base outer h₀) (F : Fr h₀ L s.heap m) (X : (hd.heap_39 w.params).In h₀)
    (N : News h₀ L s.heap news)
    (T : Top hd.view_39 (looseW hd.view_39 []) mean mg mb h₀) (hk : cs.kind = .function) (hb : KBw.bInts b = ks)
    (h0 : 0 ≤ en) (h2 : en ≤ ks.length) (h3 : ks.length ≤ 64)
    (hdp : dp + 2 < recursionLimit) (hu : un + 16 < cLine)
    (ret : ∀ x d k1 k2 k3 te h' tk', (∀ q ∈ news, q.1 < d) → @LT.lt Nat _ d x → Fr h₀ L h' m → News h₀ L h' ((x, instObj 131 d) :: (d, curD w.params k1 k2 k3 b t0 first t1 en te) :: news) → Q (.ref x) { s with heap := h', toks := tk' }) :
    wpAny (model PySem.Challenge.rw_og0133_01.row.prog w) (ktrTop dp un gd cn cs L a ccd cl outer) (call (.ref 131) [.bytes b t0, .int first t1, .int en t2]) Q E s := by
  have hbs : b.size = ks.length := by rw [← KBw.ints_length, hb]
  revert X
  k_fill
  intro X
  k_steps
  rename News h₀ _ _ _ => hN9
  rename (∀ _ ∈ news, _ < _) => hl9
  rename (_ < _) => hl8
  replace hl8 := ltN hl8
  rw [if_neg (by omega)] at hN9
  exact ret _ _ _ _ _ _ _ _ hl9 hl8 (by assumption) hN9
set_option maxRecDepth 100000 in
set_option maxHeartbeats 1000000 in
theorem make2 {w : World} {mean : ExcName → Option Value} {mg mb : Str → Option Value} {dp un : Nat} {gd : Option (List Code)} {cn : Str} {cs : Scope} {a : Addr} {ccd : Value} {cl : List (Str × Addr)} {outer : List Env} {A₀ : Around} {base h₀ : Heap} {L : Addr} {m : Str → Option Value} {s : Shared} {Q E : Value → Shared → Prop}
    {b : Array UInt8} {ks : List Int} {first : Int} {t0 t1 : Tok} {news : List (Addr × Obj)}
    (B : Below A₀ base outer h₀) (F : Fr h₀ L s.heap m) (X : (hd.heap_39 w.params).In h₀)
    (N : News h₀ L s.heap news)
    (T : Top hd.view_39 (looseW hd.view_39 []) mean mg mb h₀) (hk : cs.kind = .function) (hb : KBw.bInts b = ks)
    (h3 : ks.length ≤ 64)
    (hdp : dp + 2 < recursionLimit) (hu : un + 16 < cLine)
    (ret : ∀ x d k1 k2 k3 te h' tk', (∀ q ∈ news, q.1 < d) → @LT.lt Nat _ d x → Fr h₀ L h' m → News h₀ L h' ((x, instObj 131 d) :: (d, curD w.params k1 k2 k3 b t0 first t1 ks.length te) :: news) → Q (.ref x) { s with heap := h', toks := tk' }) :
    wpAny (model PySem.Challenge.rw_og0133_01.row.prog w) (ktrTop dp un gd cn cs L a ccd cl outer) (call (.ref 131) [.bytes b t0, .int first t1]) Q E s := by
  have hbs : b.size = ks.length := by rw [← KBw.ints_length, hb]
  revert X
  k_fill
  intro X
  k_steps
  rename News h₀ _ _ _ => hN9
  rename (∀ _ ∈ news, _ < _) => hl9
  rename (_ < _) => hl8
  replace hl8 := ltN hl8
  exact ret _ _ _ _ _ _ _ _ hl9 hl8 (by assumption) hN9
set_option maxRecDepth 100000 in
set_option maxHeartbeats 1000000 in
theorem done {w : World} {mean : ExcName → Option Value} {mg mb : Str → Option Value} {dp un : Nat} {gd : Option (List Code)} {cn : Str} {cs : Scope} {a : Addr} {ccd : Value} {cl : List (Str × Addr)} {outer : List Env} {A₀ : Around} {base h₀ : Heap} {L : Addr} {m : Str → Option Value} {s : Shared} {Q E : Value → Shared → Prop}
    {x d : Addr} {k1 k2 k3 : Tok} {b : Array UInt8} {t0 : Tok} {i : Int} {ti : Tok} {e : Int} {te : Tok} {news : List (Addr × Obj)}
    (B : Below A₀ base outer h₀) (F : Fr h₀ L s.heap m) (X : (hd.heap_39 w.params).In h₀)
    (N : News h₀ L s.heap ((x, instObj 131 d) :: (d, curD w.params k1 k2 k3 b t0 i ti e te) :: news))
    (T : Top hd.view_39 (looseW hd.view_39 []) mean mg mb h₀) (hk : cs.kind = .function)
    (hdp : dp + 2 < recursionLimit) (hu : un + 16 < cLine)
    (ret : ∀ h' tk', Fr h₀ L h' m → News h₀ L h' ((x, instObj 131 d) :: (d, curD w.params k1 k2 k3 b t0 i ti e te) :: news) → Q (.bool (decide (e ≤ i))) { s with heap := h', toks := tk' }) :
    wpAny (model PySem.Challenge.rw_og0133_01.row.prog w) (ktrTop dp un gd cn cs L a ccd cl outer) (call (.ref 50) [.ref x]) Q E s := by
  revert X
  k_fill
  intro X
  k_steps
  exact ret _ _ (by assumption) (by assumption)
set_option maxRecDepth 100000 in
set_option maxHeartbeats 1000000 in
theorem skipl {w : World} {mean : ExcName → Option Value} {mg mb : Str → Option Value} {dp un : Nat} {gd : Option (List Code)} {cn : Str} {cs : Scope} {a : Addr} {ccd : Value} {cl : List (Str × Addr)} {outer : List Env} {A₀ : Around} {base h₀ : Heap} {L : Addr} {m : Str → Option Value} {s : Shared} {Q E : Value → Shared → Prop}
    {x d : Addr} {k1 k2 k3 : Tok} {b : Array UInt8} {ks : List Int} {t0 : Tok} {i : Int} {ti : Tok} {e : Int} {te : Tok} {news : List (Addr × Obj)}
    (B : Below A₀ base outer h₀) (F : Fr h₀ L s.heap m) (X : (hd.heap_39 w.params).In h₀)
    (N : News h₀ L s.heap ((x, instObj 131 d) :: (d, curD w.params k1 k2 k3 b t0 i ti e te) :: news)) (hdx : @LT.lt Nat _ d x) (hne : ∀ q ∈ news, q.1 ≠ d)
    (T : Top hd.view_39 (looseW hd.view_39 []) mean mg mb h₀) (hk : cs.kind = .function) (hb : KBw.bInts b = ks)
    (h0 : 0 ≤ i) (h1 : i ≤ e) (h2 : e ≤ ks.length) (h3 : ks.length ≤ 64)
    (hdp : dp + 2 < recursionLimit) (hu : un + 16 < cLine)
    (ret : ∀ bl j tj h' tk', Fr h₀ L h' m → News h₀ L h' ((x, instObj 131 d) :: (d, curD w.params k1 k2 k3 b t0 j tj e te) :: news) → bl = decide (0 < eol (win ks i e)) → j = i + (eol (win ks i e) : Int) → Q (.bool bl) { s with heap := h', toks := tk' }) :
    wpAny (model PySem.Challenge.rw_og0133_01.row.prog w) (ktrTop dp un gd cn cs L a ccd cl outer) (call (.ref 100) [.ref x]) Q E s := by
  revert X
  k_fill
  intro X
  k_steps
  all_goals first
    | (have e9 := eol_two h0 h2 (by assumption) (by assumption) (by assumption) (by assumption); exact ret _ _ _ _ _ (by assumption) (by assumption) (by rw [e9]; rfl) (by rw [e9]; omega))
    | (have e9 := eol_one_a h0 h2 (by assumption) (by assumption) (by assumption) (by assumption); exact ret _ _ _ _ _ (by assumption) (by assumption) (by rw [e9]; rfl) (by rw [e9]; omega))
    | (have e9 := eol_one_b h0 h2 (by assumption) (by assumption) (by assumption); exact ret _ _ _ _ _ (by assumption) (by assumption) (by rw [e9]; rfl) (by rw [e9]; omega))
    | (have e9 := eol_one_c h0 h2 (by assumption) (by assumption) (by assumption); exact ret _ _ _ _ _ (by assumption) (by assumption) (by rw [e9]; rfl) (by rw [e9]; omega))
    | (have e9 := eol_zero_a h0 h2 (by assumption) (by assumption) (by assumption); exact ret _ _ _ _ _ (by assumption) (by assumption) (by rw [e9]; rfl) (by rw [e9]; omega))
    | (have e9 := eol_zero_b (ks := ks) (i := i) (e := e) (by assumption); exact ret _ _ _ _ _ (by assumption) (by assumption) (by rw [e9]; rfl) (by rw [e9]; omega))
end Mine
end
namespace Mine
theorem walkReset7 : True := by w_top off; trivial
end Mine
section
open PySem PySem.W PyProof.Rows PySem.Spec
namespace Mine
local macro_rules | `(tactic| k_all) => `(tactic| assumption)
local macro_rules | `(tactic| k_room) => `(tactic| ktr_room)
local macro_rules | `(tactic| k_units) => `(tactic| first | exact Nat.le_of_ble_eq_true rfl | ktr_units)
local macro_rules | `(tactic| k_enter) => `(tactic| (refine' code_def ?k1 ?k2 ?k3 ?k4 ?k5 ?kA ?kF ?kK ?k6 ?k7 ?k8 ?k9 ?kB ?_ ?c2 ?c3 ?c4 ?c5; (case kA => exact rfl); (case kF => exact rfl); (case kK => first | exact rfl | assumption); (case k1 => k_asm); (case k2 => k_asm); (case k3 => k_asm); (case k4 => k_asm); (case k5 => k_asm); (case k6 => k_is); (case k7 => k_is); (case k8 => k_room); (case k9 => first | exact BindsTo.of_eq rfl | exact binds_K (by k_in) rfl (by k_is) rfl rfl rfl | fail "k_enter: no rule for these arguments"); (case c5 => decide); (case kB => exact locs rfl); (case c2 => exact rfl); (case c3 => exact rfl); (case c4 => exact rfl); k_whole; intro g' L' h' FG' F' N' B' X' T'; (try dsimp only); (try k_lift B'); (try k_fold)))
local macro_rules | `(tactic| walk_at "execs nil") => `(tactic| refine wpAny_execs_nil ?_)
local macro_rules | `(tactic| walk_at "execs cons") => `(tactic| ((with_reducible refine wpAny_execs_cons ?_); (try (refine gen_toks ?_; intro tk9)); (try dsimp only)))
local macro_rules | `(tactic| k_steps) => `(tactic| repeat' (first | (k_unfold; (try dsimp only)) | ((fail_if_success (with_reducible show wpAny _ _ (exec (Stmt.While _ _ _ _) _) _ _ _)); first | walk1 | (dsimp only; walk1)) | fail "no step"))
theorem news_tl {h₀ h : Heap} {L : Addr} {p : Addr × Obj} {news : List (Addr × Obj)} (N : News h₀ L h (p :: news)) : News h₀ L h news := fun q hq => N q (.tail _ hq)
section
local macro_rules | `(tactic| walk_at "call ref") => `(tactic| (k_here; (k_dflt (show wpAny _ _ (call (Value.ref 100) [Value.ref _]) _ _ _)); k_dflt ((refine' skipl ?B ?F ?X ?N ?hdx ?hne ?T ?hk ?hb ?h0 ?h1 ?h2 ?h3 ?hdp ?hu ?_); (case B => k_asm); (case F => k_asm); (case X => k_asm); (case N => first | k_asm | (exact news_tl (by assumption))); (case hdx => assumption); (case hne => assumption); (case T => k_asm); (case hk => first | exact rfl | assumption); (case hb => assumption); (case h0 => omega); (case h1 => omega); (case h2 => omega); (case h3 => omega); (case hdp => ktr_room); (case hu => ktr_units); intro bl9 j9 tj9 h9 tk9 F9 N9 ebl9 ej9; (try dsimp only); (try k_fold))))
set_option maxRecDepth 100000 in
set_option maxHeartbeats 1000000 in
theorem takel {w : World} {mean : ExcName → Option Value} {mg mb : Str → Option Value} {dp un : Nat} {gd : Option (List Code)} {cn : Str} {cs : Scope} {a : Addr} {ccd : Value} {cl : List (Str × Addr)} {outer : List Env} {A₀ : Around} {base h₀ : Heap} {L : Addr} {m : Str → Option Value} {s : Shared} {Q E : Value → Shared → Prop}
    {x d : Addr} {k1 k2 k3 : Tok} {b : Array UInt8} {ks : List Int} {t0 : Tok} {i : Int} {ti : Tok} {e : Int} {te : Tok} {news : List (Addr × Obj)}
    (B : Below A₀ base outer h₀) (F : Fr h₀ L s.heap m) (X : (hd.heap_39 w.params).In h₀)
    (N : News h₀ L s.heap ((x, instObj 131 d) :: (d, curD w.params k1 k2 k3 b t0 i ti e te) :: news)) (hdx : @LT.lt Nat _ d x) (hne : ∀ q ∈ news, q.1 ≠ d)
    (T : Top hd.view_39 (looseW hd.view_39 []) mean mg mb h₀) (hk : cs.kind = .function) (hb : KBw.bInts b = ks)
    (h0 : 0 ≤ i) (h1 : i ≤ e) (h2 : e ≤ ks.length) (h3 : ks.length ≤ 64)
    (hdp : dp + 3 < recursionLimit) (hu : un + 24 < cLine)
    (ret : ∀ lb tl j tj h' tk', Fr h₀ L h' m → News h₀ L h' ((x, instObj 131 d) :: (d, curD w.params k1 k2 k3 b t0 j tj e te) :: news) → KBw.bInts lb = (win ks i e).takeWhile notEnd → j = i + (((win ks i e).takeWhile notEnd).length : Int) + (eol ((win ks i e).dropWhile notEnd) : Int) → Q (.bytes lb tl) { s with heap := h', toks := tk' }) :
    wpAny (model PySem.Challenge.rw_og0133_01.row.prog w) (ktrTop dp un gd cn cs L a ccd cl outer) (call (.ref 107) [.ref x]) Q E s := by
  revert X
  k_fill
  intro X
  dsimp only [curD] at N
  k_with "state" => (first | exact ⟨Int.le_refl _, h1, plain_nil⟩ | exact ⟨by omega, by omega, plain_step (by assumption) (by assumption)⟩)
  k_steps
  k_while (fun _ at9 => i ≤ at9 ∧ at9 ≤ e ∧ Plain ks i at9) (fun _ at9 => (e - at9).toNat) "self.at"
  k_steps
  k_with_none
  all_goals (rename Plain ks i _ => hP9; rename (KBw.bInts _ = List.take _ _) => hK9; refine ret _ _ _ _ _ _ (by assumption) (by first | assumption | exact news_tl (by assumption)) (take_fin1 hP9 (by first | exact .inr (by assumption) | exact .inl (by assumption)) hK9 h0 h2 (by assumption) (by assumption)) ?_)
  all_goals exact take_fin2 hP9 (by first | exact .inr (by assumption) | exact .inl (by assumption)) h0 h2 (by assumption) (by assumption) rfl (by assumption)
end
end Mine
end
namespace Mine
theorem walkReset8 : True := by w_top off; trivial
end Mine
section
open PySem PySem.W PyProof.Rows
namespace Mine
/-- the lines that are still to come, where acc is the begun one -/
def linesAux : List Int → List Int → List (List Int × Int)
  | acc, [] => if acc = [] then [] else [(acc, 0)]
  | acc, k :: r =>
    if k = 13 ∧ r.head? = some 10 then (acc, 2) :: linesAux [] r.tail
    else if k = 10 ∨ k = 13 then (acc, 1) :: linesAux [] r
    else linesAux (acc ++ [k]) r
termination_by _ l => l.length
decreasing_by all_goals simp_all <;> omega
/-- a written tuple of a line and its end's size -/
abbrev tupO (b : Array UInt8) (t : Tok) (z : Int) (tz : Tok) : Obj := { cls := .type "tuple", data := .seq (List.toArray [Value.bytes b t, Value.int z tz]) }
/-- vs are references to tuples in tl, and these say ts -/
inductive TupsAre (tl : List (Addr × Obj)) : List Value → List (List Int × Int) → Prop
  | nil : TupsAre tl [] []
  | snoc {vs : List Value} {ts : List (List Int × Int)} {a : Addr} {b : Array UInt8} {t tz : Tok} {z : Int} {l : List Int} (h : TupsAre tl vs ts) (hm : (a, tupO b t z tz) ∈ tl) (hb : KBw.bInts b = l) : TupsAre tl (vs ++ [.ref a]) (ts ++ [(l, z)])
theorem TupsAre.mono {tl tl' : List (Addr × Obj)} {vs : List Value} {ts : List (List Int × Int)} (h : TupsAre tl vs ts) (hs : ∀ p ∈ tl, p ∈ tl') : TupsAre tl' vs ts := by
  induction h with
  | nil => exact .nil
  | snoc _ hm hb ih => exact .snoc ih (hs _ hm) hb
theorem TupsAre.length {tl : List (Addr × Obj)} {vs : List Value} {ts : List (List Int × Int)} (h : TupsAre tl vs ts) : vs.length = ts.length := by
  induction h with
  | nil => rfl
  | snoc _ _ _ ih => simp [ih]
theorem TupsAre.get {tl : List (Addr × Obj)} {vs : List Value} {ts : List (List Int × Int)} (h : TupsAre tl vs ts) : ∀ (i : Nat) (l : List Int) (z : Int), ts[i]? = some (l, z) → ∃ a b t tz, vs[i]? = some (.ref a) ∧ (a, tupO b t z tz) ∈ tl ∧ KBw.bInts b = l := by
  induction h with
  | nil => intro i l z h; simp at h
  | @snoc vs ts a b t tz z l h hm hb ih =>
    intro i l' z' hi
    by_cases hlt : i < ts.length
    · rw [List.getElem?_append_left hlt] at hi
      obtain ⟨a', b', t', tz', e1, e2, e3⟩ := ih i l' z' hi
      refine ⟨a', b', t', tz', ?_, e2, e3⟩
      rw [List.getElem?_append_left (by rw [h.length]; exact hlt)]
      exact e1
    · have hge : ts.length ≤ i := by omega
      rw [List.getElem?_append_right hge] at hi
      have : i - ts.length = 0 := by
        by_cases q : i - ts.length = 0
        · exact q
        · rw [List.getElem?_eq_none (by simp; omega)] at hi; cases hi
      rw [this] at hi
      simp only [List.getElem?_cons_zero, Option.some.injEq, Prod.mk.injEq] at hi
      obtain ⟨rfl, rfl⟩ := hi
      refine ⟨a, b, t, tz, ?_, hm, hb⟩
      rw [List.getElem?_append_right (by rw [h.length]; exact hge), h.length, this]
      rfl
theorem linesAux_nil (acc : List Int) : linesAux acc [] = if acc = [] then [] else [(acc, 0)] := by rw [linesAux]
theorem linesAux_two (acc r : List Int) : linesAux acc (13 :: 10 :: r) = (acc, 2) :: linesAux [] r := by rw [linesAux]; simp
theorem linesAux_one {acc r : List Int} {k : Int} (h : k = 10 ∨ k = 13) (h2 : ¬ (k = 13 ∧ r.head? = some 10)) : linesAux acc (k :: r) = (acc, 1) :: linesAux [] r := by
  rw [linesAux, if_neg h2, if_pos h]
theorem linesAux_go {acc r : List Int} {k : Int} (h : ¬ (k = 10 ∨ k = 13)) : linesAux acc (k :: r) = linesAux (acc ++ [k]) r := by
  rw [linesAux, if_neg (fun q => h (.inr q.1)), if_neg h]
end Mine
namespace Mine
structure LS where
  j : Int
  tj : Tok
  ln : Addr
  fd : Addr
  ws : List Value
  kl : Nat
  vs : List Value
  kf : Nat
  acc : List Int
  ts : List (List Int × Int)
  tl : List (Addr × Obj)
structure LInv (ks : List Int) (news : List (Addr × Obj)) (c : LS) : Prop where
  isInts : IntsAre c.ws c.acc
  inb : KBa.In c.acc
  tups : TupsAre c.tl c.vs c.ts
  lo : 0 ≤ c.j
  hi : c.j ≤ ks.length
  eq : linesAux [] ks = c.ts ++ linesAux c.acc (ks.drop c.j.toNat)
  lenA : (c.acc.length : Int) ≤ c.j
  lenT : (c.ts.length : Int) ≤ c.j
  fl : @LT.lt Nat _ c.fd c.ln
  neF : ∀ q ∈ c.tl ++ news, q.1 ≠ c.fd
  neL : ∀ q ∈ c.tl ++ news, q.1 ≠ c.ln
  ap : ∀ q ∈ c.tl, ∀ p ∈ news, p.1 ≠ q.1
theorem drop_getD {ks : List Int} {j : Int} (h0 : 0 ≤ j) (h1 : j < ks.length) : ks.drop j.toNat = ks.getD j.toNat 0 :: ks.drop (j + 1).toNat := by
  have hl : j.toNat < ks.length := by omega
  rw [List.drop_eq_getElem_cons hl, List.getD_eq_getElem?_getD, List.getElem?_eq_getElem hl, Option.getD_some, show (j + 1).toNat = j.toNat + 1 from by omega]
theorem slice_one {ks : List Int} {j : Int} {p : Array UInt8} (h0 : 0 ≤ j) (h1 : j < ks.length) (hK : KBw.bInts p = List.take (clipAt ks.length (j + 2) - clipAt ks.length (j + 1)) (List.drop (clipAt ks.length (j + 1)) ks)) :
    KBw.bInts p = (ks.drop (j + 1).toNat).take 1 := by
  rw [hK]
  have c1 := clipAt_cast ks.length (j + 1)
  have c2 := clipAt_cast ks.length (j + 2)
  rw [if_neg (by omega)] at c1 c2
  by_cases h : j + 1 < ks.length
  · have e1 : clipAt ks.length (j + 1) = (j + 1).toNat := by omega
    have e2 : clipAt ks.length (j + 2) - clipAt ks.length (j + 1) = 1 := by omega
    rw [e2, e1]
  · have e2 : clipAt ks.length (j + 2) - clipAt ks.length (j + 1) = 0 := by omega
    rw [e2, List.take_zero, show ks.drop (j + 1).toNat = [] from List.drop_eq_nil_of_le (by omega)]
    rfl
theorem slice_yes {ks : List Int} {j : Int} {p : Array UInt8} (h0 : 0 ≤ j) (h1 : j < ks.length) (hK : KBw.bInts p = List.take (clipAt ks.length (j + 2) - clipAt ks.length (j + 1)) (List.drop (clipAt ks.length (j + 1)) ks))
    (he : (p.toList == #[(Int.toNat 10).toUInt8].toList) = true) : (ks.drop (j + 1).toNat).head? = some 10 := by
  have h := slice_one h0 h1 hK
  have e : p.toList = [10] := by simpa using he
  unfold KBw.bInts at h
  rw [e] at h
  cases hq : ks.drop (j + 1).toNat with
  | nil => rw [hq] at h; simp at h
  | cons k r =>
    rw [hq] at h
    simp only [List.map_cons, List.map_nil, List.take_succ_cons, List.take_zero, List.cons.injEq, and_true] at h
    simp only [List.head?_cons, Option.some.injEq]
    rw [← h]; rfl
theorem slice_no {ks : List Int} {j : Int} {p : Array UInt8} (h0 : 0 ≤ j) (h1 : j < ks.length) (hK : KBw.bInts p = List.take (clipAt ks.length (j + 2) - clipAt ks.length (j + 1)) (List.drop (clipAt ks.length (j + 1)) ks))
    (he : (p.toList == #[(Int.toNat 10).toUInt8].toList) = false) : (ks.drop (j + 1).toNat).head? ≠ some 10 := by
  have h := slice_one h0 h1 hK
  intro hh
  cases hq : ks.drop (j + 1).toNat with
  | nil => rw [hq] at hh; simp at hh
  | cons k r =>
    rw [hq] at hh h
    simp only [List.head?_cons, Option.some.injEq] at hh
    subst hh
    simp only [List.take_succ_cons, List.take_zero] at h
    unfold KBw.bInts at h
    cases hp : p.toList with
    | nil => rw [hp] at h; simp at h
    | cons c q =>
      rw [hp] at h
      simp only [List.map_cons, List.cons.injEq, List.map_eq_nil_iff] at h
      have hc : c = 10 := by
        have h9 : c.toNat = 10 := by omega
        exact UInt8.toNat_inj.mp h9
      have : p.toList = [10] := by rw [hp, hc, h.2]
      rw [this] at he
      exact absurd he (by decide)
section
variable {ks : List Int} {news : List (Addr × Obj)} {j : Int} {tj : Tok} {ln fd : Addr} {ws : List Value} {kl : Nat} {vs : List Value} {kf : Nat} {acc : List Int} {ts : List (List Int × Int)} {tl : List (Addr × Obj)}
theorem linv_new (h : LInv ks news ⟨j, tj, ln, fd, ws, kl, vs, kf, acc, ts, tl⟩) {z : Int} {tj' : Tok} {j' : Int} {D l' : Addr} {bb : Array UInt8} {t tz : Tok} {k1 k2 : Nat} (hj : j' = j + z) (hz : 1 ≤ z) (hle : j' ≤ ks.length)
    (he : linesAux acc (ks.drop j.toNat) = (acc, z) :: linesAux [] (ks.drop j'.toNat)) (hb : KBw.bInts bb = acc) (h1 : D ≠ fd) (h2 : D ≠ l') (h3 : @LT.lt Nat _ fd l') (h4 : ∀ q ∈ tl ++ news, q.1 ≠ D) (h5 : ∀ q ∈ tl ++ news, q.1 ≠ l') :
    LInv ks news ⟨j', tj', l', fd, [], k1, vs ++ [.ref D], k2, [], ts ++ [(acc, z)], (D, tupO bb t z tz) :: tl⟩ := by
  obtain ⟨i1, i2, i3, i4, i5, i6, i7, i8, i9, i10, i11, i12⟩ := h
  dsimp only at *
  refine ⟨.nil, (fun _ h => nomatch h), .snoc (i3.mono fun p hp => .tail _ hp) (.head _) hb, by dsimp only; omega, hle, ?_, ?_, ?_, h3, ?_, ?_, ?_⟩
  · dsimp only; rw [i6, he]; simp
  · dsimp only; simp; omega
  · dsimp only; simp; omega
  · dsimp only
    intro q hq
    rcases List.mem_cons.mp hq with rfl | hq
    · exact h1
    · exact i10 q hq
  · dsimp only
    intro q hq
    rcases List.mem_cons.mp hq with rfl | hq
    · exact h2
    · exact h5 q hq
  · dsimp only
    intro q hq p hp
    rcases List.mem_cons.mp hq with rfl | hq
    · exact h4 p (List.mem_append_right _ hp)
    · exact i12 q hq p hp
theorem linv_go (h : LInv ks news ⟨j, tj, ln, fd, ws, kl, vs, kf, acc, ts, tl⟩) {tj' : Tok} {t : Tok} {k1 : Nat} (hj : j < ks.length) (hr : 0 ≤ ks.getD j.toNat 0) (hr2 : ks.getD j.toNat 0 < 256) (hn : ¬ (ks.getD j.toNat 0 = 10 ∨ ks.getD j.toNat 0 = 13)) :
    LInv ks news ⟨j + 1, tj', ln, fd, ws ++ [.int (ks.getD j.toNat 0) t], k1, vs, kf, acc ++ [ks.getD j.toNat 0], ts, tl⟩ := by
  obtain ⟨i1, i2, i3, i4, i5, i6, i7, i8, i9, i10, i11, i12⟩ := h
  dsimp only at *
  refine ⟨IntsAre.append i1 (.cons _ _ .nil), ?_, i3, by dsimp only; omega, by dsimp only; omega, ?_, ?_, ?_, i9, i10, i11, i12⟩
  · dsimp only
    intro k hk
    rcases List.mem_append.mp hk with hk | hk
    · exact i2 k hk
    · rw [List.mem_singleton.mp hk]; exact ⟨hr, hr2⟩
  · dsimp only; rw [i6, drop_getD i4 hj, linesAux_go hn]
  · dsimp only; simp; omega
  · dsimp only; omega
theorem lines_two {a : List Int} (h0 : 0 ≤ j) (hj : j < ks.length) (h1 : ks.getD j.toNat 0 = 13) (h2 : (ks.drop (j + 1).toNat).head? = some 10) : linesAux a (ks.drop j.toNat) = (a, 2) :: linesAux [] (ks.drop (j + 2).toNat) ∧ j + 2 ≤ ks.length := by
  have hl : j + 1 < ks.length := by
    by_cases h : j + 1 < ks.length
    · exact h
    · rw [List.drop_eq_nil_of_le (by omega)] at h2; simp at h2
  rw [drop_getD h0 hj, h1, drop_getD (by omega) hl]
  rw [drop_getD (by omega) hl] at h2
  simp only [List.head?_cons, Option.some.injEq] at h2
  rw [h2, linesAux_two, show j + 1 + 1 = j + 2 from by omega]
  exact ⟨rfl, by omega⟩
theorem lines_one {a : List Int} (h0 : 0 ≤ j) (hj : j < ks.length) (h1 : ([10, 13].any fun x => x == ks.getD j.toNat 0) = true) (h2 : ks.getD j.toNat 0 ≠ 13 ∨ (ks.drop (j + 1).toNat).head? ≠ some 10) : linesAux a (ks.drop j.toNat) = (a, 1) :: linesAux [] (ks.drop (j + 1).toNat) := by
  rw [drop_getD h0 hj]
  refine linesAux_one ?_ ?_
  · simp only [List.any_cons, List.any_nil, Bool.or_false, Bool.or_eq_true, beq_iff_eq] at h1
    rcases h1 with h | h
    · exact .inl h.symm
    · exact .inr h.symm
  · rintro ⟨a, b⟩
    rcases h2 with h | h
    · exact h a
    · exact h b
theorem not_ends (h1 : ([10, 13].any fun x => x == ks.getD j.toNat 0) = false) : ¬ (ks.getD j.toNat 0 = 10 ∨ ks.getD j.toNat 0 = 13) := by
  simp only [List.any_cons, List.any_nil, Bool.or_false, Bool.or_eq_false_iff, beq_eq_false_iff_ne, ne_eq] at h1
  rintro (h | h)
  · exact h1.1 h.symm
  · exact h1.2 h.symm
end
end Mine
namespace Mine
theorem apart_new {g h1 : Heap} {L : Addr} {X news : List (Addr × Obj)} (N1 : News g L h1 X) (hs : ∀ p ∈ news, p ∈ X) : ∀ p ∈ news, p.1 ≠ h1.objs.size :=
  fun p hp => Nat.ne_of_lt (Heap.lt_size (N1 p (hs p hp)).1)
theorem lines_last {ks acc : List Int} {ts : List (List Int × Int)} {j : Int} (e : linesAux [] ks = ts ++ linesAux acc (ks.drop j.toNat)) (h : ¬ j < ks.length) : linesAux [] ks = ts ++ (if acc = [] then [] else [(acc, 0)]) := by
  rw [e, List.drop_eq_nil_of_le (by omega), linesAux_nil]
end Mine
end
namespace Mine
theorem walkReset9 : True := by w_top off; trivial
end Mine
section
open PySem PySem.W PyProof.Rows PySem.Spec
namespace Mine
local macro_rules | `(tactic| k_all) => `(tactic| assumption)
local macro_rules | `(tactic| k_room) => `(tactic| ktr_room)
local macro_rules | `(tactic| k_units) => `(tactic| first | exact Nat.le_of_ble_eq_true rfl | ktr_units)
local macro_rules | `(tactic| units_room) => `(tactic| ktr_units)
local macro_rules | `(tactic| k_enter) => `(tactic| (refine' code_def ?k1 ?k2 ?k3 ?k4 ?k5 ?kA ?kF ?kK ?k6 ?k7 ?k8 ?k9 ?kB ?_ ?c2 ?c3 ?c4 ?c5; (case kA => exact rfl); (case kF => exact rfl); (case kK => first | exact rfl | assumption); (case k1 => k_asm); (case k2 => k_asm); (case k3 => k_asm); (case k4 => k_asm); (case k5 => k_asm); (case k6 => k_is); (case k7 => k_is); (case k8 => k_room); (case k9 => first | exact BindsTo.of_eq rfl | exact binds_K (by k_in) rfl (by k_is) rfl rfl rfl | fail "k_enter: no rule for these arguments"); (case c5 => decide); (case kB => exact locs rfl); (case c2 => exact rfl); (case c3 => exact rfl); (case c4 => exact rfl); k_whole; intro g' L' h' FG' F' N' B' X' T'; (try dsimp only); (try k_lift B'); (try k_fold)))
local macro_rules | `(tactic| walk_at "execs nil") => `(tactic| refine wpAny_execs_nil ?_)
local macro_rules | `(tactic| walk_at "execs cons") => `(tactic| ((with_reducible refine wpAny_execs_cons ?_); (try (refine gen_toks ?_; intro tk9)); (try dsimp only)))
local macro_rules | `(tactic| k_steps) => `(tactic| repeat' (first | (k_unfold; (try dsimp only)) | ((fail_if_success (with_reducible show wpAny _ _ (exec (Stmt.While _ _ _ _) _) _ _ _)); (fail_if_success (with_reducible show KswEnd _ _ _ _ _ _ _ _ _ _ _ _)); first | walk1 | (dsimp only; walk1)) | fail "no step"))
section
local macro_rules | `(tactic| ksw_same) => `(tactic| (intro z9 h9 _; (have a1 := h9 _ (.head _)); (have a2 := h9 _ (.tail _ (.head _))); (have a3 := h9 _ (.tail _ (.tail _ (.head _)))); (dsimp only at a1 a2 a3); (simp only [kstB, if_neg a1, if_neg a2, if_neg a3, List.contains_nil, Bool.false_eq_true, if_false] <;> rfl)))
set_option maxRecDepth 100000 in
set_option maxHeartbeats 1000000 in
theorem linesC {w : World} {mean : ExcName → Option Value} {mg mb : Str → Option Value} {dp un : Nat} {gd : Option (List Code)} {cn : Str} {cs : Scope} {a : Addr} {ccd : Value} {cl : List (Str × Addr)} {outer : List Env} {A₀ : Around} {base h₀ : Heap} {L : Addr} {m : Str → Option Value} {s : Shared} {Q E : Value → Shared → Prop}
    {b : Array UInt8} {ks : List Int} {t0 : Tok} {news : List (Addr × Obj)}
    (B : Below A₀ base outer h₀) (F : Fr h₀ L s.heap m) (X : (hd.heap_39 w.params).In h₀)
    (N : News h₀ L s.heap news)
    (T : Top hd.view_39 (looseW hd.view_39 []) mean mg mb h₀) (hk : cs.kind = .function) (hb : KBw.bInts b = ks)
    (h3 : ks.length ≤ 64)
    (hdp : dp + 3 < recursionLimit) (hu : un + 200 < cLine)
    (ret : ∀ r tl vs k h' tk', Fr h₀ L h' m → News h₀ L h' ((r, listOf vs.toArray k) :: (tl ++ news)) → (∀ q ∈ (r, listOf vs.toArray k) :: tl, ∀ p ∈ news, p.1 ≠ q.1) → TupsAre tl vs (linesAux [] ks) → Q (.ref r) { s with heap := h', toks := tk' }) :
    wpAny (model PySem.Challenge.rw_og0133_01.row.prog w) (ktrTop dp un gd cn cs L a ccd cl outer) (call (.ref 156) [.bytes b t0]) Q E s := by
  revert X
  k_fill
  intro X
  k_steps
  rename Fr _ _ _ _ => F9
  rename News _ _ _ _ => N9
  rename (_ < _ ∧ AllLt _ _) => hl9
  rename (∀ _ ∈ news, _ < _) => hl8
  refine' ksw_while (σ := LS) (fun c => (c.ln, listOf c.ws.toArray c.kl) :: (c.fd, listOf c.vs.toArray c.kf) :: (c.tl ++ news)) (fun c => [(Str.ofString "at", .int c.j c.tj), (Str.ofString "line", .ref c.ln), (Str.ofString "found", .ref c.fd)]) (fun _ => True) [] (fun c => LInv ks news c) (fun c => (ks.length - c.j).toNat) ⟨0, _, _, _, [], 0, [], 0, [], [], []⟩ F9 N9 trivial (List.forall_mem_cons.mpr ⟨rfl, List.forall_mem_cons.mpr ⟨rfl, List.forall_mem_cons.mpr ⟨rfl, List.forall_mem_nil _⟩⟩⟩) ?kp ?_
  case kp => exact ⟨IntsAre.nil, (fun _ h => nomatch h), .nil, Int.le_refl _, Int.natCast_nonneg _, by simp, by simp, by simp, hl9.1, fun q hq => Nat.ne_of_lt (hl8 q hq), fun q hq => Nat.ne_of_lt (kst_ltOf hl9.2 q hq), (fun _ h => nomatch h)⟩
  clear F9 N9 hl9 hl8
  rintro ⟨j, tj, ln, fd, ws, kl, vs, kf, acc, ts, tl⟩ u h tk - hI F1 N1
  dsimp only at *
  k_fold
  obtain ⟨i1, i2, i3, i4, i5, i6, i7, i8, i9, i10, i11, i12⟩ := id hI
  dsimp only at i1 i2 i3 i4 i5 i6 i7 i8 i9 i10 i11 i12
  have hvl := i3.length
  have hwl := i1.length
  k_steps
  all_goals (try (rename News _ _ _ _ => N9; simp only [List.push_toArray] at N9))
  · obtain ⟨q1, q2⟩ := lines_two (a := acc) i4 (by assumption) (by assumption) (slice_yes i4 (by assumption) (by assumption) (by assumption))
    refine' ksw_end ⟨j + 2, _, _, fd, [], 0, vs ++ [.ref _], kf + 1, [], ts ++ [(acc, 2)], (_, tupO _ _ 2 _) :: tl⟩ (by assumption) N9 (List.forall_mem_cons.mpr ⟨by k_mem, List.forall_mem_cons.mpr ⟨by k_mem, List.forall_mem_cons.mpr ⟨by k_mem, by intro p hp; kst_mem⟩⟩⟩) trivial (List.forall_mem_cons.mpr ⟨rfl, List.forall_mem_cons.mpr ⟨rfl, List.forall_mem_cons.mpr ⟨rfl, List.forall_mem_nil _⟩⟩⟩) (by ksw_same) ?hp ?hm
    case hp => exact linv_new hI rfl (by decide) q2 q1 (KBa.ints_make i2) (by refine neN ?_; omega) (by refine neN ?_; omega) (by refine ltN ?_; omega) (by kst_allNe) (by kst_allNe)
    case hm => dsimp only; omega
  · have q1 := lines_one (a := acc) i4 (by assumption) (by assumption) (.inr (slice_no i4 (by assumption) (by assumption) (by assumption)))
    refine' ksw_end ⟨j + 1, _, _, fd, [], 0, vs ++ [.ref _], kf + 1, [], ts ++ [(acc, 1)], (_, tupO _ _ 1 _) :: tl⟩ (by assumption) N9 (List.forall_mem_cons.mpr ⟨by k_mem, List.forall_mem_cons.mpr ⟨by k_mem, List.forall_mem_cons.mpr ⟨by k_mem, by intro p hp; kst_mem⟩⟩⟩) trivial (List.forall_mem_cons.mpr ⟨rfl, List.forall_mem_cons.mpr ⟨rfl, List.forall_mem_cons.mpr ⟨rfl, List.forall_mem_nil _⟩⟩⟩) (by ksw_same) ?hp ?hm
    case hp => exact linv_new hI rfl (by decide) (by omega) q1 (KBa.ints_make i2) (by refine neN ?_; omega) (by refine neN ?_; omega) (by refine ltN ?_; omega) (by kst_allNe) (by kst_allNe)
    case hm => dsimp only; omega
  · exact absurd (.inr (by assumption)) (not_ends (by assumption))
  · have q1 := lines_one (a := acc) i4 (by assumption) (by assumption) (.inl (by assumption))
    refine' ksw_end ⟨j + 1, _, _, fd, [], 0, vs ++ [.ref _], kf + 1, [], ts ++ [(acc, 1)], (_, tupO _ _ 1 _) :: tl⟩ (by assumption) N9 (List.forall_mem_cons.mpr ⟨by k_mem, List.forall_mem_cons.mpr ⟨by k_mem, List.forall_mem_cons.mpr ⟨by k_mem, by intro p hp; kst_mem⟩⟩⟩) trivial (List.forall_mem_cons.mpr ⟨rfl, List.forall_mem_cons.mpr ⟨rfl, List.forall_mem_cons.mpr ⟨rfl, List.forall_mem_nil _⟩⟩⟩) (by ksw_same) ?hp ?hm
    case hp => exact linv_new hI rfl (by decide) (by omega) q1 (KBa.ints_make i2) (by refine neN ?_; omega) (by refine neN ?_; omega) (by refine ltN ?_; omega) (by kst_allNe) (by kst_allNe)
    case hm => dsimp only; omega
  · refine' ksw_end ⟨j + 1, _, ln, fd, ws ++ [.int (ks.getD j.toNat 0) _], kl + 1, vs, kf, acc ++ [ks.getD j.toNat 0], ts, tl⟩ (by assumption) N9 (List.forall_mem_cons.mpr ⟨by k_mem, List.forall_mem_cons.mpr ⟨by k_mem, by intro p hp; kst_mem⟩⟩) trivial (List.forall_mem_cons.mpr ⟨rfl, List.forall_mem_cons.mpr ⟨rfl, List.forall_mem_cons.mpr ⟨rfl, List.forall_mem_nil _⟩⟩⟩) (by ksw_same) ?hp ?hm
    case hp => exact linv_go hI (by assumption) (by assumption) (by assumption) (not_ends (by assumption))
    case hm => dsimp only; omega
  · have q1 := lines_last i6 (by assumption)
    rw [if_pos (of_decide_eq_true (by assumption))] at q1
    refine ret _ tl (vs ++ []) 0 _ _ (by assumption) (cb_drop N9 (List.forall_mem_cons.mpr ⟨by k_mem, by intro p hp; kst_mem⟩)) ?_ ?_
    · intro q hq
      rcases List.mem_cons.mp hq with rfl | hq
      · exact apart_new (by assumption) (by intro p hp; kst_mem)
      · exact i12 q hq
    · rw [q1, List.append_nil, List.append_nil]
      exact i3
  · have q1 := lines_last i6 (by assumption)
    rw [if_neg (of_decide_eq_false (by assumption))] at q1
    refine ret _ ((_, tupO _ _ 0 _) :: tl) (vs ++ [.ref _]) 0 _ _ (by assumption) (cb_drop N9 (List.forall_mem_cons.mpr ⟨by k_mem, List.forall_mem_cons.mpr ⟨by k_mem, by intro p hp; kst_mem⟩⟩)) ?_ ?_
    · intro q hq
      rcases List.mem_cons.mp hq with rfl | hq
      · exact apart_new (by assumption) (by intro p hp; kst_mem)
      rcases List.mem_cons.mp hq with rfl | hq
      · exact fun p hp => (by kst_allNe : ∀ q ∈ tl ++ news, q.1 ≠ _) p (List.mem_append_right _ hp)
      · exact i12 q hq
    · rw [q1]
      exact .snoc (i3.mono fun p hp => .tail _ hp) (.head _) (KBa.ints_make i2)
end
end Mine
end
namespace Mine
theorem walkReset10 : True := by w_top off; trivial
end Mine
section
open PySem PySem.W PyProof.Rows PySem.Spec
namespace Mine
/-- what a turn of the drawing comprehension leaves -/
@[irreducible] def PenEl (p : Addr) (k : Nat) (r : List (Addr × Obj)) (c : Int) (y : Value) (news' : List (Addr × Obj)) : Prop :=
  ∃ n' t1' t2' d td, (∀ q ∈ (p, listOf (List.toArray [.int n' t1', .int c t2']) k) :: r, q ∈ news') ∧ PenGood n' ∧ y = .int d td ∧ 0 ≤ d ∧ d < 256
theorem penEl_intro {p : Addr} {k : Nat} {r news' : List (Addr × Obj)} {c c' n' d : Int} {t1' t2' td : Tok} (hs : ∀ q ∈ (p, listOf (List.toArray [.int n' t1', .int c t2']) k) :: r, q ∈ news') (hg : PenGood n') (h0 : 0 ≤ d) (h1 : d < 256) (hc : c = c') : PenEl p k r c' (.int d td) news' := by
  unfold PenEl; subst hc; exact ⟨n', t1', t2', d, td, hs, hg, rfl, h0, h1⟩
section
variable {prog : Program} {w : World} {A : Around} {h₀ : Heap} {L : Addr} {m : Str → Option Value} {env : Env} {elt : PySem.Expr} {x : Str} {scope : Scope} {cl : List (Str × Addr)} {s : Shared} {S : List (Addr × Obj) → Prop} {P : Nat → Value → Prop} {Fin : List Value → List (Addr × Obj) → Prop} {news : List (Addr × Obj)}
theorem comp_state {σ : Type} {n : Nat} (Led : σ → List (Addr × Obj)) (I : Nat → List Value → σ → Prop) (c₀ : σ) (h0 : ∀ p ∈ Led c₀, p ∈ news) (hI : I 0 [] c₀)
    (turn : ∀ i c ys v I' oI C oC D m₂ h tk (E' : Value → Shared → Prop), i < n → I i ys c → P i v → LCg.NsObj oC m₂ → m₂ x = some v → Fr h₀ L h m → News h₀ L h ((I', oI) :: (C, oC) :: (D, LCg.lst ys) :: Led c) → LCg.Off3 I' C D (Led c) → ((@Ne Nat I' C) ∧ (@Ne Nat I' D) ∧ (@Ne Nat C D)) →
      wpAny (model prog w) A (eval elt (compEnvC scope cl C env)) (LCg.CompEnd h₀ L m { s with heap := h, toks := tk } I' oI C oC D (LCg.lst ys) S (fun y news' => ∃ c', (∀ p ∈ Led c', p ∈ news') ∧ I (i + 1) (ys ++ [y]) c')) E' { s with heap := h, toks := tk })

    (fin : ∀ c ys, I n ys c → Fin ys (Led c)) (fmono : ∀ ys a b, (∀ p ∈ b, p ∈ a) → Fin ys b → Fin ys a) : LCg.CompRest prog w A h₀ L m env elt x scope cl s S P Fin n 0 [] news := by
  have key : ∀ (j i : Nat) (c : σ) (ys : List Value) (news : List (Addr × Obj)), i + j = n → (∀ p ∈ Led c, p ∈ news) → I i ys c → LCg.CompRest prog w A h₀ L m env elt x scope cl s S P Fin j i ys news := by
    intro j
    induction j with
    | zero =>
      intro i c ys news hi hs hI
      have e : i = n := by omega
      subst e
      exact LCg.CompRest.zero (fmono _ _ _ hs (fin c ys hI))
    | succ j ih =>
      intro i c ys news hi hs hI
      refine LCg.CompRest.succ ?_
      intro v I' oI C oC D m₂ h tk E' hv hC hx F N off ne
      have N2 : News h₀ L h ((I', oI) :: (C, oC) :: (D, LCg.lst ys) :: Led c) := fun p hp => N p (by
        rcases List.mem_cons.mp hp with rfl | hp
        · exact .head _
        rcases List.mem_cons.mp hp with rfl | hp
        · exact .tail _ (.head _)
        rcases List.mem_cons.mp hp with rfl | hp
        · exact .tail _ (.tail _ (.head _))
        exact .tail _ (.tail _ (.tail _ (hs p hp))))
      have off2 : LCg.Off3 I' C D (Led c) := LCg.Off3.of fun p hp => off.mem p (hs p hp)
      refine wpAny_mono (turn i c ys v I' oI C oC D m₂ h tk E' (by omega) hI hv hC hx F N2 off2 ne) (fun y s₂ hq => ?_) fun _ _ e => e
      obtain ⟨h', tk', nw, e, F', N', off', hS, c', hn, hI'⟩ := hq
      exact ⟨h', tk', nw, e, F', N', off', hS, ih (i + 1) c' _ nw (by omega) hn hI'⟩
  exact key n 0 c₀ [] news (by omega) h0 hI
theorem finE_mono {Q : Value → Shared → Prop} {ys : List Value} {a b : List (Addr × Obj)} (hs : ∀ p ∈ b, p ∈ a) (h : LCg.FinE h₀ L m s Q ys b) : LCg.FinE h₀ L m s Q ys a := by
  intro D h' tk F N o
  refine h D h' tk F (fun p hp => N p ?_) ?_
  · rcases List.mem_cons.mp hp with rfl | hp
    · exact .head _
    · exact .tail _ (hs p hp)
  · revert o hs
    clear h N F
    intro hs o
    have key : ∀ p ∈ a, @Ne Nat p.1 D := by
      clear hs
      induction a with
      | nil => intro p hp; cases hp
      | cons q r ih =>
        intro p hp
        rcases List.mem_cons.mp hp with rfl | hp
        · exact o.1
        · exact ih o.2 p hp
    clear o
    induction b with
    | nil => exact trivial
    | cons q r ih => exact ⟨key q (hs q (.head _)), ih fun p hp => hs p (.tail _ hp)⟩
theorem comp_pen {s' : Shared} {Q : Value → Shared → Prop} {p : Addr} {k : Nat} {r : List (Addr × Obj)} {c0 : Int} {cnt : Nat} {n₀ : Int} {t1₀ t2₀ : Tok} (hg : PenGood n₀)
    (turn : ∀ (i : Nat) (n : Int) (t1 t2 : Tok) ys v I' oI C oC D m₂ h tk (E' : Value → Shared → Prop), i < cnt → PenGood n → P i v → LCg.NsObj oC m₂ → m₂ x = some v → Fr h₀ L h m → News h₀ L h ((p, listOf (List.toArray [.int n t1, .int (c0 + i) t2]) k) :: (I', oI) :: (C, oC) :: (D, LCg.lst ys) :: r) → LCg.Off3 I' C D ((p, listOf (List.toArray [.int n t1, .int (c0 + i) t2]) k) :: r) → ((@Ne Nat I' C) ∧ (@Ne Nat I' D) ∧ (@Ne Nat C D)) →
      wpAny (model prog w) A (eval elt (compEnvC scope cl C env)) (LCg.CompEnd h₀ L m { s with heap := h, toks := tk } I' oI C oC D (LCg.lst ys) S (PenEl p k r (c0 + i + 1))) E' { s with heap := h, toks := tk })
    (fin : ∀ n t1 t2 ys ks, PenGood n → IntsAre ys ks → KBa.In ks → ks.length = cnt → LCg.FinE h₀ L m s' Q ys ((p, listOf (List.toArray [.int n t1, .int (c0 + cnt) t2]) k) :: r)) :
    LCg.CompRest prog w A h₀ L m env elt x scope cl s S P (LCg.FinE h₀ L m s' Q) cnt 0 [] ((p, listOf (List.toArray [.int n₀ t1₀, .int c0 t2₀]) k) :: r) := by
  refine comp_state (σ := Int × Int × Tok × Tok) (fun c => (p, listOf (List.toArray [.int c.1 c.2.2.1, .int c.2.1 c.2.2.2]) k) :: r) (fun i ys c => PenGood c.1 ∧ c.2.1 = c0 + i ∧ ∃ ks, IntsAre ys ks ∧ KBa.In ks ∧ ks.length = i) (n₀, c0, t1₀, t2₀) (fun _ h => h) ⟨hg, (Int.add_zero _).symm, [], .nil, (fun _ h => nomatch h), rfl⟩ ?_ ?_ (fun ys a b hs h => finE_mono hs h)
  · rintro i ⟨n, c, t1, t2⟩ ys v I' oI C oC D m₂ h tk E' hi ⟨hg, hc, ks, hI, hIn, hl⟩ hv hC hx F N off ne
    dsimp only at hg hc N off ⊢
    subst hc
    refine wpAny_mono (turn i n t1 t2 ys v I' oI C oC D m₂ h tk E' hi hg hv hC hx F (fun q hq => N q ?_) off ne) (fun y s₂ hq => ?_) fun _ _ e => e
    · rcases List.mem_cons.mp hq with rfl | hq
      · exact .tail _ (.tail _ (.tail _ (.head _)))
      rcases List.mem_cons.mp hq with rfl | hq
      · exact .head _
      rcases List.mem_cons.mp hq with rfl | hq
      · exact .tail _ (.head _)
      rcases List.mem_cons.mp hq with rfl | hq
      · exact .tail _ (.tail _ (.head _))
      exact .tail _ (.tail _ (.tail _ (.tail _ hq)))
    · obtain ⟨h', tk', nw, e, F', N', off', hS, hq⟩ := hq
      unfold PenEl at hq
      obtain ⟨n', t1', t2', d, td, hn, hg', hy, hd0, hd1⟩ := hq
      refine ⟨h', tk', nw, e, F', N', off', hS, (n', c0 + i + 1, t1', t2'), hn, hg', by dsimp only; omega, ks ++ [d], ?_, ?_, by simp [hl]⟩
      · rw [hy]; exact IntsAre.append hI (.cons _ _ .nil)
      · intro z hz
        rcases List.mem_append.mp hz with hz | hz
        · exact hIn z hz
        · rw [List.mem_singleton.mp hz]; exact ⟨hd0, hd1⟩
  · rintro ⟨n, c, t1, t2⟩ ys ⟨hg, hc, ks, hI, hIn, hl⟩
    dsimp only at hg hc ⊢
    subst hc
    exact fin n t1 t2 ys ks hg hI hIn hl
end
end Mine
end
namespace Mine
theorem walkReset11 : True := by w_top off; trivial
end Mine
section
open PySem PySem.W PyProof.Rows PySem.Spec
namespace Mine
section
variable {w : World} {mean : ExcName → Option Value} {mg mb : Str → Option Value} {dp un : Nat} {gd : Option (List Code)} {cn : Str} {cs : Scope} {a : Addr} {ccd : Value} {cl : List (Str × Addr)} {outer : List Env} {A₀ : Around} {base h₀ : Heap} {L : Addr} {m : Str → Option Value} {s : Shared} {Q E : Value → Shared → Prop} {all : List (Addr × Obj)} {g : Obj → List (Addr × Obj)}
theorem upd_front {d : Addr} {o : Obj} (U : UpdF d o all g) : ∃ news, (∀ q ∈ news, q.1 ≠ d) ∧ (∀ q ∈ (d, o) :: news, q ∈ all) ∧ (∀ o', ∀ q ∈ g o', q ∈ (d, o') :: news) ∧ (∀ q ∈ all, q.1 ≠ d → q ∈ news) := by
  obtain ⟨pre, post, e1, e2, h1, h2⟩ := U.split
  subst e1
  refine ⟨pre ++ post, ?_, ?_, ?_, ?_⟩
  · intro q hq
    rcases List.mem_append.mp hq with hq | hq
    · exact h1 q hq
    · exact h2 q hq
  · intro q hq
    rcases List.mem_cons.mp hq with rfl | hq
    · exact List.mem_append_right _ (.head _)
    rcases List.mem_append.mp hq with hq | hq
    · exact List.mem_append_left _ hq
    · exact List.mem_append_right _ (.tail _ hq)
  · intro o' q hq
    rw [e2] at hq
    rcases List.mem_append.mp hq with hq | hq
    · exact .tail _ (List.mem_append_left _ hq)
    rcases List.mem_cons.mp hq with rfl | hq
    · exact .head _
    · exact .tail _ (List.mem_append_right _ hq)
  · intro q hq hn
    rcases List.mem_append.mp hq with hq | hq
    · exact List.mem_append_left _ hq
    rcases List.mem_cons.mp hq with rfl | hq
    · exact absurd rfl hn
    · exact List.mem_append_right _ hq
theorem drawU {p : Addr} {n c : Int} {t1 t2 : Tok} {k : Nat} {many : Int} {tm : Tok}
    (B : Below A₀ base outer h₀) (F : Fr h₀ L s.heap m) (X : (hd.heap_39 w.params).In h₀)
    (N : News h₀ L s.heap all) (U : UpdF p (listOf (List.toArray [.int n t1, .int c t2]) k) all g)
    (T : Top hd.view_39 (looseW hd.view_39 []) mean mg mb h₀) (hk : cs.kind = .function)
    (hg : PenGood n) (hc : 0 ≤ c) (hc2 : c ≤ 1000) (hm : 0 < many) (hm2 : many ≤ 100)
    (hdp : dp + 1 < recursionLimit) (hu : un + 8 < cLine)
    (ret : ∀ d t n' t1' t2' h' tk', 0 ≤ d → d < many → PenGood n' → Fr h₀ L h' m → News h₀ L h' (g (listOf (List.toArray [.int n' t1', .int (c+1) t2']) k)) → Q (.int d t) { s with heap := h', toks := tk' }) :
    wpAny (model PySem.Challenge.rw_og0133_01.row.prog w) (ktrTop dp un gd cn cs L a ccd cl outer) (call (.ref 149) [.ref p, .int many tm]) Q E s := by
  obtain ⟨news, hne, hs, hb, _⟩ := upd_front U
  exact draw B F X (cb_drop N hs) hne T hk hg hc hc2 hm hm2 hdp hu fun d t n' t1' t2' h' tk' d0 d1 hg' F' N' => ret d t n' t1' t2' h' tk' d0 d1 hg' F' (cb_drop N' (hb _))
theorem doneU {x d : Addr} {k1 k2 k3 : Tok} {b : Array UInt8} {t0 : Tok} {i : Int} {ti : Tok} {e : Int} {te : Tok}
    (B : Below A₀ base outer h₀) (F : Fr h₀ L s.heap m) (X : (hd.heap_39 w.params).In h₀)
    (N : News h₀ L s.heap all) (hx : (x, instObj 131 d) ∈ all) (hd' : (d, curD w.params k1 k2 k3 b t0 i ti e te) ∈ all)
    (T : Top hd.view_39 (looseW hd.view_39 []) mean mg mb h₀) (hk : cs.kind = .function)
    (hdp : dp + 2 < recursionLimit) (hu : un + 16 < cLine)
    (ret : ∀ h' tk', Fr h₀ L h' m → News h₀ L h' all → Q (.bool (decide (e ≤ i))) { s with heap := h', toks := tk' }) :
    wpAny (model PySem.Challenge.rw_og0133_01.row.prog w) (ktrTop dp un gd cn cs L a ccd cl outer) (call (.ref 50) [.ref x]) Q E s :=
  done (news := all) B F X (fun q hq => N q (by
    rcases List.mem_cons.mp hq with rfl | hq
    · exact hx
    rcases List.mem_cons.mp hq with rfl | hq
    · exact hd'
    exact hq)) T hk hdp hu fun h' tk' F' N' => ret h' tk' F' (fun q hq => N' q (.tail _ (.tail _ hq)))
theorem skiplU {x d : Addr} {k1 k2 k3 : Tok} {b : Array UInt8} {ks : List Int} {t0 : Tok} {i : Int} {ti : Tok} {e : Int} {te : Tok}
    (B : Below A₀ base outer h₀) (F : Fr h₀ L s.heap m) (X : (hd.heap_39 w.params).In h₀)
    (N : News h₀ L s.heap all) (hx : (x, instObj 131 d) ∈ all) (U : UpdF d (curD w.params k1 k2 k3 b t0 i ti e te) all g) (hdx : @LT.lt Nat _ d x)
    (T : Top hd.view_39 (looseW hd.view_39 []) mean mg mb h₀) (hk : cs.kind = .function) (hb : KBw.bInts b = ks)
    (h0 : 0 ≤ i) (h1 : i ≤ e) (h2 : e ≤ ks.length) (h3 : ks.length ≤ 64)
    (hdp : dp + 2 < recursionLimit) (hu : un + 16 < cLine)
    (ret : ∀ bl j tj h' tk', Fr h₀ L h' m → News h₀ L h' (g (curD w.params k1 k2 k3 b t0 j tj e te)) → bl = decide (0 < eol (win ks i e)) → j = i + (eol (win ks i e) : Int) → Q (.bool bl) { s with heap := h', toks := tk' }) :
    wpAny (model PySem.Challenge.rw_og0133_01.row.prog w) (ktrTop dp un gd cn cs L a ccd cl outer) (call (.ref 100) [.ref x]) Q E s := by
  obtain ⟨news, hne, hs, hbk, hr⟩ := upd_front U
  have hxn : (x, instObj 131 d) ∈ news := hr _ hx (Nat.ne_of_gt hdx)
  refine skipl (ti := ti) (news := news) B F X (fun q hq => N q ?_) hdx hne T hk hb h0 h1 h2 h3 hdp hu fun bl j tj h' tk' F' N' e1 e2 => ret bl j tj h' tk' F' (cb_drop N' fun q hq => .tail _ (hbk _ q hq)) e1 e2
  rcases List.mem_cons.mp hq with rfl | hq
  · exact hx
  · exact hs q hq
theorem takelU {x d : Addr} {k1 k2 k3 : Tok} {b : Array UInt8} {ks : List Int} {t0 : Tok} {i : Int} {ti : Tok} {e : Int} {te : Tok}
    (B : Below A₀ base outer h₀) (F : Fr h₀ L s.heap m) (X : (hd.heap_39 w.params).In h₀)
    (N : News h₀ L s.heap all) (hx : (x, instObj 131 d) ∈ all) (U : UpdF d (curD w.params k1 k2 k3 b t0 i ti e te) all g) (hdx : @LT.lt Nat _ d x)
    (T : Top hd.view_39 (looseW hd.view_39 []) mean mg mb h₀) (hk : cs.kind = .function) (hb : KBw.bInts b = ks)
    (h0 : 0 ≤ i) (h1 : i ≤ e) (h2 : e ≤ ks.length) (h3 : ks.length ≤ 64)
    (hdp : dp + 3 < recursionLimit) (hu : un + 24 < cLine)
    (ret : ∀ lb tl j tj h' tk', Fr h₀ L h' m → News h₀ L h' (g (curD w.params k1 k2 k3 b t0 j tj e te)) → KBw.bInts lb = (win ks i e).takeWhile notEnd → j = i + (((win ks i e).takeWhile notEnd).length : Int) + (eol ((win ks i e).dropWhile notEnd) : Int) → Q (.bytes lb tl) { s with heap := h', toks := tk' }) :
    wpAny (model PySem.Challenge.rw_og0133_01.row.prog w) (ktrTop dp un gd cn cs L a ccd cl outer) (call (.ref 107) [.ref x]) Q E s := by
  obtain ⟨news, hne, hs, hbk, hr⟩ := upd_front U
  have hxn : (x, instObj 131 d) ∈ news := hr _ hx (Nat.ne_of_gt hdx)
  refine takel (ti := ti) (news := news) B F X (fun q hq => N q ?_) hdx hne T hk hb h0 h1 h2 h3 hdp hu fun lb tl j tj h' tk' F' N' e1 e2 => ret lb tl j tj h' tk' F' (cb_drop N' fun q hq => .tail _ (hbk _ q hq)) e1 e2
  rcases List.mem_cons.mp hq with rfl | hq
  · exact hx
  · exact hs q hq
end
end Mine
end
namespace Mine
theorem walkReset12 : True := by w_top off; trivial
end Mine
section
open PySem PySem.W PyProof.Rows PySem.Spec
namespace Mine
/-- a cursor was made -/
@[irreducible] def HeadMade (w : World) (h₀ : Heap) (L : Addr) (m : Str → Option Value) (s₁ : Shared) (b : Array UInt8) (first : Int) (n : Int) (v : Value) (s' : Shared) : Prop :=
  ∃ x d k1 k2 k3 t0 t1 en te h' tk', v = .ref x ∧ s' = { s₁ with heap := h', toks := tk' } ∧ @LT.lt Nat _ d x ∧ Fr h₀ L h' m ∧ News h₀ L h' [(x, instObj 131 d), (d, curD w.params k1 k2 k3 b t0 first t1 en te)] ∧ first ≤ en ∧ en ≤ n
theorem headMade_intro {w : World} {h₀ : Heap} {L : Addr} {m : Str → Option Value} {s₁ : Shared} {b : Array UInt8} {first n : Int} {x d : Addr} {k1 k2 k3 t0 t1 te : Tok} {en : Int} {h' : Heap} {tk' : Nat} {r : List (Addr × Obj)}
    (F : Fr h₀ L h' m) (N : News h₀ L h' ((x, instObj 131 d) :: (d, curD w.params k1 k2 k3 b t0 first t1 en te) :: r)) (hdx : @LT.lt Nat _ d x) (h1 : first ≤ en) (h2 : en ≤ n) : HeadMade w h₀ L m s₁ b first n (.ref x) { s₁ with heap := h', toks := tk' } := by
  unfold HeadMade
  exact ⟨x, d, k1, k2, k3, t0, t1, en, te, h', tk', rfl, rfl, hdx, F, fun p hp => N p (by
    rcases List.mem_cons.mp hp with rfl | hp
    · exact .head _
    rcases List.mem_cons.mp hp with rfl | hp
    · exact .tail _ (.head _)
    · cases hp), h1, h2⟩
theorem head_cut {w : World} {M : Model} {A : Around} {t : Sem Value} {E Q : Value → Shared → Prop} {h₀ : Heap} {L : Addr} {m : Str → Option Value} {s : Shared} {b : Array UInt8} {ks : List Int} {first n : Int} {tf : Tok}
    (qX : (hd.heap_39 w.params).In h₀) (qF : Fr h₀ L s.heap m) (qb : KBw.bInts b = ks) (qf : m (Str.ofString "first") = some (.int first tf)) (q0 : 0 ≤ first) (qn : (ks.length : Int) = n)
    (hrun : wpAny M A t (HeadMade w h₀ L m s b first n) E s)
    (hret : ∀ x d k1 k2 k3 t0 t1 en te h' tk', @LT.lt Nat _ d x → Fr h₀ L h' m → News h₀ L h' [(x, instObj 131 d), (d, curD w.params k1 k2 k3 b t0 first t1 en te)] → first ≤ en → en ≤ n → Q (.ref x) { s with heap := h', toks := tk' }) : wpAny M A t Q E s := by
  refine wpAny_mono hrun (fun v s' hq => ?_) fun _ _ e => e
  unfold HeadMade at hq
  obtain ⟨x, d, k1, k2, k3, t0, t1, en, te, h', tk', rfl, rfl, hdx, F, N, h1, h2⟩ := hq
  exact hret x d k1 k2 k3 t0 t1 en te h' tk' hdx F N h1 h2
end Mine
end
namespace Mine
theorem walkReset13 : True := by w_top off; trivial
end Mine
section
open PySem PySem.W PyProof.Rows
namespace Mine
theorem bInts_inj {a b : Array UInt8} (h : KBw.bInts a = KBw.bInts b) : a = b := by
  unfold KBw.bInts at h
  have key : ∀ (x y : List UInt8), x.map (fun c => (c.toNat : Int)) = y.map (fun c => (c.toNat : Int)) → x = y := by
    intro x
    induction x with
    | nil => intro y e; cases y with
      | nil => rfl
      | cons c r => simp at e
    | cons c r ih =>
      intro y e
      cases y with
      | nil => simp at e
      | cons d q =>
        simp only [List.map_cons, List.cons.injEq] at e
        have h1 : c.toNat = d.toNat := by omega
        rw [UInt8.toNat_inj.mp h1, ih q e.2]
  have := key a.toList b.toList h
  exact Array.toList_inj.mp this
theorem notEnd_false {k : Int} (h : k = 10 ∨ k = 13) : notEnd k = false := by rcases h with h | h <;> rw [h] <;> rfl
theorem notEnd_true {k : Int} (h : ¬ (k = 10 ∨ k = 13)) : notEnd k = true := by
  simp only [not_or] at h
  simp [notEnd, h.1, h.2]
theorem lines_unf : ∀ (X acc : List Int), acc ++ X ≠ [] →
    linesAux acc X = (acc ++ X.takeWhile notEnd, (eol (X.dropWhile notEnd) : Int)) :: linesAux [] (X.drop ((X.takeWhile notEnd).length + eol (X.dropWhile notEnd))) := by
  intro X
  induction X with
  | nil =>
    intro acc h
    rw [List.append_nil] at h
    rw [linesAux_nil, if_neg h]
    simp [eol, linesAux_nil]
  | cons k r ih =>
    intro acc _
    by_cases hk : k = 10 ∨ k = 13
    · rw [List.takeWhile_cons, List.dropWhile_cons, notEnd_false hk]
      simp only [Bool.false_eq_true, if_false, List.append_nil, List.length_nil, Nat.zero_add]
      by_cases h2 : k = 13 ∧ r.head? = some 10
      · obtain ⟨rfl, h2⟩ := h2
        cases r with
        | nil => simp at h2
        | cons k2 q =>
          simp only [List.head?_cons, Option.some.injEq] at h2
          subst h2
          rw [linesAux_two]
          simp [eol]
      · rw [linesAux_one hk h2]
        have he : eol (k :: r) = 1 := by
          rcases hk with rfl | rfl
          · simp [eol]
          · cases r with
            | nil => simp [eol]
            | cons k2 q =>
              have : k2 ≠ 10 := fun e => h2 ⟨rfl, by rw [e]; rfl⟩
              simp [eol, this]
        rw [he]
        simp
    · rw [linesAux_go hk, List.takeWhile_cons, List.dropWhile_cons, notEnd_true hk]
      simp only [if_true]
      rw [ih (acc ++ [k]) (by simp)]
      simp [Nat.add_right_comm]
theorem lines_len (X : List Int) : (X.takeWhile notEnd).length + eol (X.dropWhile notEnd) ≤ X.length := by
  have h := eol_le (X.dropWhile notEnd)
  have h2 : (X.takeWhile notEnd).length + (X.dropWhile notEnd).length = X.length := by
    rw [← List.length_append, List.takeWhile_append_dropWhile]
  omega
theorem lines_cons {X l : List Int} {z : Int} {rest : List (List Int × Int)} (h : linesAux [] X = (l, z) :: rest) :
    X ≠ [] ∧ l = X.takeWhile notEnd ∧ z = (eol (X.dropWhile notEnd) : Int) ∧ rest = linesAux [] (X.drop (l.length + eol (X.dropWhile notEnd))) := by
  have hX : X ≠ [] := by
    intro e
    rw [e, linesAux_nil, if_pos rfl] at h
    exact absurd h (by simp)
  have e := lines_unf X [] (by simpa using hX)
  rw [h] at e
  simp only [List.nil_append, List.cons.injEq, Prod.mk.injEq] at e
  obtain ⟨⟨e1, e2⟩, e3⟩ := e
  exact ⟨hX, e1, e2, by rw [e3, e1]⟩
theorem lines_none {X : List Int} (h : linesAux [] X = []) : X = [] := by
  by_cases hX : X = []
  · exact hX
  · rw [lines_unf X [] (by simpa using hX)] at h
    exact absurd h (by simp)
theorem eol_pos {X : List Int} (h : X ≠ []) (h2 : X.takeWhile notEnd = []) : 0 < eol X ∧ X.dropWhile notEnd = X := by
  cases X with
  | nil => exact absurd rfl h
  | cons k r =>
    rw [List.takeWhile_cons] at h2
    by_cases hk : k = 10 ∨ k = 13
    · rw [List.dropWhile_cons, notEnd_false hk]
      refine ⟨?_, by simp⟩
      rcases hk with rfl | rfl
      · simp [eol]
      · cases r with
        | nil => simp [eol]
        | cons k2 q => simp only [eol]; split <;> (try split) <;> simp_all
    · rw [notEnd_true hk] at h2
      simp at h2
theorem eol_no {X : List Int} (h2 : X.takeWhile notEnd ≠ []) : eol X = 0 := by
  cases X with
  | nil => exact absurd rfl h2
  | cons k r =>
    rw [List.takeWhile_cons] at h2
    by_cases hk : k = 10 ∨ k = 13
    · rw [notEnd_false hk] at h2
      simp at h2
    · simp only [not_or] at hk
      simp [eol, hk.1, hk.2]
end Mine
end
namespace Mine
theorem walkReset14 : True := by w_top off; trivial
end Mine
section
open PySem PySem.W PyProof.Rows PySem.Spec
namespace Mine
def TEnd {σ : Type} (h₀ : Heap) (L : Addr) (s : Shared) (Led : σ → List (Addr × Obj)) (ps : σ → List (Str × Value)) (stored : List Str) (m₀ : Str → Option Value) (P : σ → Prop) (I : Addr) (oI : Obj) (s₂ : Shared) : Prop :=
  ∃ (c' : σ) (h' : Heap) (tk : Nat) (m' : Str → Option Value) (news' : List (Addr × Obj)), s₂ = { s with heap := h', toks := tk } ∧ Fr h₀ L h' m' ∧ News h₀ L h' news' ∧ (∀ p ∈ (I, oI) :: Led c', p ∈ news') ∧ (∀ p ∈ Led c', p.1 ≠ I) ∧ (∀ p ∈ ps c', m' p.1 = some p.2) ∧ (∀ z, (∀ p ∈ ps c', z ≠ p.1) → stored.contains z = false → m' z = m₀ z) ∧ P c'
def TPost {σ : Type} (h₀ : Heap) (L : Addr) (s : Shared) (Led : σ → List (Addr × Obj)) (ps : σ → List (Str × Value)) (stored : List Str) (m₀ : Str → Option Value) (P : σ → Prop) (I : Addr) (oI : Obj) (Q : Flow → Shared → Prop) (f : Flow) (s₂ : Shared) : Prop :=
  match f with
  | .ret v => Q (.ret v) s₂
  | .brk => Q .next s₂
  | _ => TEnd h₀ L s Led ps stored m₀ P I oI s₂
theorem tend {σ : Type} {h₀ : Heap} {L : Addr} {s : Shared} {Led : σ → List (Addr × Obj)} {ps : σ → List (Str × Value)} {stored : List Str} {m₀ m' : Str → Option Value} {P : σ → Prop} {I : Addr} {oI : Obj} {h' : Heap} {tk : Nat} {news' : List (Addr × Obj)} (c' : σ)
    (F : Fr h₀ L h' m') (N : News h₀ L h' news') (hn : ∀ p ∈ (I, oI) :: Led c', p ∈ news') (ha : ∀ p ∈ Led c', p.1 ≠ I) (hk : ∀ p ∈ ps c', m' p.1 = some p.2) (hr : ∀ z, (∀ p ∈ ps c', z ≠ p.1) → stored.contains z = false → m' z = m₀ z) (hp : P c') :
    TEnd h₀ L s Led ps stored m₀ P I oI { s with heap := h', toks := tk } := ⟨c', h', tk, m', news', rfl, F, N, hn, ha, hk, hr, hp⟩
section
variable {prog : Program} {w : World} {A : Around} {E : Value → Shared → Prop} {Q : Flow → Shared → Prop} {s : Shared} {env : Env} {h₀ : Heap} {target : PySem.Expr} {body : List Stmt}
theorem turns_core {σ : Type} {I : Addr} {fp : List Addr} {n : Nat} {P : Nat → Value → Prop} {St : Nat → Heap → Prop} {m₀ : Str → Option Value} (Led : σ → List (Addr × Obj)) (ps : σ → List (Str × Value)) (stored : List Str) (Inv : Nat → σ → Prop) (c₀ : σ)
    (W : Walks prog w A I fp [I] n P St) (hgo : ∀ i v (s : Shared) (Q : Unit → Shared → Prop) (E : Value → Shared → Prop), St i s.heap → Q () s → wpAny (model prog w) A (letOwnedTupleGo target (.ref I) v) Q E s)
    (hfp : ∀ b ∈ fp, b = I ∨ ∃ o, ∀ c, (b, o) ∈ Led c) (hIo : ∀ i h, St i h → ∃ o, h.get? I = some o) (hLf : env.locals ∉ fp) (hI₀ : h₀.get? I = none) (hst : St 0 s.heap)
    (F : Fr h₀ env.locals s.heap m₀) (N : News h₀ env.locals s.heap (Led c₀)) (hne : ∀ p ∈ Led c₀, p.1 ≠ I) (hk : ∀ p ∈ ps c₀, m₀ p.1 = some p.2) (hI : Inv 0 c₀)
    (turn : ∀ i v c (u : Str → Option Value) h tk oI, i < n → P i v → Inv i c → (∀ p ∈ Led c, p.1 ≠ I) → Fr h₀ env.locals h (kstB (fun z => if stored.contains z then u z else m₀ z) (ps c)) → News h₀ env.locals h ((I, oI) :: Led c) →
      wpAny (model prog w) A (assign target env v) (fun _ s₃ => wpAny (model prog w) A (execs body env) (TPost h₀ env.locals { s with heap := h, toks := tk } Led ps stored m₀ (Inv (i + 1)) I oI Q) E s₃) E { s with heap := h, toks := tk })
    (done : ∀ c (u : Str → Option Value) h tk, Inv n c → Fr h₀ env.locals h (kstB (fun z => if stored.contains z then u z else m₀ z) (ps c)) → News h₀ env.locals h (Led c) → Q .next { s with heap := h, toks := tk }) :
    TurnsAt prog w A h₀ env target body Q E (.ref I) s := by
  refine ⟨I, fp, [I], n, _, _, St, m₀, Led c₀, (fun i m nx => ∃ c, nx = Led c ∧ (∀ p ∈ ps c, m p.1 = some p.2) ∧ (∀ z, (∀ p ∈ ps c, z ≠ p.1) → stored.contains z = false → m z = m₀ z) ∧ Inv i c), rfl, KTurns.ofWalks W hgo, hLf, ?_, ?_, hst, F, N, ⟨c₀, rfl, hk, fun _ _ _ => rfl, hI⟩, ?_, ?_⟩
  · intro b hb
    rw [List.mem_singleton.mp hb]
    exact hI₀
  · intro p hp hm
    exact hne p hp (List.mem_singleton.mp hm)
  · rintro i v m₁ news₁ h₁ tk₁ own hi hP ⟨c, rfl, h1, h2, hInv⟩ hoff hown hget hall hst₁ F₁ N₁
    obtain ⟨oI, hoI⟩ := hIo _ _ hst₁
    have hIown : (I, oI) ∈ own := hall I (W.sub I (List.mem_singleton.mpr rfl)) hI₀ oI hoI
    have hneI : ∀ p ∈ Led c, p.1 ≠ I := fun p hp e => hoff p hp (List.mem_singleton.mpr e)
    have N₂ : News h₀ env.locals h₁ ((I, oI) :: Led c) := fun p hp => N₁ p (by
      rcases List.mem_cons.mp hp with rfl | hp
      · exact List.mem_append_left _ hIown
      · exact List.mem_append_right _ hp)
    refine wpAny_mono (turn i v c m₁ h₁ tk₁ oI hi hP hInv hneI (ksw_fr h1 h2 F₁) N₂) (fun _ s₃ hq => wpAny_mono hq (fun f s₄ p => ?_) fun _ _ e => e) fun _ _ e => e
    have fin : TEnd h₀ env.locals { s with heap := h₁, toks := tk₁ } Led ps stored m₀ (Inv (i + 1)) I oI s₄ → LoopStepU h₀ env.locals [I] own (fun m nx => ∃ c, nx = Led c ∧ (∀ p ∈ ps c, m p.1 = some p.2) ∧ (∀ z, (∀ p ∈ ps c, z ≠ p.1) → stored.contains z = false → m z = m₀ z) ∧ Inv (i + 1) c) { s with heap := h₁, toks := tk₁ } .next s₄ := by
      rintro ⟨c', h', tk, m', news', e, F', N', hn, ha, hk', hr', hInv'⟩
      refine ⟨rfl, h', tk, m', Led c', e, F', fun p hp => ?_, fun p hp hm => ha p hp (List.mem_singleton.mp hm), c', rfl, hk', hr', hInv'⟩
      rcases List.mem_append.mp hp with hp | hp
      · rcases hfp p.1 (hown p hp) with e1 | ⟨o, ho⟩
        · have h3 : p.2 = oI := by
            have := hget p hp
            rw [e1, hoI] at this
            exact (Option.some.inj this).symm
          have : p = (I, oI) := Prod.ext e1 h3
          rw [this]
          exact N' _ (hn _ (.head _))
        · have h3 : p.2 = o := by
            have h4 := hget p hp
            have h5 := (N₂ _ (.tail _ (ho c))).1
            rw [h5] at h4
            exact (Option.some.inj h4).symm
          have h6 : p = (p.1, o) := Prod.ext rfl h3
          rw [h6]
          exact N' _ (hn _ (.tail _ (ho c')))
      · exact N' p (hn p (.tail _ hp))
    cases f with
    | ret v => exact p
    | brk => exact p
    | cont => exact fin p
    | next => exact fin p
  · rintro h' tk m' news' F' N' _ ⟨c, rfl, h1, h2, hInv⟩
    exact done c m' h' tk hInv (ksw_fr h1 h2 F') N'
theorem turns_list {σ : Type} {l : Addr} {vs : List Value} {nn : Nat} {m₀ : Str → Option Value} (Led : σ → List (Addr × Obj)) (ps : σ → List (Str × Value)) (stored : List Str) (Inv : Nat → σ → Prop) (c₀ : σ)
    (hh : A.handled = none) (hl : ∀ c : σ, (l, listOf vs.toArray nn) ∈ Led c)
    (F : Fr h₀ env.locals s.heap m₀) (N : News h₀ env.locals s.heap (Led c₀)) (hk : ∀ p ∈ ps c₀, m₀ p.1 = some p.2) (hI : Inv 0 c₀)
    (turn : ∀ i v c (u : Str → Option Value) h tk I oI, i < vs.length → vs[i]? = some v → Inv i c → (∀ p ∈ Led c, p.1 ≠ I) → Fr h₀ env.locals h (kstB (fun z => if stored.contains z then u z else m₀ z) (ps c)) → News h₀ env.locals h ((I, oI) :: Led c) →
      wpAny (model prog w) A (assign target env v) (fun _ s₃ => wpAny (model prog w) A (execs body env) (TPost h₀ env.locals { s with heap := h, toks := tk } Led ps stored m₀ (Inv (i + 1)) I oI Q) E s₃) E { s with heap := h, toks := tk })
    (done : ∀ c (u : Str → Option Value) h tk, Inv vs.length c → Fr h₀ env.locals h (kstB (fun z => if stored.contains z then u z else m₀ z) (ps c)) → News h₀ env.locals h (Led c) → Q .next { s with heap := h, toks := tk }) :
    wpAny (model prog w) A (pyIter (.ref l)) (fun it s₂ => TurnsAt prog w A h₀ env target body Q E it s₂) E s := by
  have hol : s.heap.get? l = some (listOf vs.toArray nn) := (N _ (hl c₀)).1
  have hls : s.heap.IsList l vs.toArray := ⟨_, hol, rfl, nn, rfl⟩
  have hne : l ≠ s.heap.objs.size := Nat.ne_of_lt (Heap.lt_size hol)
  refine wpAny_pyIter_list hls ?_
  have W := Walks.list (prog := prog) (w := w) hh s.heap.objs.size l hne vs.toArray
  refine turns_core (s := { s with heap := _ }) Led ps stored Inv c₀ W (fun i v s Q E st q => letGo_listiter st.1 q) ?_ ?_ ?_ (next_is_new F) ⟨⟨_, Heap.get?_push_size _ rfl, rfl, rfl⟩, hls.at fun o e => Heap.get?_push_of_some _ e⟩ (F.push _) (fun p hp => ⟨Heap.get?_push_of_some _ (N p hp).1, (N p hp).2⟩) ?_ hk hI ?_ ?_
  · intro b hb
    rcases List.mem_cons.mp hb with e | hb
    · exact .inl e
    · rw [List.mem_singleton.mp hb]; exact .inr ⟨_, hl⟩
  · rintro i h ⟨⟨o, e, _⟩, _⟩
    exact ⟨o, e⟩
  · intro hm
    rcases List.mem_cons.mp hm with e | hm
    · exact absurd F.ns.lt (e ▸ Nat.lt_irrefl _)
    · exact (N _ (hl c₀)).2.1 ((List.mem_singleton.mp hm).symm)
  · intro p hp e
    exact absurd (Heap.lt_size (N p hp).1) (by rw [e]; exact Nat.lt_irrefl _)
  · intro i v c u h tk oI hi hP hInv hn F1 N1
    exact turn i v c u h tk _ oI (by simpa using hi) (by simpa using hP) hInv hn F1 N1
  · intro c u h tk hInv F1 N1
    exact done c u h tk (by simpa using hInv) F1 N1
end
end Mine
end
namespace Mine
theorem walkReset15 : True := by w_top off; trivial
end Mine
section
open PySem PySem.W PyProof.Rows PySem.Spec
namespace Mine
structure LS1 where
  j : Int
  tj : Tok
  ju : Array UInt8
  tju : Tok
  u : Nat
abbrev led1 (P : Params) (r : Addr) (vs : List Value) (k : Nat) (x d : Addr) (k1 k2 k3 : Tok) (b : Array UInt8) (t0 : Tok) (en : Int) (te : Tok) (tl : List (Addr × Obj)) (c : LS1) : List (Addr × Obj) :=
  (r, listOf vs.toArray k) :: (x, instObj 131 d) :: (d, curD P k1 k2 k3 b t0 c.j c.tj en te) :: tl
abbrev ps1 (c : LS1) : List (Str × Value) := [(Str.ofString "joined_up", .bytes c.ju c.tju)]
abbrev st1 : List Str := [Str.ofString "line", Str.ofString "size"]
structure Inv1 (ks : List Int) (first en : Int) (i : Nat) (c : LS1) : Prop where
  at' : c.j = first + (c.u : Int)
  le : c.u ≤ (win ks first en).length
  ju : KBw.bInts c.ju = (win ks first en).take c.u
  rest : linesAux [] ((win ks first en).drop c.u) = (linesAux [] (win ks first en)).drop i
theorem win_drop {ks : List Int} {i e : Int} {u : Nat} (h0 : 0 ≤ i) : (win ks i e).drop u = win ks (i + u) e := by
  unfold win
  rw [List.drop_drop]
  congr 1
  omega
/-- the turn's facts -/
structure Turn1 (ks : List Int) (first en : Int) (j : Int) (ju : Array UInt8) (u : Nat) (lb : Array UInt8) (z : Int) : Prop where
  fAt : j = first + (u : Int)
  fJu : KBw.bInts ju = (win ks first en).take u
  fLine : KBw.bInts lb = (win ks j en).takeWhile notEnd
  fZ : z = (eol ((win ks j en).dropWhile notEnd) : Int)
  fLt : j < en
  fLe : (u : Int) + (lb.size : Int) + z ≤ ((win ks first en).length : Int)
  fZ0 : 0 ≤ z
theorem bInts_size {b : Array UInt8} {l : List Int} (h : KBw.bInts b = l) : b.size = l.length := by rw [← KBw.ints_length, h]
theorem turn1_of {ks : List Int} {first en : Int} {i : Nat} {c : LS1} {lb : Array UInt8} {l : List Int} {z : Int} (h0 : 0 ≤ first) (h1 : first ≤ en) (h2 : en ≤ ks.length) (h : Inv1 ks first en i c) (hi : (linesAux [] (win ks first en))[i]? = some (l, z)) (hb : KBw.bInts lb = l) :
    Turn1 ks first en c.j c.ju c.u lb z := by
  obtain ⟨e1, e2, e3, e4⟩ := h
  have hd : (linesAux [] (win ks first en)).drop i = (l, z) :: (linesAux [] (win ks first en)).drop (i + 1) := by
    have hlt : i < (linesAux [] (win ks first en)).length := by
      by_cases q : i < (linesAux [] (win ks first en)).length
      · exact q
      · rw [List.getElem?_eq_none (by omega)] at hi; cases hi
    rw [List.drop_eq_getElem_cons hlt]
    rw [List.getElem?_eq_getElem hlt] at hi
    rw [Option.some.inj hi]
  rw [hd] at e4
  obtain ⟨hX, f1, f2, f3⟩ := lines_cons e4
  have hw : (win ks first en).drop c.u = win ks c.j en := by rw [win_drop h0, e1]
  rw [hw] at hX f1 f2 f3
  have hwl := win_length (ks := ks) h0 h1 h2
  have hlt : c.j < en := by
    by_cases q : c.j < en
    · exact q
    · exact absurd (win_nil (by omega)) hX
  refine ⟨e1, e3, by rw [hb, f1], f2, hlt, ?_, by rw [f2]; omega⟩
  have hll := lines_len (win ks c.j en)
  have hwl2 := win_length (ks := ks) (i := c.j) (e := en) (by omega) (by omega) h2
  rw [bInts_size hb, f1, f2]
  omega
theorem inv1_next {ks : List Int} {first en : Int} {i : Nat} {c c' : LS1} {lb : Array UInt8} {l : List Int} {z : Int} (h0 : 0 ≤ first) (h : Inv1 ks first en i c) (hi : (linesAux [] (win ks first en))[i]? = some (l, z)) (hb : KBw.bInts lb = l) (t : Turn1 ks first en c.j c.ju c.u lb z)
    (hu : c'.u = c.u + lb.size + z.toNat) (hj : c'.j = first + (c'.u : Int)) (hju : KBw.bInts c'.ju = (win ks first en).take c'.u) : Inv1 ks first en (i + 1) c' := by
  obtain ⟨e1, e2, e3, e4⟩ := h
  have hd : (linesAux [] (win ks first en)).drop i = (l, z) :: (linesAux [] (win ks first en)).drop (i + 1) := by
    have hlt : i < (linesAux [] (win ks first en)).length := by
      by_cases q : i < (linesAux [] (win ks first en)).length
      · exact q
      · rw [List.getElem?_eq_none (by omega)] at hi; cases hi
    rw [List.drop_eq_getElem_cons hlt]
    rw [List.getElem?_eq_getElem hlt] at hi
    rw [Option.some.inj hi]
  rw [hd] at e4
  obtain ⟨hX, f1, f2, f3⟩ := lines_cons e4
  have hle := t.fLe
  have hz := t.fZ0
  refine ⟨hj, by rw [hu]; omega, hju, ?_⟩
  rw [f3, List.drop_drop, hu]
  have : z.toNat = eol (((win ks first en).drop c.u).dropWhile notEnd) := by rw [f2]; omega
  rw [this, bInts_size hb]
  congr 2
  omega
theorem clip_of {n : Nat} {i : Int} (h0 : 0 ≤ i) (h1 : i ≤ n) : clipAt n i = i.toNat := by
  have c1 := clipAt_cast n i
  rw [if_neg (by omega)] at c1
  omega
theorem take_takeWhile {p : Int → Bool} : ∀ (l : List Int), l.take (l.takeWhile p).length = l.takeWhile p
  | [] => rfl
  | k :: r => by
    rw [List.takeWhile_cons]
    split
    · rw [List.length_cons, List.take_succ_cons, take_takeWhile r]
    · rfl
theorem joined_next {ks : List Int} {first en j : Int} {ju lb pk : Array UInt8} {u : Nat} {z a b : Int} (h0 : 0 ≤ first) (T : Turn1 ks first en j ju u lb z) (ha : a = (u : Int) + (lb.size : Int)) (hb : b = (u : Int) + (lb.size : Int) + z)
    (hk : KBw.bInts pk = List.take (clipAt (win ks first en).length b - clipAt (win ks first en).length a) (List.drop (clipAt (win ks first en).length a) (win ks first en))) :
    KBw.bInts (ju ++ lb ++ pk) = (win ks first en).take (u + lb.size + z.toNat) := by
  have hz := T.fZ0
  have hle := T.fLe
  rw [clip_of (by omega) (by omega), clip_of (by omega) (by omega)] at hk
  have e1 : b.toNat - a.toNat = z.toNat := by omega
  have e2 : a.toNat = u + lb.size := by omega
  rw [e1, e2] at hk
  have hw : (win ks first en).drop u = win ks j en := by rw [win_drop h0, T.fAt]
  have hl : KBw.bInts lb = ((win ks first en).drop u).take lb.size := by
    rw [hw, bInts_size T.fLine, take_takeWhile]; exact T.fLine
  rw [KBw.ints_app (KBw.ints_app T.fJu hl) hk, List.take_add, List.take_add]
theorem tups_nth {tl : List (Addr × Obj)} {vs : List Value} {ts : List (List Int × Int)} (h : TupsAre tl vs ts) {i : Nat} {v : Value} (hv : vs[i]? = some v) : ∃ l z a b t tz, ts[i]? = some (l, z) ∧ v = .ref a ∧ (a, tupO b t z tz) ∈ tl ∧ KBw.bInts b = l := by
  have hlt : i < ts.length := by
    rw [← h.length]
    by_cases q : i < vs.length
    · exact q
    · rw [List.getElem?_eq_none (by omega)] at hv; cases hv
  obtain ⟨a, b, t, tz, e1, e2, e3⟩ := h.get i ts[i].1 ts[i].2 (by rw [List.getElem?_eq_getElem hlt])
  rw [hv] at e1
  exact ⟨ts[i].1, ts[i].2, a, b, t, tz, by rw [List.getElem?_eq_getElem hlt], Option.some.inj e1, e2, e3⟩
theorem tups_cases {tl : List (Addr × Obj)} {vs : List Value} {ts : List (List Int × Int)} (h : TupsAre tl vs ts) : (vs = [] ∧ ts = []) ∨ ∃ a b t tz l z vs' ts', vs = .ref a :: vs' ∧ ts = (l, z) :: ts' ∧ (a, tupO b t z tz) ∈ tl ∧ KBw.bInts b = l := by
  cases hv : vs with
  | nil =>
    have := h.length
    rw [hv] at this
    exact .inl ⟨rfl, List.eq_nil_of_length_eq_zero this.symm⟩
  | cons v vs' =>
    obtain ⟨l, z, a, b, t, tz, e1, e2, e3, e4⟩ := tups_nth h (i := 0) (v := v) (by rw [hv]; rfl)
    subst e2
    cases ht : ts with
    | nil => rw [ht] at e1; cases e1
    | cons q ts' =>
      rw [ht] at e1
      simp only [List.getElem?_cons_zero, Option.some.injEq] at e1
      subst e1
      exact .inr ⟨a, b, t, tz, l, z, vs', ts', rfl, rfl, e3, e4⟩
theorem eol_none {X : List Int} (h : linesAux [] X = []) : eol X = 0 := by rw [lines_none h]; rfl
/-- the first line is empty just where an end stands at the head -/
theorem eol_first {X l : List Int} {z : Int} {rest : List (List Int × Int)} {b : Array UInt8} (h : linesAux [] X = (l, z) :: rest) (hb : KBw.bInts b = l) :
    (b.toList == []) = decide (0 < eol X) ∧ ((b.toList == []) = true → (eol X : Int) = z) ∧ ((b.toList == []) = false → (eol X : Int) = 0) := by
  obtain ⟨hX, e1, e2, _⟩ := lines_cons h
  have hbl : (b.toList == []) = decide (l = []) := by
    rw [← hb]
    unfold KBw.bInts
    cases b.toList <;> simp
  by_cases hl : l = []
  · rw [hl] at e1
    obtain ⟨f1, f2⟩ := eol_pos hX e1.symm
    refine ⟨by rw [hbl]; simp [hl, f1], fun _ => by rw [e2, f2], fun q => ?_⟩
    rw [hbl] at q
    simp [hl] at q
  · have f1 := eol_no (X := X) (by rw [← e1]; exact hl)
    refine ⟨by rw [hbl]; simp [hl, f1], fun q => ?_, fun _ => by rw [f1]; rfl⟩
    rw [hbl] at q
    simp [hl] at q
theorem boolT {P : Bool → Prop} {b : Bool} (hb : b = true) (h : P true) : P b := by rw [hb]; exact h
theorem fin_led {g h : Heap} {L : Addr} {e li ix dx tp : Obj} {l r x d a : Addr} {tl rest : List (Addr × Obj)} (N : News g L h ((l, e) :: (r, li) :: (tl ++ (x, ix) :: (d, dx) :: rest))) (hm : (a, tp) ∈ tl) : News g L h [(l, e), (a, tp), (r, li), (x, ix), (d, dx)] := by
  intro p hp
  refine N p ?_
  rcases List.mem_cons.mp hp with rfl | hp
  · exact .head _
  rcases List.mem_cons.mp hp with rfl | hp
  · exact .tail _ (.tail _ (List.mem_append_left _ hm))
  rcases List.mem_cons.mp hp with rfl | hp
  · exact .tail _ (.head _)
  rcases List.mem_cons.mp hp with rfl | hp
  · exact .tail _ (.tail _ (List.mem_append_right _ (.head _)))
  rcases List.mem_cons.mp hp with rfl | hp
  · exact .tail _ (.tail _ (List.mem_append_right _ (.tail _ (.head _))))
  · cases hp
theorem fin_led0 {g h : Heap} {L : Addr} {e li ix dx : Obj} {l r x d : Addr} {tl rest : List (Addr × Obj)} (N : News g L h ((l, e) :: (r, li) :: (tl ++ (x, ix) :: (d, dx) :: rest))) : News g L h [(l, e), (r, li), (x, ix), (d, dx)] := by
  intro p hp
  refine N p ?_
  rcases List.mem_cons.mp hp with rfl | hp
  · exact .head _
  rcases List.mem_cons.mp hp with rfl | hp
  · exact .tail _ (.head _)
  rcases List.mem_cons.mp hp with rfl | hp
  · exact .tail _ (.tail _ (List.mem_append_right _ (.head _)))
  rcases List.mem_cons.mp hp with rfl | hp
  · exact .tail _ (.tail _ (List.mem_append_right _ (.tail _ (.head _))))
  · cases hp
theorem fin_ap {li ix dx tp : Obj} {r x d a : Addr} {tl rest : List (Addr × Obj)} (ap : ∀ q ∈ (r, li) :: tl, ∀ p ∈ (x, ix) :: (d, dx) :: rest, p.1 ≠ q.1) (hm : (a, tp) ∈ tl) : (@Ne Nat a d) ∧ (@Ne Nat r d) :=
  ⟨fun e => ap _ (.tail _ hm) _ (.tail _ (.head _)) e.symm, fun e => ap _ (.head _) _ (.tail _ (.head _)) e.symm⟩
theorem fin_ap0 {li ix dx : Obj} {r x d : Addr} {tl rest : List (Addr × Obj)} (ap : ∀ q ∈ (r, li) :: tl, ∀ p ∈ (x, ix) :: (d, dx) :: rest, p.1 ≠ q.1) : (@Ne Nat r d) :=
  fun e => ap _ (.head _) _ (.tail _ (.head _)) e.symm
theorem fin_lt {ix dx : Obj} {l x d r : Addr} {tl rest : List (Addr × Obj)} (h : @LT.lt Nat _ r l ∧ AllLt l (tl ++ (x, ix) :: (d, dx) :: rest)) : (@LT.lt Nat _ r l) ∧ (@LT.lt Nat _ x l) ∧ (@LT.lt Nat _ d l) :=
  ⟨h.1, kst_ltOf h.2 _ (List.mem_append_right _ (.head _)), kst_ltOf h.2 _ (List.mem_append_right _ (.tail _ (.head _)))⟩
section
variable {prog : Program} {w : World} {A : Around} {E : Value → Shared → Prop} {s : Shared}
theorem ne_nilK {a b : Addr} {v : Value} {vs : List Value} {Q : Value → Shared → Prop} (hl : s.heap.IsList a (v :: vs).toArray) (hl' : s.heap.IsList b ([] : List Value).toArray) (hu : A.units < cLine)
    (h : Q (.bool true) s) : wpAny (model prog w) A (compareOp .NotEq (.ref a) (.ref b)) Q E s :=
  cmp_ofNotEq (PySem.SeqAt.RcNeAt.lists_lengths hl hl' (by simp) hu _ _ _ _ h)
theorem ne_nil0K {a b : Addr} {Q : Value → Shared → Prop} (hl : s.heap.IsList a ([] : List Value).toArray) (hl' : s.heap.IsList b ([] : List Value).toArray) (hu : A.units + 64 < cLine)
    (h : Q (.bool false) s) : wpAny (model prog w) A (compareOp .NotEq (.ref a) (.ref b)) Q E s :=
  ne_intsK hl .nil hl' .nil hu (by simpa using h)
end
section
variable {prog : Program} {w : World} {A : Around} {E : Value → Shared → Prop} {Q : Flow → Shared → Prop} {s : Shared} {env : Env} {h₀ : Heap} {target : PySem.Expr} {body : List Stmt}
theorem loop1 {ks : List Int} {first en : Int} {P : Params} {r : Addr} {vs : List Value} {k : Nat} {x d : Addr} {k1 k2 k3 : Tok} {b : Array UInt8} {t0 tj0 te tju0 : Tok} {tl : List (Addr × Obj)} {m₀ : Str → Option Value}
    (hh : A.handled = none) (F : Fr h₀ env.locals s.heap m₀) (N : News h₀ env.locals s.heap ((r, listOf vs.toArray k) :: (tl ++ [(x, instObj 131 d), (d, curD P k1 k2 k3 b t0 first tj0 en te)])))
    (hju : m₀ (Str.ofString "joined_up") = some (.bytes #[] tju0))
    (hap : ∀ q ∈ (r, listOf vs.toArray k) :: tl, ∀ p ∈ [(x, instObj 131 d), (d, curD P k1 k2 k3 b t0 first tj0 en te)], p.1 ≠ q.1)
    (tu : TupsAre tl vs (linesAux [] (win ks first en))) (h0 : 0 ≤ first) (h1 : first ≤ en) (h2 : en ≤ ks.length)
    (turn : ∀ i j tj ju tju u lb t z tz a (uu : Str → Option Value) h tk I oI, Turn1 ks first en j ju u lb z → (a, tupO lb t z tz) ∈ tl → (∀ p ∈ tl, p.1 ≠ I) → (@Ne Nat r I) → (@Ne Nat x I) → (@Ne Nat d I) → (∀ p ∈ tl, p.1 ≠ d) → (@Ne Nat r d) →
      (∀ c' : LS1, c'.u = u + lb.size + z.toNat → c'.j = first + (c'.u : Int) → KBw.bInts c'.ju = (win ks first en).take c'.u → Inv1 ks first en (i + 1) c') →
      Fr h₀ env.locals h (kstB (fun z => if st1.contains z then uu z else m₀ z) [(Str.ofString "joined_up", .bytes ju tju)]) → News h₀ env.locals h ((I, oI) :: (r, listOf vs.toArray k) :: (x, instObj 131 d) :: (d, curD P k1 k2 k3 b t0 j tj en te) :: tl) →
      wpAny (model prog w) A (assign target env (.ref a)) (fun _ s₃ => wpAny (model prog w) A (execs body env) (TPost h₀ env.locals { s with heap := h, toks := tk } (led1 P r vs k x d k1 k2 k3 b t0 en te tl) ps1 st1 m₀ (Inv1 ks first en (i + 1)) I oI Q) E s₃) E { s with heap := h, toks := tk })
    (done : ∀ tj ju tju (uu : Str → Option Value) h tk, KBw.bInts ju = win ks first en → (∀ p ∈ tl, p.1 ≠ d) → (@Ne Nat r d) →
      Fr h₀ env.locals h (kstB (fun z => if st1.contains z then uu z else m₀ z) [(Str.ofString "joined_up", .bytes ju tju)]) → News h₀ env.locals h ((r, listOf vs.toArray k) :: (x, instObj 131 d) :: (d, curD P k1 k2 k3 b t0 en tj en te) :: tl) → Q .next { s with heap := h, toks := tk }) :
    wpAny (model prog w) A (pyIter (.ref r)) (fun it s₂ => TurnsAt prog w A h₀ env target body Q E it s₂) E s := by
  have hrd : @Ne Nat r d := fun e => hap _ (.head _) _ (.tail _ (.head _)) e.symm
  have htd : ∀ p ∈ tl, p.1 ≠ d := fun p hp e => hap p (.tail _ hp) _ (.tail _ (.head _)) e.symm
  refine turns_list (led1 P r vs k x d k1 k2 k3 b t0 en te tl) ps1 st1 (Inv1 ks first en) ⟨first, tj0, #[], tju0, 0⟩ hh (fun c => .head _) F (fun p hp => N p ?_) ?_ ?_ ?_ ?_
  · rcases List.mem_cons.mp hp with rfl | hp
    · exact .head _
    rcases List.mem_cons.mp hp with rfl | hp
    · exact .tail _ (List.mem_append_right _ (.head _))
    rcases List.mem_cons.mp hp with rfl | hp
    · exact .tail _ (List.mem_append_right _ (.tail _ (.head _)))
    · exact .tail _ (List.mem_append_left _ hp)
  · intro p hp
    rw [List.mem_singleton.mp hp]
    exact hju
  · exact ⟨by simp, by simp, by simp [KBw.bInts], by simp⟩
  · rintro i v ⟨j, tj, ju, tju, u⟩ uu h tk I oI hi hv hInv hne F1 N1
    obtain ⟨l, z, a, lb, t, tz, e1, rfl, e3, e4⟩ := tups_nth tu hv
    have ht := turn1_of h0 h1 h2 hInv e1 e4
    dsimp only at ht
    exact turn i j tj ju tju u lb t z tz a uu h tk I oI ht e3 (fun p hp => hne p (.tail _ (.tail _ (.tail _ hp)))) (hne _ (.head _)) (hne _ (.tail _ (.head _))) (hne _ (.tail _ (.tail _ (.head _)))) htd hrd
      (fun c' f1 f2 f3 => inv1_next h0 hInv e1 e4 ht f1 f2 f3) F1 N1
  · rintro ⟨j, tj, ju, tju, u⟩ uu h tk ⟨f1, f2, f3, f4⟩ F1 N1
    dsimp only at f1 f2 f3 f4 F1 N1
    rw [tu.length, List.drop_length] at f4
    have hwl := win_length (ks := ks) h0 h1 h2
    have hu : u = (win ks first en).length := by
      have := lines_none f4
      have h9 := congrArg List.length this
      rw [List.length_drop, List.length_nil] at h9
      omega
    have hj : j = en := by omega
    subst hj
    exact done tj ju tju uu h tk (by rw [f3, hu, List.take_length]) htd hrd F1 N1
end
end Mine
end
namespace Mine
theorem walkReset16 : True := by w_top off; trivial
end Mine
section
open PySem PySem.W PyProof.Rows PySem.Spec
namespace Mine
local macro_rules | `(tactic| k_all) => `(tactic| assumption)
local macro_rules | `(tactic| k_room) => `(tactic| ktr_room)
local macro_rules | `(tactic| k_units) => `(tactic| first | exact Nat.le_of_ble_eq_true rfl | ktr_units)
local macro_rules | `(tactic| units_room) => `(tactic| ktr_units)
local macro_rules | `(tactic| k_enter) => `(tactic| (refine' code_def ?k1 ?k2 ?k3 ?k4 ?k5 ?kA ?kF ?kK ?k6 ?k7 ?k8 ?k9 ?kB ?_ ?c2 ?c3 ?c4 ?c5; (case kA => exact rfl); (case kF => exact rfl); (case kK => first | exact rfl | assumption); (case k1 => k_asm); (case k2 => k_asm); (case k3 => k_asm); (case k4 => k_asm); (case k5 => k_asm); (case k6 => k_is); (case k7 => k_is); (case k8 => k_room); (case k9 => first | exact BindsTo.of_eq rfl | exact binds_K (by k_in) rfl (by k_is) rfl rfl rfl | fail "k_enter: no rule for these arguments"); (case c5 => decide); (case kB => exact locs rfl); (case c2 => exact rfl); (case c3 => exact rfl); (case c4 => exact rfl); k_whole; intro g' L' h' FG' F' N' B' X' T'; (try dsimp only); (try k_lift B'); (try k_fold)))
local macro_rules | `(tactic| walk_at "execs nil") => `(tactic| refine wpAny_execs_nil ?_)
local macro_rules | `(tactic| walk_at "execs cons") => `(tactic| ((with_reducible refine wpAny_execs_cons ?_); (try (refine gen_toks ?_; intro tk9)); (try dsimp only)))
local macro_rules | `(tactic| k_steps) => `(tactic| repeat' (first | (k_unfold; (try dsimp only)) | ((fail_if_success (with_reducible show wpAny _ _ (exec (Stmt.While _ _ _ _) _) _ _ _)); (fail_if_success (with_reducible show LCg.CompSrc _ _ _ _ _ _ _ _ _ _ _ _ _ _)); (fail_if_success (with_reducible show KswEnd _ _ _ _ _ _ _ _ _ _ _ _)); first | walk1 | (dsimp only; walk1)) | fail "no step"))
local macro_rules | `(tactic| walk_at "eval ListComp") => `(tactic| (k_here; lcf_look; k_dflt (refine LCg.ListComp_U (F₀ := by k_asm) (by with_unfolding_all rfl) (by decide) (by rfl) (by decide) (by rfl) ?_)))
section
local macro_rules | `(tactic| walk_at "call ref") => `(tactic| (k_here; (k_dflt (show wpAny _ _ (call (Value.ref 142) [Value.ref _]) _ _ _)); k_dflt ((refine' pen ?B ?F ?X ?N ?T ?hk ?hl ?hi ?hlay ?hdp ?hu ?_); (case B => first | k_asm | fail "B"); (case F => first | k_asm | fail "F"); (case X => first | k_asm | fail "X"); (case N => first | k_asm | fail "N"); (case T => first | k_asm | fail "T"); (case hk => first | first | exact rfl | assumption | fail "hk"); (case hl => first | k_asm | fail "hl"); (case hi => first | k_asm | fail "hi"); (case hlay => first | lay_of | fail "hlay"); (case hdp => first | ktr_room | fail "hdp"); (case hu => first | ((try simp only [units_in1, units_deeper, Around.mark_units, units_caller]); (rw [cLine_is]); first | decide | omega) | ktr_units | fail "hu"); intro p9 n9 t91 t92 k9 h9 tk9 e91 e92 F9 N9; (have e93 := ltN (e92 _ (.head _))); clear e92; (try dsimp only); (try k_fold))))
local macro_rules | `(tactic| walk_at "call ref") => `(tactic| (k_here; (k_dflt (show wpAny _ _ (call (Value.ref 149) [Value.ref _, Value.int _ _]) _ _ _)); k_dflt ((refine' drawU ?B ?F ?X ?N ?U ?T ?hk ?hg ?hc ?hc2 ?hm ?hm2 ?hdp ?hu ?_); (case B => first | k_asm | fail "B"); (case F => first | k_asm | fail "F"); (case X => first | k_asm | fail "X"); (case N => first | k_asm | fail "N"); (case U => first | k_updF | fail "U"); (case T => first | k_asm | fail "T"); (case hk => first | first | exact rfl | assumption | fail "hk"); (case hg => first | assumption | fail "hg"); (case hc => first | omega | fail "hc"); (case hc2 => first | omega | fail "hc2"); (case hm => first | omega | fail "hm"); (case hm2 => first | omega | fail "hm2"); (case hdp => first | ktr_room | fail "hdp"); (case hu => first | ((try simp only [units_in1, units_deeper, Around.mark_units, units_caller]); (rw [cLine_is]); first | decide | omega) | ktr_units | fail "hu"); intro d9 td9 n9 t91 t92 h9 tk9 e90 e91 e92 F9 N9; (try dsimp only); (try k_fold))))
local macro_rules | `(tactic| walk_at "call ref") => `(tactic| (k_here; (k_dflt (show wpAny _ _ (call (Value.ref 131) [Value.bytes _ _, Value.int _ _, Value.int _ _]) _ _ _)); k_dflt ((refine' make3 ?B ?F ?X ?N ?T ?hk ?hb ?h0 ?h2 ?h3 ?hdp ?hu ?_); (case B => first | k_asm | fail "B"); (case F => first | k_asm | fail "F"); (case X => first | k_asm | fail "X"); (case N => first | k_asm | fail "N"); (case T => first | k_asm | fail "T"); (case hk => first | first | exact rfl | assumption | fail "hk"); (case hb => first | assumption | fail "hb"); (case h0 => first | omega | fail "h0"); (case h2 => first | omega | fail "h2"); (case h3 => first | omega | fail "h3"); (case hdp => first | ktr_room | fail "hdp"); (case hu => first | ((try simp only [units_in1, units_deeper, Around.mark_units, units_caller]); (rw [cLine_is]); first | decide | omega) | ktr_units | fail "hu"); intro x9 d9 k91 k92 k93 te9 h9 tk9 e91 e92 F9 N9; (have e93 := allLt_of e91); (try k_lt e93); (replace e92 := ltN e92); (try dsimp only [curD] at N9); (try dsimp only); (try k_fold))))
local macro_rules | `(tactic| walk_at "call ref") => `(tactic| (k_here; (k_dflt (show wpAny _ _ (call (Value.ref 131) [Value.bytes _ _, Value.int _ _]) _ _ _)); k_dflt ((refine' make2 ?B ?F ?X ?N ?T ?hk ?hb ?h3 ?hdp ?hu ?_); (case B => first | k_asm | fail "B"); (case F => first | k_asm | fail "F"); (case X => first | k_asm | fail "X"); (case N => first | k_asm | fail "N"); (case T => first | k_asm | fail "T"); (case hk => first | first | exact rfl | assumption | fail "hk"); (case hb => first | assumption | fail "hb"); (case h3 => first | omega | fail "h3"); (case hdp => first | ktr_room | fail "hdp"); (case hu => first | ((try simp only [units_in1, units_deeper, Around.mark_units, units_caller]); (rw [cLine_is]); first | decide | omega) | ktr_units | fail "hu"); intro x9 d9 k91 k92 k93 te9 h9 tk9 e91 e92 F9 N9; (have e93 := allLt_of e91); (try k_lt e93); (replace e92 := ltN e92); (try dsimp only [curD] at N9); (try dsimp only); (try k_fold))))
local macro_rules | `(tactic| walk_at "call ref") => `(tactic| (k_here; (k_dflt (show wpAny _ _ (call (Value.ref 50) [Value.ref _]) _ _ _)); k_dflt ((refine' doneU ?B ?F ?X ?N ?hx ?hd8 ?T ?hk ?hdp ?hu ?_); (case B => first | k_asm | fail "B"); (case F => first | k_asm | fail "F"); (case X => first | k_asm | fail "X"); (case N => first | k_asm | fail "N"); (case hx => first | k_mem | fail "hx"); (case hd8 => first | k_mem | fail "hd8"); (case T => first | k_asm | fail "T"); (case hk => first | first | exact rfl | assumption | fail "hk"); (case hdp => first | ktr_room | fail "hdp"); (case hu => first | ((try simp only [units_in1, units_deeper, Around.mark_units, units_caller]); (rw [cLine_is]); first | decide | omega) | ktr_units | fail "hu"); intro h9 tk9 F9 N9; (try dsimp only); (try k_fold))))
local macro_rules | `(tactic| walk_at "call ref") => `(tactic| (k_here; (k_dflt (show wpAny _ _ (call (Value.ref 100) [Value.ref _]) _ _ _)); k_dflt ((refine' skiplU ?B ?F ?X ?N ?hx ?U ?hdx ?T ?hk ?hb ?h0 ?h1 ?h2 ?h3 ?hdp ?hu ?_); (case B => first | k_asm | fail "B"); (case F => first | k_asm | fail "F"); (case X => first | k_asm | fail "X"); (case N => first | k_asm | fail "N"); (case hx => first | k_mem | fail "hx"); (case U => first | k_updF | fail "U"); (case hdx => first | assumption | fail "hdx"); (case T => first | k_asm | fail "T"); (case hk => first | first | exact rfl | assumption | fail "hk"); (case hb => first | assumption | fail "hb"); (case h0 => first | omega | fail "h0"); (case h1 => first | omega | fail "h1"); (case h2 => first | omega | fail "h2"); (case h3 => first | omega | fail "h3"); (case hdp => first | ktr_room | fail "hdp"); (case hu => first | ((try simp only [units_in1, units_deeper, Around.mark_units, units_caller]); (rw [cLine_is]); first | decide | omega) | ktr_units | fail "hu"); intro bl9 j9 tj9 h9 tk9 F9 N9 ebl9 ej9; (try dsimp only); (try k_fold))))
local macro_rules | `(tactic| walk_at "call ref") => `(tactic| (k_here; (k_dflt (show wpAny _ _ (call (Value.ref 107) [Value.ref _]) _ _ _)); k_dflt ((refine' takelU ?B ?F ?X ?N ?hx ?U ?hdx ?T ?hk ?hb ?h0 ?h1 ?h2 ?h3 ?hdp ?hu ?_); (case B => first | k_asm | fail "B"); (case F => first | k_asm | fail "F"); (case X => first | k_asm | fail "X"); (case N => first | k_asm | fail "N"); (case hx => first | k_mem | fail "hx"); (case U => first | k_updF | fail "U"); (case hdx => first | assumption | fail "hdx"); (case T => first | k_asm | fail "T"); (case hk => first | first | exact rfl | assumption | fail "hk"); (case hb => first | assumption | fail "hb"); (case h0 => first | omega | fail "h0"); (case h1 => first | omega | fail "h1"); (case h2 => first | omega | fail "h2"); (case h3 => first | omega | fail "h3"); (case hdp => first | ktr_room | fail "hdp"); (case hu => first | ((try simp only [units_in1, units_deeper, Around.mark_units, units_caller]); (rw [cLine_is]); first | decide | omega) | ktr_units | fail "hu"); intro lb9 tl9 j9 tj9 h9 tk9 F9 N9 elb9 ej9; (try (have e97 := bInts_inj (elb9.trans (Eq.symm (by assumption))); subst e97)); (try dsimp only); (try k_fold))))
local macro_rules | `(tactic| walk_at "call ref") => `(tactic| (k_here; (k_dflt (show wpAny _ _ (call (Value.ref 156) [Value.bytes _ _]) _ _ _)); k_dflt ((refine' linesC ?B ?F ?X ?N ?T ?hk ?hb ?h3 ?hdp ?hu ?_); (case B => first | k_asm | fail "B"); (case F => first | k_asm | fail "F"); (case X => first | k_asm | fail "X"); (case N => first | k_asm | fail "N"); (case T => first | k_asm | fail "T"); (case hk => first | first | exact rfl | assumption | fail "hk"); (case hb => first | assumption | fail "hb"); (case h3 => first | omega | fail "h3"); (case hdp => first | ktr_room | fail "hdp"); (case hu => first | ((try simp only [units_in1, units_deeper, Around.mark_units, units_caller]); (rw [cLine_is]); first | decide | omega) | ktr_units | fail "hu"); intro r9 tl9 vs9 k9 h9 tk9 F9 N9 ap9 tu9; (try dsimp only); (try k_fold))))
local macro_rules | `(tactic| walk_at "subscriptTail") => `(tactic| (k_here; (with_reducible show wpAny _ _ (subscriptTail (PySem.Expr.Tuple _ _ _) _ (Value.ref _) (Value.int _ _)) _ _ _); (with_unfolding_all (refine' item_anyT ?k1 ?k2 ?k3 ?k4 ?k5 ?_; (case k1 => first | exact News.isTup (by k_asm) (by k_mem) | fail "k1"); (case k2 => first | l_ints | fail "k2"); (case k3 => first | assumption | fail "k3"); (case k4 => first | (simp only [List.length_cons, List.length_nil]; omega) | fail "k4"); (case k5 => first | omega | fail "k5"); k_whole)); intro _; kmn_bounds))
local macro_rules | `(tactic| walk_at "binaryOp Add bytes bytes") => `(tactic| (k_here; (try dsimp only); (with_reducible show wpAny _ _ (binaryOp Operator.Add (Value.bytes _ _) (Value.bytes _ _)) _ _ _); (refine KBy.add_bytes (by (try simp only [Array.size_append]); (try (have q9 := bInts_size (by assumption : KBw.bInts (KBy.picked _ _ _) = _); simp only [List.length_take, List.length_drop] at q9)); omega) ?_); intro _ _))
local macro_rules | `(tactic| ktr_unf) => `(tactic| repeat' (first | (k_unfold; (try dsimp only)) | ((fail_if_success (with_reducible show wpAny _ _ (exec (Stmt.While _ _ _ _) _) _ _ _)); (fail_if_success (with_reducible show LCg.CompSrc _ _ _ _ _ _ _ _ _ _ _ _ _ _)); (fail_if_success (with_reducible show KswEnd _ _ _ _ _ _ _ _ _ _ _ _)); first | walk1 | (dsimp only; walk1)) | fail "no step"))
local macro_rules | `(tactic| k_steps) => `(tactic| repeat' (first | (k_unfold; (try dsimp only)) | ((fail_if_success (with_reducible show wpAny _ _ (exec (Stmt.While _ _ _ _) _) _ _ _)); (fail_if_success (with_reducible show LCg.CompSrc _ _ _ _ _ _ _ _ _ _ _ _ _ _)); (fail_if_success (with_reducible show wpAny _ _ (eval (PySem.Expr.IfExp _ _ _ _) _) _ _ _)); (fail_if_success (with_reducible show wpAny _ _ (exec (Stmt.For _ _ _ _ _) _) _ _ _)); (fail_if_success (with_reducible show wpAny _ _ (pyIter _) _ _ _)); (fail_if_success (with_reducible show wpAny _ _ (compareOp CmpOp.NotEq (Value.ref _) (Value.ref _)) _ _ _)); (fail_if_success (with_reducible show KswEnd _ _ _ _ _ _ _ _ _ _ _ _)); first | walk1 | (dsimp only; walk1)) | fail "no step"))
set_option maxRecDepth 100000 in
set_option maxHeartbeats 4000000 in
theorem lawx : PySem.Challenge.rw_og0133_01.Holds := hd (by
  k_go0
  all_goals (try k_fold)
  k_steps
  rename (IsRange _ _ _ _ _ _ _ _) => hR
  rename News _ _ _ _ => N9
  rename Fr _ _ _ _ => F9
  rename PenGood _ => hg9
  refine LCg.CompSrc.range (by rfl) F9 N9 hR (by first | exact small_one (by kcf_bnd) (by kcf_bnd) (by kcf_bnd) (by kcf_bnd) | decide) (by first | exact rangeSize_nat _ _ | rfl) (by rw [PySem.sizeLine_eq]; omega) ?_
  intro g'
  refine comp_pen hg9 ?_ ?_
  · intro i9 n9 t19 t29 ys9 v9 I9 oI9 C9 oC9 D9 m29 h9 tk9 E9 hi9 hg9 hP9 hC9 hx9 F9 N9 off9 ne9
    obtain ⟨tv9, e9⟩ := hP9
    subst e9
    simp only [LCg.Off3, and_true] at off9
    k_steps
    rename PenGood _ => hg8
    refine' penEl_intro ?pz1 hg8 ?pz2 ?pz3 ?pz4
    case pz1 => kcf_all
    case pz2 => omega
    case pz3 => omega
    case pz4 => omega
  · intro n9 t19 t29 ys9 ks9 hg9 hI9 hIn9 hl9
    k_steps
    rename Fr _ _ _ _ => F9
    have hb9 := KBa.ints_make hIn9
    refine head_cut (by k_asm) F9 hb9 (by with_unfolding_all rfl) (by omega) rfl ?_ ?_
    · with_reducible refine IfExp_ ?_
      k_steps
      all_goals (rename News _ _ _ _ => N8; exact headMade_intro (by assumption) N8 (by assumption) (by omega) (by omega))
    · intro x8 d8 k81 k82 k83 t80 t81 en8 te8 h8 tk8 hdx8 F8 N8 e81 e82
      dsimp only [curD] at N8
      k_steps
      rename (KBw.bInts (KBy.picked _ _ _) = _) => hp9
      rw [clip_win (by omega) e81 e82] at hp9
      have hwl9 := win_length (ks := ks9) (by omega) e81 e82
      rename Fr _ _ _ _ => F9
      refine For_turns F9 ?_
      k_steps
      rename News _ _ _ _ => N7
      rename Fr _ _ _ _ => F7
      rename TupsAre _ _ _ => tu7
      rename (∀ _ ∈ _, ∀ _ ∈ _, _) => ap7
      refine loop1 (by rfl) F7 N7 (by with_unfolding_all rfl) ap7 tu7 (by omega) e81 e82 ?_ ?_
      · intro i j tj ju tju u lb t z tz a uu h tk I oI hT hm7 hI1 hI2 hI3 hI4 hd1 hd2 hnext F6 N6
        clear N7 F7 ap7
        obtain ⟨f1, f2, f3, f4, f5, f6, f7⟩ := id hT
        dsimp only [curD] at N6
        dsimp only [tupO] at hm7
        k_fold
        refine' unpackN_ (by k_asm) (by k_asm) (News.isTup N6 (.tail _ (.tail _ (.tail _ (.tail _ hm7))))) ?pk4 ?pk5 ?pk6 ?_
        case pk4 => exact rfl
        case pk5 => exact rfl
        case pk6 => exact rfl
        intro h' F' N'
        have hju9 : ju.size = u := by rw [bInts_size f2, List.length_take]; omega
        have hlen9 : lb.size = ((win ks9 j en8).takeWhile notEnd).length := bInts_size f3
        k_steps
        · rename ((_ != _) = true) => hq
          rename (KBw.bInts _ = List.takeWhile notEnd _) => hq2
          exact absurd hq (by rw [bInts_inj (hq2.trans f3.symm)]; simp)
        · exfalso
          rename (_ ≠ _) => hq
          rw [clip_of (by omega) (by omega), clip_of (by omega) (by omega)] at hq
          exact hq (by omega)
        · rename (_ = _ + ((_ : Nat) : Int)) => hq
          rename (KBw.bInts (KBy.picked _ _ _) = _) => hk9
          have hju8 := joined_next (by omega) hT (by omega) (by omega) hk9
          rename News _ _ _ _ => N5
          rename Fr _ _ _ _ => F5
          refine' tend ⟨_, _, _, _, u + lb.size + z.toNat⟩ F5 N5 (fun p hp => hp) (List.forall_mem_cons.mpr ⟨hI2, List.forall_mem_cons.mpr ⟨hI3, List.forall_mem_cons.mpr ⟨hI4, hI1⟩⟩⟩) (List.forall_mem_cons.mpr ⟨rfl, List.forall_mem_nil _⟩) ?qr ?qp
          case qr =>
            intro z9 h9 h8
            have a1 := h9 _ (.head _)
            dsimp only at a1
            simp only [st1, List.contains_cons, List.contains_nil, Bool.or_false, Bool.or_eq_false_iff, beq_eq_false_iff_ne, ne_eq] at h8
            simp [kstB, a1, h8.1, h8.2]
          case qp => exact hnext _ rfl (by dsimp only; omega) hju8
      · intro tj ju tju uu h tk hju hd1 hd2 F6 N6
        clear N7 F7 ap7
        have hz1 := bInts_inj (hju.trans hp9.symm)
        subst hz1
        have hwn : win ks9 en8 en8 = [] := win_nil (Int.le_refl _)
        dsimp only [curD] at N6
        k_steps
        · rename ((_ != _) = true) => hq
          exact absurd hq (by simp)
        · rename ((_ != _) = true) => hq
          rename (KBw.bInts _ = List.takeWhile notEnd _) => hq2
          rw [hwn] at hq2
          exact absurd hq (by rw [bInts_inj (b := #[]) (hq2.trans rfl)]; simp)
        · rename (_ = _ + ((_ : Nat) : Int) + ((_ : Nat) : Int)) => hq2
          rename (_ ≠ _) => hq
          rw [hwn] at hq2
          exact absurd (hq2.trans (by simp [eol])) hq
        · rename (∀ _ ∈ _, ∀ _ ∈ _, _) => ap6
          rename TupsAre _ _ _ => tu6
          rename News _ _ _ _ => N5
          rename Fr _ _ _ _ => F5
          rename (_ ∧ AllLt _ _) => hl5
          rcases tups_cases tu6 with ⟨ev, et⟩ | ⟨a6, b6, t6, tz6, l6, z6, vs6, ts6, ev, et, hm6, hb6⟩
          · subst ev
            have N4 := fin_led0 N5
            have hl4 := fin_lt hl5
            have ap4 := fin_ap0 ap6
            have hE := eol_none et
            clear N6 N5 ap6 tu7 tu6
            dsimp only
            refine ne_nil0K (News.isList N4 (by k_mem)) (News.isList N4 (by k_mem)) (by (try simp only [units_in1, units_deeper, Around.mark_units, units_caller]); (rw [cLine_is]); first | decide | omega) ?_
            ktr_unf
            · refine boolT (P := fun q => GoodW _ _ _ _ _ (Except.ok (Flow.ret (Value.bool q))) _) ?_ ?_
              · rename (_ = _ + ((eol _ : Nat) : Int)) => q9
                exact beq_iff_eq.mpr (by omega)
              · (k_end; kc_close)
            · refine boolT (P := fun q => GoodW _ _ _ _ _ (Except.ok (Flow.ret (Value.bool q))) _) ?_ ?_
              · rename (_ = decide (0 < eol _)) => q9
                rw [q9, hE]; rfl
              · (k_end; kc_close)
          · subst ev
            have N4 := fin_led N5 hm6
            have hl4 := fin_lt hl5
            have ap4 := fin_ap ap6 hm6
            obtain ⟨hE, hE2, hE3⟩ := eol_first et hb6
            clear N6 N5 ap6 tu7 tu6
            dsimp only
            refine ne_nilK (News.isList N4 (by k_mem)) (News.isList N4 (by k_mem)) (by (try simp only [units_in1, units_deeper, Around.mark_units, units_caller]); (rw [cLine_is]); first | decide | omega) ?_
            ktr_unf
            · refine boolT (P := fun q => GoodW _ _ _ _ _ (Except.ok (Flow.ret (Value.bool q))) _) ?_ ?_
              · rename (_ = _ + ((eol _ : Nat) : Int)) => q9
                have q8 := hE2 (by assumption)
                exact beq_iff_eq.mpr (by omega)
              · (k_end; kc_close)
            · refine boolT (P := fun q => GoodW _ _ _ _ _ (Except.ok (Flow.ret (Value.bool q))) _) ?_ ?_
              · rename (_ = _ + ((eol _ : Nat) : Int)) => q9
                have q8 := hE3 (by assumption)
                exact beq_iff_eq.mpr (by omega)
              · (k_end; kc_close)
            · refine boolT (P := fun q => GoodW _ _ _ _ _ (Except.ok (Flow.ret (Value.bool q))) _) ?_ ?_
              · rename (_ = decide (0 < eol _)) => q9
                rw [q9, hE]; simp
              · (k_end; kc_close))
end
end Mine
end
theorem PySem.Challenge.cw_og0133_01_holds : PySem.Challenge.rw_og0133_01.Holds :=
  Mine.lawx
