import PyProof.Rows.All
import Wide.All
import OpenK.AllK
import Wide.FinOn
import Lean
import PySem.Challenge.RW_pq0351_01
open PySem PySem.W PyProof.Rows
set_option Elab.async false
namespace Mine
set_option maxRecDepth 100000
set_option maxHeartbeats 0
def keeps : List Nat := [1, 2, 4, 5, 6, 7, 8, 9, 10, 11, 12, 13, 14, 16, 17, 18, 19, 20, 21, 22, 23, 24, 25, 26, 27, 28]
/-- the text's own defs and classes, as they stand in its body -/
def lookAt : Program := view PySem.Challenge.rw_pq0351_01.row.prog keeps
/-- the top, run once by the kernel: by the library's quick twins of the run's own functions -/
theorem left {α : Type} {Xt : Shared → Bool} {Yf : Shared → α} {Ya : World → α} (h : ∀ w, ((((PySem.W.Fast.tw10274390034422433532 PySem.W.Fast.tw14364793385576792824 (opening PySem.Challenge.rw_pq0351_01.row.prog) w 2746 (PySem.W.Fast.tw1435165496053646825 (opening PySem.Challenge.rw_pq0351_01.row.prog)).1 (PySem.W.Fast.tw1435165496053646825 (opening PySem.Challenge.rw_pq0351_01.row.prog)).2).bind (PySem.W.Fast.tw14289696077712309145 PySem.Challenge.rw_pq0351_01.row.prog)).bind fun s₀ =>
      match s₀.heap.isNs mainGlobals && s₀.gens.size == 0 with
      | true => (PySem.W.Fast.tw14082659384304107361 PySem.W.Fast.tw14364793385576792824 PySem.Challenge.rw_pq0351_01.row.prog w s₀.heap.objs.size (s₀.heap.nsMap mainGlobals "__annotations__") 2746 s₀ (topStub PySem.Challenge.rw_pq0351_01.row.prog)).bind fun s₁ =>
          match staticsOk (importedModules PySem.Challenge.rw_pq0351_01.row.prog.main.body) s₀.heap s₁.heap && namesBound PySem.Challenge.rw_pq0351_01.row.prog s₁.heap && gensDone s₁ && laidKept s₀.heap s₁.heap with
          | true => some s₁
          | false => none
      | false => none)).map (fun s => (openSeen lookAt [] (importedModules PySem.Challenge.rw_pq0351_01.row.prog.main.body) Xt true s, Yf s)) = some (openGood lookAt [], Ya w)) :
    LeftO PySem.Challenge.rw_pq0351_01.row.prog lookAt [] Xt Yf Ya 2746 := by
  intro w
  unfold openEnds fencedOpening topFrom
  rw [PySem.W.Fast.te14082659384304107361, PySem.W.Fast.te14364793385576792824, PySem.W.Fast.te10274390034422433532, PySem.W.Fast.te14289696077712309145, PySem.W.Fast.te1435165496053646825]
  exact h w
local macro_rules | `(tactic| o_head $H:term) => `(tactic| (refine holds_open (r := PySem.Challenge.rw_pq0351_01.row) (q := lookAt) (loose := []) (Xt := fun s => xlAt lookAt [] s && recOk (RowW.records PySem.Challenge.rw_pq0351_01.row.toRowW) s) (XP := XL lookAt []) (Yf := Hook.obs $H) (Ya := Hook.val $H) (YP := Hook.says $H) (N := 2746) (left fun w => by kernel_rfl) (Hook.of $H) (Hook.keeps $H) (fun s e => xl_of s (Bool.and_eq_true_iff.mp e).1) XL.keeps (by rfl) (by rfl) (by rfl) (fun s e => recFacts_of (Bool.and_eq_true_iff.mp e).2) (by rfl) (by first | assumption | decide +kernel) (by decide +kernel) ⟨rfl, rfl, rfl, rfl, rfl, by decide +kernel⟩ ?hw ?hc))
open_top hd for PySem.Challenge.rw_pq0351_01
abbrev Led := List (Addr × Obj)

/-- what a call of the def at f with the values vs does: from the ledger news it comes back with a value and a ledger that R takes -/
abbrev Calls (w : World) (mean : ExcName → Option Value) (mg mb : Str → Option Value) (f : Addr) (vs : List Value) (news : Led) (need : Nat) (R : Value → Led → Prop) : Prop :=
  ∀ (dp un : Nat) (gd : Option (List Code)) (cn : Str) (cs : Scope) (a : Addr) (ccd : Value) (cl : List (Str × Addr)) (outer : List Env) (A₀ : Around) (base h₀ : Heap) (L : Addr) (m : Str → Option Value) (s : Shared) (Q E : Value → Shared → Prop),
    Below A₀ base outer h₀ → Fr h₀ L s.heap m → (hd.heap_39 w.params).In h₀ → News h₀ L s.heap news → Top lookAt (looseW lookAt []) mean mg mb h₀ → cs.kind = .function →
    dp + need < recursionLimit → un + 8 * need < cLine →
    (∀ v news' h' tk', R v news' → Fr h₀ L h' m → News h₀ L h' news' → Q v { s with heap := h', toks := tk' }) →
    wpAny (model PySem.Challenge.rw_pq0351_01.row.prog w) (ktrTop dp un gd cn cs L a ccd cl outer) (call (.ref f) vs) Q E s

theorem use {w : World} {mean : ExcName → Option Value} {mg mb : Str → Option Value} {f : Addr} {vs : List Value} {news : Led} {need : Nat} {R : Value → Led → Prop}
    {dp un : Nat} {gd : Option (List Code)} {cn : Str} {cs : Scope} {a : Addr} {ccd : Value} {cl : List (Str × Addr)} {outer : List Env} {A₀ : Around} {base h₀ : Heap} {L : Addr} {m : Str → Option Value} {s : Shared} {Q E : Value → Shared → Prop}
    (C : Calls w mean mg mb f vs news need R)
    (B : Below A₀ base outer h₀) (F : Fr h₀ L s.heap m) (X : (hd.heap_39 w.params).In h₀) (N : News h₀ L s.heap news) (T : Top lookAt (looseW lookAt []) mean mg mb h₀) (hk : cs.kind = .function)
    (hdp : dp + need < recursionLimit) (hun : un + 8 * need < cLine)
    (ret : ∀ v news' h' tk', R v news' → Fr h₀ L h' m → News h₀ L h' news' → Q v { s with heap := h', toks := tk' }) :
    wpAny (model PySem.Challenge.rw_pq0351_01.row.prog w) (ktrTop dp un gd cn cs L a ccd cl outer) (call (.ref f) vs) Q E s :=
  C dp un gd cn cs a ccd cl outer A₀ base h₀ L m s Q E B F X N T hk hdp hun ret

theorem mul_len {x : Str} (n : Int) (h : x.length = 1) : (Txt.mul x n).length = n.toNat := by
  have hsz : x.cps.size = 1 := h
  unfold Txt.mul
  split
  · rename_i h1
    rw [show n.toNat = 0 by omega]; rfl
  · split
    · rename_i h1 h2
      have : n = 1 := by
        simp only [Bool.or_eq_true, beq_iff_eq] at h2
        rcases h2 with h2 | h2
        · exact h2
        · rw [h] at h2; exact absurd h2 (by decide)
      subst this; exact h
    · have key : ∀ (k : Nat) (acc : Array Nat), ((List.replicate k x.cps).foldl (· ++ ·) acc).size = acc.size + k := by
        intro k
        induction k with
        | zero => intro acc; rfl
        | succ k ih => intro acc; rw [List.replicate_succ, List.foldl_cons, ih, Array.size_append, hsz]; omega
      have := key n.toNat #[]
      show (((List.replicate n.toNat x.cps).foldl (· ++ ·) #[]).size) = _
      rw [this]; simp
theorem len_star : (Str.ofString "*").length = 1 := by decide
theorem len_blank : (Str.ofString " ").length = 1 := by decide
theorem len_zero : (Str.ofString "0").length = 1 := by decide
theorem len_dot : (Str.ofString ".").length = 1 := by decide
theorem len_zerodot : (Str.ofString "0.").length = 2 := by decide
theorem len_minus : (Str.ofString "-").length = 1 := by decide
theorem len_plus : (Str.ofString "+").length = 1 := by decide
theorem len_none : (Str.ofString "").length = 0 := by decide
theorem len_E : (Str.ofString "E").length = 1 := by decide

theorem ten_py {k : Nat} (h : k ≤ 2000) : (2 * (10 : Int) ^ k).natAbs.log2 < 9000 := by
  have e : (2 * (10 : Int) ^ k).natAbs = 2 * 10 ^ k := by
    rw [Int.natAbs_mul, Int.natAbs_pow]; rfl
  rw [e]
  have hpos : 0 < 10 ^ k := Nat.pow_pos (by decide)
  refine (Nat.log2_lt (by omega)).mpr ?_
  have h1 : (10 : Nat) ^ k ≤ 16 ^ k := Nat.pow_le_pow_left (by decide) k
  have h2 : (16 : Nat) ^ k = 2 ^ (4 * k) := by rw [Nat.pow_mul]
  have h3 : (2 : Nat) ^ (4 * k + 1) ≤ 2 ^ 8001 := Nat.pow_le_pow_right (by decide) (by omega)
  have h4 : (2 : Nat) ^ 8001 < 2 ^ 9000 := Nat.pow_lt_pow_right (by decide) (by omega)
  have h5 : (2 : Nat) ^ (4 * k + 1) = 2 * 2 ^ (4 * k) := by rw [Nat.pow_succ, Nat.mul_comm]
  omega

def absI (n : Int) : Int := if n < 0 then -n else n
theorem absI_range {n : Int} (h1 : -10 ^ 9 < n) (h2 : n < 10 ^ 9) : 0 ≤ absI n ∧ absI n < 10 ^ 9 := by unfold absI; split <;> omega
theorem call_absI {prog : Program} {w : World} {A : Around} {E : Value → Shared → Prop} {s : Shared} {a : Int} {t : Tok} {Q : Value → Shared → Prop} (h : ∀ u tk, Q (.int (absI a) u) { s with toks := tk }) :
    wpAny (model prog w) A (call (.builtin "abs") [.int a t]) Q E s := call_abs_int h
open PySem.NumText in
/-- a text of figures -/
def AllD (x : Str) : Prop := ∀ c ∈ x.cps.toList, 48 ≤ c ∧ c ≤ 57

/-- the figures of v, L of them -/
def pad : Nat → Nat → List Nat
  | 0, _ => []
  | L + 1, v => pad L (v / 10) ++ [48 + v % 10]
theorem pad_len (L v : Nat) : (pad L v).length = L := by
  induction L generalizing v with
  | zero => rfl
  | succ L ih => rw [pad, List.length_append, ih]; rfl
theorem pad_append (a b v : Nat) : pad (a + b) v = pad a (v / 10 ^ b) ++ pad b v := by
  induction b generalizing v with
  | zero => simp [pad]
  | succ b ih =>
    rw [← Nat.add_assoc, pad, ih, pad, List.append_assoc, Nat.div_div_eq_div_mul, Nat.pow_succ, Nat.mul_comm 10]
theorem pad_zero (k : Nat) : pad k 0 = List.replicate k 48 := by
  induction k with
  | zero => rfl
  | succ k ih => rw [pad, Nat.zero_div, ih, List.replicate_succ']
theorem pad_mod (L v : Nat) : pad L (v % 10 ^ L) = pad L v := by
  induction L generalizing v with
  | zero => rfl
  | succ L ih =>
    rw [pad, pad, ← ih (v / 10)]
    have h1 : v % 10 ^ (L + 1) / 10 = v / 10 % 10 ^ L := by
      rw [Nat.pow_succ, Nat.mul_comm, Nat.mod_mul_right_div_self]
    have h2 : v % 10 ^ (L + 1) % 10 = v % 10 := by
      rw [Nat.pow_succ, Nat.mul_comm]
      exact Nat.mod_mul_right_mod v 10 (10 ^ L)
    rw [h1, h2]
theorem pad_digits (L v : Nat) : ∀ c ∈ pad L v, 48 ≤ c ∧ c ≤ 57 := by
  induction L generalizing v with
  | zero => intro c h; cases h
  | succ L ih =>
    intro c h
    rw [pad] at h
    rcases List.mem_append.mp h with h | h
    · exact ih _ c h
    · rw [List.mem_singleton.mp h]; omega
theorem pad_shift (L v k : Nat) : pad L v ++ List.replicate k 48 = pad (L + k) (v * 10 ^ k) := by
  rw [pad_append, Nat.mul_div_cancel _ (Nat.pow_pos (by decide)), ← pad_mod k (v * 10 ^ k), Nat.mul_mod_left, pad_zero]
theorem pad_lead (k L v : Nat) (h : v < 10 ^ L) : List.replicate k 48 ++ pad L v = pad (k + L) v := by
  rw [pad_append, Nat.div_eq_of_lt h, pad_zero]
theorem pad_take (a b v : Nat) : (pad (a + b) v).take a = pad a (v / 10 ^ b) := by
  rw [pad_append, List.take_append_of_le_length (by rw [pad_len]; exact Nat.le_refl _), List.take_of_length_le (by rw [pad_len]; exact Nat.le_refl _)]
theorem pad_drop (a b v : Nat) : (pad (a + b) v).drop a = pad b v := by
  rw [pad_append, List.drop_append_of_le_length (by rw [pad_len]; exact Nat.le_refl _), List.drop_of_length_le (by rw [pad_len]; exact Nat.le_refl _), List.nil_append]
theorem pad_getD (a b v : Nat) : (pad (a + (b + 1)) v).getD a 0 = 48 + v / 10 ^ b % 10 := by
  have e : (pad (a + (b + 1)) v).getD a 0 = ((pad (a + (b + 1)) v).drop a).getD 0 0 := by
    simp [List.getD_eq_getElem?_getD]
  rw [e, pad_drop, Nat.add_comm b 1, pad_append]
  simp [pad]

open PySem.NumText in
theorem val_pad (L v : Nat) (h : v < 10 ^ L) : digitsVal (pad L v) = v := by
  induction L generalizing v with
  | zero => simp at h; subst h; rfl
  | succ L ih =>
    rw [pad, digitsVal_snoc, ih (v / 10) (by rw [Nat.pow_succ] at h; omega)]
    omega
theorem snoc_ind {R : List Nat → Prop} (h0 : R []) (h1 : ∀ l c, R l → R (l ++ [c])) (l : List Nat) : R l := by
  have key : ∀ l : List Nat, R l.reverse := by
    intro l
    induction l with
    | nil => exact h0
    | cons c l ih => rw [List.reverse_cons]; exact h1 _ c ih
  have := key l.reverse
  rwa [List.reverse_reverse] at this
open PySem.NumText in
theorem val_lt : ∀ (l : List Nat), AllDigits l → digitsVal l < 10 ^ l.length := by
  refine snoc_ind ?_ ?_
  · intro _; decide
  · intro l c ih h
    rw [digitsVal_snoc, List.length_append, List.length_singleton, Nat.pow_succ]
    have h1 := ih fun d hd => h d (List.mem_append_left _ hd)
    have h2 := h c (List.mem_append_right _ (List.mem_singleton.mpr rfl))
    omega
open PySem.NumText in
theorem pad_val : ∀ (l : List Nat), AllDigits l → pad l.length (digitsVal l) = l := by
  refine snoc_ind ?_ ?_
  · intro _; rfl
  · intro l c ih h
    have h1 := ih fun d hd => h d (List.mem_append_left _ hd)
    have h2 := h c (List.mem_append_right _ (List.mem_singleton.mpr rfl))
    rw [digitsVal_snoc, List.length_append, List.length_singleton, pad]
    rw [show (digitsVal l * 10 + (c - 48)) / 10 = digitsVal l by omega, h1, show 48 + (digitsVal l * 10 + (c - 48)) % 10 = c by omega]

def P (L v : Nat) : Str := ⟨(pad L v).toArray⟩
theorem P_list (L v : Nat) : (P L v).cps.toList = pad L v := rfl
theorem str_ext {x y : Str} (h : x.cps.toList = y.cps.toList) : x = y := PyProof.Rows.ext_toList h
theorem P_len (L v : Nat) : (P L v).length = L := by show (pad L v).toArray.size = L; rw [List.size_toArray, pad_len]

theorem app_list (x y : Str) : (x ++ y).cps.toList = x.cps.toList ++ y.cps.toList := by rw [PySem.Str.cps_append, Array.toList_append]
theorem len_list (x : Str) : x.cps.toList.length = x.length := rfl
theorem mul_list {x : Str} {c : Nat} (hx : x = ⟨#[c]⟩) (n : Int) : (Txt.mul x n).cps.toList = List.replicate n.toNat c := by
  subst hx
  unfold Txt.mul
  split
  · rename_i h1
    rw [show n.toNat = 0 by omega]; rfl
  · split
    · rename_i h1 h2
      have : n = 1 := by
        simp only [Bool.or_eq_true, beq_iff_eq] at h2
        rcases h2 with h2 | h2
        · exact h2
        · exact absurd h2 (by show ¬ ((1 : Nat) = 0); decide)
      subst this; rfl
    · have key : ∀ (k : Nat) (acc : Array Nat), ((List.replicate k #[c]).foldl (· ++ ·) acc).toList = acc.toList ++ List.replicate k c := by
        intro k
        induction k with
        | zero => intro acc; simp
        | succ k ih => intro acc; rw [List.replicate_succ, List.foldl_cons, ih, Array.toList_append, List.append_assoc]; rfl
      exact (key n.toNat #[]).trans (List.nil_append _)
theorem zero_is : Str.ofString "0" = ⟨#[48]⟩ := by decide
theorem blank_is : Str.ofString " " = ⟨#[32]⟩ := by decide
theorem star_is : Str.ofString "*" = ⟨#[42]⟩ := by decide
theorem slice_to {x : Str} {k : Int} (h0 : 0 ≤ k) (h1 : k ≤ x.length) : (Txt.slice x none (some k)).cps.toList = x.cps.toList.take k.toNat := by
  have h : (Txt.slice x none (some k) == ⟨((x.cps.toList.drop (0 : Int).toNat).take (k - 0).toNat).toArray⟩) = true := PyProof.Rows.slice_closes_to ⟨h0, h1⟩
  rw [beq_iff_eq.mp h]
  simp
theorem slice_from {x : Str} {k : Int} (h0 : 0 ≤ k) (h1 : k ≤ x.length) : (Txt.slice x (some k) none).cps.toList = x.cps.toList.drop k.toNat := by
  rw [PyProof.Rows.slice_from_eq h0 h1 rfl]
  show ((x.cps.toList.drop k.toNat).take ((x.length : Int) - k).toNat) = _
  rw [List.take_of_length_le]
  rw [List.length_drop, len_list]; omega
theorem item_list {x : Str} {k : Int} (h0 : 0 ≤ k) (h1 : k < x.length) : Txt.item x k = ⟨#[x.cps.toList.getD k.toNat 0]⟩ := by
  rw [PyProof.Rows.item_at h0 h1 rfl]
  simp [Array.getD_eq_getD_getElem?, List.getD_eq_getElem?_getD]

theorem AllD.app {x y : Str} (hx : AllD x) (hy : AllD y) : AllD (x ++ y) := by
  intro c h
  rw [app_list] at h
  rcases List.mem_append.mp h with h | h
  · exact hx c h
  · exact hy c h
theorem AllD.zeros (n : Int) : AllD (Txt.mul (Str.ofString "0") n) := by
  intro c h
  rw [mul_list zero_is] at h
  have := (List.mem_replicate.mp h).2
  omega
theorem AllD.none : AllD (Str.ofString "") := by
  have e : (Str.ofString "").cps.toList = [] := by decide
  intro c h
  rw [e] at h; cases h
theorem AllD.to {x : Str} {k : Int} (hx : AllD x) (h0 : 0 ≤ k) (h1 : k ≤ x.length) : AllD (Txt.slice x Option.none (some k)) := by
  intro c h
  rw [slice_to h0 h1] at h
  exact hx c (List.mem_of_mem_take h)
theorem AllD.from {x : Str} {k : Int} (hx : AllD x) (h0 : 0 ≤ k) (h1 : k ≤ x.length) : AllD (Txt.slice x (some k) Option.none) := by
  intro c h
  rw [slice_from h0 h1] at h
  exact hx c (List.mem_of_mem_drop h)
theorem AllD.pads (L v : Nat) : AllD (P L v) := pad_digits L v

open PySem.NumText in
theorem val_app (l : List Nat) : ∀ r : List Nat, digitsVal (l ++ r) = digitsVal l * 10 ^ r.length + digitsVal r := by
  refine snoc_ind ?_ ?_
  · simp [digitsVal]
  · intro r c ih
    rw [← List.append_assoc, digitsVal_snoc, ih, digitsVal_snoc, List.length_append, List.length_singleton, Nat.pow_succ, Nat.add_mul, Nat.mul_assoc]
    omega
open PySem.NumText in
theorem val_nines (m : Nat) : digitsVal (List.replicate m 57) + 1 = 10 ^ m := by
  induction m with
  | zero => rfl
  | succ m ih => rw [List.replicate_succ', digitsVal_snoc, Nat.pow_succ]; omega

open PySem.NumText in
/-- the next number, figure by figure -/
def nextUpV (x : Str) : Str :=
  if digitsVal x.cps.toList + 1 < 10 ^ x.length then P x.length (digitsVal x.cps.toList + 1) else P (x.length + 1) (digitsVal x.cps.toList + 1)
theorem nextUpV_len (x : Str) : (nextUpV x).length ≤ x.length + 1 := by
  unfold nextUpV
  split <;> rw [P_len] <;> omega
theorem nextUpV_digits (x : Str) : AllD (nextUpV x) := by
  unfold nextUpV
  split <;> exact AllD.pads _ _

open PySem.NumText in
theorem nextUp_all {x : Str} {k : Int} (h : ∀ j : Nat, k < j → j < x.length → x.cps.toList.getD j 0 = 57) (h0 : ¬ 0 ≤ k) (h1 : -1 ≤ k) :
    Str.ofString "1" ++ Txt.mul (Str.ofString "0") ((x.length : Int) - 1 - k) = nextUpV x := by
  have hk : k = -1 := by omega
  subst hk
  have hx : x.cps.toList = List.replicate x.length 57 := by
    refine List.eq_replicate_iff.mpr ⟨rfl, fun c hc => ?_⟩
    obtain ⟨j, hj, e⟩ := List.getElem_of_mem hc
    have := h j (by omega) hj
    rw [List.getD_eq_getElem?_getD, List.getElem?_eq_getElem hj] at this
    rw [← e]; exact this
  have hv := val_nines x.length
  unfold nextUpV
  rw [hx, hv, if_neg (by omega)]
  refine str_ext ?_
  rw [app_list, mul_list zero_is, P_list, Nat.add_comm, show 10 ^ x.length = 1 * 10 ^ x.length by omega, ← pad_shift, show ((x.length : Int) - 1 - -1).toNat = x.length by omega]
  rw [show (Str.ofString "1").cps.toList = pad 1 1 by decide]
open PySem.NumText in
theorem nextUp_at {x : Str} {k d : Int} (hd : AllD x) (h : ∀ j : Nat, k < j → j < x.length → x.cps.toList.getD j 0 = 57) (h0 : 0 ≤ k) (h1 : k < x.length) (d0 : 0 ≤ d) (d1 : d ≤ 8)
    (hx : x.cps.toList.getD k.toNat 0 = 48 + d.toNat) :
    Txt.slice x none (some k) ++ Txt.item (Str.ofString "123456789") d ++ Txt.mul (Str.ofString "0") ((x.length : Int) - 1 - k) = nextUpV x := by
  have hk : k.toNat < x.cps.toList.length := by rw [len_list]; omega
  have e1 : x.cps.toList = x.cps.toList.take k.toNat ++ ([48 + d.toNat] ++ List.replicate (x.length - 1 - k.toNat) 57) := by
    have a1 : x.cps.toList.drop k.toNat = (48 + d.toNat) :: List.replicate (x.length - 1 - k.toNat) 57 := by
      rw [List.drop_eq_getElem_cons hk]
      rw [List.getD_eq_getElem?_getD, List.getElem?_eq_getElem hk] at hx
      rw [show x.cps.toList[k.toNat] = 48 + d.toNat from hx]
      congr 1
      refine List.eq_replicate_iff.mpr ⟨by rw [List.length_drop, len_list]; omega, fun c hc => ?_⟩
      obtain ⟨j, hj, e⟩ := List.getElem_of_mem hc
      rw [List.length_drop, len_list] at hj
      have := h (k.toNat + 1 + j) (by omega) (by omega)
      rw [List.getElem_drop] at e
      rw [List.getD_eq_getElem?_getD, List.getElem?_eq_getElem (by rw [len_list]; omega)] at this
      rw [← e]; exact this
    have a2 := List.take_append_drop k.toNat x.cps.toList
    rw [a1] at a2
    exact a2.symm
  have e2 : Txt.item (Str.ofString "123456789") d = ⟨#[49 + d.toNat]⟩ := by
    have : d = 0 ∨ d = 1 ∨ d = 2 ∨ d = 3 ∨ d = 4 ∨ d = 5 ∨ d = 6 ∨ d = 7 ∨ d = 8 := by omega
    rcases this with h | h | h | h | h | h | h | h | h <;> subst h <;> decide
  have e3 : (Txt.slice x none (some k) ++ Txt.item (Str.ofString "123456789") d ++ Txt.mul (Str.ofString "0") ((x.length : Int) - 1 - k)).cps.toList
      = x.cps.toList.take k.toNat ++ ([49 + d.toNat] ++ List.replicate (x.length - 1 - k.toNat) 48) := by
    rw [app_list, app_list, slice_to h0 (by omega), mul_list zero_is, e2, List.append_assoc, show ((x.length : Int) - 1 - k).toNat = x.length - 1 - k.toNat by omega]
  have hlen : (x.cps.toList.take k.toNat ++ ([49 + d.toNat] ++ List.replicate (x.length - 1 - k.toNat) 48)).length = x.length := by
    simp only [List.length_append, List.length_take, List.length_singleton, List.length_replicate, len_list]; omega
  have had : AllDigits (x.cps.toList.take k.toNat ++ ([49 + d.toNat] ++ List.replicate (x.length - 1 - k.toNat) 48)) := by
    intro c hc
    rcases List.mem_append.mp hc with hc | hc
    · exact hd c (List.mem_of_mem_take hc)
    · rcases List.mem_append.mp hc with hc | hc
      · rw [List.mem_singleton.mp hc]; omega
      · rw [(List.mem_replicate.mp hc).2]; omega
  have hval : digitsVal (x.cps.toList.take k.toNat ++ ([49 + d.toNat] ++ List.replicate (x.length - 1 - k.toNat) 48)) = digitsVal x.cps.toList + 1 := by
    have z : digitsVal (List.replicate (x.length - 1 - k.toNat) 48) = 0 := by
      rw [← pad_zero]; exact val_pad _ _ (Nat.pow_pos (by decide))
    have n9 := val_nines (x.length - 1 - k.toNat)
    have s1 : ∀ c : Nat, digitsVal [c] = c - 48 := fun c => by show 0 * 10 + (c - 48) = _; omega
    conv => rhs; rw [e1]
    rw [val_app, val_app, val_app _ ([48 + d.toNat] ++ _), val_app [48 + d.toNat], z, s1, s1]
    simp only [List.length_append, List.length_singleton, List.length_replicate]
    rw [show 49 + d.toNat - 48 = d.toNat + 1 by omega, show 48 + d.toNat - 48 = d.toNat by omega, Nat.add_mul]
    omega
  have hlt := val_lt _ had
  have hpad := pad_val _ had
  rw [hval, hlen] at hlt hpad
  unfold nextUpV
  rw [if_pos hlt]
  refine str_ext ?_
  rw [e3, P_list]
  exact hpad.symm
open PySem.NumText in
theorem text_digits {n : Int} (h0 : 0 ≤ n) : AllD (Str.ofString (toString n)) := by
  obtain ⟨m, rfl⟩ := Int.eq_ofNat_of_zero_le h0
  intro c hc
  rw [KIN.signs_num] at hc
  obtain ⟨ch, hch, e⟩ := List.mem_map.mp hc
  have r := digit_range (Nat.isDigit_of_mem_toDigits (by decide) (by decide) hch)
  rw [← e]
  exact r
abbrev tupOf (vs : Array Value) (c : Nat) : Obj := { cls := .type "tuple", data := .seq vs c }
/-- what is known of a value: an int within bounds, a text with a bound of its length, a truth, a value -/
inductive VD
  | int (a lo hi : Int)
  | str (x : Str) (K : Nat)
  | bool (b : Bool)
  | val (v : Value)
def VD.Has : VD → Value → Prop
  | .int a lo hi, v => (∃ t, v = .int a t) ∧ lo ≤ a ∧ a ≤ hi
  | .str x K, v => (∃ t, v = .str x t) ∧ x.length ≤ K
  | .bool b, v => v = .bool b
  | .val u, v => v = u
inductive HasL : List VD → List Value → Prop
  | nil : HasL [] []
  | cons {d : VD} {v : Value} {ds : List VD} {vs : List Value} (h : d.Has v) (r : HasL ds vs) : HasL (d :: ds) (v :: vs)
abbrev Loc := List (Str × VD)
def Fits (m : Str → Option Value) (md : Loc) : Prop := ∀ x d, md.lookup x = some d → ∃ v, m x = some v ∧ d.Has v

structure Ctx where
  w : World
  mean : ExcName → Option Value
  mg : Str → Option Value
  mb : Str → Option Value
  dp : Nat
  un : Nat
  gd : Option (List Code)
  cn : Str
  L : Addr
  a : Addr
  ccd : Value
  cl : List (Str × Addr)
  outer : List Env
  A₀ : Around
  base : Heap
  h₀ : Heap
  g : Array GenState
  d : Drawn
  os : OsState
structure Ctx.Ok (c : Ctx) (cs : Scope) (need : Nat) : Prop where
  B : Below c.A₀ c.base c.outer c.h₀
  X : (hd.heap_39 c.w.params).In c.h₀
  T : Top lookAt (looseW lookAt []) c.mean c.mg c.mb c.h₀
  hk : cs.kind = .function
  hdp : c.dp + need < recursionLimit
  hun : c.un + 8 * need < cLine
abbrev Ctx.M (c : Ctx) : Model := model PySem.Challenge.rw_pq0351_01.row.prog c.w
abbrev Ctx.A (c : Ctx) (cs : Scope) : Around := ktrTop c.dp c.un c.gd c.cn cs c.L c.a c.ccd c.cl c.outer
abbrev Ctx.env (c : Ctx) (cs : Scope) : Env := envX c.cn cs c.L c.a c.ccd c.cl
abbrev Ctx.st (c : Ctx) (h : Heap) (t : Nat) : Shared := ⟨h, c.g, c.d, t, c.os⟩

/-- an expression's value, the ledger as it was -/
def Ev (c : Ctx) (cs : Scope) (md : Loc) (news : Led) (e : Expr) (d : VD) : Prop :=
  ∀ (m : Str → Option Value) (h : Heap) (t : Nat) (Q E : Value → Shared → Prop), Fits m md → Fr c.h₀ c.L h m → News c.h₀ c.L h news →
    (∀ v h' t', d.Has v → Fr c.h₀ c.L h' m → News c.h₀ c.L h' news → Q v (c.st h' t')) → wpAny c.M (c.A cs) (eval e (c.env cs)) Q E (c.st h t)
/-- a test -/
def Et (c : Ctx) (cs : Scope) (md : Loc) (news : Led) (e : Expr) (b : Bool) : Prop :=
  ∀ (m : Str → Option Value) (h : Heap) (t : Nat) (Q : Bool → Shared → Prop) (E : Value → Shared → Prop), Fits m md → Fr c.h₀ c.L h m → News c.h₀ c.L h news →
    (∀ h' t', Fr c.h₀ c.L h' m → News c.h₀ c.L h' news → Q b (c.st h' t')) → wpAny c.M (c.A cs) (PySem.isTrue e (c.env cs) (eval e (c.env cs))) Q E (c.st h t)
/-- a call's arguments -/
def EvL (c : Ctx) (cs : Scope) (md : Loc) (news : Led) (pos : Pos) (es : List Expr) (ds : List VD) : Prop :=
  ∀ (m : Str → Option Value) (h : Heap) (t : Nat) (Q : List Value → Shared → Prop) (E : Value → Shared → Prop), Fits m md → Fr c.h₀ c.L h m → News c.h₀ c.L h news →
    (∀ vs h' t', HasL ds vs → Fr c.h₀ c.L h' m → News c.h₀ c.L h' news → Q vs (c.st h' t')) → wpAny c.M (c.A cs) (spliced (backTo pos (starEach es (c.env cs)))) Q E (c.st h t)

section
variable {c : Ctx} {cs : Scope} {md : Loc} {news : Led} {need : Nat} {pos : Pos}
theorem Ev.name (ok : c.Ok cs need) {x : Str} {d : VD} (hl : md.lookup x = some d) (hx : cs.names.lookup x = some .local) (hd : (x == ("__debug__" : Str)) = false) : Ev c cs md news (.Name x pos) d := by
  intro m h t Q E hm F N k
  obtain ⟨v, hv, hh⟩ := hm _ _ hl
  refine nameX_L F hv (k v h t hh F N) ok.hk ?_ hd
  unfold Env.kindOf
  exact hx
theorem Ev.cint {i : Int} {k : Nat} : Ev c cs md news (.Constant (.int i) k pos) (.int i i i) := by
  intro m h t Q E hm F N k
  exact wpAny_Constant_int (k _ _ _ ⟨⟨_, rfl⟩, Int.le_refl _, Int.le_refl _⟩ F N)
theorem Ev.cstr {x : Str} {K : Nat} {k : Nat} (hK : x.length ≤ K) : Ev c cs md news (.Constant (.str x) k pos) (.str x K) := by
  intro m h t Q E hm F N k
  exact Calls.Constant_str (k _ _ _ ⟨⟨_, rfl⟩, hK⟩ F N)
theorem Ev.cnone {k : Nat} : Ev c cs md news (.Constant .none k pos) (.val .none) := by
  intro m h t Q E hm F N k
  exact wpAny_Constant_none (k _ _ _ rfl F N)
theorem Ev.addS {l r : Expr} {x y : Str} {K L : Nat} (hl : Ev c cs md news l (.str x K)) (hr : Ev c cs md news r (.str y L)) (hKL : K + L ≤ 16777216) : Ev c cs md news (.BinOp l .Add r pos) (.str (x ++ y) (K + L)) := by
  intro m h t Q E hm F N k
  refine wpAny_BinOp (hl m h t _ _ hm F N fun v h1 t1 q1 F1 N1 => hr m h1 t1 _ _ hm F1 N1 fun u h2 t2 q2 F2 N2 => ?_)
  obtain ⟨⟨tv, rfl⟩, hx⟩ := q1
  obtain ⟨⟨tu, rfl⟩, hy⟩ := q2
  exact KXadd.add hx hy hKL fun t' k' _ => k _ _ _ ⟨⟨_, rfl⟩, by rw [PySem.Str.length_append]; omega⟩ F2 N2
theorem Ev.mulS {l r : Expr} {x : Str} {i lo hi : Int} (hl : Ev c cs md news l (.str x 1)) (hx1 : x.length = 1) (hr : Ev c cs md news r (.int i lo hi)) (hlo : -2 ^ 63 ≤ lo) (hhi : hi ≤ 1048576) : Ev c cs md news (.BinOp l .Mult r pos) (.str (Txt.mul x i) hi.toNat) := by
  intro m h t Q E hm F N k
  refine wpAny_BinOp (hl m h t _ _ hm F N fun v h1 t1 q1 F1 N1 => hr m h1 t1 _ _ hm F1 N1 fun u h2 t2 q2 F2 N2 => ?_)
  obtain ⟨⟨tv, rfl⟩, hx⟩ := q1
  obtain ⟨⟨tu, rfl⟩, hy1, hy2⟩ := q2
  refine KXi.mul hx1 (by decide) (by omega) (by omega) fun t' k' _ _ => k _ _ _ ⟨⟨_, rfl⟩, ?_⟩ F2 N2
  rw [mul_len _ hx1]; omega
theorem Ev.addI {l r : Expr} {a a1 a2 b b1 b2 : Int} (hl : Ev c cs md news l (.int a a1 a2)) (hr : Ev c cs md news r (.int b b1 b2)) : Ev c cs md news (.BinOp l .Add r pos) (.int (a + b) (a1 + b1) (a2 + b2)) := by
  intro m h t Q E hm F N k
  refine wpAny_BinOp (hl m h t _ _ hm F N fun v h1 t1 q1 F1 N1 => hr m h1 t1 _ _ hm F1 N1 fun u h2 t2 q2 F2 N2 => ?_)
  obtain ⟨⟨tv, rfl⟩, hx1, hx2⟩ := q1
  obtain ⟨⟨tu, rfl⟩, hy1, hy2⟩ := q2
  exact add_int (k _ _ _ ⟨⟨_, rfl⟩, by omega, by omega⟩ F2 N2)
theorem Ev.subI {l r : Expr} {a a1 a2 b b1 b2 : Int} (hl : Ev c cs md news l (.int a a1 a2)) (hr : Ev c cs md news r (.int b b1 b2)) : Ev c cs md news (.BinOp l .Sub r pos) (.int (a - b) (a1 - b2) (a2 - b1)) := by
  intro m h t Q E hm F N k
  refine wpAny_BinOp (hl m h t _ _ hm F N fun v h1 t1 q1 F1 N1 => hr m h1 t1 _ _ hm F1 N1 fun u h2 t2 q2 F2 N2 => ?_)
  obtain ⟨⟨tv, rfl⟩, hx1, hx2⟩ := q1
  obtain ⟨⟨tu, rfl⟩, hy1, hy2⟩ := q2
  exact sub_int (k _ _ _ ⟨⟨_, rfl⟩, by omega, by omega⟩ F2 N2)
theorem Ev.neg {l : Expr} {a a1 a2 : Int} (hl : Ev c cs md news l (.int a a1 a2)) : Ev c cs md news (.UnaryOp .USub l pos) (.int (-a) (-a2) (-a1)) := by
  intro m h t Q E hm F N k
  refine UnaryOp_ ?_
  refine hl m h t _ _ hm F N fun v h1 t1 q1 F1 N1 => ?_
  obtain ⟨⟨tv, rfl⟩, hx1, hx2⟩ := q1
  have K := k (.int (-a) t1) h1 (t1 + 1) ⟨⟨_, rfl⟩, by omega, by omega⟩ F1 N1
  walk1
  exact K
theorem EvL.nil : EvL c cs md news pos [] [] := by
  intro m h t Q E hm F N k
  exact spliced_none (k _ _ _ .nil F N)
theorem EvL.cons {e : Expr} {rest : List Expr} {d : VD} {ds : List VD} (he : Ev c cs md news e d) (hr : EvL c cs md news pos rest ds) (hs : starEach (e :: rest) (c.env cs) = (false, eval e (c.env cs)) :: starEach rest (c.env cs)) : EvL c cs md news pos (e :: rest) (d :: ds) := by
  intro m h t Q E hm F N k
  exact args_cons (he m h t _ _ hm F N fun v h1 t1 q1 F1 N1 => hr m h1 t1 _ _ hm F1 N1 fun vs h2 t2 q2 F2 N2 => k _ _ _ (.cons q1 q2) F2 N2) hs
end
def isStar : Expr → Bool
  | .Starred .. => true
  | _ => false
theorem starEach_plain {e : Expr} (h : isStar e = false) (rest : List Expr) (env : Env) : starEach (e :: rest) env = (false, eval e env) :: starEach rest env := by
  cases e <;> first | rfl | cases h
theorem starEach_none {es : List Expr} (h : es.any isStar = false) (pos : Pos) (env : Env) : ((backTo pos (starEach es env)).any fun x => x.1) = false := by
  induction es with
  | nil => rfl
  | cons e rest ih =>
    rw [List.any_cons, Bool.or_eq_false_iff] at h
    rw [starEach_plain h.1]
    have ih' := ih h.2
    show (((backTo pos ((false, eval e env) :: starEach rest env))).any fun x => x.1) = false
    unfold backTo at ih' ⊢
    rw [List.map_cons, List.any_cons, ih']
    rfl

/-- a def's contract: for every values that fit, from every ledger -/
def Def (f : Addr) (ds : List VD) (news : Led) (need : Nat) (R : Value → Led → Prop) : Prop :=
  ∀ (w : World) (mean : ExcName → Option Value) (mg mb : Str → Option Value) (vs : List Value), HasL ds vs → Calls w mean mg mb f vs news need R
/-- at return -/
abbrev Ret (d : VD) (news : Led) : Value → Led → Prop := fun v nw => d.Has v ∧ nw = news
/-- statements: R at a return, J at the end -/
def Ex (c : Ctx) (cs : Scope) (md : Loc) (news : Led) (ss : List Stmt) (R : Value → Led → Prop) (J : Loc → Led → Prop) : Prop :=
  ∀ (m : Str → Option Value) (h : Heap) (t : Nat) (Q : Flow → Shared → Prop) (E : Value → Shared → Prop), Fits m md → Fr c.h₀ c.L h m → News c.h₀ c.L h news →
    (∀ v news' m' h' t', R v news' → Fr c.h₀ c.L h' m' → News c.h₀ c.L h' news' → Q (.ret v) (c.st h' t')) →
    (∀ md' news' m' h' t', J md' news' → Fits m' md' → Fr c.h₀ c.L h' m' → News c.h₀ c.L h' news' → Q .next (c.st h' t')) →
    wpAny c.M (c.A cs) (execs ss (c.env cs)) Q E (c.st h t)

theorem Fits.set {m : Str → Option Value} {md : Loc} {x : Str} {d : VD} {v : Value} (h : Fits m md) (hv : d.Has v) : Fits (fun y => if y = x then some v else m y) ((x, d) :: md) := by
  intro y e he
  rw [List.lookup_cons] at he
  by_cases hy : y = x
  · subst hy
    rw [beq_self_eq_true] at he
    cases he
    exact ⟨v, if_pos rfl, hv⟩
  · rw [show (y == x) = false from beq_eq_false_iff_ne.mpr hy] at he
    obtain ⟨u, hu, hh⟩ := h y e he
    exact ⟨u, (if_neg hy).trans hu, hh⟩

section
variable {c : Ctx} {cs : Scope} {md : Loc} {news : Led} {need : Nat} {pos np : Pos} {rest : List Stmt} {R : Value → Led → Prop} {J J1 : Loc → Led → Prop}
theorem Ev.int (a1 a2 : Int) {e : Expr} {a b1 b2 : Int} (h : Ev c cs md news e (.int a b1 b2)) (ha : b1 ≤ a → a ≤ b2 → a1 ≤ a ∧ a ≤ a2) : Ev c cs md news e (.int a a1 a2) := by
  intro m h' t Q E hm F N k
  exact h m h' t Q E hm F N fun v h1 t1 q F1 N1 => k v h1 t1 ⟨q.1, ha q.2.1 q.2.2⟩ F1 N1
theorem Ev.str (L : Nat) {e : Expr} {x : Str} {K : Nat} (h : Ev c cs md news e (.str x K)) (ha : x.length ≤ K → x.length ≤ L) : Ev c cs md news e (.str x L) := by
  intro m h' t Q E hm F N k
  exact h m h' t Q E hm F N fun v h1 t1 q F1 N1 => k v h1 t1 ⟨q.1, ha q.2⟩ F1 N1
/-- what holds of a value may be used in what is shown of it -/
theorem Ev.bcall (ok : c.Ok cs need) {x : Str} {id : String} {e : Expr} {p d : VD} (hg : nsIn (hd.heap_39 c.w.params) mainGlobals x = some none) (hb : bootBuiltins x = some (.builtin id)) (hne : x ≠ ("__name__" : Str))
    (hx : cs.names.lookup x = some .globalImplicit) (hd : (x == ("__debug__" : Str)) = false) (he : Ev c cs md news e p) (hs : isStar e = false)
    (hc : ∀ v h t (Q E : Value → Shared → Prop), p.Has v → (∀ u t', d.Has u → Q u (c.st h t')) → wpAny c.M (c.A cs) (call (.builtin id) [v]) Q E (c.st h t)) :
    Ev c cs md news (.Call (.Name x np) [e] [] pos) d := by
  intro m h t Q E hm F N k
  refine Call_ (nameX_B F ok.X (topRead_of ok.T) hg hb hne ?_ ok.hk (by unfold Env.kindOf; exact hx) hd)
  refine PyProof.Rows.callWith_builtin1 ?_ (starEach_plain hs _ _) rfl
  refine args_cons (he m h t _ _ hm F N fun v h1 t1 q1 F1 N1 => spliced_none ?_) (starEach_plain hs _ _)
  exact hc v h1 t1 _ _ q1 fun u t' hu => k u h1 t' hu F1 N1
theorem Ev.tcall (ok : c.Ok cs need) {x : Str} {id : String} {e : Expr} {p d : VD} (hg : nsIn (hd.heap_39 c.w.params) mainGlobals x = some none) (hb : bootBuiltins x = some (.type id)) (hne : x ≠ ("__name__" : Str))
    (hx : cs.names.lookup x = some .globalImplicit) (hd : (x == ("__debug__" : Str)) = false) (he : Ev c cs md news e p) (hs : isStar e = false)
    (hc : ∀ v h t (Q E : Value → Shared → Prop), p.Has v → (∀ u t', d.Has u → Q u (c.st h t')) → wpAny c.M (c.A cs) (call (.type id) [v]) Q E (c.st h t)) :
    Ev c cs md news (.Call (.Name x np) [e] [] pos) d := by
  intro m h t Q E hm F N k
  refine Call_ (nameX_B F ok.X (topRead_of ok.T) hg hb hne ?_ ok.hk (by unfold Env.kindOf; exact hx) hd)
  refine PyProof.Rows.callWith_type1 ?_ (starEach_plain hs _ _) rfl
  refine args_cons (he m h t _ _ hm F N fun v h1 t1 q1 F1 N1 => spliced_none ?_) (starEach_plain hs _ _)
  exact hc v h1 t1 _ _ q1 fun u t' hu => k u h1 t' hu F1 N1
theorem g_len (w : World) : nsIn (hd.heap_39 w.params) mainGlobals "len" = some none := by kernel_rfl
theorem g_str (w : World) : nsIn (hd.heap_39 w.params) mainGlobals "str" = some none := by kernel_rfl
theorem g_abs (w : World) : nsIn (hd.heap_39 w.params) mainGlobals "abs" = some none := by kernel_rfl
theorem log_small {n : Nat} (h : n < 2 ^ 30) : n.log2 < 1920 := by
  by_cases h0 : n = 0
  · subst h0; decide
  · exact Nat.lt_trans ((Nat.log2_lt h0).mpr h) (by decide)
theorem Ev.len (ok : c.Ok cs need) {e : Expr} {x : Str} {K : Nat} (he : Ev c cs md news e (.str x K)) (hK : K ≤ 16777216) (hx : cs.names.lookup ("len" : Str) = some .globalImplicit) (hs : isStar e = false) :
    Ev c cs md news (.Call (.Name "len" np) [e] [] pos) (.int x.length 0 K) := by
  refine Ev.bcall ok (g_len _) PySem.boot_len (by decide) hx (by decide) he hs ?_
  rintro v h t Q E ⟨⟨tv, rfl⟩, hx⟩ k
  exact P.len_str (by omega) (k _ _ ⟨⟨_, rfl⟩, by omega, by omega⟩)
theorem Ev.strOf (ok : c.Ok cs need) {e : Expr} {a a1 a2 : Int} (he : Ev c cs md news e (.int a a1 a2)) (h1 : 0 ≤ a1) (h2 : a2 < 10 ^ 9) (hx : cs.names.lookup ("str" : Str) = some .globalImplicit) (hs : isStar e = false) :
    Ev c cs md news (.Call (.Name "str" np) [e] [] pos) (.str (Str.ofString (toString a)) 9) := by
  refine Ev.tcall ok (g_str _) PyProof.Rows.boot_str (by decide) hx (by decide) he hs ?_
  rintro v h t Q E ⟨⟨tv, rfl⟩, hx1, hx2⟩ k
  exact P.str_of_int (log_small (by omega)) (k _ _ ⟨⟨_, rfl⟩, toString_length_le (by omega) (by decide) (by omega)⟩)
theorem Ev.abs (ok : c.Ok cs need) {e : Expr} {a a1 a2 : Int} (he : Ev c cs md news e (.int a a1 a2)) (hx : cs.names.lookup ("abs" : Str) = some .globalImplicit) (hs : isStar e = false) :
    Ev c cs md news (.Call (.Name "abs" np) [e] [] pos) (.int (absI a) 0 (max (-a1) a2)) := by
  refine Ev.bcall ok (g_abs _) PyProof.Rows.boot_abs (by decide) hx (by decide) he hs ?_
  rintro v h t Q E ⟨⟨tv, rfl⟩, hx1, hx2⟩ k
  exact call_absI fun u tk => k _ _ ⟨⟨_, rfl⟩, by unfold absI; split <;> omega, by unfold absI; split <;> omega⟩
/-- a call of a def of the text's -/
theorem Ev.call (ok : c.Ok cs need) {x : Str} {f : Addr} {e : Expr} {es : List Expr} {ds : List VD} {d : VD} {need' : Nat} (C : Def f ds news need' (Ret d news)) (ha : EvL c cs md news pos (e :: es) ds)
    (hg : nsIn (hd.heap_39 c.w.params) mainGlobals x = some (some (.ref f))) (hf : keepIn (hd.heap_39 c.w.params) (.ref f) = true) (hn : need' ≤ need)
    (hx : cs.names.lookup x = some .globalImplicit) (hd : (x == ("__debug__" : Str)) = false) (hs : isStar e = false) (hss : es.any isStar = false) :
    Ev c cs md news (.Call (.Name x np) (e :: es) [] pos) d := by
  intro m h t Q E hm F N k
  refine Call_ (nameX_K F ok.X (topRead_of ok.T) hg ?_ ok.hk (by unfold Env.kindOf; exact hx) hd)
  refine callWith_K ok.X hf ?_ (starEach_plain hs _ _) (starEach_none hss _ _)
  refine ha m h t _ _ hm F N fun vs h1 t1 q1 F1 N1 => ⟨ok.X.keeps F1.keep, ?_⟩
  refine use (C c.w c.mean c.mg c.mb vs q1) ok.B F1 ok.X N1 ok.T ok.hk (by have := ok.hdp; omega) (by have := ok.hun; omega) fun v nw h2 t2 r F2 N2 => ?_
  obtain ⟨r1, rfl⟩ := r
  exact k v h2 t2 r1 F2 N2
theorem Ev.sliceTo {e p : Expr} {ps : Pos} {x : Str} {K : Nat} {j j1 j2 : Int} (he : Ev c cs md news e (.str x K)) (hp : Ev c cs md news p (.int j j1 j2)) (hK : K ≤ 16777216) (hl : ∀ (y : Str) (t : Tok) (r : Value), letTemporaryGo e (.str y t) r = pure ()) :
    Ev c cs md news (.Subscript e (.Slice none (some p) none ps) pos) (.str (Txt.slice x none (some j)) K) := by
  intro m h t Q E hm F N k
  refine Subscript_ (he m h t _ _ hm F N fun v h1 t1 q1 F1 N1 => wpAny_Slice (evalPart_none_step (evalPart_some_step (hp m h1 t1 _ _ hm F1 N1 fun u h2 t2 q2 F2 N2 => evalPart_none_step ?_))))
  obtain ⟨⟨tv, rfl⟩, hx⟩ := q1
  obtain ⟨⟨tu, rfl⟩, _, _⟩ := q2
  exact slice_strN_ns_len (s := c.st h2 t2) F2 N2 (fun h' t' k' F' N' hb => k _ _ _ ⟨⟨_, rfl⟩, by omega⟩ F' N') (by with_unfolding_all rfl) (hl _ _) (by rw [sizeLine_eq]; omega)
theorem Ev.sliceFrom {e p : Expr} {ps : Pos} {x : Str} {K : Nat} {j j1 j2 : Int} (he : Ev c cs md news e (.str x K)) (hp : Ev c cs md news p (.int j j1 j2)) (hK : K ≤ 16777216) (hl : ∀ (y : Str) (t : Tok) (r : Value), letTemporaryGo e (.str y t) r = pure ()) :
    Ev c cs md news (.Subscript e (.Slice (some p) none none ps) pos) (.str (Txt.slice x (some j) none) K) := by
  intro m h t Q E hm F N k
  refine Subscript_ (he m h t _ _ hm F N fun v h1 t1 q1 F1 N1 => wpAny_Slice (evalPart_some_step (hp m h1 t1 _ _ hm F1 N1 fun u h2 t2 q2 F2 N2 => evalPart_none_step (evalPart_none_step ?_))))
  obtain ⟨⟨tv, rfl⟩, hx⟩ := q1
  obtain ⟨⟨tu, rfl⟩, _, _⟩ := q2
  exact slice_strN_sn_len (s := c.st h2 t2) F2 N2 (fun h' t' k' F' N' hb => k _ _ _ ⟨⟨_, rfl⟩, by omega⟩ F' N') (by with_unfolding_all rfl) (hl _ _) (by rw [sizeLine_eq]; omega)
/-- a place of a tuple of the ledger -/
theorem Ev.place {e : Expr} {a : Addr} {vs : Array Value} {n k : Nat} {d : VD} {v : Value} {kk : Nat} {pp : Pos} (he : Ev c cs md news e (.val (.ref a))) (hm : (a, tupOf vs n) ∈ news) (hv : vs.toList[k]? = some v) (hd : d.Has v) (hk : k < 2 ^ 60) :
    Ev c cs md news (.Subscript e (.Constant (.int k) kk pp) pos) d := by
  intro m h t Q E hm' F N q
  refine Subscript_ (he m h t _ _ hm' F N fun u h1 t1 q1 F1 N1 => wpAny_Constant_int ?_)
  cases q1
  have hlt : k < vs.toList.length := by
    rcases Nat.lt_or_ge k vs.toList.length with z | z
    · exact z
    · rw [List.getElem?_eq_none z] at hv; cases hv
  refine item_tupleT (l := vs.toList) (j := k) (News.isTup N1 hm) (by omega) (by omega) ?_ hv (q v h1 _ hd F1 N1) (by with_unfolding_all rfl)
  unfold seqIndex?
  have hk0 : ¬ ((k : Int) < 0) := by omega
  rw [Array.length_toList] at hlt
  simp [hk0, hlt]
theorem Ev.ifexp {t p q : Expr} {b : Bool} {d : VD} (ht : Et c cs md news t b) (hp : b = true → Ev c cs md news p d) (hq : b = false → Ev c cs md news q d) : Ev c cs md news (.IfExp t p q pos) d := by
  intro m h tt Q E hm F N k
  refine IfExp_ (ht m h tt _ _ hm F N fun h1 t1 F1 N1 => ?_)
  cases b with
  | true => exact hp rfl m h1 t1 _ _ hm F1 N1 k
  | false => exact hq rfl m h1 t1 _ _ hm F1 N1 k

theorem Et.plain {e : Expr} {b : Bool} (he : Ev c cs md news e (.bool b)) (ht : PySem.isTrue e (c.env cs) (eval e (c.env cs)) = (do let v ← eval e (c.env cs); standAt e.pos; holding [v] (truthy v))) : Et c cs md news e b := by
  intro m h t Q E hm F N k
  refine isTrue_plain (he m h t _ _ hm F N fun v h1 t1 q F1 N1 => ?_) ht
  cases q
  exact wpAny_truthy_bool (k h1 t1 F1 N1)
theorem Et.cmp {op : CmpOp} {l r : Expr} {p q : VD} {b : Bool} (hl : Ev c cs md news l p) (hr : Ev c cs md news r q)
    (ho : ∀ (u v : Value) (h : Heap) (t : Nat) (Q E : Value → Shared → Prop), p.Has u → q.Has v → Q (.bool b) (c.st h t) → wpAny c.M (c.A cs) (compareOp op u v) Q E (c.st h t))
    (hb : behindInMarks op r = false) : Et c cs md news (.Compare l [op] [r] pos) b := by
  intro m h t Q E hm F N k
  refine wpAny_isTrue_Compare1 (hl m h t _ _ hm F N fun v h1 t1 q1 F1 N1 => hr m h1 t1 _ _ hm F1 N1 fun u h2 t2 q2 F2 N2 => ?_) hb
  exact ho v u h2 t2 _ _ q1 q2 (wpAny_truthy_bool (k h2 t2 F2 N2))
theorem Ev.cmp {op : CmpOp} {l r : Expr} {p q : VD} {b : Bool} (hl : Ev c cs md news l p) (hr : Ev c cs md news r q)
    (ho : ∀ (u v : Value) (h : Heap) (t : Nat) (Q E : Value → Shared → Prop), p.Has u → q.Has v → Q (.bool b) (c.st h t) → wpAny c.M (c.A cs) (compareOp op u v) Q E (c.st h t))
    (hb : behindInMarks op r = false) : Ev c cs md news (.Compare l [op] [r] pos) (.bool b) := by
  intro m h t Q E hm F N k
  refine wpAny_Compare1 (hl m h t _ _ hm F N fun v h1 t1 q1 F1 N1 => hr m h1 t1 _ _ hm F1 N1 fun u h2 t2 q2 F2 N2 => ?_) hb
  exact ho v u h2 t2 _ _ q1 q2 (k _ h2 t2 rfl F2 N2)
section
variable {a a1 a2 b b1 b2 : Int} {x y : Str} {K L : Nat} {u v : Value} {h : Heap} {t : Nat} {Q E : Value → Shared → Prop}
theorem o_lt (p : (VD.int a a1 a2).Has u) (q : (VD.int b b1 b2).Has v) (k : Q (.bool (decide (a < b))) (c.st h t)) : wpAny c.M (c.A cs) (compareOp .Lt u v) Q E (c.st h t) := by
  obtain ⟨⟨_, rfl⟩, _⟩ := p; obtain ⟨⟨_, rfl⟩, _⟩ := q; exact lt_int k
theorem o_le (p : (VD.int a a1 a2).Has u) (q : (VD.int b b1 b2).Has v) (k : Q (.bool (decide (a ≤ b))) (c.st h t)) : wpAny c.M (c.A cs) (compareOp .LtE u v) Q E (c.st h t) := by
  obtain ⟨⟨_, rfl⟩, _⟩ := p; obtain ⟨⟨_, rfl⟩, _⟩ := q; exact le_int k
theorem o_gt (p : (VD.int a a1 a2).Has u) (q : (VD.int b b1 b2).Has v) (k : Q (.bool (decide (b < a))) (c.st h t)) : wpAny c.M (c.A cs) (compareOp .Gt u v) Q E (c.st h t) := by
  obtain ⟨⟨_, rfl⟩, _⟩ := p; obtain ⟨⟨_, rfl⟩, _⟩ := q; exact gt_int k
theorem o_ge (p : (VD.int a a1 a2).Has u) (q : (VD.int b b1 b2).Has v) (k : Q (.bool (decide (b ≤ a))) (c.st h t)) : wpAny c.M (c.A cs) (compareOp .GtE u v) Q E (c.st h t) := by
  obtain ⟨⟨_, rfl⟩, _⟩ := p; obtain ⟨⟨_, rfl⟩, _⟩ := q; exact ge_int k
theorem o_eq (p : (VD.int a a1 a2).Has u) (q : (VD.int b b1 b2).Has v) (k : Q (.bool (a == b)) (c.st h t)) : wpAny c.M (c.A cs) (compareOp .Eq u v) Q E (c.st h t) := by
  obtain ⟨⟨_, rfl⟩, _⟩ := p; obtain ⟨⟨_, rfl⟩, _⟩ := q; exact eq_int k
theorem o_ne (p : (VD.int a a1 a2).Has u) (q : (VD.int b b1 b2).Has v) (k : Q (.bool (a != b)) (c.st h t)) : wpAny c.M (c.A cs) (compareOp .NotEq u v) Q E (c.st h t) := by
  obtain ⟨⟨_, rfl⟩, _⟩ := p; obtain ⟨⟨_, rfl⟩, _⟩ := q; exact ne_int k
theorem o_eqS (p : (VD.str x K).Has u) (q : (VD.str y L).Has v) (k : Q (.bool (x == y)) (c.st h t)) : wpAny c.M (c.A cs) (compareOp .Eq u v) Q E (c.st h t) := by
  obtain ⟨⟨_, rfl⟩, _⟩ := p; obtain ⟨⟨_, rfl⟩, _⟩ := q; exact eq_str k
theorem o_neS (p : (VD.str x K).Has u) (q : (VD.str y L).Has v) (k : Q (.bool (x != y)) (c.st h t)) : wpAny c.M (c.A cs) (compareOp .NotEq u v) Q E (c.st h t) := by
  obtain ⟨⟨_, rfl⟩, _⟩ := p; obtain ⟨⟨_, rfl⟩, _⟩ := q; exact ne_str k
theorem o_geS (p : (VD.str x K).Has u) (q : (VD.str y L).Has v) (k : Q (.bool (!decide (x.cps.toList < y.cps.toList))) (c.st h t)) : wpAny c.M (c.A cs) (compareOp .GtE u v) Q E (c.st h t) := by
  obtain ⟨⟨_, rfl⟩, _⟩ := p; obtain ⟨⟨_, rfl⟩, _⟩ := q; exact P.ge_str k
theorem o_isN (p : (VD.val .none).Has u) (q : (VD.val .none).Has v) (k : Q (.bool true) (c.st h t)) : wpAny c.M (c.A cs) (compareOp .Is u v) Q E (c.st h t) := by
  cases p; cases q; exact is_none_none k
theorem o_isI (p : (VD.int a a1 a2).Has u) (q : (VD.val .none).Has v) (k : Q (.bool false) (c.st h t)) : wpAny c.M (c.A cs) (compareOp .Is u v) Q E (c.st h t) := by
  obtain ⟨⟨_, rfl⟩, _⟩ := p; cases q; exact is_int_none k
theorem o_isS (p : (VD.str x K).Has u) (q : (VD.val .none).Has v) (k : Q (.bool false) (c.st h t)) : wpAny c.M (c.A cs) (compareOp .Is u v) Q E (c.st h t) := by
  obtain ⟨⟨_, rfl⟩, _⟩ := p; cases q; exact is_str_none k
theorem o_isnI (p : (VD.int a a1 a2).Has u) (q : (VD.val .none).Has v) (k : Q (.bool true) (c.st h t)) : wpAny c.M (c.A cs) (compareOp .IsNot u v) Q E (c.st h t) := by
  obtain ⟨⟨_, rfl⟩, _⟩ := p; cases q; exact isnot_int_none k
theorem o_isnN (p : (VD.val .none).Has u) (q : (VD.val .none).Has v) (k : Q (.bool false) (c.st h t)) : wpAny c.M (c.A cs) (compareOp .IsNot u v) Q E (c.st h t) := by
  cases p; cases q; exact isnot_none_none k
end
theorem Et.and2 {p q : Expr} {a b : Bool} (hp : Et c cs md news p a) (hq : a = true → Et c cs md news q b) : Et c cs md news (.BoolOp .And [p, q] pos) (a && b) := by
  intro m h t Q E hm F N k
  refine isTrue_and (hp m h t _ _ hm F N fun h1 t1 F1 N1 => ?_)
  cases a with
  | true => exact isTrue_and (hq rfl m h1 t1 _ _ hm F1 N1 fun h2 t2 F2 N2 => (by cases b with
    | true => exact isTrue_and_nil (k h2 t2 F2 N2)
    | false => exact k h2 t2 F2 N2))
  | false => exact k h1 t1 F1 N1
theorem Et.or2 {p q : Expr} {a b : Bool} (hp : Et c cs md news p a) (hq : a = false → Et c cs md news q b) : Et c cs md news (.BoolOp .Or [p, q] pos) (a || b) := by
  intro m h t Q E hm F N k
  refine isTrue_or (hp m h t _ _ hm F N fun h1 t1 F1 N1 => ?_)
  cases a with
  | true => exact k h1 t1 F1 N1
  | false => exact isTrue_or (hq rfl m h1 t1 _ _ hm F1 N1 fun h2 t2 F2 N2 => (by cases b with
    | true => exact k h2 t2 F2 N2
    | false => exact isTrue_or_nil (k h2 t2 F2 N2)))
theorem Et.not {p : Expr} {a : Bool} (hp : Et c cs md news p a) : Et c cs md news (.UnaryOp .Not p pos) (!a) := by
  intro m h t Q E hm F N k
  exact isTrue_not (hp m h t _ _ hm F N k)
theorem Ev.and2 {p q : Expr} {a b : Bool} (hp : Ev c cs md news p (.bool a)) (hq : Ev c cs md news q (.bool b)) : Ev c cs md news (.BoolOp .And [p, q] pos) (.bool (a && b)) := by
  intro m h t Q E hm F N k
  refine BoolOp_and (hp m h t _ _ hm F N fun v h1 t1 q1 F1 N1 => ?_)
  cases q1
  refine wpAny_truthy_bool ?_
  cases a with
  | true => exact BoolOp_one (hq m h1 t1 _ _ hm F1 N1 k)
  | false => exact k _ h1 t1 rfl F1 N1

theorem Ex.nil (h : J md news) : Ex c cs md news [] R J := fun m hp t Q E hm F N kr kj => wpAny_execs_nil (kj md news m hp t h hm F N)
theorem Ex.ret {e : Expr} {d : VD} (he : Ev c cs md news e d) (hr : ∀ v, d.Has v → R v news) : Ex c cs md news (.Return (some e) pos :: rest) R J := by
  intro m h t Q E hm F N kr kj
  exact wpAny_execs_cons (wpAny_Return_some (he m h t _ _ hm F N fun v h1 t1 q F1 N1 => kr v news m h1 t1 (hr v q) F1 N1))
theorem Ex.set (ok : c.Ok cs need) {x : Str} {e : Expr} {d : VD} (he : Ev c cs md news e d) (hx : cs.names.lookup x = some .local) (hsw : swapsWith e (some (.Name x np)) pos.line (c.env cs) = pure false)
    (hr : Ex c cs ((x, d) :: md) news rest R J) : Ex c cs md news (.Assign [.Name x np] e pos :: rest) R J := by
  intro m h t Q E hm F N kr kj
  refine wpAny_execs_cons (wpAny_Assign_Name (he m h t _ _ hm F N fun v h1 t1 q F1 N1 => ?_) hsw)
  refine storeX_L F1 N1 (fun h2 F2 N2 => ?_) ok.hk (by unfold Env.kindOf; exact hx)
  exact hr _ h2 _ Q E (hm.set q) F2 N2 kr kj
theorem Ex.ite {t : Expr} {p q : List Stmt} {b : Bool} (ht : Et c cs md news t b) (hp : b = true → Ex c cs md news p R J1) (hq : b = false → Ex c cs md news q R J1)
    (hr : ∀ md' news', J1 md' news' → Ex c cs md' news' rest R J) : Ex c cs md news (.If t p q pos :: rest) R J := by
  intro m h tt Q E hm F N kr kj
  refine wpAny_execs_cons (wpAny_If (ht m h tt _ _ hm F N fun h1 t1 F1 N1 => ?_))
  have kj' : ∀ md' news' m' h' t', J1 md' news' → Fits m' md' → Fr c.h₀ c.L h' m' → News c.h₀ c.L h' news' → wpAny c.M (c.A cs) (execs rest (c.env cs)) Q E (c.st h' t') :=
    fun md' news' m' h' t' j hm' F' N' => hr md' news' j m' h' t' Q E hm' F' N' kr kj
  cases b with
  | true => exact hp rfl m h1 t1 _ _ hm F1 N1 kr kj'
  | false => exact hq rfl m h1 t1 _ _ hm F1 N1 kr kj'
/-- an if that leaves -/
theorem Ex.leave {t : Expr} {p : List Stmt} {b : Bool} (ht : Et c cs md news t b) (hp : b = true → Ex c cs md news p R fun _ _ => False) (hr : b = false → Ex c cs md news rest R J) : Ex c cs md news (.If t p [] pos :: rest) R J :=
  Ex.ite (J1 := fun md' news' => b = false ∧ md' = md ∧ news' = news) ht (fun hb m h t Q E hm F N kr kj => hp hb m h t Q E hm F N kr fun _ _ _ _ _ j => j.elim) (fun hb => Ex.nil ⟨hb, rfl, rfl⟩)
    (fun md' news' ⟨hb, e1, e2⟩ => by subst e1; subst e2; exact hr hb)
end
theorem HasL.len {ds : List VD} {vs : List Value} (h : HasL ds vs) : vs.length = ds.length := by
  induction h with
  | nil => rfl
  | cons _ _ ih => rw [List.length_cons, List.length_cons, ih]
theorem HasL.zip {ds : List VD} {vs : List Value} (h : HasL ds vs) (ns : List Str) : ∀ x d, (ns.zip ds).lookup x = some d → ∃ v, (ns.zip vs).lookup x = some v ∧ d.Has v := by
  induction h generalizing ns with
  | nil => intro x d q; rw [List.zip_nil_right] at q; cases q
  | cons h _ ih =>
    intro x d q
    cases ns with
    | nil => cases q
    | cons y ns =>
      rw [List.zip_cons_cons, List.lookup_cons] at q ⊢
      cases hy : x == y with
      | true => rw [hy] at q; cases q; exact ⟨_, rfl, h⟩
      | false => rw [hy] at q; exact ih ns x d q
theorem lookup_none {β : Type} {l : List (Str × β)} {x : Str} (h : x ∉ l.map (·.1)) : l.lookup x = none := by
  induction l with
  | nil => rfl
  | cons p l ih =>
    rw [List.map_cons, List.mem_cons, not_or] at h
    rw [List.lookup_cons, show (x == p.1) = false from beq_eq_false_iff_ne.mpr h.1]
    exact ih h.2
theorem lookup_reverse {β : Type} {l : List (Str × β)} (h : (l.map (·.1)).Nodup) (x : Str) : l.reverse.lookup x = l.lookup x := by
  induction l with
  | nil => rfl
  | cons p l ih =>
    rw [List.map_cons, List.nodup_cons] at h
    rw [List.reverse_cons, List.lookup_append, ih h.2, List.lookup_cons]
    cases hy : x == p.1 with
    | true =>
      rw [lookup_none (by rw [beq_iff_eq.mp hy]; exact h.1)]
      simp [List.lookup, hy]
    | false => simp [List.lookup, hy]
theorem zip_fst {ns : List Str} : ∀ {vs : List Value}, vs.length = ns.length → (ns.zip vs).map (·.1) = ns := by
  induction ns with
  | nil => intro vs h; rfl
  | cons n ns ih =>
    intro vs h
    cases vs with
    | nil => cases h
    | cons v vs => rw [List.zip_cons_cons, List.map_cons, ih (Nat.succ.inj h)]

theorem len_ind1 {P : List Value → Prop} (h : ∀ a, P [a]) : ∀ vs : List Value, vs.length = 1 → P vs
  | [a], _ => h a
theorem len_ind2 {P : List Value → Prop} (h : ∀ a b, P [a, b]) : ∀ vs : List Value, vs.length = 2 → P vs
  | [a, b], _ => h a b
theorem len_ind3 {P : List Value → Prop} (h : ∀ a b c, P [a, b, c]) : ∀ vs : List Value, vs.length = 3 → P vs
  | [a, b, c], _ => h a b c
theorem len_ind4 {P : List Value → Prop} (h : ∀ a b c d, P [a, b, c, d]) : ∀ vs : List Value, vs.length = 4 → P vs
  | [a, b, c, d], _ => h a b c d
theorem len_ind5 {P : List Value → Prop} (h : ∀ a b c d e, P [a, b, c, d, e]) : ∀ vs : List Value, vs.length = 5 → P vs
  | [a, b, c, d, e], _ => h a b c d e
theorem len_ind6 {P : List Value → Prop} (h : ∀ a b c d e f, P [a, b, c, d, e, f]) : ∀ vs : List Value, vs.length = 6 → P vs
  | [a, b, c, d, e, f], _ => h a b c d e f
theorem len_ind7 {P : List Value → Prop} (h : ∀ a b c d e f g, P [a, b, c, d, e, f, g]) : ∀ vs : List Value, vs.length = 7 → P vs
  | [a, b, c, d, e, f, g], _ => h a b c d e f g

def VD.Fact : VD → Prop
  | .int a lo hi => lo ≤ a ∧ a ≤ hi
  | .str x K => x.length ≤ K
  | _ => True
def Facts : List VD → Prop
  | [] => True
  | d :: ds => d.Fact ∧ Facts ds
theorem VD.Has.fact {d : VD} {v : Value} (h : d.Has v) : d.Fact := by
  cases d with
  | int => exact h.2
  | str => exact h.2
  | bool => trivial
  | val => trivial
theorem HasL.facts {ds : List VD} {vs : List Value} (h : HasL ds vs) : Facts ds := by
  induction h with
  | nil => trivial
  | cons h _ ih => exact ⟨h.fact, ih⟩
/-- a def's contract from its body -/
theorem Def.of {w : World} {f : Addr} {name qual : Str} {params : Arguments} {body : List Stmt} {scope : Scope} {dV kV doc pm cdv ct oc : Value} {an od : Option Addr} {osl : Array (Option Value)} {ds : List VD} {news : Led} {need : Nat} {R : Value → Led → Prop} {ns : List Str}
    (h1 : List.lookup f (hd.heap_39 w.params) = some { cls := oc, dict := od, data := Data.func (fnOf name qual params body scope dV kV doc pm an cdv ct), slots := osl }) (h2 : codeIn (hd.heap_39 w.params) cdv qual = true)
    (h3 : ∀ vs : List Value, vs.length = ds.length → bindArgs (fnOf name qual params body scope dV kV doc pm an cdv ct) ⟨vs, []⟩ = pure (ns.zip vs))
    (hn : ds.length = ns.length) (hnd : ns.Nodup) (hl : ∀ x ∈ ns, scope.names.lookup x = some .local)
    (hc : scope.isCoroutine = false) (hg : scope.isGenerator = false) (hk : scope.kind = .function) (hcell : ∀ x ∈ scope.names, x.2 ≠ NameKind.cell)
    (hb : ∀ c : Ctx, c.Ok scope need → Facts ds → Ex c scope (ns.zip ds) news body R fun _ _ => False) : ∀ (mean : ExcName → Option Value) (mg mb : Str → Option Value) (vs : List Value), HasL ds vs → Calls w mean mg mb f vs news (need + 1) R := by
  intro mean mg mb vs hvs dp un gd cn cs a ccd cl outer A₀ base h₀ L m s Q E B F X N T hks hdp hun hret
  have hlen := hvs.len
  refine wpAny_call (code_def B F X N T rfl rfl hks h1 h2 (by show dp < recursionLimit; omega) (BindsTo.of_eq (h3 vs hlen)) ?_ (fun g L' h' FG' F' N' B' X' T' => ?_) hc hg hk hcell)
  · intro y hy
    refine hl _ ?_
    have : y.1 ∈ (ns.zip vs).map (·.1) := List.mem_map_of_mem hy
    rwa [zip_fst (hlen.trans hn)] at this
  · obtain ⟨h, gg, d, t, os⟩ := s
    refine hb ⟨w, mean, mg, mb, dp + 1, un + 3, gd, qual, L', f, cdv, [], envX cn cs L a ccd cl :: outer, ktrTop dp un gd cn cs L a ccd cl outer, base, g, gg, d, os⟩
      ⟨B', X', T', hk, by show dp + 1 + need < _; omega, by show un + 3 + 8 * need < _; omega⟩ hvs.facts _ h' _ _ _ ?_ F' N' ?_ ?_
    · intro x d' hx
      show ∃ v, List.lookup x (ns.zip vs).reverse = some v ∧ _
      rw [lookup_reverse (by rw [zip_fst (hlen.trans hn)]; exact hnd)]
      exact hvs.zip ns x d' hx
    · intro v news' m' h2 t2 r F2 N2
      exact leaveK_ F2 N2 fun F3 N3 => hret v news' h2 t2 r F3 N3
    · intro _ _ _ _ _ j; exact j.elim
section
variable {c : Ctx} {cs : Scope} {md md2 : Loc} {news : Led} {need : Nat} {pos np : Pos} {rest : List Stmt} {R : Value → Led → Prop} {J J1 : Loc → Led → Prop}
theorem Ex.retS {e : Expr} {x y : Str} {K L : Nat} (he : Ev c cs md news e (.str x K)) (h : x = y) (hb : x.length ≤ K → y.length ≤ L) : Ex c cs md news (.Return (some e) pos :: rest) (Ret (.str y L) news) J :=
  Ex.ret he fun _ q => ⟨⟨by rw [← h]; exact q.1, hb q.2⟩, rfl⟩
theorem Ex.conv (h : ∀ m, Fits m md → Fits m md2) {ss : List Stmt} (he : Ex c cs md2 news ss R J) : Ex c cs md news ss R J := fun m hp t Q E hm F N kr kj => he m hp t Q E (h m hm) F N kr kj
theorem Fits.drop {m : Str → Option Value} {x : Str} {d d' : VD} (h : Fits m ((x, d) :: (x, d') :: md)) : Fits m ((x, d) :: md) := by
  intro y e he
  refine h y e ?_
  rw [List.lookup_cons] at he ⊢
  cases hy : y == x with
  | true => rw [hy] at he; exact he
  | false => rw [hy] at he; show List.lookup y ((x, d') :: md) = some e; rw [List.lookup_cons, hy]; exact he
theorem w_str {n K L : Nat} (h : K ≤ L) : n ≤ K → n ≤ L := fun q => Nat.le_trans q h
theorem w_int {a b1 b2 a1 a2 : Int} (h1 : a1 ≤ b1) (h2 : b2 ≤ a2) : b1 ≤ a → a ≤ b2 → a1 ≤ a ∧ a ≤ a2 := fun p q => ⟨Int.le_trans h1 p, Int.le_trans q h2⟩
theorem if_t {α : Type} {b : Bool} {x y : α} (h : b = true) : (if b = true then x else y) = x := if_pos h
theorem if_f {α : Type} {b : Bool} {x y : α} (h : b = false) : (if b = true then x else y) = y := by rw [h]; rfl
end
section
variable {c : Ctx} {cs : Scope} {md md2 : Loc} {news : Led} {need : Nat} {pos np : Pos} {rest : List Stmt} {R : Value → Led → Prop} {J J1 : Loc → Led → Prop}
theorem dT {P G : Prop} [Decidable P] (h : P → G) : decide P = true → G := fun q => h (of_decide_eq_true q)
theorem dF {P G : Prop} [Decidable P] (h : ¬ P → G) : decide P = false → G := fun q => h (of_decide_eq_false q)
theorem nT {P G : Prop} [Decidable P] (h : ¬ P → G) : (!decide P) = true → G := fun q => h (by intro p; rw [decide_eq_true p] at q; cases q)
theorem nF {P G : Prop} [Decidable P] (h : P → G) : (!decide P) = false → G := fun q => h (by
  rcases Classical.em P with p | p
  · exact p
  · rw [decide_eq_false p] at q; cases q)
theorem bT {a b : Int} {G : Prop} (h : a = b → G) : (a == b) = true → G := fun q => h (eq_of_beq q)
theorem bF {a b : Int} {G : Prop} (h : ¬ a = b → G) : (a == b) = false → G := fun q => h (ne_of_beq_false q)
/-- an if whose body may fall through, P then; what follows is walked for each -/
theorem Ex.iteP (P : Prop) {mdA : Loc} {t : Expr} {p : List Stmt} {b : Bool} (ht : Et c cs md news t b) (hp : b = true → Ex c cs md news p R fun md' nw => P ∧ md' = mdA ∧ nw = news)
    (h1 : b = true → P → Ex c cs mdA news rest R J) (h2 : b = false → Ex c cs md news rest R J) : Ex c cs md news (.If t p [] pos :: rest) R J :=
  Ex.ite (J1 := fun md' nw => nw = news ∧ ((b = true ∧ P ∧ md' = mdA) ∨ (b = false ∧ md' = md))) ht
    (fun hb m h tt Q E hm F N kr kj => hp hb m h tt Q E hm F N kr fun md' nw m' h' t' j => kj md' nw m' h' t' ⟨j.2.2, .inl ⟨hb, j.1, j.2.1⟩⟩) (fun hb => Ex.nil ⟨rfl, .inr ⟨hb, rfl⟩⟩)
    (fun md' nw ⟨e, j⟩ => by
      subst e
      rcases j with ⟨hb, hP, e⟩ | ⟨hb, e⟩
      · subst e; exact h1 hb hP
      · subst e; exact h2 hb)
/-- a text or None -/
def oD (o : Option Str) (K : Nat) : VD := match o with
  | none => .val .none
  | some x => .str x K
def zD (z : Option Int) : VD := match z with
  | none => .val .none
  | some k => .int k 1 5
theorem Ex.retO {e : Expr} {x : Str} {o : Option Str} {K L : Nat} (he : Ev c cs md news e (.str x K)) (h : o = some x) (hb : x.length ≤ K → x.length ≤ L) : Ex c cs md news (.Return (some e) pos :: rest) (Ret (oD o L) news) J :=
  Ex.ret he fun v q => ⟨by subst h; exact ⟨q.1, hb q.2⟩, rfl⟩
theorem Ex.retN {e : Expr} {o : Option Str} {L : Nat} (he : Ev c cs md news e (.val .none)) (h : o = none) : Ex c cs md news (.Return (some e) pos :: rest) (Ret (oD o L) news) J :=
  Ex.ret he fun v q => ⟨by subst h; exact q, rfl⟩
theorem Ex.retD {e : Expr} {d : VD} (he : Ev c cs md news e d) : Ex c cs md news (.Return (some e) pos :: rest) (Ret d news) J := Ex.ret he fun _ q => ⟨q, rfl⟩
/-- a value that is shown to be another's -/
theorem Ev.eqS {e : Expr} {x y : Str} {K : Nat} (he : Ev c cs md news e (.str x K)) (h : x = y) : Ev c cs md news e (.str y K) := h ▸ he
/-- a tuple made, or come back from a call -/
def EvT (c : Ctx) (cs : Scope) (md : Loc) (news : Led) (e : Expr) (ds : List VD) : Prop :=
  ∀ (m : Str → Option Value) (h : Heap) (t : Nat) (Q E : Value → Shared → Prop), Fits m md → Fr c.h₀ c.L h m → News c.h₀ c.L h news →
    (∀ a vs h' t', HasL ds vs → Fr c.h₀ c.L h' m → News c.h₀ c.L h' ((a, tupOf vs.toArray 0) :: news) → Q (.ref a) (c.st h' t')) → wpAny c.M (c.A cs) (eval e (c.env cs)) Q E (c.st h t)
abbrev RetT (ds : List VD) (news : Led) : Value → Led → Prop := fun v nw => ∃ a vs, v = .ref a ∧ HasL ds vs ∧ nw = (a, tupOf vs.toArray 0) :: news
theorem EvT.mk {es : List Expr} {ds : List VD} {k : Nat} (he : EvL c cs md news pos es ds) (hn : ds.length ≤ 100) : EvT c cs md news (.Tuple es k pos) ds := by
  intro m h t Q E hm F N q
  refine Tuple_ (he m h t _ _ hm F N fun vs h1 t1 q1 F1 N1 => kup_newTuple F1 N1 (fun D h2 F2 N2 _ => q D vs h2 t1 q1 F2 N2) ?_)
  rw [q1.len, sizeLine_eq]; omega
theorem EvT.ifexp {t p q : Expr} {b : Bool} {ds : List VD} (ht : Et c cs md news t b) (hp : b = true → EvT c cs md news p ds) (hq : b = false → EvT c cs md news q ds) : EvT c cs md news (.IfExp t p q pos) ds := by
  intro m h tt Q E hm F N k
  refine IfExp_ (ht m h tt _ _ hm F N fun h1 t1 F1 N1 => ?_)
  cases b with
  | true => exact hp rfl m h1 t1 _ _ hm F1 N1 k
  | false => exact hq rfl m h1 t1 _ _ hm F1 N1 k
theorem EvT.call (ok : c.Ok cs need) {x : Str} {f : Addr} {e : Expr} {es : List Expr} {ds ts : List VD} {need' : Nat} (C : Def f ds news need' (RetT ts news)) (ha : EvL c cs md news pos (e :: es) ds)
    (hg : nsIn (hd.heap_39 c.w.params) mainGlobals x = some (some (.ref f))) (hf : keepIn (hd.heap_39 c.w.params) (.ref f) = true) (hn : need' ≤ need)
    (hx : cs.names.lookup x = some .globalImplicit) (hd : (x == ("__debug__" : Str)) = false) (hs : isStar e = false) (hss : es.any isStar = false) :
    EvT c cs md news (.Call (.Name x np) (e :: es) [] pos) ts := by
  intro m h t Q E hm F N k
  refine Call_ (nameX_K F ok.X (topRead_of ok.T) hg ?_ ok.hk (by unfold Env.kindOf; exact hx) hd)
  refine callWith_K ok.X hf ?_ (starEach_plain hs _ _) (starEach_none hss _ _)
  refine ha m h t _ _ hm F N fun vs h1 t1 q1 F1 N1 => ⟨ok.X.keeps F1.keep, ?_⟩
  refine use (C c.w c.mean c.mg c.mb vs q1) ok.B F1 ok.X N1 ok.T ok.hk (by have := ok.hdp; omega) (by have := ok.hun; omega) fun v nw h2 t2 r F2 N2 => ?_
  obtain ⟨a, us, rfl, r1, rfl⟩ := r
  exact k a us h2 t2 r1 F2 N2
theorem Ex.retT {e : Expr} {ds : List VD} (he : EvT c cs md news e ds) : Ex c cs md news (.Return (some e) pos :: rest) (RetT ds news) J := by
  intro m h t Q E hm F N kr kj
  exact wpAny_execs_cons (wpAny_Return_some (he m h t _ _ hm F N fun a vs h1 t1 q F1 N1 => kr _ _ m h1 t1 ⟨a, vs, rfl, q, rfl⟩ F1 N1))
theorem drop1 {h₀ h : Heap} {L : Addr} {a : Addr × Obj} {r : Led} (N : News h₀ L h (a :: r)) : News h₀ L h r := cb_drop N fun _ hp => List.mem_cons_of_mem _ hp
/-- names that take the values in order -/
theorem takes (ok : c.Ok cs need) {ds : List VD} {vs : List Value} (hv : HasL ds vs) : ∀ (ns : List Str) (md : Loc) (m : Str → Option Value) (h : Heap) (t : Nat) (ts : List (Value → Sem Unit)) (Q : Unit → Shared → Prop) (E : Value → Shared → Prop),
    ns.length = ds.length → (∀ x ∈ ns, cs.names.lookup x = some .local) → (∀ (x : Str) (v : Value) (h' : Heap) (t' : Nat) (Q' : Unit → Shared → Prop) (f : Value → Sem Unit), (x, f) ∈ ns.zip ts → wpAny c.M (c.A cs) (storeName (c.env cs) x v) Q' E (c.st h' t') → wpAny c.M (c.A cs) (f v) Q' E (c.st h' t')) → ts.length = ns.length →
    Fits m md → Fr c.h₀ c.L h m → News c.h₀ c.L h news → (∀ m' h' t', Fits m' ((ns.zip ds).reverse ++ md) → Fr c.h₀ c.L h' m' → News c.h₀ c.L h' news → Q () (c.st h' t')) → wpAny c.M (c.A cs) (assignInOrder ts vs) Q E (c.st h t) := by
  induction hv with
  | nil =>
    intro ns md m h t ts Q E hn hl hf ht hm F N k
    cases ns with
    | cons _ _ => cases hn
    | nil =>
      cases ts with
      | cons _ _ => cases ht
      | nil => exact assignInOrder_nil (k m h t hm F N)
  | @cons d v ds vs hd hr ih =>
    intro ns md m h t ts Q E hn hl hf ht hm F N k
    cases ns with
    | nil => cases hn
    | cons x ns =>
      cases ts with
      | nil => cases ht
      | cons f ts =>
        refine assignInOrder_cons (hf x v h t _ f (.head _) (storeX_L F N (fun h1 F1 N1 => ?_) ok.hk (by unfold Env.kindOf; exact hl x (.head _))))
        refine ih ns ((x, d) :: md) _ h1 _ ts Q E (Nat.succ.inj hn) (fun y hy => hl y (.tail _ hy)) (fun y u h' t' Q' g hg => hf y u h' t' Q' g (.tail _ hg)) (Nat.succ.inj ht) (hm.set hd) F1 N1 fun m' h' t' hm' => k m' h' t' ?_
        rw [List.zip_cons_cons, List.reverse_cons, List.append_assoc]
        exact hm'
end
theorem assignEach_names (env : Env) : ∀ (ns : List (Str × Pos)), assignEach (ns.map fun p => .Name p.1 p.2) env = ns.map fun p => (false, assign (.Name p.1 p.2) env)
  | [] => rfl
  | p :: ns => by
    rw [List.map_cons, List.map_cons, ← assignEach_names env ns]
    rfl
theorem HasL.append {ds es : List VD} {vs us : List Value} (h : HasL ds vs) (h' : HasL es us) : HasL (ds ++ es) (vs ++ us) := by
  induction h with
  | nil => exact h'
  | cons h _ ih => exact .cons h ih
theorem HasL.reverse {ds : List VD} {vs : List Value} (h : HasL ds vs) : HasL ds.reverse vs.reverse := by
  induction h with
  | nil => exact .nil
  | cons h _ ih => rw [List.reverse_cons, List.reverse_cons]; exact ih.append (.cons h .nil)
section
variable {c : Ctx} {cs : Scope} {md md2 : Loc} {news : Led} {need : Nat} {pos np tpos : Pos} {k : Nat} {elts : List Expr} {rest : List Stmt} {R : Value → Led → Prop} {J J1 : Loc → Led → Prop}
theorem Ex.unpack (ok : c.Ok cs need) (names : List (Str × Pos)) {e : Expr} {ds : List VD} (he : EvT c cs md news e ds) (helt : elts = names.map fun p => .Name p.1 p.2) (hn : names.length = ds.length) (hl : ∀ x ∈ names.map (·.1), cs.names.lookup x = some .local)
    (h1 : swapsWithSole [.Tuple elts k tpos] e pos.line (c.env cs) = pure false) (h2 : swappedStores [.Tuple elts k tpos] e (c.env cs) = pure none)
    (hr : Ex c cs (((names.map (·.1)).zip ds).reverse ++ md) news rest R J) : Ex c cs md news (.Assign [.Tuple elts k tpos] e pos :: rest) R J := by
  intro m h t Q E hm F N kr kj
  subst helt
  refine wpAny_execs_cons (Assign_Tuple (he m h t _ _ hm F N fun a vs h' t' q F' N' => ?_) h1 h2)
  have hae := assignEach_names (c.env cs) names
  refine unpackN_ (items := vs.toArray) F' N' (News.isTup N' (.head _)) rfl ?_ ?_ (fun h3 F3 N3 => ?_)
  · rw [hae, List.length_map, List.size_toArray, q.len]; exact hn
  · rw [hae]
    induction names with
    | nil => rfl
    | cons p ns _ => rw [List.findIdx?_eq_none_iff]; intro x hx; obtain ⟨_, _, rfl⟩ := List.mem_map.mp hx; rfl
  · rw [hae, List.map_map]
    refine takes ok q (names.map (·.1)) md m h3 t' _ _ E (by rw [List.length_map]; exact hn) hl ?_ (by rw [List.length_map, List.length_map]) hm F3 (drop1 N3) fun m' h4 t4 hm4 F4 N4 => hr m' h4 t4 Q E hm4 F4 N4 kr kj
    intro x v h5 t5 Q5 f hf hw
    have : (x, f) ∈ names.map fun p => (p.1, assign (.Name p.1 p.2) (c.env cs)) := by
      have e1 : (names.map (·.1)).zip (names.map ((fun x => x.2) ∘ fun p => (false, assign (.Name p.1 p.2) (c.env cs)))) = names.map fun p => (p.1, assign (.Name p.1 p.2) (c.env cs)) := by
        rw [List.zip_map']; rfl
      rw [← e1]; exact hf
    obtain ⟨p, _, e⟩ := List.mem_map.mp this
    cases e
    exact PyProof.Rows.assign_Name hw
theorem Ex.unpackSw (ok : c.Ok cs need) (names : List Str) {e : Expr} {ds : List VD} (he : EvT c cs md news e ds) (hn : names.length = ds.length) (hl : ∀ x ∈ names, cs.names.lookup x = some .local)
    (h1 : swapsWithSole [.Tuple elts k tpos] e pos.line (c.env cs) = pure false) (h2 : swappedStores [.Tuple elts k tpos] e (c.env cs) = pure (some names))
    (hr : Ex c cs ((names.reverse.zip ds.reverse).reverse ++ md) news rest R J) : Ex c cs md news (.Assign [.Tuple elts k tpos] e pos :: rest) R J := by
  intro m h t Q E hm F N kr kj
  refine wpAny_execs_cons (Assign_Tuple_swapped (he m h t _ _ hm F N fun a vs h' t' q F' N' => ?_) h1 h2)
  refine unpackItemsN_ (items := vs.toArray) F' N' (News.isTup N' (.head _)) rfl ?_ (fun h3 F3 N3 => ?_)
  · rw [List.size_toArray, q.len]; exact hn
  · refine takes ok q.reverse names.reverse md m h3 t' _ _ E (by rw [List.length_reverse, List.length_reverse]; exact hn) (fun x hx => hl x (List.mem_reverse.mp hx)) ?_ (by rw [List.length_map]) hm F3 (drop1 N3) fun m' h4 t4 hm4 F4 N4 => hr m' h4 t4 Q E hm4 F4 N4 kr kj
    intro x v h5 t5 Q5 f hf hw
    have : (x, f) ∈ names.reverse.map fun n => (n, bindName (c.env cs) n) := by
      have e1 : names.reverse.zip (names.reverse.map fun n => bindName (c.env cs) n) = names.reverse.map fun n => (n, bindName (c.env cs) n) := by
        have := List.zip_map' (f := fun n : Str => n) (g := fun n => bindName (c.env cs) n) (l := names.reverse)
        rwa [List.map_id'] at this
      rw [← e1]; exact hf
    obtain ⟨p, _, e⟩ := List.mem_map.mp this
    cases e
    exact bindName_ hw
theorem Ex.unpack2 (ok : c.Ok cs need) {x y : Str} {px py : Pos} {e : Expr} {d1 d2 : VD} (he : EvT c cs md news e [d1, d2]) (hx : cs.names.lookup x = some .local) (hy : cs.names.lookup y = some .local)
    (h1 : swapsWithSole [.Tuple [.Name x px, .Name y py] k tpos] e pos.line (c.env cs) = pure false) (h2 : swappedStores [.Tuple [.Name x px, .Name y py] k tpos] e (c.env cs) = pure none)
    (hr : Ex c cs ((y, d2) :: (x, d1) :: md) news rest R J) : Ex c cs md news (.Assign [.Tuple [.Name x px, .Name y py] k tpos] e pos :: rest) R J :=
  Ex.unpack ok [(x, px), (y, py)] he rfl rfl (fun z hz => by
    rcases List.mem_cons.mp hz with rfl | hz
    · exact hx
    · rcases List.mem_cons.mp hz with rfl | hz
      · exact hy
      · cases hz) h1 h2 hr
theorem Ex.unpackSw2 (ok : c.Ok cs need) {x y : Str} {px py : Pos} {e : Expr} {d1 d2 : VD} (he : EvT c cs md news e [d1, d2]) (hx : cs.names.lookup x = some .local) (hy : cs.names.lookup y = some .local)
    (h1 : swapsWithSole [.Tuple [.Name x px, .Name y py] k tpos] e pos.line (c.env cs) = pure false) (h2 : swappedStores [.Tuple [.Name x px, .Name y py] k tpos] e (c.env cs) = pure (some [x, y]))
    (hr : Ex c cs ((x, d1) :: (y, d2) :: md) news rest R J) : Ex c cs md news (.Assign [.Tuple [.Name x px, .Name y py] k tpos] e pos :: rest) R J :=
  Ex.unpackSw ok [x, y] he rfl (fun z hz => by
    rcases List.mem_cons.mp hz with rfl | hz
    · exact hx
    · rcases List.mem_cons.mp hz with rfl | hz
      · exact hy
      · cases hz) h1 h2 hr
end
section
variable {c : Ctx} {cs : Scope} {md md2 : Loc} {news : Led} {need : Nat} {pos np : Pos} {k : Nat} {rest : List Stmt} {R : Value → Led → Prop} {J J1 : Loc → Led → Prop}
theorem Ex.sharpI {x : Str} {a b1 b2 : Int} (a1 a2 : Int) (hl : md.lookup x = some (.int a b1 b2)) (h : a1 ≤ a ∧ a ≤ a2) {ss : List Stmt} (he : Ex c cs ((x, .int a a1 a2) :: md) news ss R J) : Ex c cs md news ss R J :=
  Ex.conv (fun m hm y e q => by
    rw [List.lookup_cons] at q
    cases hy : y == x with
    | true =>
      rw [hy] at q; cases q
      obtain ⟨v, hv, hh⟩ := hm x _ hl
      exact ⟨v, by rw [beq_iff_eq.mp hy]; exact hv, hh.1, h⟩
    | false => rw [hy] at q; exact hm y e q) he
theorem Ex.sharpS {x y : Str} {K : Nat} (L : Nat) (hl : md.lookup x = some (.str y K)) (h : y.length ≤ L) {ss : List Stmt} (he : Ex c cs ((x, .str y L) :: md) news ss R J) : Ex c cs md news ss R J :=
  Ex.conv (fun m hm z e q => by
    rw [List.lookup_cons] at q
    cases hz : z == x with
    | true =>
      rw [hz] at q; cases q
      obtain ⟨v, hv, hh⟩ := hm x _ hl
      exact ⟨v, by rw [beq_iff_eq.mp hz]; exact hv, hh.1, h⟩
    | false => rw [hz] at q; exact hm z e q) he
theorem Ex.weakI {x : Str} {a b1 b2 : Int} (a1 a2 : Int) (h1 : a1 ≤ b1) (h2 : b2 ≤ a2) {ss : List Stmt} (he : Ex c cs ((x, .int a a1 a2) :: md) news ss R J) : Ex c cs ((x, .int a b1 b2) :: md) news ss R J :=
  Ex.conv (fun m hm y e q => by
    rw [List.lookup_cons] at q
    cases hy : y == x with
    | true =>
      rw [hy] at q; cases q
      obtain ⟨v, hv, hh⟩ := hm x (.int a b1 b2) (by rw [List.lookup_cons, beq_self_eq_true])
      exact ⟨v, by rw [beq_iff_eq.mp hy]; exact hv, hh.1, Int.le_trans h1 hh.2.1, Int.le_trans hh.2.2 h2⟩
    | false => rw [hy] at q; exact hm y e (by rw [List.lookup_cons, hy]; exact q)) he
theorem Ev.to {e : Expr} {x y : Str} {K L : Nat} (he : Ev c cs md news e (.str x K)) (h : x = y) (hb : x.length ≤ K → y.length ≤ L) : Ev c cs md news e (.str y L) := by
  subst h; exact Ev.str L he hb
theorem Ev.toI {e : Expr} {x y b1 b2 a1 a2 : Int} (he : Ev c cs md news e (.int x b1 b2)) (h : x = y) (hb : b1 ≤ x → x ≤ b2 → a1 ≤ y ∧ y ≤ a2) : Ev c cs md news e (.int y a1 a2) := by
  subst h; exact Ev.int a1 a2 he hb
theorem Ev.toO {e : Expr} {x : Str} {o : Option Str} {K L : Nat} (he : Ev c cs md news e (.str x K)) (h : o = some x) (hb : x.length ≤ K → x.length ≤ L) : Ev c cs md news e (oD o L) := by
  subst h; exact Ev.str L he hb
theorem Ev.toN {e : Expr} {o : Option Str} {L : Nat} (he : Ev c cs md news e (.val .none)) (h : o = none) : Ev c cs md news e (oD o L) := by
  subst h; exact he
theorem Ev.cbool {b : Bool} : Ev c cs md news (.Constant (.bool b) k pos) (.bool b) := by
  intro m h t Q E hm F N q
  exact Constant_bool (q _ h t rfl F N)
theorem Ev.boolTo {e : Expr} {a b : Bool} (he : Ev c cs md news e (.bool a)) (h : a = b) : Ev c cs md news e (.bool b) := h ▸ he
/-- the places of a tuple of two that holds ints -/
theorem Ev.place0 {e : Expr} {a : Addr} {n : Nat} {i j lo hi : Int} {t u : Tok} {pp : Pos} {kk : Nat} (he : Ev c cs md news e (.val (.ref a))) (hm : (a, tupOf #[.int i t, .int j u] n) ∈ news) (h1 : lo ≤ i) (h2 : i ≤ hi) : Ev c cs md news (.Subscript e (.Constant (.int 0) kk pp) pos) (.int i lo hi) :=
  Ev.place (k := 0) he hm rfl ⟨⟨_, rfl⟩, h1, h2⟩ (by decide)
theorem Ev.place1 {e : Expr} {a : Addr} {n : Nat} {i j lo hi : Int} {t u : Tok} {pp : Pos} {kk : Nat} (he : Ev c cs md news e (.val (.ref a))) (hm : (a, tupOf #[.int i t, .int j u] n) ∈ news) (h1 : lo ≤ j) (h2 : j ≤ hi) : Ev c cs md news (.Subscript e (.Constant (.int 1) kk pp) pos) (.int j lo hi) :=
  Ev.place (k := 1) he hm rfl ⟨⟨_, rfl⟩, h1, h2⟩ (by decide)
/-- a sign of a text -/
theorem Ev.item {e p : Expr} {x : Str} {K : Nat} {i i1 i2 : Int} (he : Ev c cs md news e (.str x K)) (hp : Ev c cs md news p (.int i i1 i2)) (hK : K ≤ 16777216) (h0 : 0 ≤ i) (h1 : i < x.length)
    (hl : ∀ (y : Str) (t : Tok) (r : Value), letTemporaryGo e (.str y t) r = pure ()) (hs : ∀ (y : Str) (t u : Tok), subscripted p false (Value.str y t) (Value.int i u) = operate [Value.str y t, Value.int i u] (getItem (Value.str y t) (Value.int i u))) : Ev c cs md news (.Subscript e p pos) (.str (Txt.item x i) 1) := by
  intro m h t Q E hm F N q
  refine Subscript_ (he m h t _ _ hm F N fun v h1' t1 q1 F1 N1 => hp m h1' t1 _ _ hm F1 N1 fun u h2 t2 q2 F2 N2 => ?_)
  obtain ⟨⟨tv, rfl⟩, hx⟩ := q1
  obtain ⟨⟨tu, rfl⟩, _, _⟩ := q2
  exact KXi.item rfl (by omega) h1 (by omega) (fun hi => q _ h2 _ ⟨⟨_, rfl⟩, by omega⟩ F2 N2) (hs _ _ _) (hl _ _)
theorem Ev.chain2 {op op' : CmpOp} {l r r' : Expr} {p q q' : VD} {b b' : Bool} (hl : Ev c cs md news l p) (hr : Ev c cs md news r q) (hr' : Ev c cs md news r' q')
    (ho : ∀ (u v : Value) (h : Heap) (t : Nat) (Q E : Value → Shared → Prop), p.Has u → q.Has v → Q (.bool b) (c.st h t) → wpAny c.M (c.A cs) (compareOp op u v) Q E (c.st h t))
    (ho' : ∀ (u v : Value) (h : Heap) (t : Nat) (Q E : Value → Shared → Prop), q.Has u → q'.Has v → Q (.bool b') (c.st h t) → wpAny c.M (c.A cs) (compareOp op' u v) Q E (c.st h t))
    (hm : lastMarks [op, op'] [r, r'] = false) : Ev c cs md news (.Compare l [op, op'] [r, r'] pos) (.bool (b && b')) := by
  intro m h t Q E hm' F N k
  refine Compare_chain (hl m h t _ _ hm' F N fun v h1 t1 q1 F1 N1 => chain_link (hr m h1 t1 _ _ hm' F1 N1 fun u h2 t2 q2 F2 N2 => ?_)) hm
  refine ho v u h2 t2 _ _ q1 q2 (wpAny_truthy_bool ?_)
  cases b with
  | true => exact chain_last (hr' m h2 t2 _ _ hm' F2 N2 fun w h3 t3 q3 F3 N3 => ho' u w h3 t3 _ _ q2 q3 (k _ h3 t3 rfl F3 N3))
  | false => exact k _ h2 t2 rfl F2 N2
theorem Et.chain2 {op op' : CmpOp} {l r r' : Expr} {p q q' : VD} {b b' : Bool} (hl : Ev c cs md news l p) (hr : Ev c cs md news r q) (hr' : Ev c cs md news r' q')
    (ho : ∀ (u v : Value) (h : Heap) (t : Nat) (Q E : Value → Shared → Prop), p.Has u → q.Has v → Q (.bool b) (c.st h t) → wpAny c.M (c.A cs) (compareOp op u v) Q E (c.st h t))
    (ho' : ∀ (u v : Value) (h : Heap) (t : Nat) (Q E : Value → Shared → Prop), q.Has u → q'.Has v → Q (.bool b') (c.st h t) → wpAny c.M (c.A cs) (compareOp op' u v) Q E (c.st h t))
    (hm : lastMarks [op, op'] [r, r'] = false) : Et c cs md news (.Compare l [op, op'] [r, r'] pos) (b && b') := by
  intro m h t Q E hm' F N k
  refine isTrue_chain (hl m h t _ _ hm' F N fun v h1 t1 q1 F1 N1 => test_link (hr m h1 t1 _ _ hm' F1 N1 fun u h2 t2 q2 F2 N2 => ?_)) hm
  refine ho v u h2 t2 _ _ q1 q2 (wpAny_truthy_bool ?_)
  cases b with
  | true => exact test_last (hr' m h2 t2 _ _ hm' F2 N2 fun w h3 t3 q3 F3 N3 => ho' u w h3 t3 _ _ q2 q3 (wpAny_truthy_bool (k h3 t3 F3 N3)))
  | false => exact k h2 t2 F2 N2
theorem Ex.augAdd (ok : c.Ok cs need) {x : Str} {e : Expr} {a a1 a2 b b1 b2 : Int} (hl : md.lookup x = some (.int a a1 a2)) (he : Ev c cs md news e (.int b b1 b2)) (hx : cs.names.lookup x = some .local)
    (hr : Ex c cs ((x, .int (a + b) (a1 + b1) (a2 + b2)) :: md) news rest R J) : Ex c cs md news (.AugAssign (.Name x np) .Add e pos :: rest) R J := by
  intro m h t Q E hm F N kr kj
  obtain ⟨v, hv, ⟨tv, rfl⟩, h1, h2⟩ := hm _ _ hl
  refine wpAny_execs_cons (wpAny_AugAssign_Name (wpAny_loadName_local ok.hk (by unfold Env.kindOf; exact hx) F.ns hv (he m h t _ _ hm F N fun v h1' t1 q F1 N1 => ?_)))
  obtain ⟨⟨tu, rfl⟩, h3, h4⟩ := q
  refine iadd_int (storeX_L F1 N1 (fun h2' F2 N2 => ?_) ok.hk (by unfold Env.kindOf; exact hx))
  exact hr _ h2' _ Q E (hm.set ⟨⟨_, rfl⟩, by omega, by omega⟩) F2 N2 kr kj
theorem Ex.augSub (ok : c.Ok cs need) {x : Str} {e : Expr} {a a1 a2 b b1 b2 : Int} (hl : md.lookup x = some (.int a a1 a2)) (he : Ev c cs md news e (.int b b1 b2)) (hx : cs.names.lookup x = some .local)
    (hr : Ex c cs ((x, .int (a - b) (a1 - b2) (a2 - b1)) :: md) news rest R J) : Ex c cs md news (.AugAssign (.Name x np) .Sub e pos :: rest) R J := by
  intro m h t Q E hm F N kr kj
  obtain ⟨v, hv, ⟨tv, rfl⟩, h1, h2⟩ := hm _ _ hl
  refine wpAny_execs_cons (wpAny_AugAssign_Name (wpAny_loadName_local ok.hk (by unfold Env.kindOf; exact hx) F.ns hv (he m h t _ _ hm F N fun v h1' t1 q F1 N1 => ?_)))
  obtain ⟨⟨tu, rfl⟩, h3, h4⟩ := q
  refine isub_int (storeX_L F1 N1 (fun h2' F2 N2 => ?_) ok.hk (by unfold Env.kindOf; exact hx))
  exact hr _ h2' _ Q E (hm.set ⟨⟨_, rfl⟩, by omega, by omega⟩) F2 N2 kr kj
/-- a def's call that is walked by another road -/
theorem Def.old {f : Addr} {ds : List VD} {news : Led} {need : Nat} {R R' : Value → Led → Prop} (h : ∀ (w : World) (mean : ExcName → Option Value) (mg mb : Str → Option Value) (vs : List Value), HasL ds vs → Calls w mean mg mb f vs news need R) (hR : ∀ v nw, R v nw → R' v nw) : Def f ds news need R' :=
  fun w mean mg mb vs hvs dp un gd cn cs a ccd cl outer A₀ base h₀ L m s Q E B F X N T hk hdp hun hret => h w mean mg mb vs hvs dp un gd cn cs a ccd cl outer A₀ base h₀ L m s Q E B F X N T hk hdp hun fun v nw h' tk' r => hret v nw h' tk' (hR v nw r)
end
section
variable {c : Ctx} {cs : Scope} {md md2 : Loc} {news : Led} {need : Nat} {pos np : Pos} {k : Nat} {rest : List Stmt} {R : Value → Led → Prop} {J J1 : Loc → Led → Prop}
/-- a list made -/
def EvA (c : Ctx) (cs : Scope) (md : Loc) (news : Led) (e : Expr) (ds : List VD) : Prop :=
  ∀ (m : Str → Option Value) (h : Heap) (t : Nat) (Q E : Value → Shared → Prop), Fits m md → Fr c.h₀ c.L h m → News c.h₀ c.L h news →
    (∀ a vs h' t', HasL ds vs → Fr c.h₀ c.L h' m → News c.h₀ c.L h' ((a, W.listOf vs.toArray 0) :: news) → Q (.ref a) (c.st h' t')) → wpAny c.M (c.A cs) (eval e (c.env cs)) Q E (c.st h t)
theorem EvA.mk {es : List Expr} {ds : List VD} (he : EvL c cs md news pos es ds) (hn : ds.length ≤ 100) : EvA c cs md news (.List es pos) ds := by
  intro m h t Q E hm F N q
  refine List_ (he m h t _ _ hm F N fun vs h1 t1 q1 F1 N1 => newList_K F1 N1 (fun D h2 F2 N2 _ => q D vs h2 t1 q1 F2 N2) ?_)
  rw [q1.len, sizeLine_eq]; omega
/-- a list made and one that stands -/
theorem EvA.add {l r : Expr} {a : Addr} {us : List Value} {ds es : List VD} (hl : EvA c cs md news l ds) (hr : ∀ x, Ev c cs md (x :: news) r (.val (.ref a))) (hm : (a, W.listOf us.toArray 0) ∈ news) (hu : HasL es us) (hn : ds.length + es.length ≤ 100) : EvA c cs md news (.BinOp l .Add r pos) (ds ++ es) := by
  intro m h t Q E hm' F N q
  refine wpAny_BinOp (hl m h t _ _ hm' F N fun b vs h1 t1 q1 F1 N1 => hr _ m h1 t1 _ _ hm' F1 N1 fun u h2 t2 q2 F2 N2 => ?_)
  cases q2
  refine kmk_add_lit (its := vs.toArray) (its2 := us.toArray) (zs := vs ++ us) F2 N2 (News.isList N2 (.head _)) (News.isList N2 (.tail _ hm)) (by simp) (fun D h3 F3 N3 _ => ?_) ?_
  · exact q D (vs ++ us) h3 t2 (q1.append hu) F3 (cb_drop N3 fun p hp => by
      rcases List.mem_cons.mp hp with rfl | hp
      · exact .head _
      · exact .tail _ (.tail _ hp))
  · have h1 := q1.len
    have h2 := hu.len
    show vs.length + us.length ≤ _
    rw [sizeLine_eq, h1, h2]
    omega
theorem EvA.add2 {l r : Expr} {a : Addr} {us : List Value} {d1 d2 : VD} (hl : EvA c cs md news l [d1]) (hr : ∀ x, Ev c cs md (x :: news) r (.val (.ref a))) (hm : (a, W.listOf us.toArray 0) ∈ news) (hu : HasL [d2] us) : EvA c cs md news (.BinOp l .Add r pos) [d1, d2] :=
  EvA.add hl hr hm hu (Nat.le_of_ble_eq_true rfl)
theorem EvA.ifexp {t p q : Expr} {b : Bool} {ds : List VD} (ht : Et c cs md news t b) (hp : b = true → EvA c cs md news p ds) (hq : b = false → EvA c cs md news q ds) : EvA c cs md news (.IfExp t p q pos) ds := by
  intro m h tt Q E hm F N k
  refine IfExp_ (ht m h tt _ _ hm F N fun h1 t1 F1 N1 => ?_)
  cases b with
  | true => exact hp rfl m h1 t1 _ _ hm F1 N1 k
  | false => exact hq rfl m h1 t1 _ _ hm F1 N1 k
theorem Ex.setA (ok : c.Ok cs need) {x : Str} {e : Expr} {ds : List VD} (he : EvA c cs md news e ds) (hx : cs.names.lookup x = some .local) (hsw : swapsWith e (some (.Name x np)) pos.line (c.env cs) = pure false)
    (hr : ∀ a vs, HasL ds vs → Ex c cs ((x, .val (.ref a)) :: md) ((a, W.listOf vs.toArray 0) :: news) rest R J) : Ex c cs md news (.Assign [.Name x np] e pos :: rest) R J := by
  intro m h t Q E hm F N kr kj
  refine wpAny_execs_cons (wpAny_Assign_Name (he m h t _ _ hm F N fun a vs h1 t1 q F1 N1 => ?_) hsw)
  refine storeX_L F1 N1 (fun h2 F2 N2 => ?_) ok.hk (by unfold Env.kindOf; exact hx)
  exact hr a vs q _ h2 _ Q E (hm.set rfl) F2 N2 kr kj
/-- what a return hands back need not be the whole ledger -/
theorem Ex.less {ss : List Stmt} {d : VD} {x : Addr × Obj} (he : Ex c cs md (x :: news) ss (Ret d (x :: news)) J) : Ex c cs md (x :: news) ss (Ret d news) J := by
  intro m h t Q E hm F N kr kj
  refine he m h t Q E hm F N (fun v nw m' h' t' r F' N' => ?_) kj
  obtain ⟨r1, rfl⟩ := r
  exact kr v news m' h' t' ⟨r1, rfl⟩ F' (drop1 N')
/-- a def's call upon a list made there and a second argument -/
theorem Ev.callA (ok : c.Ok cs need) {x : Str} {f : Addr} {e e2 : Expr} {ds : List VD} {d2 d : VD} {need' : Nat} (C : ∀ a vs, HasL ds vs → Def f [.val (.ref a), d2] ((a, W.listOf vs.toArray 0) :: news) need' (Ret d ((a, W.listOf vs.toArray 0) :: news))) (ha : EvA c cs md news e ds) (h2 : ∀ y, Ev c cs md (y :: news) e2 d2)
    (hg : nsIn (hd.heap_39 c.w.params) mainGlobals x = some (some (.ref f))) (hf : keepIn (hd.heap_39 c.w.params) (.ref f) = true) (hn : need' ≤ need)
    (hx : cs.names.lookup x = some .globalImplicit) (hd : (x == ("__debug__" : Str)) = false) (hs : isStar e = false) (hs2 : isStar e2 = false) :
    Ev c cs md news (.Call (.Name x np) [e, e2] [] pos) d := by
  intro m h t Q E hm F N k
  refine Call_ (nameX_K F ok.X (topRead_of ok.T) hg ?_ ok.hk (by unfold Env.kindOf; exact hx) hd)
  refine callWith_K ok.X hf ?_ (starEach_plain hs _ _) (starEach_none (by rw [List.any_cons, hs2]; rfl) _ _)
  refine args_cons (ha m h t _ _ hm F N fun a vs h1 t1 q1 F1 N1 => args_cons (h2 _ m h1 t1 _ _ hm F1 N1 fun u h2' t2 q2 F2 N2 => spliced_none ⟨ok.X.keeps F2.keep, ?_⟩) (starEach_plain hs2 _ _)) (starEach_plain hs _ _)
  refine use (C a vs q1 c.w c.mean c.mg c.mb [.ref a, u] (.cons rfl (.cons q2 .nil))) ok.B F2 ok.X N2 ok.T ok.hk (by have := ok.hdp; omega) (by have := ok.hun; omega) fun v nw h3 t3 r F3 N3 => ?_
  obtain ⟨r1, rfl⟩ := r
  exact k v h3 t3 r1 F3 (drop1 N3)
/-- a text without its ends' signs -/
theorem Ev.strip {e e2 : Expr} {x y : Str} {K L : Nat} {apos : Pos} {pl : Sem Bool} (he : Ev c cs md news e (.str x K)) (h2 : Ev c cs md news e2 (.str y L)) (hK : K ≤ 16777216) (hs : isStar e2 = false)
    (hc : eval (.Call (.Attribute e ("strip" : Str) apos) [e2] [] pos) (c.env cs) = (do
      let ov ← eval e (c.env cs)
      standAt apos.atName
      let __x ← holding [ov] (getMethod ov ("strip" : Str) pl)
      match __x with
        | (f, first) => callWith pos f first (backTo pos (starEach [e2] (c.env cs))) [])) :
    Ev c cs md news (.Call (.Attribute e ("strip" : Str) apos) [e2] [] pos) (.str (Txt.stripChars x y) K) := by
  intro m h t Q E hm F N k
  refine MethodCall_ (he m h t _ _ hm F N fun v h1 t1 q1 F1 N1 => ?_) hc
  obtain ⟨⟨tv, rfl⟩, hx⟩ := q1
  refine GM.strip (PyProof.Rows.callWith_method1 (args_cons (h2 m h1 t1 _ _ hm F1 N1 fun u h2' t2 q2 F2 N2 => spliced_none ?_) (starEach_plain hs _ _)) (starEach_plain hs _ _) rfl)
  obtain ⟨⟨tu, rfl⟩, _⟩ := q2
  exact SCL.stripChars (fun t' k' hl => k _ h2' _ ⟨⟨_, rfl⟩, by omega⟩ F2 N2) (by rw [sizeLine_eq]; omega)
end
local macro_rules | `(tactic| walk_at "ev") => `(tactic| first
  | ((with_reducible refine' Ev.name (by assumption) ?l ?x ?d); (case l => rfl); (case x => rfl); (case d => rfl))
  | with_reducible exact Ev.cint
  | ((with_reducible refine' Ev.cstr (K := 1) ?k); (case k => decide))
  | ((with_reducible refine' Ev.cstr (K := 2) ?k); (case k => decide))
  | with_reducible exact Ev.cnone
  | ((with_reducible refine' Ev.addS ?l ?r ?k); (case l => walk_at "ev"); (case r => walk_at "ev"); (case k => decide))
  | ((with_reducible refine' Ev.mulS ?l ?x ?r ?lo ?hi); (case l => ((with_reducible refine' Ev.cstr ?k); (case k => decide))); (case x => decide); (case r => walk_at "ev"); (case lo => decide); (case hi => decide))
  | ((with_reducible refine' Ev.addI ?l ?r); (case l => walk_at "ev"); (case r => walk_at "ev"))
  | ((with_reducible refine' Ev.subI ?l ?r); (case l => walk_at "ev"); (case r => walk_at "ev"))
  | ((with_reducible refine' Ev.neg ?l); (case l => walk_at "ev"))
  | ((with_reducible refine' Ev.len (by assumption) ?l ?k ?x ?s); (case l => walk_at "ev"); (case k => decide); (case x => rfl); (case s => rfl))
  | ((with_reducible refine' Ev.abs (by assumption) ?l ?x ?s); (case l => walk_at "ev"); (case x => rfl); (case s => rfl))
  | ((with_reducible refine' Ev.strOf (by assumption) ?l ?k1 ?k2 ?x ?s); (case l => walk_at "ev"); (case k1 => decide); (case k2 => decide); (case x => rfl); (case s => rfl))
  | with_reducible exact Ev.cbool
  | ((with_reducible refine' Ev.cmp ?l ?r ?o ?b); (case l => walk_at "ev"); (case r => walk_at "ev"); (case o => walk_at "cmp"); (case b => rfl))
  | ((with_reducible refine' Ev.and2 ?p ?q); (case p => walk_at "ev"); (case q => walk_at "ev"))
  | ((with_reducible refine' Ev.place0 ?e ?m ?a ?b); (case e => walk_at "ev"); (case m => with_reducible assumption); (case a => with_reducible assumption); (case b => with_reducible assumption))
  | ((with_reducible refine' Ev.place1 ?e ?m ?a ?b); (case e => walk_at "ev"); (case m => with_reducible assumption); (case a => with_reducible assumption); (case b => with_reducible assumption))
  | ((with_reducible refine' Ev.sliceTo ?e ?p ?k ?l); (case e => walk_at "ev"); (case p => walk_at "ev"); (case k => decide); (case l => exact fun _ _ _ => rfl))
  | ((with_reducible refine' Ev.sliceFrom ?e ?p ?k ?l); (case e => walk_at "ev"); (case p => walk_at "ev"); (case k => decide); (case l => exact fun _ _ _ => rfl))
  | ((with_reducible refine' Ev.item ?e ?p ?k ?a ?b ?l ?s); (case e => walk_at "ev"); (case p => walk_at "ev"); (case k => decide); (case a => omega); (case b => omega); (case l => exact fun _ _ _ => rfl); (case s => exact fun _ _ _ => rfl))
  | ((with_reducible refine' Ev.strip ?e ?f ?k ?s ?h); (case e => walk_at "ev"); (case f => walk_at "ev"); (case k => decide); (case s => rfl); (case h => rfl))
  | ((with_reducible refine' Ev.chain2 ?l ?r ?s ?o ?p ?m); (case l => walk_at "ev"); (case r => walk_at "ev"); (case s => walk_at "ev"); (case o => walk_at "cmp"); (case p => walk_at "cmp"); (case m => rfl))
  | walk_at "evc")
local macro_rules | `(tactic| walk_at "evw") => `(tactic| first
  | ((with_reducible refine' Ev.str _ ?e ?w); (case e => walk_at "ev"); (case w => exact w_str (by decide)))
  | ((with_reducible refine' Ev.int _ _ ?e ?w); (case e => walk_at "ev"); (case w => first | exact w_int (by decide) (by decide) | exact fun _ _ => ⟨by omega, by omega⟩))
  | walk_at "ev")
local macro_rules | `(tactic| walk_at "evl") => `(tactic| first
  | exact EvL.nil
  | ((with_reducible refine' EvL.cons ?e ?r ?s); (case s => exact starEach_plain rfl _ _); (case e => walk_at "evw"); (case r => walk_at "evl")))
local macro_rules | `(tactic| walk_at "cmp") => `(tactic| (intro _ _ _ _ _ _ p q k; first | exact o_lt p q k | exact o_le p q k | exact o_gt p q k | exact o_ge p q k | exact o_eq p q k | exact o_ne p q k | exact o_eqS p q k | exact o_neS p q k | exact o_geS p q k | exact o_isN p q k | exact o_isI p q k | exact o_isS p q k | exact o_isnI p q k | exact o_isnN p q k))
local macro_rules | `(tactic| walk_at "et") => `(tactic| first
  | ((with_reducible refine' Et.cmp ?l ?r ?o ?b); (case l => walk_at "ev"); (case r => walk_at "ev"); (case o => walk_at "cmp"); (case b => rfl))
  | ((with_reducible refine' Et.chain2 ?l ?r ?s ?o ?p ?m); (case l => walk_at "ev"); (case r => walk_at "ev"); (case s => walk_at "ev"); (case o => walk_at "cmp"); (case p => walk_at "cmp"); (case m => rfl))
  | ((with_reducible refine' Et.and2 ?p ?q); (case p => walk_at "et"); (case q => intro _; walk_at "et"))
  | ((with_reducible refine' Et.or2 ?p ?q); (case p => walk_at "et"); (case q => intro _; walk_at "et"))
  | ((with_reducible refine' Et.not ?p); (case p => walk_at "et"))
  | ((with_reducible refine' Et.plain ?p ?h); (case p => walk_at "ev"); (case h => rfl)))
local macro_rules | `(tactic| walk_at "set") => `(tactic| ((with_reducible refine' Ex.set (by assumption) ?e ?x ?s ?_); (case e => walk_at "ev"); (case x => rfl); (case s => rfl)))
local macro_rules | `(tactic| walk_at "leave") => `(tactic| ((with_reducible refine' Ex.leave ?t ?_ ?_); (case t => walk_at "et")))
local macro_rules | `(tactic| walk_at "retS") => `(tactic| ((with_reducible refine' Ex.retS ?e ?_ ?_); (case e => walk_at "ev")))
local macro_rules | `(tactic| walk_at "enter") => `(tactic| ((case f1 => k_is); (case f2 => k_is); (case hl => decide); (case hc => rfl); (case hg => rfl); (case hk => rfl); (case hcell => decide)))

local macro_rules | `(tactic| walk_at "fact") => `(tactic| (with_reducible first | refine dT ?_ | refine dF ?_ | refine nT ?_ | refine nF ?_ | refine bT ?_ | refine bF ?_ | skip))
local macro_rules | `(tactic| walk_at "ifs") => `(tactic| (repeat' (first | rfl | rw [if_pos (by with_reducible assumption)] | rw [if_neg (by with_reducible assumption)] | rw [if_neg (ne_true_of_eq_false (by with_reducible assumption))] | rw [if_pos (by omega)] | rw [if_neg (by omega)] | fail "no if")))
local macro_rules | `(tactic| walk_at "evt") => `(tactic| first
  | ((with_reducible refine' EvT.mk ?e ?n); (case e => walk_at "evl1"); (case n => exact Nat.le_of_ble_eq_true rfl))
  | walk_at "evtc")
local macro_rules | `(tactic| walk_at "evl1") => `(tactic| first
  | exact EvL.nil
  | ((with_reducible refine' EvL.cons ?e ?r ?s); (case s => exact starEach_plain rfl _ _); (case e => walk_at "ev"); (case r => walk_at "evl1")))
local macro_rules | `(tactic| walk_at "retO") => `(tactic| ((with_reducible refine' Ex.retO ?e ?_ ?w); (case e => walk_at "ev"); (case w => exact w_str (by decide))))
local macro_rules | `(tactic| walk_at "retN") => `(tactic| ((with_reducible refine' Ex.retN ?e ?_); (case e => walk_at "ev")))
local macro_rules | `(tactic| walk_at "ifs") => `(tactic| (repeat' (first | rfl | rw [if_pos (by with_reducible assumption)] | rw [if_neg (by with_reducible assumption)] | rw [if_neg (ne_true_of_eq_false (by with_reducible assumption))] | rw [if_pos (by omega)] | rw [if_neg (by omega)] | fail "no if")))
local macro_rules | `(tactic| walk_at "augAdd") => `(tactic| ((with_reducible refine' Ex.augAdd (by assumption) ?l ?e ?x ?_); (case l => rfl); (case e => walk_at "ev"); (case x => rfl)))
local macro_rules | `(tactic| walk_at "augSub") => `(tactic| ((with_reducible refine' Ex.augSub (by assumption) ?l ?e ?x ?_); (case l => rfl); (case e => walk_at "ev"); (case x => rfl)))
local macro_rules | `(tactic| walk_at "evtw") => `(tactic| first
  | ((with_reducible refine' EvT.mk ?e ?n); (case e => walk_at "evl"); (case n => exact Nat.le_of_ble_eq_true rfl)))
local macro_rules | `(tactic| walk_at "unpack") => `(tactic| ((with_reducible refine' Ex.unpack2 (by assumption) ?e ?x ?y ?h1 ?h2 ?_); (case e => walk_at "evt"); (case x => rfl); (case y => rfl); (case h1 => rfl); (case h2 => rfl)))
local macro_rules | `(tactic| walk_at "unpackSw") => `(tactic| ((with_reducible refine' Ex.unpackSw2 (by assumption) ?e ?x ?y ?h1 ?h2 ?_); (case e => walk_at "evt"); (case x => rfl); (case y => rfl); (case h1 => rfl); (case h2 => rfl)))
local macro_rules | `(tactic| walk_at "toO") => `(tactic| ((with_reducible refine' Ev.toO ?e ?_ ?w); (case e => walk_at "ev"); (case w => exact w_str (by decide))))
local macro_rules | `(tactic| walk_at "toN") => `(tactic| ((with_reducible refine' Ev.toN ?e ?_); (case e => walk_at "ev")))
local macro_rules | `(tactic| walk_at "to") => `(tactic| ((with_reducible refine' Ev.to ?e ?_ ?_); (case e => walk_at "ev")))
local macro_rules | `(tactic| walk_at "ifexp") => `(tactic| ((with_reducible refine' Ev.ifexp ?t ?_ ?_); (case t => walk_at "et")))
theorem str_eq {x y : Str} {t : Tok} (h : x = y) : ∃ t', Value.str x t = .str y t' := ⟨t, by rw [h]⟩
theorem int_eq {x y : Int} {t : Tok} (h : x = y) : ∃ t', Value.int x t = .int y t' := ⟨t, by rw [h]⟩
theorem str_eq2 {x y : Str} {t : Tok} {P : Prop} (h : x = y) (p : P) : ∃ t', Value.str x t = .str y t' ∧ P := ⟨t, by rw [h], p⟩
theorem int_eq2 {x y : Int} {t : Tok} {P : Prop} (h : x = y) (p : P) : ∃ t', Value.int x t = .int y t' ∧ P := ⟨t, by rw [h], p⟩
def fieldV (x : Str) (n : Int) : Str := if (x.length : Int) > n then Txt.mul (Str.ofString "*") n else Txt.mul (Str.ofString " ") (n - x.length) ++ x
theorem fieldV_len {x : Str} {n : Int} (h0 : 0 ≤ n) : (fieldV x n).length = n.toNat := by
  unfold fieldV
  split
  · rw [mul_len _ len_star]
  · rw [PySem.Str.length_append, mul_len _ len_blank]; omega
def signV (a b : Bool) : Str := if a = true then Str.ofString "-" else if b = true then Str.ofString "+" else Str.ofString ""
theorem signV_len (a b : Bool) : (signV a b).length ≤ 1 := by cases a <;> cases b <;> decide
def scaledV (n p : Int) : Int := if p ≥ 0 then n * 10 ^ p.toNat else Int.fdiv (2 * n + 10 ^ (-p).toNat) (2 * 10 ^ (-p).toNat)
theorem scaledV_range {n p : Int} (h0 : 0 ≤ n) (hp : p ≤ 0) : 0 ≤ scaledV n p ∧ scaledV n p ≤ n := by
  unfold scaledV
  split
  · have : p = 0 := by omega
    subst this
    simp [h0]
  · have hpos : (0 : Int) < 10 ^ (-p).toNat := Int.pow_pos (by decide)
    have h10 : (10 : Int) ≤ 10 ^ (-p).toNat := by
      obtain ⟨k, hk⟩ : ∃ k, (-p).toNat = k + 1 := ⟨(-p).toNat - 1, by omega⟩
      rw [hk, Int.pow_succ]
      have : (0 : Int) < 10 ^ k := Int.pow_pos (by decide)
      omega
    rw [Int.fdiv_eq_ediv_of_nonneg _ (by omega)]
    generalize (10 : Int) ^ (-p).toNat = u at *
    constructor
    · exact Int.ediv_nonneg (by omega) (by omega)
    · by_cases hn : n = 0
      · subst hn
        rw [Int.ediv_eq_zero_of_lt (by omega) (by omega)]; exact Int.le_refl _
      · refine Int.le_of_lt_add_one (Int.ediv_lt_of_lt_mul (by omega) ?_)
        have : u ≤ n * u := by
          have := Int.mul_le_mul_of_nonneg_right (show 1 ≤ n by omega) (show 0 ≤ u by omega)
          omega
        have h2 : 10 * n ≤ n * u := by
          have := Int.mul_le_mul_of_nonneg_left h10 h0
          omega
        rw [Int.add_mul, ← Int.mul_assoc, Int.mul_comm n 2, Int.mul_assoc]
        omega
def numText (n : Int) : Str := Str.ofString (toString n)
theorem numText_len {n : Int} (h0 : 0 ≤ n) (h1 : n < 10 ^ 9) : 1 ≤ (numText n).length ∧ (numText n).length ≤ 9 := by
  unfold numText
  refine ⟨KLn.one_le h0, ?_⟩
  exact toString_length_le h0 (by decide) h1
def figuresV (n p : Int) : Str := if p > 0 then (if n = 0 then Str.ofString "" else numText n ++ Txt.mul (Str.ofString "0") p) else (if scaledV n p = 0 then Str.ofString "" else numText (scaledV n p))
theorem figuresV_len {n p : Int} (h0 : 0 ≤ n) (h1 : n < 10 ^ 9) : (figuresV n p).length ≤ 9 + p.toNat := by
  unfold figuresV
  split
  · split
    · rw [len_none]; omega
    · rw [PySem.Str.length_append, mul_len _ len_zero]
      have := numText_len h0 h1
      omega
  · have := scaledV_range h0 (show p ≤ 0 by omega)
    split
    · rw [len_none]; omega
    · have := numText_len this.1 (by omega)
      omega
def pointV (x y z : Str) (n : Int) : Str :=
  if (y == Str.ofString "") = true then
    (if (z == Str.ofString "") = true then fieldV (x ++ Str.ofString "0" ++ Str.ofString "." ++ z) n
    else if ((x.length + (Str.ofString "0.").length + z.length : Nat) : Int) ≤ n then fieldV (x ++ Str.ofString "0." ++ z) n
    else fieldV (x ++ y ++ Str.ofString "." ++ z) n)
  else fieldV (x ++ y ++ Str.ofString "." ++ z) n
theorem pointV_len {x y z : Str} {n : Int} (h0 : 0 ≤ n) : (pointV x y z n).length = n.toNat := by
  unfold pointV
  split
  · split
    · exact fieldV_len h0
    · split <;> exact fieldV_len h0
  · exact fieldV_len h0
def expSign (p : Int) : Str := if p < 0 then Str.ofString "-" else Str.ofString "+"
theorem expSign_len (p : Int) : (expSign p).length = 1 := by unfold expSign; split <;> decide
def absText (p : Int) : Str := numText (absI p)
theorem absText_len {p : Int} (h1 : -10 ^ 9 < p) (h2 : p < 10 ^ 9) : 1 ≤ (absText p).length ∧ (absText p).length ≤ 9 := numText_len (absI_range h1 h2).1 (absI_range h1 h2).2
def expoV (x : Str) (p : Int) (z : Option Int) : Option Str :=
  match z with
  | none =>
    if ((absText p).length : Int) ≤ 2 then some (x ++ expSign p ++ Txt.mul (Str.ofString "0") (2 - (absText p).length) ++ absText p)
    else if ((absText p).length : Int) = 3 then some (expSign p ++ absText p)
    else none
  | some k =>
    if ((absText p).length : Int) > k then none
    else some (x ++ expSign p ++ Txt.mul (Str.ofString "0") (k - (absText p).length) ++ absText p)
def OptStr (v : Value) (o : Option Str) (b : Nat) : Prop := (o = none ∧ v = .none) ∨ ∃ x t, o = some x ∧ v = .str x t ∧ x.length ≤ b
theorem opt_none {o : Option Str} {b : Nat} (h : o = none) : OptStr .none o b := .inl ⟨h, rfl⟩
theorem opt_some {o : Option Str} {x : Str} {t : Tok} {b : Nat} (hb : ∀ y, o = some y → y.length ≤ b) (h : o = some x) : OptStr (.str x t) o b := .inr ⟨x, t, h, rfl, hb x h⟩
theorem expoV_len {x : Str} {p : Int} {z : Option Int} (hz : ∀ k, z = some k → k ≤ 5) (hx : x.length ≤ 1) (h1 : -100000 < p) (h2 : p < 100000) (y : Str) (h : expoV x p z = some y) : y.length ≤ 30 := by
  have hn : 1 ≤ (absText p).length ∧ (absText p).length ≤ 9 := absText_len (by omega) (by omega)
  have hs := expSign_len p
  unfold expoV at h
  split at h
  · split at h
    · injection h with h; subst h
      simp only [PySem.Str.length_append, mul_len _ len_zero, hs]; omega
    · split at h
      · injection h with h; subst h
        simp only [PySem.Str.length_append, hs]; omega
      · cases h
  · rename_i k
    have hk := hz k rfl
    split at h
    · cases h
    · injection h with h; subst h
      simp only [PySem.Str.length_append, mul_len _ len_zero, hs]; omega
def digitsV (f : Str) (places : Int) : Str := Txt.mul (Str.ofString "0") (places - f.length) ++ f
def editFixedV (n e width places scale : Int) (plus : Bool) : Str :=
  pointV (signV (decide (n < 0) && (figuresV (absI n) (e + scale + places) != Str.ofString "")) plus)
    (Txt.slice (digitsV (figuresV (absI n) (e + scale + places)) places) none (some ((digitsV (figuresV (absI n) (e + scale + places)) places).length - places)))
    (Txt.slice (digitsV (figuresV (absI n) (e + scale + places)) places) (some ((digitsV (figuresV (absI n) (e + scale + places)) places).length - places)) none) width
theorem editFixedV_len {n e width places scale : Int} {plus : Bool} (h : 0 ≤ width) : (editFixedV n e width places scale plus).length = width.toNat := pointV_len h
def leadingV (n e count : Int) : Str × Int :=
  if absI n = 0 then (Txt.mul (Str.ofString "0") count, 0)
  else if ((figuresV (absI n) (count - (numText (absI n)).length)).length : Int) > count then (Txt.slice (figuresV (absI n) (count - (numText (absI n)).length)) none (some count), (numText (absI n)).length + e + 1)
  else (figuresV (absI n) (count - (numText (absI n)).length), (numText (absI n)).length + e)
theorem slice_len (x : Str) (l u : Option Int) : (Txt.slice x l u).length ≤ x.length := Txt.slice_le x l u
theorem leadingV_range {n e count : Int} {A : Str} {B : Int} (hn1 : -10 ^ 9 < n) (hn2 : n < 10 ^ 9) (he1 : -60 ≤ e) (he2 : e ≤ 60) (hc1 : 1 ≤ count) (hc2 : count ≤ 15000) (h : leadingV n e count = (A, B)) :
    A.length ≤ 20000 ∧ -100 ≤ B ∧ B ≤ 100 := by
  have hr := absI_range hn1 hn2
  have hl := numText_len hr.1 hr.2
  have hf := figuresV_len (n := absI n) (p := count - (numText (absI n)).length) hr.1 hr.2
  have hs := slice_len (figuresV (absI n) (count - (numText (absI n)).length)) none (some count)
  unfold leadingV at h
  split at h
  · injection h with h1 h2; subst h1 h2
    rw [mul_len _ len_zero]; omega
  · split at h
    · injection h with h1 h2; subst h1 h2
      refine ⟨?_, ?_, ?_⟩ <;> omega
    · injection h with h1 h2; subst h1 h2
      refine ⟨?_, ?_, ?_⟩ <;> omega
open Classical in
noncomputable def aroundV (x : Str) (p places : Int) : Str × Str :=
  if 0 ≤ p then (x ++ Txt.mul (Str.ofString "0") p, Txt.mul (Str.ofString "0") places)
  else if 0 < (x.length : Int) + p then
    (if ((Txt.slice x (some (x.length + p)) none).length : Int) ≤ places then (Txt.slice x none (some (x.length + p)), Txt.slice x (some (x.length + p)) none ++ Txt.mul (Str.ofString "0") (places - (Txt.slice x (some (x.length + p)) none).length))
    else if (Txt.item (Txt.slice x (some (x.length + p)) none) places).cps.toList < (Str.ofString "5").cps.toList then
      (Txt.slice (Txt.slice x none (some (x.length + p)) ++ Txt.slice (Txt.slice x (some (x.length + p)) none) none (some places)) none (some ((Txt.slice x none (some (x.length + p)) ++ Txt.slice (Txt.slice x (some (x.length + p)) none) none (some places)).length - places)),
       Txt.slice (Txt.slice x none (some (x.length + p)) ++ Txt.slice (Txt.slice x (some (x.length + p)) none) none (some places)) (some ((Txt.slice x none (some (x.length + p)) ++ Txt.slice (Txt.slice x (some (x.length + p)) none) none (some places)).length - places)) none)
    else
      (Txt.slice (nextUpV (Txt.slice x none (some (x.length + p)) ++ Txt.slice (Txt.slice x (some (x.length + p)) none) none (some places))) none (some ((nextUpV (Txt.slice x none (some (x.length + p)) ++ Txt.slice (Txt.slice x (some (x.length + p)) none) none (some places))).length - places)),
       Txt.slice (nextUpV (Txt.slice x none (some (x.length + p)) ++ Txt.slice (Txt.slice x (some (x.length + p)) none) none (some places))) (some ((nextUpV (Txt.slice x none (some (x.length + p)) ++ Txt.slice (Txt.slice x (some (x.length + p)) none) none (some places))).length - places)) none))
  else
    (if ((Txt.mul (Str.ofString "0") (-(x.length + p)) ++ x).length : Int) ≤ places then (Str.ofString "", Txt.mul (Str.ofString "0") (-(x.length + p)) ++ x ++ Txt.mul (Str.ofString "0") (places - (Txt.mul (Str.ofString "0") (-(x.length + p)) ++ x).length))
    else if (Txt.item (Txt.mul (Str.ofString "0") (-(x.length + p)) ++ x) places).cps.toList < (Str.ofString "5").cps.toList then
      (Txt.slice (Str.ofString "" ++ Txt.slice (Txt.mul (Str.ofString "0") (-(x.length + p)) ++ x) none (some places)) none (some ((Str.ofString "" ++ Txt.slice (Txt.mul (Str.ofString "0") (-(x.length + p)) ++ x) none (some places)).length - places)),
       Txt.slice (Str.ofString "" ++ Txt.slice (Txt.mul (Str.ofString "0") (-(x.length + p)) ++ x) none (some places)) (some ((Str.ofString "" ++ Txt.slice (Txt.mul (Str.ofString "0") (-(x.length + p)) ++ x) none (some places)).length - places)) none)
    else
      (Txt.slice (nextUpV (Str.ofString "" ++ Txt.slice (Txt.mul (Str.ofString "0") (-(x.length + p)) ++ x) none (some places))) none (some ((nextUpV (Str.ofString "" ++ Txt.slice (Txt.mul (Str.ofString "0") (-(x.length + p)) ++ x) none (some places))).length - places)),
       Txt.slice (nextUpV (Str.ofString "" ++ Txt.slice (Txt.mul (Str.ofString "0") (-(x.length + p)) ++ x) none (some places))) (some ((nextUpV (Str.ofString "" ++ Txt.slice (Txt.mul (Str.ofString "0") (-(x.length + p)) ++ x) none (some places))).length - places)) none))
def field2V (x y : Str) (n : Int) : Str := if (x.length : Int) ≤ n then fieldV x n else fieldV y n
theorem field2V_len {x y : Str} {n : Int} (h0 : 0 ≤ n) : (field2V x y n).length = n.toNat := by
  unfold field2V
  split <;> exact fieldV_len h0
noncomputable def byfWR (n e places scale : Int) : Str × Str :=
  if n = 0 then (Str.ofString "", Txt.mul (Str.ofString "0") places) else aroundV (numText (absI n)) (e + scale) places
def fieldsV (S A B : Str) (width : Int) : Str :=
  if (A == Str.ofString "") = true then
    (if (B == Str.ofString "") = true then fieldV (S ++ Str.ofString "0.") width
    else field2V (S ++ Str.ofString "0." ++ B) (S ++ A ++ Str.ofString "." ++ B) width)
  else fieldV (S ++ A ++ Str.ofString "." ++ B) width
theorem fieldsV_len {S A B : Str} {n : Int} (h0 : 0 ≤ n) : (fieldsV S A B n).length = n.toNat := by
  unfold fieldsV
  split
  · split
    · exact fieldV_len h0
    · exact field2V_len h0
  · exact fieldV_len h0
noncomputable def byfV (n e width places scale : Int) (plus : Bool) : Str :=
  fieldsV (signV (decide (n < 0) && (Txt.stripChars ((byfWR n e places scale).1 ++ (byfWR n e places scale).2) (Str.ofString "0") != Str.ofString "")) plus) (byfWR n e places scale).1 (byfWR n e places scale).2 width
theorem byfV_len {n e width places scale : Int} {plus : Bool} (h : 0 ≤ width) : (byfV n e width places scale plus).length = width.toNat := fieldsV_len h
open Classical in
noncomputable def firstV (n e many : Int) : Str × Int :=
  if n = 0 then (Txt.mul (Str.ofString "0") many, 0)
  else if ((numText (absI n)).length : Int) ≤ many then (numText (absI n) ++ Txt.mul (Str.ofString "0") (many - (numText (absI n)).length), (numText (absI n)).length + e)
  else if (Txt.item (numText (absI n)) many).cps.toList < (Str.ofString "5").cps.toList then
    (Txt.slice (Txt.slice (numText (absI n)) none (some many)) none (some many), (numText (absI n)).length + e + (Txt.slice (numText (absI n)) none (some many)).length - many)
  else (Txt.slice (nextUpV (Txt.slice (numText (absI n)) none (some many))) none (some many), (numText (absI n)).length + e + (nextUpV (Txt.slice (numText (absI n)) none (some many))).length - many)
theorem slice_to_len {x : Str} {k : Int} (h0 : 0 ≤ k) (h1 : k ≤ x.length) : (Txt.slice x none (some k)).length = k.toNat := by
  rw [← len_list, slice_to h0 h1, List.length_take, len_list]; omega
theorem nextUpV_len2 (x : Str) : x.length ≤ (nextUpV x).length := by
  unfold nextUpV
  split <;> rw [P_len] <;> omega
theorem firstV_range {n e many : Int} {A : Str} {B : Int} (hn1 : -10 ^ 9 < n) (hn2 : n < 10 ^ 9) (he1 : -60 ≤ e) (he2 : e ≤ 60) (hc1 : 1 ≤ many) (hc2 : many ≤ 15000) (h : firstV n e many = (A, B)) :
    A.length ≤ 20000 ∧ -100 ≤ B ∧ B ≤ 100 := by
  have hr := absI_range hn1 hn2
  have hl := numText_len hr.1 hr.2
  have s1 := slice_len (numText (absI n)) none (some many)
  have s2 := slice_len (Txt.slice (numText (absI n)) none (some many)) none (some many)
  have s3 := slice_len (nextUpV (Txt.slice (numText (absI n)) none (some many))) none (some many)
  have s4 := nextUpV_len (Txt.slice (numText (absI n)) none (some many))
  have s5 := nextUpV_len2 (Txt.slice (numText (absI n)) none (some many))
  unfold firstV at h
  split at h
  · injection h with h1 h2; subst h1 h2
    rw [mul_len _ len_zero]; omega
  · split at h
    · injection h with h1 h2; subst h1 h2
      rw [PySem.Str.length_append, mul_len _ len_zero]; omega
    · have s6 := slice_to_len (x := numText (absI n)) (k := many) (by omega) (by omega)
      split at h
      · injection h with h1 h2; subst h1 h2
        refine ⟨?_, ?_, ?_⟩ <;> omega
      · injection h with h1 h2; subst h1 h2
        refine ⟨?_, ?_, ?_⟩ <;> omega
noncomputable def byeW (x : Str) (n e width places : Int) (z : Option Int) (scale : Int) (plus : Bool) (count : Int) : Str :=
  match expoV x (if n = 0 then 0 else (firstV n e count).2 - scale) z with
  | none => Txt.mul (Str.ofString "*") width
  | some told =>
    if 0 < scale then fieldV (signV (decide (n < 0)) plus ++ Txt.slice (firstV n e count).1 none (some scale) ++ Str.ofString "." ++ Txt.slice (firstV n e count).1 (some scale) none ++ told) width
    else field2V (signV (decide (n < 0)) plus ++ Str.ofString "0" ++ (Str.ofString "." ++ Txt.mul (Str.ofString "0") (-scale) ++ (firstV n e count).1 ++ told)) (signV (decide (n < 0)) plus ++ (Str.ofString "." ++ Txt.mul (Str.ofString "0") (-scale) ++ (firstV n e count).1 ++ told)) width
noncomputable def byeV (x : Str) (n e width places : Int) (z : Option Int) (scale : Int) (plus : Bool) : Option Str :=
  if -places < scale then (if scale < places + 2 then some (byeW x n e width places z scale plus (if 0 < scale then places + 1 else places + scale)) else none) else none
theorem byeW_len {x : Str} {n e width places : Int} {z : Option Int} {scale : Int} {plus : Bool} {count : Int} (h : 0 ≤ width) : (byeW x n e width places z scale plus count).length = width.toNat := by
  unfold byeW
  split
  · rw [mul_len _ len_star]
  · split
    · exact fieldV_len h
    · exact field2V_len h
theorem byeV_len {x : Str} {n e width places : Int} {z : Option Int} {scale : Int} {plus : Bool} (h : 0 ≤ width) (h2 : width ≤ 20000) (y : Str) (hy : byeV x n e width places z scale plus = some y) : y.length ≤ 20000 := by
  unfold byeV at hy
  split at hy
  · split at hy
    · injection hy with hy; subst hy
      rw [byeW_len h]; omega
    · cases hy
  · cases hy
def expW (x : Str) (n e width places : Int) (z : Option Int) (scale : Int) (plus : Bool) (count : Int) : Str :=
  match expoV x (if n = 0 then (leadingV n e count).2 else (leadingV n e count).2 - scale) z with
  | none => Txt.mul (Str.ofString "*") width
  | some tail =>
    if scale ≤ 0 then pointV (signV (decide (n < 0)) plus) (Str.ofString "") (Txt.mul (Str.ofString "0") (-scale) ++ (leadingV n e count).1 ++ tail) width
    else pointV (signV (decide (n < 0)) plus) (Txt.slice (leadingV n e count).1 none (some scale)) (Txt.slice (leadingV n e count).1 (some scale) none ++ tail) width
def expV (x : Str) (n e width places : Int) (z : Option Int) (scale : Int) (plus : Bool) : Str := expW x n e width places z scale plus (if scale ≤ 0 then places + scale else places + 1)
theorem expV_len {x : Str} {n e width places : Int} {z : Option Int} {scale : Int} {plus : Bool} (h : 0 ≤ width) : (expV x n e width places z scale plus).length = width.toNat := by
  unfold expV expW
  split
  · rw [mul_len _ len_star]
  · split <;> exact pointV_len h
noncomputable def bygB (n e width places : Int) (plus : Bool) (bl : Int) : Str :=
  if width ≤ bl then Txt.mul (Str.ofString "*") width
  else if (Txt.item (byfV n e (width - bl) (places - ((numText (absI n)).length + e)) 0 plus) 0 == Str.ofString "*") = true then Txt.mul (Str.ofString "*") width
  else byfV n e (width - bl) (places - ((numText (absI n)).length + e)) 0 plus ++ Txt.mul (Str.ofString " ") bl
def blanksV (z : Option Int) : Int := match z with
  | none => 4
  | some k => k + 2
noncomputable def bygV (n e width places : Int) (z : Option Int) (scale : Int) (plus : Bool) : Option Str :=
  if n = 0 then byeV (Str.ofString "E") n e width places z scale plus
  else if 0 ≤ ((numText (absI n)).length : Int) + e then
    (if ((numText (absI n)).length : Int) + e ≤ places then some (bygB n e width places plus (blanksV z)) else byeV (Str.ofString "E") n e width places z scale plus)
  else byeV (Str.ofString "E") n e width places z scale plus
theorem bygB_len {n e width places : Int} {plus : Bool} {bl : Int} (h0 : 0 ≤ width) (h1 : 0 ≤ bl) : (bygB n e width places plus bl).length = width.toNat := by
  unfold bygB
  split
  · rw [mul_len _ len_star]
  · split
    · rw [mul_len _ len_star]
    · rw [PySem.Str.length_append, mul_len _ len_blank, byfV_len (by omega)]; omega
theorem bygV_len {n e width places : Int} {z : Option Int} {scale : Int} {plus : Bool} (h : 0 ≤ width) (h2 : width ≤ 20000) (hz : 0 ≤ blanksV z) (y : Str) (hy : bygV n e width places z scale plus = some y) : y.length ≤ 20000 := by
  unfold bygV at hy
  split at hy
  · exact byeV_len h h2 y hy
  · split at hy
    · split at hy
      · injection hy with hy; subst hy
        rw [bygB_len h hz]; omega
      · exact byeV_len h h2 y hy
    · exact byeV_len h h2 y hy
def isGenV (n e places : Int) : Bool := if n = 0 then false else decide (0 ≤ ((numText (absI n)).length : Int) + e) && decide (((numText (absI n)).length : Int) + e ≤ places)
def genB (n e width places : Int) (plus : Bool) (bl : Int) : Str :=
  if width ≤ bl then Txt.mul (Str.ofString "*") width
  else if (Txt.item (editFixedV n e (width - bl) (places - ((numText (absI n)).length + e)) 0 plus) 0 == Str.ofString "*") = true then Txt.mul (Str.ofString "*") width
  else editFixedV n e (width - bl) (places - ((numText (absI n)).length + e)) 0 plus ++ Txt.mul (Str.ofString " ") bl
def generalV (n e width places : Int) (z : Option Int) (scale : Int) (plus : Bool) : Str :=
  if isGenV n e places = true then genB n e width places plus (blanksV z) else expV (Str.ofString "E") n e width places z scale plus
theorem genB_len {n e width places : Int} {plus : Bool} {bl : Int} (h0 : 0 ≤ width) (h1 : 0 ≤ bl) : (genB n e width places plus bl).length = width.toNat := by
  unfold genB
  split
  · rw [mul_len _ len_star]
  · split
    · rw [mul_len _ len_star]
    · rw [PySem.Str.length_append, mul_len _ len_blank, editFixedV_len (by omega)]; omega
theorem sign_def {p q : Bool} {news : Led} : Def 67 [.bool p, .bool q] news 1 (Ret (.str (signV p q) 1) news) := by
  unfold Def Calls
  k_fill
  intro w
  refine' Def.of (need := 0) (ns := ["is_minus", "is_plus"]) ?f1 ?f2 ?f3 rfl (by decide) ?hl ?hc ?hg ?hk ?hcell ?hb
  case f1 => k_is
  case f2 => k_is
  case f3 => exact len_ind2 fun _ _ => rfl
  case hl => decide
  case hc => rfl
  case hg => rfl
  case hk => rfl
  case hcell => decide
  refine fun c ok fx => ?_
  dsimp only [List.zip_cons_cons, List.zip_nil_left]
  walk_at "leave"
  · intro hp
    walk_at "retS"
    · exact (if_t hp).symm
    · exact fun _ => signV_len _ _
  intro hp
  walk_at "leave"
  · intro hq
    walk_at "retS"
    · exact ((if_f hp).trans (if_t hq)).symm
    · exact fun _ => signV_len _ _
  intro hq
  walk_at "retS"
  · exact ((if_f hp).trans (if_f hq)).symm
  · exact fun _ => signV_len _ _
theorem fieldV_le {x : Str} {n N : Int} (h0 : 0 ≤ n) (h1 : n ≤ N) : (fieldV x n).length ≤ N.toNat := by rw [fieldV_len h0]; omega
theorem field_def {x : Str} {n : Int} {news : Led} : Def 60 [.str x 200000, .int n 0 20000] news 1 (Ret (.str (fieldV x n) 20000) news) := by
  unfold Def Calls
  k_fill
  intro w
  refine' Def.of (need := 0) (ns := ["text", "width"]) ?f1 ?f2 ?f3 rfl (by decide) ?hl ?hc ?hg ?hk ?hcell ?hb
  case f1 => k_is
  case f2 => k_is
  case f3 => exact len_ind2 fun _ _ => rfl
  case hl => decide
  case hc => rfl
  case hg => rfl
  case hk => rfl
  case hcell => decide
  refine fun c ok fx => ?_
  dsimp only [List.zip_cons_cons, List.zip_nil_left]
  obtain ⟨_, ⟨h0, h1⟩, _⟩ := fx
  walk_at "leave"
  · walk_at "fact"; intro hp
    walk_at "retS"
    · exact (if_pos hp).symm
    · exact fun _ => fieldV_le h0 h1
  walk_at "fact"; intro hp
  walk_at "retS"
  · exact (if_neg hp).symm
  · exact fun _ => fieldV_le h0 h1
local macro_rules | `(tactic| walk_at "evc") => `(tactic| ((first | ((with_reducible refine' Ev.call (by assumption) field_def ?ha ?hg ?hf ?hn ?hx ?hd ?hs ?hss); (case hg => k_is)) | ((with_reducible refine' Ev.call (by assumption) sign_def ?ha ?hg ?hf ?hn ?hx ?hd ?hs ?hss); (case hg => k_is))); (case hf => k_is); (case ha => walk_at "evl"); (case hn => decide); (case hx => rfl); (case hd => rfl); (case hs => rfl); (case hss => rfl)))
theorem pointV_le {x y z : Str} {n N : Int} (h0 : 0 ≤ n) (h1 : n ≤ N) : (pointV x y z n).length ≤ N.toNat := by rw [pointV_len h0]; omega
theorem point_def {x y z : Str} {n : Int} {news : Led} : Def 88 [.str x 1, .str y 60000, .str z 60000, .int n 0 20000] news 2 (Ret (.str (pointV x y z n) 20000) news) := by
  unfold Def Calls
  k_fill
  intro w
  refine' Def.of (need := 1) (ns := ["sign", "whole", "rest", "width"]) ?f1 ?f2 ?f3 rfl (by decide) ?hl ?hc ?hg ?hk ?hcell ?hb
  case f1 => k_is
  case f2 => k_is
  case f3 => exact len_ind4 fun _ _ _ _ => rfl
  case hl => decide
  case hc => rfl
  case hg => rfl
  case hk => rfl
  case hcell => decide
  refine fun c ok fx => ?_
  dsimp only [List.zip_cons_cons, List.zip_nil_left]
  obtain ⟨_, _, _, ⟨h0, h1⟩, _⟩ := fx
  refine' Ex.iteP True ?t1 ?p1 ?q1 ?r1
  case t1 => walk_at "et"
  case p1 =>
    intro _
    walk_at "set"
    exact Ex.nil ⟨trivial, rfl, rfl⟩
  case q1 =>
    intro hp _
    rw [Bool.and_eq_true_iff] at hp
    refine' Ex.iteP True (mdA := []) ?t2 ?p2 ?q2 ?r2
    case t2 => walk_at "et"
    case p2 => intro h; exact absurd h (by decide)
    case q2 => intro h; exact absurd h (by decide)
    case r2 =>
      intro _
      walk_at "retS"
      · unfold pointV; rw [if_pos hp.1, if_pos hp.2]
      · exact fun _ => pointV_le h0 h1
  case r1 =>
    intro hp
    refine' Ex.iteP (¬ ((x.length + (Str.ofString "0.").length + z.length : Nat) : Int) ≤ n) ?t3 ?p3 ?q3 ?r3
    case t3 => walk_at "et"
    case p3 =>
      intro hy
      rw [hy, Bool.true_and] at hp
      walk_at "set"
      walk_at "leave"
      · walk_at "fact"; intro hl
        rw [PySem.Str.length_append, PySem.Str.length_append] at hl
        walk_at "retS"
        · unfold pointV; rw [if_pos hy, if_neg (ne_true_of_eq_false hp), if_pos hl]
        · exact fun _ => pointV_le h0 h1
      walk_at "fact"; intro hl
      rw [PySem.Str.length_append, PySem.Str.length_append] at hl
      exact Ex.nil ⟨hl, rfl, rfl⟩
    case q3 =>
      intro hy hl
      rw [hy, Bool.true_and] at hp
      walk_at "retS"
      · unfold pointV; rw [if_pos hy, if_neg (ne_true_of_eq_false hp), if_neg hl]
      · exact fun _ => pointV_le h0 h1
    case r3 =>
      intro hy
      walk_at "retS"
      · unfold pointV; rw [if_neg (ne_true_of_eq_false hy)]
      · exact fun _ => pointV_le h0 h1
theorem expo_def0 {x : Str} {p : Int} {news : Led} : Def 109 [.str x 1, .int p (-99999) 99999, .val .none] news 1 (Ret (oD (expoV x p none) 30) news) := by
  unfold Def Calls
  k_fill
  intro w
  refine' Def.of (need := 0) (ns := ["letter", "power", "size"]) ?f1 ?f2 ?f3 rfl (by decide) ?hl ?hc ?hg ?hk ?hcell ?hb
  case f1 => k_is
  case f2 => k_is
  case f3 => exact len_ind3 fun _ _ _ => rfl
  case hl => decide
  case hc => rfl
  case hg => rfl
  case hk => rfl
  case hcell => decide
  refine fun c ok fx => ?_
  dsimp only [List.zip_cons_cons, List.zip_nil_left]
  walk_at "set"
  refine' Ex.ite (J1 := fun md' nw => md' = ((("sign" : Str), VD.str (expSign p) 1) :: [(("letter" : Str), VD.str x 1), (("power" : Str), VD.int p (-99999) 99999), (("size" : Str), VD.val .none)]) ∧ nw = news) ?t4 ?_ ?_ ?_
  case t4 => walk_at "et"
  · walk_at "fact"; intro hp
    walk_at "set"
    refine Ex.conv (fun m hm => hm.drop) (Ex.nil ⟨?_, rfl⟩)
    unfold expSign; rw [if_pos hp]
  · walk_at "fact"; intro hp
    refine Ex.nil ⟨?_, rfl⟩
    unfold expSign; rw [if_neg hp]
  rintro _ _ ⟨rfl, rfl⟩
  walk_at "set"
  refine' Ex.ite (J1 := fun _ _ => False) ?t5 ?_ ?_ ?_
  case t5 => walk_at "et"
  · intro _
    walk_at "leave"
    · walk_at "fact"; intro hl
      walk_at "retO"
      unfold expoV absText numText; dsimp only; rw [if_pos hl]
    walk_at "fact"; intro hl
    walk_at "leave"
    · walk_at "fact"; intro hl2
      walk_at "retO"
      unfold expoV absText numText; dsimp only; rw [if_neg hl, if_pos hl2]
    walk_at "fact"; intro hl2
    walk_at "retN"
    unfold expoV absText numText; dsimp only; rw [if_neg hl, if_neg hl2]
  · intro h; cases h
  · rintro _ _ ⟨⟩
theorem expo_def1 {x : Str} {p k : Int} {news : Led} : Def 109 [.str x 1, .int p (-99999) 99999, .int k 1 5] news 1 (Ret (oD (expoV x p (some k)) 30) news) := by
  unfold Def Calls
  k_fill
  intro w
  refine' Def.of (need := 0) (ns := ["letter", "power", "size"]) ?f1 ?f2 ?f3 rfl (by decide) ?hl ?hc ?hg ?hk ?hcell ?hb
  case f1 => k_is
  case f2 => k_is
  case f3 => exact len_ind3 fun _ _ _ => rfl
  case hl => decide
  case hc => rfl
  case hg => rfl
  case hk => rfl
  case hcell => decide
  refine fun c ok fx => ?_
  dsimp only [List.zip_cons_cons, List.zip_nil_left]
  walk_at "set"
  refine' Ex.ite (J1 := fun md' nw => md' = ((("sign" : Str), VD.str (expSign p) 1) :: [(("letter" : Str), VD.str x 1), (("power" : Str), VD.int p (-99999) 99999), (("size" : Str), VD.int k 1 5)]) ∧ nw = news) ?t11 ?_ ?_ ?_
  case t11 => walk_at "et"
  · walk_at "fact"; intro hp
    walk_at "set"
    refine Ex.conv (fun m hm => hm.drop) (Ex.nil ⟨?_, rfl⟩)
    unfold expSign; rw [if_pos hp]
  · walk_at "fact"; intro hp
    refine Ex.nil ⟨?_, rfl⟩
    unfold expSign; rw [if_neg hp]
  rintro _ _ ⟨rfl, rfl⟩
  walk_at "set"
  walk_at "leave"
  · intro h; cases h
  intro _
  walk_at "leave"
  · walk_at "fact"; intro hl
    walk_at "retN"
    unfold expoV absText numText; dsimp only; rw [if_pos hl]
  walk_at "fact"; intro hl
  walk_at "retO"
  unfold expoV absText numText; dsimp only; rw [if_neg hl]
theorem expo_def {x : Str} {p : Int} {z : Option Int} {news : Led} : Def 109 [.str x 1, .int p (-99999) 99999, zD z] news 1 (Ret (oD (expoV x p z) 30) news) := by
  cases z with
  | none => exact expo_def0
  | some k => exact expo_def1
section
variable {c : Ctx} {cs : Scope} {md md2 : Loc} {news : Led} {need : Nat} {pos np ip : Pos} {k : Nat} {rest : List Stmt} {R : Value → Led → Prop} {J J1 : Loc → Led → Prop}
/-- a power of ten -/
theorem Ev.pow10 {e : Expr} {p p1 p2 : Int} {kk : Nat} {pp : Pos} (he : Ev c cs md news e (.int p p1 p2)) (h0 : 0 ≤ p1) (h1 : p2 ≤ 1000000) : Ev c cs md news (.BinOp (.Constant (.int 10) kk pp) .Pow e pos) (.int (10 ^ p.toNat) (10 ^ p.toNat) (10 ^ p.toNat)) := by
  intro m h t Q E hm F N q
  refine wpAny_BinOp (wpAny_Constant_int (he m h _ _ _ hm F N fun u h2 t2 q2 F2 N2 => ?_))
  obtain ⟨⟨tu, rfl⟩, h3, h4⟩ := q2
  exact pow_int_small (by omega) (by omega) (by decide) (q _ h2 _ ⟨⟨_, rfl⟩, Int.le_refl _, Int.le_refl _⟩ F2 N2)
theorem Ev.mulI {l r : Expr} {a a1 a2 b b1 b2 : Int} (lo hi : Int) (hl : Ev c cs md news l (.int a a1 a2)) (hr : Ev c cs md news r (.int b b1 b2)) (ho : IntMulOk a b) (h : lo ≤ a * b ∧ a * b ≤ hi) : Ev c cs md news (.BinOp l .Mult r pos) (.int (a * b) lo hi) := by
  intro m h t Q E hm F N q
  refine wpAny_BinOp (hl m h t _ _ hm F N fun v h1 t1 q1 F1 N1 => hr m h1 t1 _ _ hm F1 N1 fun u h2 t2 q2 F2 N2 => ?_)
  obtain ⟨⟨tv, rfl⟩, hx1, hx2⟩ := q1
  obtain ⟨⟨tu, rfl⟩, hy1, hy2⟩ := q2
  exact mul_int (q _ h2 _ ⟨⟨_, rfl⟩, by assumption⟩ F2 N2) ho
theorem Ev.fdivI {l r : Expr} {a a1 a2 b b1 b2 : Int} (lo hi : Int) (hl : Ev c cs md news l (.int a a1 a2)) (hr : Ev c cs md news r (.int b b1 b2)) (h0 : b ≠ 0) (ho : b.natAbs.log2 < 9000) (h : lo ≤ a.fdiv b ∧ a.fdiv b ≤ hi) : Ev c cs md news (.BinOp l .FloorDiv r pos) (.int (a.fdiv b) lo hi) := by
  intro m h t Q E hm F N q
  refine wpAny_BinOp (hl m h t _ _ hm F N fun v h1 t1 q1 F1 N1 => hr m h1 t1 _ _ hm F1 N1 fun u h2 t2 q2 F2 N2 => ?_)
  obtain ⟨⟨tv, rfl⟩, hx1, hx2⟩ := q1
  obtain ⟨⟨tu, rfl⟩, hy1, hy2⟩ := q2
  exact floordiv_int h0 (q _ h2 _ ⟨⟨_, rfl⟩, by assumption⟩ F2 N2) (Or.inl (PyProof.noPylong_of_log2 ho))
theorem g_int (w : World) : nsIn (hd.heap_39 w.params) mainGlobals "int" = some none := by kernel_rfl
theorem Ev.intOf (ok : c.Ok cs need) {e : Expr} {x : Str} {d : Int} {K : Nat} (he : Ev c cs md news e (.str x K)) (h1 : PySem.intText? x = some d) (hK : K ≤ 640) (hx : cs.names.lookup ("int" : Str) = some .globalImplicit) (hs : isStar e = false) :
    Ev c cs md news (.Call (.Name "int" np) [e] [] pos) (.int d d d) := by
  refine Ev.tcall ok (g_int _) PyProof.Rows.boot_int (by decide) hx (by decide) he hs ?_
  rintro v h t Q E ⟨⟨tv, rfl⟩, hx1⟩ k
  exact KIN.call_text h1 (by omega) (k _ _ ⟨⟨_, rfl⟩, Int.le_refl _, Int.le_refl _⟩)
/-- a while whose turns come to no return -/
theorem Ex.while (I : Nat → Loc → Prop) {n₀ : Nat} {test : Expr} {body : List Stmt} (h0 : I n₀ md)
    (turn : ∀ n md, I n md → ∃ b, Et c cs md news test b ∧ (b = true → Ex c cs md news body (fun _ _ => False) fun md' nw => nw = news ∧ ∃ n' md2, n' < n ∧ I n' md2 ∧ ∀ m, Fits m md' → Fits m md2) ∧ (b = false → Ex c cs md news rest R J)) :
    Ex c cs md news (.While test body [] pos :: rest) R J := by
  intro m h t Q E hm F N kr kj
  refine wpAny_execs_cons (wpAny_mono (E := fun _ _ => False) (While_inv (fun n m₁ nw => nw = news ∧ ∃ md', Fits m₁ md' ∧ I n md') F N ⟨rfl, md, hm, h0⟩ ?_) (fun _ _ z => z) fun _ _ z => z.elim)
  rintro n m₁ nw h₁ tk₁ F₁ N₁ ⟨rfl, md', hm', hI⟩
  obtain ⟨b, ht, hb, hr⟩ := turn n md' hI
  refine ht m₁ h₁ tk₁ _ _ hm' F₁ N₁ fun h2 t2 F2 N2 => ?_
  cases b with
  | true => exact hb rfl m₁ h2 t2 _ _ hm' F2 N2 (fun _ _ _ _ _ z => z.elim) fun _ nw2 m2 h3 t3 ⟨e2, n', md2, hn', hI', hc⟩ hm2 F3 N3 => WhileStep.intro F3 N3 hn' ⟨e2, md2, hc _ hm2, hI'⟩
  | false => exact hr rfl m₁ h2 t2 _ _ hm' F2 N2 kr kj
/-- the turns of a for over a list -/
def Turns (c : Ctx) (cs : Scope) (x : Str) (body : List Stmt) (news : Led) (d : VD) (A : Loc → Prop) : List VD → Loc → Prop
  | [], md => A md
  | e :: es, md => ∀ z, Ex c cs ((x, e) :: md) (z :: news) body (Ret d (z :: news)) fun md' nw => nw = z :: news ∧ Turns c cs x body news d A es md'
theorem Ex.for (ok : c.Ok cs need) {x y : Str} {xp yp : Pos} {body : List Stmt} {ra : Addr} {vs : List Value} {ds : List VD} {d : VD} (hl : md.lookup y = some (.val (.ref ra))) (hr : (ra, W.listOf vs.toArray 0) ∈ news) (hv : HasL ds vs)
    (hy : cs.names.lookup y = some .local) (hyd : (y == ("__debug__" : Str)) = false) (hx : cs.names.lookup x = some .local)
    (h : Turns c cs x body news d (fun md' => Ex c cs md' news rest (Ret d news) J) ds md) : Ex c cs md news (.For (.Name x xp) (.Name y yp) body [] pos :: rest) (Ret d news) J := by
  intro m h1 t1 Q E hm F N kr kj
  obtain ⟨u, hu, rfl⟩ := hm _ _ hl
  refine wpAny_execs_cons (wpAny_mono (E := fun _ _ => False) (For_invVF (env := c.env cs) (h₀ := c.h₀) F (by unfold Env.kindOf; exact hx) (by show (cs.kind == .class || (cs.kind == .module && _)) = false; rw [ok.hk]; rfl) ?_) (fun _ _ z => z) fun _ _ z => z.elim)
  refine nameX_L F hu ?_ ok.hk (by unfold Env.kindOf; exact hy) hyd
  refine iter_listUnr (env := c.env cs) (h₀ := c.h₀) rfl F N hr rfl rfl fun I hI => ?_
  have key : ∀ (ds : List VD) (us : List Value), HasL ds us → ∀ (md : Loc) (m : Str → Option Value), Fits m md → Turns c cs x body news d (fun md' => Ex c cs md' news rest (Ret d news) J) ds md →
      ListRest PySem.Challenge.rw_pq0351_01.row.prog c.w (c.A cs) (fun _ _ => False) c.h₀ (c.env cs) x body (fun f s' => match f with | .next => wpAny c.M (c.A cs) (execs rest (c.env cs)) Q E s' | f => Q f s') (c.st h1 t1) I (ra, W.listOf vs.toArray 0) us m news := by
    intro ds us hv
    induction hv with
    | nil => intro md m hm T; exact fun h2 t2 F2 N2 => T m h2 t2 Q E hm F2 N2 kr kj
    | cons hd _ ih =>
      intro md m hm T it h2 t2 _ F2 N2
      refine T (I, it) _ h2 t2 _ _ (hm.set hd) F2 N2 (fun v nw m' h3 t3 r F3 N3 => ?_) fun md' nw m' h3 t3 j hm3 F3 N3 => ?_
      · obtain ⟨r1, rfl⟩ := r
        exact kr v news m' h3 t3 ⟨r1, rfl⟩ F3 (drop1 N3)
      · obtain ⟨rfl, T'⟩ := j
        exact ⟨h3, t3, m', news, rfl, F3, N3, fun p hp => Nat.ne_of_lt (hI p hp), hr, ih md' m' hm3 T'⟩
  exact key ds vs hv md m hm h
end
theorem item_digit {x : Str} {k : Int} (hd : AllD x) (h0 : 0 ≤ k) (h1 : k < x.length) (h9 : (Txt.item x k == Str.ofString "9") = false) :
    ∃ d : Int, 0 ≤ d ∧ d ≤ 8 ∧ PySem.intText? (Txt.item x k) = some d ∧ x.cps.toList.getD k.toNat 0 = 48 + d.toNat := by
  have hk : k.toNat < x.cps.toList.length := by rw [len_list]; omega
  have hc := hd (x.cps.toList.getD k.toNat 0) (by rw [List.getD_eq_getElem?_getD, List.getElem?_eq_getElem hk]; exact List.getElem_mem hk)
  rw [item_list h0 h1] at h9 ⊢
  generalize x.cps.toList.getD k.toNat 0 = c at *
  have h57 : c ≠ 57 := by
    intro e
    subst e
    revert h9; decide
  refine ⟨(c : Int) - 48, by omega, by omega, ?_, by omega⟩
  have : c = 48 ∨ c = 49 ∨ c = 50 ∨ c = 51 ∨ c = 52 ∨ c = 53 ∨ c = 54 ∨ c = 55 ∨ c = 56 := by omega
  rcases this with h | h | h | h | h | h | h | h | h <;> subst h <;> decide +kernel
theorem item_nine {x : Str} {k : Int} (h0 : 0 ≤ k) (h1 : k < x.length) (h9 : (Txt.item x k == Str.ofString "9") = true) : x.cps.toList.getD k.toNat 0 = 57 := by
  rw [item_list h0 h1] at h9
  have h : (⟨#[x.cps.toList.getD k.toNat 0]⟩ : Str) = ⟨#[57]⟩ := by rw [beq_iff_eq.mp h9]; decide
  injection h with h
  injection h with h
  injection h
theorem scaled_def {n p : Int} {news : Led} : Def 74 [.int n 0 999999999, .int p (-200) 0] news 1 (Ret (.int (scaledV n p) 0 999999999) news) := by
  unfold Def Calls
  k_fill
  intro w
  refine' Def.of (need := 0) (ns := ["number", "power"]) ?f1 ?f2 ?f3 rfl (by decide) ?hl ?hc ?hg ?hk ?hcell ?hb
  case f1 => k_is
  case f2 => k_is
  case f3 => exact len_ind2 fun _ _ => rfl
  case hl => decide
  case hc => rfl
  case hg => rfl
  case hk => rfl
  case hcell => decide
  refine fun c ok fx => ?_
  dsimp only [List.zip_cons_cons, List.zip_nil_left]
  obtain ⟨⟨h0, h1⟩, ⟨h2, h3⟩, _⟩ := fx
  have hr := scaledV_range (n := n) (p := p) h0 h3
  walk_at "leave"
  · walk_at "fact"; intro hp
    refine Ex.sharpI (x := "power") 0 0 rfl ⟨hp, h3⟩ ?_
    have hv : scaledV n p = n * 10 ^ p.toNat := if_pos hp
    rw [hv] at hr ⊢
    refine' Ex.retD (Ev.mulI 0 999999999 ?a1 (Ev.pow10 ?b1 ?h1 ?i1) (IntMulOk.of_left (intBits_le ?c1)) ?d1)
    case a1 => walk_at "ev"
    case b1 => walk_at "ev"
    case h1 => decide
    case i1 => decide
    case c1 => omega
    case d1 => exact ⟨hr.1, by omega⟩
  walk_at "fact"; intro hp
  have hv : scaledV n p = Int.fdiv (2 * n + 10 ^ (-p).toNat) (2 * 10 ^ (-p).toNat) := if_neg hp
  rw [hv] at hr ⊢
  have hpow : (0 : Int) < 10 ^ (-p).toNat := Int.pow_pos (by decide)
  refine' Ex.set ok (Ev.pow10 ?a2 ?h2 ?i2) rfl rfl ?r2
  case a2 => walk_at "ev"
  case h2 => decide
  case i2 => decide
  case r2 =>
    refine' Ex.retD (Ev.fdivI 0 999999999 (Ev.addI (Ev.mulI (2 * n) (2 * n) Ev.cint ?b2 (IntMulOk.of_left (by decide)) ⟨Int.le_refl _, Int.le_refl _⟩) ?c2) (Ev.mulI (2 * 10 ^ (-p).toNat) (2 * 10 ^ (-p).toNat) Ev.cint ?d2 (IntMulOk.of_left (by decide)) ⟨Int.le_refl _, Int.le_refl _⟩) ?e2 (ten_py ?f2) ?g2)
    case b2 => walk_at "ev"
    case c2 => walk_at "ev"
    case d2 => walk_at "ev"
    case e2 => omega
    case f2 => omega
    case g2 => exact ⟨hr.1, by omega⟩
theorem nextup_def {x : Str} {news : Led} (hd : AllD x) : Def 158 [.str x 20000] news 1 (Ret (.str (nextUpV x) 20001) news) := by
  unfold Def Calls
  k_fill
  intro w
  refine' Def.of (need := 0) (ns := ["row"]) ?f1 ?f2 ?f3 rfl (by decide) ?hl ?hc ?hg ?hk ?hcell ?hb
  case f1 => k_is
  case f2 => k_is
  case f3 => exact len_ind1 fun _ => rfl
  case hl => decide
  case hc => rfl
  case hg => rfl
  case hk => rfl
  case hcell => decide
  refine fun c ok fx => ?_
  dsimp only [List.zip_cons_cons, List.zip_nil_left]
  have h0 : x.length ≤ 20000 := fx.1
  have hl : (nextUpV x).length ≤ 20001 := Nat.le_trans (nextUpV_len x) (Nat.succ_le_succ h0)
  walk_at "set"
  refine Ex.while (fun n md => ∃ k : Int, n = (k + 1).toNat ∧ -1 ≤ k ∧ k < x.length ∧ (∀ j : Nat, k < j → j < x.length → x.cps.toList.getD j 0 = 57) ∧ md = [(("at" : Str), VD.int k (-1) 19999), (("row" : Str), VD.str x 20000)]) (n₀ := x.length) ⟨(x.length : Int) - 1, by omega, by omega, by omega, fun j h1 h2 => absurd h2 (by omega), rfl⟩ ?_
  rintro n md ⟨k, rfl, hk1, hk2, hk3, rfl⟩
  refine' ⟨_, Et.and2 (a := decide (0 ≤ k)) (b := Txt.item x k == Str.ofString "9") ?p1 ?q1, ?t1, ?f1⟩
  case p1 => walk_at "et"
  case q1 =>
    walk_at "fact"; intro hk
    walk_at "et"
  case t1 =>
    intro hb
    rw [Bool.and_eq_true, decide_eq_true_eq] at hb
    walk_at "augSub"
    refine Ex.sharpI (x := "at") (-1) 19999 rfl ⟨by omega, by omega⟩ ?_
    refine Ex.nil ⟨rfl, k.toNat, _, by omega, ⟨k - 1, by omega, by omega, by omega, fun j h1 h2 => ?_, rfl⟩, fun m h => h.drop.drop⟩
    by_cases e : k < j
    · exact hk3 j e h2
    · rw [show j = k.toNat by omega]; exact item_nine hb.1 hk2 hb.2
  case f1 =>
    intro hb
    walk_at "set"
    refine' Ex.retD (Ev.ifexp ?t2 ?a2 ?b2)
    case t2 => walk_at "et"
    case a2 =>
      walk_at "fact"; intro hk
      refine' Ev.to ?a3 (nextUp_all hk3 (by omega) hk1) fun _ => hl
      case a3 => walk_at "ev"
    case b2 =>
      walk_at "fact"; intro hk
      rw [decide_eq_true (show 0 ≤ k by omega), Bool.true_and] at hb
      obtain ⟨d, hd0, hd1, hd2, hd3⟩ := item_digit hd (by omega) hk2 hb
      refine' Ev.to (Ev.addS (Ev.addS (K := 20000) ?a4 (Ev.item (Ev.cstr (K := 9) (by decide)) (Ev.intOf ok ?b4 hd2 (Nat.le_of_ble_eq_true rfl : 1 ≤ 640) rfl rfl) (by decide) hd0 ?c4 (fun _ _ _ => rfl) (fun _ _ _ => rfl)) (by decide)) ?d4 (Nat.le_of_ble_eq_true rfl : 20001 + 20000 ≤ 16777216)) (nextUp_at hd hk3 (by omega) hk2 hd0 hd1 hd3) fun _ => hl
      case a4 => walk_at "ev"
      case b4 => walk_at "ev"
      case c4 => rw [show (PySem.Str.length (Str.ofString "123456789")) = 9 by decide]; omega
      case d4 => walk_at "ev"
theorem field1_def {ra : Addr} {vs : List Value} {x : Str} {n : Int} {K : Nat} {news : Led} (hr : (ra, W.listOf vs.toArray 0) ∈ news) (hv : HasL [.str x K] vs) (hK : K ≤ 100000) : Def 165 [.val (.ref ra), .int n 0 20000] news 1 (Ret (.str (fieldV x n) 20000) news) := by
  unfold Def Calls
  k_fill
  intro w
  refine' Def.of (need := 0) (ns := ["rows", "width"]) ?f1 ?f2 ?f3 rfl (by decide) ?hl ?hc ?hg ?hk ?hcell ?hb
  case f1 => k_is
  case f2 => k_is
  case f3 => exact len_ind2 fun _ _ => rfl
  case hl => decide
  case hc => rfl
  case hg => rfl
  case hk => rfl
  case hcell => decide
  refine fun c ok fx => ?_
  dsimp only [List.zip_cons_cons, List.zip_nil_left]
  obtain ⟨_, ⟨h0, h1⟩, _⟩ := fx
  have hl : (fieldV x n).length ≤ 20000 := by rw [fieldV_len h0]; omega
  have hx : x.length ≤ 100000 := Nat.le_trans hv.facts.1 hK
  refine' Ex.for ok rfl hr hv rfl rfl rfl ?_
  intro z
  refine' Ex.leave (Et.cmp (Ev.len ok (Ev.str 100000 ?a1 fun _ => hx) (by decide) rfl rfl) ?b1 ?o1 rfl) ?p1 ?q1
  case a1 => walk_at "ev"
  case b1 => walk_at "ev"
  case o1 => walk_at "cmp"
  case p1 =>
    walk_at "fact"; intro hb
    refine Ex.sharpS (x := "row") 100000 rfl hx ?_
    walk_at "retS"
    · unfold fieldV; rw [if_neg (by omega)]
    · exact fun _ => hl
  case q1 =>
    walk_at "fact"; intro hb
    refine Ex.nil ⟨rfl, ?_⟩
    refine' Ex.retS ?r1 ?_ fun _ => hl
    case r1 => walk_at "ev"
    unfold fieldV; rw [if_pos (by omega)]
theorem field2_def {ra : Addr} {vs : List Value} {x y : Str} {n : Int} {K K2 : Nat} {news : Led} (hr : (ra, W.listOf vs.toArray 0) ∈ news) (hv : HasL [.str x K, .str y K2] vs) (hK : K ≤ 100000) (hK2 : K2 ≤ 100000) : Def 165 [.val (.ref ra), .int n 0 20000] news 1 (Ret (.str (field2V x y n) 20000) news) := by
  unfold Def Calls
  k_fill
  intro w
  refine' Def.of (need := 0) (ns := ["rows", "width"]) ?f1 ?f2 ?f3 rfl (by decide) ?hl ?hc ?hg ?hk ?hcell ?hb
  case f1 => k_is
  case f2 => k_is
  case f3 => exact len_ind2 fun _ _ => rfl
  case hl => decide
  case hc => rfl
  case hg => rfl
  case hk => rfl
  case hcell => decide
  refine fun c ok fx => ?_
  dsimp only [List.zip_cons_cons, List.zip_nil_left]
  obtain ⟨_, ⟨h0, h1⟩, _⟩ := fx
  have hl : (field2V x y n).length ≤ 20000 := by rw [field2V_len h0]; omega
  have hx : x.length ≤ 100000 := Nat.le_trans hv.facts.1 hK
  have hy : y.length ≤ 100000 := Nat.le_trans hv.facts.2.1 hK2
  refine' Ex.for ok rfl hr hv rfl rfl rfl ?_
  intro z
  refine' Ex.leave (Et.cmp (Ev.len ok (Ev.str 100000 ?a1 fun _ => hx) (by decide) rfl rfl) ?b1 ?o1 rfl) ?p1 ?q1
  case a1 => walk_at "ev"
  case b1 => walk_at "ev"
  case o1 => walk_at "cmp"
  case p1 =>
    walk_at "fact"; intro hb
    refine Ex.sharpS (x := "row") 100000 rfl hx ?_
    walk_at "retS"
    · unfold field2V fieldV; rw [if_pos hb, if_neg (by omega)]
    · exact fun _ => hl
  case q1 =>
    walk_at "fact"; intro hb
    refine Ex.nil ⟨rfl, ?_⟩
    intro z2
    refine' Ex.leave (Et.cmp (Ev.len ok (Ev.str 100000 ?a2 fun _ => hy) (by decide) rfl rfl) ?b2 ?o2 rfl) ?p2 ?q2
    case a2 => walk_at "ev"
    case b2 => walk_at "ev"
    case o2 => walk_at "cmp"
    case p2 =>
      walk_at "fact"; intro hb2
      refine Ex.sharpS (x := "row") 100000 rfl hy ?_
      walk_at "retS"
      · unfold field2V fieldV; rw [if_neg hb, if_neg (by omega)]
      · exact fun _ => hl
    case q2 =>
      walk_at "fact"; intro hb2
      refine Ex.nil ⟨rfl, ?_⟩
      refine' Ex.retS ?r2 ?_ fun _ => hl
      case r2 => walk_at "ev"
      unfold field2V fieldV; rw [if_neg hb, if_pos (by omega)]
abbrev penL (pen sc : Addr) (k : Int) (t : Tok) (rest : Led) : Led := (pen, W.listOf #[.ref sc, .int k t] 0) :: rest
/-- the pen stands at some place up to K, apart from the rest -/
def PenAt (pen sc : Addr) (rest : Led) (K : Int) (nw : Led) : Prop := ∃ k t, 0 ≤ k ∧ k ≤ K ∧ nw = penL pen sc k t rest
def PenOk (pen sc : Addr) (ws : List Value) (rest : Led) : Prop := (∃ ns, IntsAre ws ns ∧ ns.length ≤ 60) ∧ (sc, W.listOf ws.toArray 0) ∈ rest ∧ ∀ p ∈ rest, p.1 ≠ pen
section
variable {c : Ctx} {cs : Scope} {md md2 : Loc} {news : Led} {need : Nat} {pos np ip : Pos} {k : Nat} {rest : List Stmt} {R : Value → Led → Prop} {J J1 : Loc → Led → Prop} {P P' : Led → Prop}
/-- an expression whose value is one of a family, and which turns the ledger -/
def EvF (c : Ctx) (cs : Scope) (md : Loc) (news : Led) (e : Expr) {ι : Type} (D : ι → VD) (P : Led → Prop) : Prop :=
  ∀ (m : Str → Option Value) (h : Heap) (t : Nat) (Q E : Value → Shared → Prop), Fits m md → Fr c.h₀ c.L h m → News c.h₀ c.L h news →
    (∀ i v nw h' t', (D i).Has v → P nw → Fr c.h₀ c.L h' m → News c.h₀ c.L h' nw → Q v (c.st h' t')) → wpAny c.M (c.A cs) (eval e (c.env cs)) Q E (c.st h t)
def EvLF (c : Ctx) (cs : Scope) (md : Loc) (news : Led) (pos : Pos) (es : List Expr) (S : List VD → Prop) (P : Led → Prop) : Prop :=
  ∀ (m : Str → Option Value) (h : Heap) (t : Nat) (Q : List Value → Shared → Prop) (E : Value → Shared → Prop), Fits m md → Fr c.h₀ c.L h m → News c.h₀ c.L h news →
    (∀ ds vs nw h' t', S ds → HasL ds vs → P nw → Fr c.h₀ c.L h' m → News c.h₀ c.L h' nw → Q vs (c.st h' t')) → wpAny c.M (c.A cs) (spliced (backTo pos (starEach es (c.env cs)))) Q E (c.st h t)
abbrev ofI (lo hi : Int) : Int → VD := fun a => .int a lo hi
abbrev ofB : Bool → VD := fun b => .bool b
theorem EvF.of {ι : Type} {D : ι → VD} (i : ι) {e : Expr} (he : Ev c cs md news e (D i)) (hP : P news) : EvF c cs md news e D P :=
  fun m h t Q E hm F N q => he m h t Q E hm F N fun v h' t' hv F' N' => q i v news h' t' hv hP F' N'
theorem EvF.weak {pen sc : Addr} {r : Led} {K K' : Int} {e : Expr} {lo hi lo' hi' : Int} (he : EvF c cs md news e (ofI lo hi) (PenAt pen sc r K)) (h1 : lo' ≤ lo) (h2 : hi ≤ hi') (hK : K ≤ K') : EvF c cs md news e (ofI lo' hi') (PenAt pen sc r K') :=
  fun m h t Q E hm F N q => he m h t Q E hm F N fun i v nw h' t' hv ⟨k, u, k1, k2, k3⟩ F' N' => q i v nw h' t' ⟨hv.1, Int.le_trans h1 hv.2.1, Int.le_trans hv.2.2 h2⟩ ⟨k, u, k1, Int.le_trans k2 hK, k3⟩ F' N'
theorem PenAt.le {pen sc : Addr} {r : Led} {K K' : Int} {nw : Led} (h : PenAt pen sc r K nw) (hK : K ≤ K') : PenAt pen sc r K' nw :=
  let ⟨k, u, k1, k2, k3⟩ := h
  ⟨k, u, k1, Int.le_trans k2 hK, k3⟩
theorem EvF.toZ {e : Expr} (he : EvF c cs md news e (ofI 1 5) P) : EvF c cs md news e zD P := fun m h t Q E hm F N q => he m h t Q E hm F N fun i v nw h' t' hv p F' N' => q (some i) v nw h' t' hv p F' N'
theorem EvF.addL {l r : Expr} {a a1 a2 lo hi : Int} (hl : Ev c cs md news l (.int a a1 a2)) (hr : EvF c cs md news r (ofI lo hi) P) : EvF c cs md news (.BinOp l .Add r pos) (ofI (a1 + lo) (a2 + hi)) P := by
  intro m h t Q E hm F N q
  refine wpAny_BinOp (hl m h t _ _ hm F N fun v h1 t1 q1 F1 N1 => hr m h1 t1 _ _ hm F1 N1 fun i u nw h2 t2 q2 p2 F2 N2 => ?_)
  obtain ⟨⟨tv, rfl⟩, hx1, hx2⟩ := q1
  obtain ⟨⟨tu, rfl⟩, hy1, hy2⟩ := q2
  exact add_int (q (a + i) _ nw h2 _ ⟨⟨_, rfl⟩, by omega, by omega⟩ p2 F2 N2)
theorem EvF.subR {l r : Expr} {b b1 b2 lo hi : Int} (hl : EvF c cs md news l (ofI lo hi) P) (hr : ∀ nw, Ev c cs md nw r (.int b b1 b2)) : EvF c cs md news (.BinOp l .Sub r pos) (ofI (lo - b2) (hi - b1)) P := by
  intro m h t Q E hm F N q
  refine wpAny_BinOp (hl m h t _ _ hm F N fun i v nw h1 t1 q1 p1 F1 N1 => hr nw m h1 t1 _ _ hm F1 N1 fun u h2 t2 q2 F2 N2 => ?_)
  obtain ⟨⟨tv, rfl⟩, hx1, hx2⟩ := q1
  obtain ⟨⟨tu, rfl⟩, hy1, hy2⟩ := q2
  exact sub_int (q (i - b) _ nw h2 _ ⟨⟨_, rfl⟩, by omega, by omega⟩ p1 F2 N2)
theorem fmod_range {a u : Int} (h0 : 0 ≤ a) (h1 : 0 < u) : 0 ≤ a.fmod u ∧ a.fmod u ≤ a := by
  rw [Int.fmod_eq_emod_of_nonneg _ (Int.le_of_lt h1)]
  refine ⟨Int.emod_nonneg _ (by omega), ?_⟩
  rw [Int.emod_def]
  have := Int.mul_nonneg (Int.le_of_lt h1) (Int.ediv_nonneg h0 (Int.le_of_lt h1))
  omega
theorem EvF.modR {l r : Expr} {b b1 b2 hi : Int} (hl : EvF c cs md news l (ofI 0 hi) P) (hr : ∀ nw, Ev c cs md nw r (.int b b1 b2)) (hb : 0 < b) : EvF c cs md news (.BinOp l .Mod r pos) (ofI 0 hi) P := by
  intro m h t Q E hm F N q
  refine wpAny_BinOp (hl m h t _ _ hm F N fun i v nw h1 t1 q1 p1 F1 N1 => hr nw m h1 t1 _ _ hm F1 N1 fun u h2 t2 q2 F2 N2 => ?_)
  obtain ⟨⟨tv, rfl⟩, hx1, hx2⟩ := q1
  obtain ⟨⟨tu, rfl⟩, _, _⟩ := q2
  have z := fmod_range hx1 hb
  exact mod_int' (Int.ne_of_gt hb) (q (i.fmod b) _ nw h2 _ ⟨⟨_, rfl⟩, z.1, Int.le_trans z.2 hx2⟩ p1 F2 N2)
theorem EvF.neg {l : Expr} {lo hi : Int} (hl : EvF c cs md news l (ofI lo hi) P) : EvF c cs md news (.UnaryOp .USub l pos) (ofI (-hi) (-lo)) P := by
  intro m h t Q E hm F N q
  refine UnaryOp_ (hl m h t _ _ hm F N fun i v nw h1 t1 q1 p1 F1 N1 => ?_)
  obtain ⟨⟨tv, rfl⟩, hx1, hx2⟩ := q1
  have K := q (-i) (.int (-i) t1) nw h1 (t1 + 1) ⟨⟨_, rfl⟩, by omega, by omega⟩ p1 F1 N1
  walk1
  exact K
theorem EvF.ifexp {ι : Type} {D : ι → VD} {t p q : Expr} {b : Bool} (ht : Et c cs md news t b) (hp : EvF c cs md news p D P) (hq : EvF c cs md news q D P) : EvF c cs md news (.IfExp t p q pos) D P := by
  intro m h tt Q E hm F N k
  refine IfExp_ (ht m h tt _ _ hm F N fun h1 t1 F1 N1 => ?_)
  cases b with
  | true => exact hp m h1 t1 _ _ hm F1 N1 k
  | false => exact hq m h1 t1 _ _ hm F1 N1 k
/-- a drawn int's comparison in a test, its answer any -/
theorem EvF.ifexpF {ι : Type} {D : ι → VD} {l r p q : Expr} {lo hi b b1 b2 : Int} {cpos : Pos} (hl : EvF c cs md news l (ofI lo hi) P') (hr : ∀ nw, Ev c cs md nw r (.int b b1 b2)) (hb : behindInMarks .Eq r = false)
    (hp : ∀ nw, P' nw → EvF c cs md nw p D P) (hq : ∀ nw, P' nw → EvF c cs md nw q D P) : EvF c cs md news (.IfExp (.Compare l [.Eq] [r] cpos) p q pos) D P := by
  intro m h tt Q E hm F N k
  refine IfExp_ (wpAny_isTrue_Compare1 (hl m h tt _ _ hm F N fun i v nw h1 t1 q1 p1 F1 N1 => hr nw m h1 t1 _ _ hm F1 N1 fun u h2 t2 q2 F2 N2 => o_eq q1 q2 (wpAny_truthy_bool ?_)) hb)
  cases (i == b) with
  | true => exact hp nw p1 m h2 t2 _ _ hm F2 N2 k
  | false => exact hq nw p1 m h2 t2 _ _ hm F2 N2 k
theorem EvF.eqB {l r : Expr} {lo hi b b1 b2 : Int} (hl : EvF c cs md news l (ofI lo hi) P) (hr : ∀ nw, Ev c cs md nw r (.int b b1 b2)) (hb : behindInMarks .Eq r = false) : EvF c cs md news (.Compare l [.Eq] [r] pos) ofB P := by
  intro m h tt Q E hm F N k
  refine wpAny_Compare1 (hl m h tt _ _ hm F N fun i v nw h1 t1 q1 p1 F1 N1 => hr nw m h1 t1 _ _ hm F1 N1 fun u h2 t2 q2 F2 N2 => o_eq q1 q2 ?_) hb
  exact k _ _ nw h2 t2 rfl p1 F2 N2
theorem EvLF.nil (hP : P news) : EvLF c cs md news pos [] (fun l => l = []) P := fun _ h t _ _ _ F N q => spliced_none (q [] [] news h t rfl .nil hP F N)
theorem EvLF.cons {ι : Type} {D : ι → VD} {S : List VD → Prop} {e : Expr} {es : List Expr} (he : EvF c cs md news e D P') (hr : ∀ nw, P' nw → EvLF c cs md nw pos es S P) (hs : isStar e = false) : EvLF c cs md news pos (e :: es) (fun l => ∃ i r, l = D i :: r ∧ S r) P := by
  intro m h t Q E hm F N q
  exact args_cons (he m h t _ _ hm F N fun i v nw h1 t1 q1 p1 F1 N1 => hr nw p1 m h1 t1 _ _ hm F1 N1 fun ds vs nw2 h2 t2 s2 q2 p2 F2 N2 => q _ _ nw2 h2 t2 ⟨i, ds, rfl, s2⟩ (.cons q1 q2) p2 F2 N2) (starEach_plain hs _ _)
theorem Ex.setF (ok : c.Ok cs need) {x : Str} {e : Expr} {ι : Type} {D : ι → VD} (he : EvF c cs md news e D P) (hx : cs.names.lookup x = some .local) (hsw : swapsWith e (some (.Name x np)) pos.line (c.env cs) = pure false)
    (hr : ∀ i nw, P nw → Ex c cs ((x, D i) :: md) nw rest R J) : Ex c cs md news (.Assign [.Name x np] e pos :: rest) R J := by
  intro m h t Q E hm F N kr kj
  refine wpAny_execs_cons (wpAny_Assign_Name (he m h t _ _ hm F N fun i v nw h1 t1 q p1 F1 N1 => ?_) hsw)
  refine storeX_L F1 N1 (fun h2 F2 N2 => ?_) ok.hk (by unfold Env.kindOf; exact hx)
  exact hr i nw p1 _ h2 _ Q E (hm.set q) F2 N2 kr kj
theorem swap2 {h₀ h : Heap} {L : Addr} {a b : Addr × Obj} {r : Led} (N : News h₀ L h (a :: b :: r)) : News h₀ L h (b :: a :: r) := cb_drop N fun p hp => by
  rcases List.mem_cons.mp hp with e | hp
  · rw [e]; exact List.mem_cons_of_mem _ List.mem_cons_self
  · rcases List.mem_cons.mp hp with e | hp
    · rw [e]; exact List.mem_cons_self
    · exact List.mem_cons_of_mem _ (List.mem_cons_of_mem _ hp)
/-- what a def that draws a tuple hands back -/
def RetP (pen sc : Addr) (r : Led) (K : Int) (S : List VD → Prop) (v : Value) (nw : Led) : Prop := ∃ x ds vs, v = .ref x ∧ S ds ∧ HasL ds vs ∧ x ≠ pen ∧ PenAt pen sc ((x, tupOf vs.toArray 0) :: r) K nw
theorem Ex.retP {pen sc : Addr} {r : Led} {K : Int} {S : List VD → Prop} {es : List Expr} {tp : Pos} (he : EvLF c cs md news tp es S (PenAt pen sc r K)) (hn : ∀ ds, S ds → ds.length ≤ 100) : Ex c cs md news (.Return (some (.Tuple es k tp)) pos :: rest) (RetP pen sc r K S) J := by
  intro m h t Q E hm F N kr kj
  refine wpAny_execs_cons (wpAny_Return_some (Tuple_ (he m h t _ _ hm F N fun ds vs nw h1 t1 s1 q1 p1 F1 N1 => kup_newTuple F1 N1 (fun D h2 F2 N2 hD => ?_) ?_)))
  · obtain ⟨k1, u1, k2, k3, rfl⟩ := p1
    exact kr _ _ m h2 t1 ⟨D, ds, vs, rfl, s1, q1, Nat.ne_of_gt (hD _ (.head _)), k1, u1, k2, k3, rfl⟩ F2 (swap2 N2)
  · have := hn ds s1
    rw [q1.len, sizeLine_eq]; omega
/-- a call that turns the ledger -/
theorem EvF.call (ok : c.Ok cs need) {x : Str} {f : Addr} {e : Expr} {es : List Expr} {ds : List VD} {ι : Type} {D : ι → VD} {need' : Nat} (C : Def f ds news need' fun v nw => ∃ i, (D i).Has v ∧ P nw) (ha : EvL c cs md news pos (e :: es) ds)
    (hg : nsIn (hd.heap_39 c.w.params) mainGlobals x = some (some (.ref f))) (hf : keepIn (hd.heap_39 c.w.params) (.ref f) = true) (hn : need' ≤ need)
    (hx : cs.names.lookup x = some .globalImplicit) (hd : (x == ("__debug__" : Str)) = false) (hs : isStar e = false) (hss : es.any isStar = false) :
    EvF c cs md news (.Call (.Name x np) (e :: es) [] pos) D P := by
  intro m h t Q E hm F N k
  refine Call_ (nameX_K F ok.X (topRead_of ok.T) hg ?_ ok.hk (by unfold Env.kindOf; exact hx) hd)
  refine callWith_K ok.X hf ?_ (starEach_plain hs _ _) (starEach_none hss _ _)
  refine ha m h t _ _ hm F N fun vs h1 t1 q1 F1 N1 => ⟨ok.X.keeps F1.keep, ?_⟩
  refine use (C c.w c.mean c.mg c.mb vs q1) ok.B F1 ok.X N1 ok.T ok.hk (by have := ok.hdp; omega) (by have := ok.hun; omega) fun v nw h2 t2 r F2 N2 => ?_
  obtain ⟨i, r1, r2⟩ := r
  exact k i v nw h2 t2 r1 r2 F2 N2
/-- an if that may store one int anew -/
theorem Ex.iteJ {x : Str} {lo hi s b1 b2 : Int} {t : Expr} {p : List Stmt} {b : Bool} (hl : md.lookup x = some (.int s b1 b2)) (hs : lo ≤ s ∧ s ≤ hi) (ht : Et c cs md news t b) (hp : Ex c cs md news p R fun md' nw => (∃ a, md' = (x, ofI lo hi a) :: md) ∧ P nw) (hP : P news)
    (hr : ∀ a nw, P nw → Ex c cs ((x, ofI lo hi a) :: md) nw rest R J) : Ex c cs md news (.If t p [] pos :: rest) R J :=
  Ex.ite (J1 := fun md' nw => ((∃ a, md' = (x, ofI lo hi a) :: md) ∧ P nw) ∨ (md' = md ∧ nw = news)) ht
    (fun _ m h tt Q E hm F N kr kj => hp m h tt Q E hm F N kr fun md' nw m' h' t' j => kj md' nw m' h' t' (.inl j)) (fun _ => Ex.nil (.inr ⟨rfl, rfl⟩))
    (fun md' nw j => by
      rcases j with ⟨⟨a, rfl⟩, hp⟩ | ⟨rfl, rfl⟩
      · exact hr a nw hp
      · exact Ex.sharpI lo hi hl hs (hr s nw hP))
end
local macro_rules | `(tactic| k_all) => `(tactic| assumption)
local macro_rules | `(tactic| k_mem) => `(tactic| first | assumption | (refine List.mem_cons_of_mem _ ?_; k_mem))
local macro_rules | `(tactic| is_list) => `(tactic| exact News.isList (by k_asm) (by k_dflt k_mem))
theorem draw_spec {w : World} {mean : ExcName → Option Value} {mg mb : Str → Option Value} {rest : Led} {pen sc : Addr} {ws : List Value} {ns : List Int} {k many : Int} {t0 t : Tok}
    (hI : IntsAre ws ns) (hlen : ns.length ≤ 60) (hm : (sc, W.listOf ws.toArray 0) ∈ rest) (hne : ∀ p ∈ rest, p.1 ≠ pen) (h0 : 0 ≤ k) (h1 : k < 1000) (hmany : 0 < many) (hmany2 : many ≤ 10 ^ 9) :
    Calls w mean mg mb 137 [.ref pen, .int many t] (penL pen sc k t0 rest) 1 (fun v nw => ∃ d td t1, v = .int d td ∧ nw = penL pen sc (k + 1) t1 rest ∧ 0 ≤ d ∧ d < many) := by
  unfold Calls
  k_fill
  w_on
  intro dp un gd cn cs a ccd cl outer A₀ base h₀ L m s Q E B F X N T hk hdp hun hret
  refine wpAny_call ?_
  k_dflt cell_enter
  k_steps
  all_goals (first | k_end | trace_state)
  all_goals (first | k_end | w_report)
  all_goals (refine hret _ _ _ _ ⟨_, _, _, rfl, rfl, ?_, ?_⟩ (by k_asm) (by k_asm))
  all_goals (rw [Int.fmod_eq_emod_of_nonneg _ (by omega)])
  all_goals first | exact Int.emod_nonneg _ (by omega) | exact Int.emod_lt_of_pos _ hmany
theorem draw_def {news rest : Led} {pen sc : Addr} {ws : List Value} {K many : Int} (po : PenOk pen sc ws rest) (hP : PenAt pen sc rest K news) (hK : K < 900) (hm : 0 < many) (hm2 : many ≤ 10 ^ 9) :
    Def 137 [.val (.ref pen), .int many many many] news 1 (fun v nw => ∃ i : Int, (ofI 0 (many - 1) i).Has v ∧ PenAt pen sc rest (K + 1) nw) := by
  obtain ⟨⟨ns, hI, hlen⟩, hmm, hne⟩ := po
  obtain ⟨k, t, h0, h1, rfl⟩ := hP
  refine Def.old (R := fun v nw => ∃ d td t1, v = .int d td ∧ nw = penL pen sc (k + 1) t1 rest ∧ 0 ≤ d ∧ d < many) ?_ fun v nw ⟨d, td, t1, e1, e2, h2, h3⟩ => ⟨d, ⟨⟨td, e1⟩, h2, by omega⟩, k + 1, t1, by omega, by omega, e2⟩
  intro w mean mg mb vs hvs
  cases hvs with
  | cons a1 r1 => cases r1 with
    | cons a2 r2 =>
      cases r2
      cases a1
      obtain ⟨⟨t2, rfl⟩, _⟩ := a2
      exact draw_spec hI hlen hmm hne h0 (by omega) hm hm2
theorem EvF.draw {c : Ctx} {cs : Scope} {md : Loc} {news : Led} {need : Nat} {pos np pp : Pos} (ok : c.Ok cs need) {rest : Led} {pen sc : Addr} {ws : List Value} {K many : Int} {e : Expr} (po : PenOk pen sc ws rest) (hP : PenAt pen sc rest K news) (hK : K < 900) (he : Ev c cs md news e (.int many many many)) (hm : 0 < many) (hm2 : many ≤ 10 ^ 9)
    (hl : md.lookup ("pen" : Str) = some (.val (.ref pen))) (hpx : cs.names.lookup ("pen" : Str) = some .local) (hx : cs.names.lookup ("_law_draw" : Str) = some .globalImplicit) (hn : 1 ≤ need) (hs : isStar e = false) :
    EvF c cs md news (.Call (.Name "_law_draw" np) [.Name "pen" pp, e] [] pos) (ofI 0 (many - 1)) (PenAt pen sc rest (K + 1)) := by
  refine' EvF.call ok (draw_def po hP hK hm hm2) (EvL.cons (Ev.name ok hl hpx (by decide)) (EvL.cons he EvL.nil (starEach_plain hs _ _)) (starEach_plain rfl _ _)) ?g ?f hn hx (by decide) rfl (by rw [List.any_cons, hs]; rfl)
  case g => k_is
  case f => k_is
local macro_rules | `(tactic| walk_at "draw") => `(tactic| ((with_reducible refine' EvF.draw (by assumption) (by assumption) (by assumption) ?K ?e ?m ?m2 ?l ?p ?x ?n ?s); (case e => (intros; walk_at "ev")); (case K => omega); (case m => decide); (case m2 => decide); (case l => rfl); (case p => rfl); (case x => rfl); (case n => decide); (case s => rfl)))
theorem value_def {news rest : Led} {pen sc : Addr} {ws : List Value} (po : PenOk pen sc ws rest) {K : Int} (hK : K ≤ 500) (hP : PenAt pen sc rest K news) :
    Def 144 [.val (.ref pen)] news 2 (RetP pen sc rest (K + 4) fun l => ∃ n r, l = ofI (-999999999) 999999999 n :: r ∧ ∃ e r2, r = ofI (-60) 60 e :: r2 ∧ r2 = []) := by
  unfold Def Calls
  k_fill
  intro w
  refine' Def.of (need := 1) (ns := ["pen"]) ?f1 ?f2 ?f3 rfl (by decide) ?hl ?hc ?hg ?hk ?hcell ?hb
  case f1 => k_is
  case f2 => k_is
  case f3 => exact len_ind1 fun _ => rfl
  case hl => decide
  case hc => rfl
  case hg => rfl
  case hk => rfl
  case hcell => decide
  refine fun c ok fx => ?_
  dsimp only [List.zip_cons_cons, List.zip_nil_left]
  refine' Ex.setF ok ?a1 rfl rfl ?r1
  case a1 => walk_at "draw"
  intro size nw1 hP1
  refine' Ex.setF (P := PenAt pen sc rest (K + 2)) (D := ofI 0 999999999) ok (EvF.weak (EvF.modR (EvF.draw ok po hP1 (by omega) (Ev.pow10 Ev.cint (by decide) (by decide)) (by decide) (by decide) rfl rfl rfl (by decide) rfl) ?b2 ?c2) (by decide) (by decide) (by omega)) rfl rfl ?r2
  case b2 =>
    intro nw
    refine' Ev.pow10 ?e2 ?f2 ?g2
    case e2 => walk_at "ev"
    case f2 => decide
    case g2 => decide
  case c2 => exact Int.pow_pos (by decide)
  case r2 =>
  intro number nw2 hP2
  refine' Ex.retP (EvLF.cons (P' := PenAt pen sc rest (K + 3)) (D := ofI (-999999999) 999999999) (EvF.ifexpF ?a3 ?b3 rfl ?c3 ?d3) ?e3 rfl) ?f3
  case a3 => walk_at "draw"
  case b3 => intro nw; walk_at "ev"
  case c3 =>
    intro nw h
    refine' EvF.weak (EvF.neg (EvF.of (D := ofI 0 999999999) number ?g3 h)) (by decide) (by decide) (by omega)
    case g3 => walk_at "ev"
  case d3 =>
    intro nw h
    refine' EvF.weak (EvF.of (D := ofI 0 999999999) number ?h3 h) (by decide) (by decide) (by omega)
    case h3 => walk_at "ev"
  case e3 =>
    intro nw h
    refine' EvLF.cons (D := ofI (-60) 60) (EvF.weak (EvF.subR ?i3 ?j3) ?k3 ?l3 ?m3) (fun nw h => EvLF.nil h) rfl
    case i3 => walk_at "draw"
    case j3 => intro nw; walk_at "ev"
    case k3 => decide
    case l3 => decide
    case m3 => omega
  case f3 =>
    rintro ds ⟨_, _, rfl, _, _, rfl, rfl⟩
    exact Nat.le_of_ble_eq_true rfl
local macro_rules | `(tactic| walk_at "drawW") => `(tactic| (refine' EvF.weak ?e ?w1 ?w2 ?w3; (case e => walk_at "draw"); (case w1 => decide); (case w2 => decide); (case w3 => omega)))
local macro_rules | `(tactic| walk_at "drawA") => `(tactic| (refine' EvF.weak (EvF.addL ?a ?e) ?w1 ?w2 ?w3; (case a => walk_at "ev"); (case e => walk_at "draw"); (case w1 => decide); (case w2 => decide); (case w3 => omega)))
theorem sizes_def {news rest : Led} {pen sc : Addr} {ws : List Value} (po : PenOk pen sc ws rest) {K : Int} (hK : K ≤ 500) (hP : PenAt pen sc rest K news) :
    Def 151 [.val (.ref pen)] news 2 (RetP pen sc rest (K + 16) fun l => ∃ w r, l = ofI 1 9999 w :: r ∧ ∃ p r2, r = ofI 0 9998 p :: r2 ∧ ∃ s r3, r2 = ofI (-60) 4400 s :: r3 ∧ ∃ b r4, r3 = ofB b :: r4 ∧ ∃ z r5, r4 = zD z :: r5 ∧ r5 = []) := by
  unfold Def Calls
  k_fill
  intro w
  refine' Def.of (need := 1) (ns := ["pen"]) ?f1 ?f2 ?f3 rfl (by decide) ?hl ?hc ?hg ?hk ?hcell ?hb
  case f1 => k_is
  case f2 => k_is
  case f3 => exact len_ind1 fun _ => rfl
  case hl => decide
  case hc => rfl
  case hg => rfl
  case hk => rfl
  case hcell => decide
  refine fun c ok fx => ?_
  dsimp only [List.zip_cons_cons, List.zip_nil_left]
  refine' Ex.setF ok ?a1 rfl rfl ?r1
  case a1 => walk_at "draw"
  case r1 =>
  intro way nw1 hP1
  refine' Ex.setF (P := PenAt pen sc rest (K + 2)) (D := ofI 1 9999) ok (EvF.ifexp ?a2 ?b2 (EvF.ifexp ?c2 ?d2 ?e2)) rfl rfl ?r2
  case a2 => walk_at "et"
  case c2 => walk_at "et"
  case b2 => walk_at "drawA"
  case d2 => walk_at "drawA"
  case e2 => walk_at "drawA"
  case r2 =>
  intro width nw2 hP2
  refine' Ex.setF ok ?a3 rfl rfl ?r3
  case a3 => walk_at "draw"
  case r3 =>
  intro way2 nw3 hP3
  refine' Ex.setF (P := PenAt pen sc rest (K + 4)) (D := ofI 0 9998) ok (EvF.ifexp ?a4 ?b4 (EvF.ifexp ?c4 ?d4 ?e4)) rfl rfl ?r4
  case a4 => walk_at "et"
  case c4 => walk_at "et"
  case b4 => walk_at "drawW"
  case d4 => walk_at "drawA"
  case e4 => walk_at "drawW"
  case r4 =>
  intro places nw4 hP4
  refine' Ex.setF ok ?a5 rfl rfl ?r5
  case a5 => walk_at "draw"
  case r5 =>
  intro way3 nw5 hP5
  walk_at "set"
  refine' Ex.iteJ (x := "scale") (s := 0) (lo := -60) (hi := 4400) (P := PenAt pen sc rest (K + 6)) rfl (by decide) ?a6 ?b6 ?c6 ?d6
  case a6 => walk_at "et"
  case c6 => exact hP5.le (by omega)
  case b6 =>
    refine' Ex.setF (P := PenAt pen sc rest (K + 6)) (D := ofI (-60) 4400) ok (EvF.ifexp ?a7 ?b7 (EvF.ifexp ?c7 ?d7 ?e7)) rfl rfl ?r7
    case a7 => walk_at "et"
    case c7 => walk_at "et"
    case b7 =>
      refine' EvF.weak (EvF.subR ?i3 ?j3) ?k3 ?l3 ?m3
      case i3 => walk_at "draw"
      case j3 => intro nw; walk_at "ev"
      case k3 => decide
      case l3 => decide
      case m3 => omega
    case d7 => walk_at "drawA"
    case e7 =>
      refine' EvF.weak (EvF.neg ?i4) ?k4 ?l4 ?m4
      case i4 => walk_at "draw"
      case k4 => decide
      case l4 => decide
      case m4 => omega
    case r7 => exact fun a nw h => Ex.nil ⟨⟨a, rfl⟩, h⟩
  case d6 =>
  intro scale nw6 hP6
  refine' Ex.setF ok (EvF.eqB ?a8 ?b8 rfl) rfl rfl ?r8
  case a8 => walk_at "draw"
  case b8 => intro nw; walk_at "ev"
  case r8 =>
  intro plus nw7 hP7
  refine' Ex.retP (EvLF.cons (D := ofI 1 9999) (EvF.of width ?a9 hP7) (fun nw h => EvLF.cons (D := ofI 0 9998) (EvF.of places ?b9 h) (fun nw h => EvLF.cons (D := ofI (-60) 4400) (EvF.of scale ?c9 h) (fun nw h => EvLF.cons (D := ofB) (EvF.of plus ?d9 h) (fun nw h => EvLF.cons (D := zD) (EvF.ifexpF (lo := 0) (hi := 2 - 1) (P' := PenAt pen sc rest (K + 6 + 1 + 1)) ?e9 ?f9 rfl ?g9 ?h9) (fun nw h => EvLF.nil h) rfl) rfl) rfl) rfl) rfl) ?i9
  case a9 => walk_at "ev"
  case b9 => walk_at "ev"
  case c9 => walk_at "ev"
  case d9 => walk_at "ev"
  case e9 => walk_at "draw"
  case f9 => intro nw; walk_at "ev"
  case g9 => exact fun nw h => EvF.of none Ev.cnone (h.le (by omega))
  case h9 =>
    intro nw h
    refine' EvF.toZ ?j9
    case j9 => walk_at "drawA"
  case i9 =>
    rintro ds ⟨_, _, rfl, _, _, rfl, _, _, rfl, _, _, rfl, _, _, rfl, rfl⟩
    exact Nat.le_of_ble_eq_true rfl
local macro_rules | `(tactic| walk_at "evc") => `(tactic| ((first | ((with_reducible refine' Ev.call (by assumption) scaled_def ?ha ?hg ?hf ?hn ?hx ?hd ?hs ?hss); (case hg => k_is))); (case hf => k_is); (case ha => walk_at "evl"); (case hn => decide); (case hx => rfl); (case hd => rfl); (case hs => rfl); (case hss => rfl)))
theorem figures_def {n p : Int} {news : Led} : Def 81 [.int n 0 999999999, .int p (-200) 20000] news 2 (Ret (.str (figuresV n p) 20009) news) := by
  unfold Def Calls
  k_fill
  intro w
  refine' Def.of (need := 1) (ns := ["number", "power"]) ?f1 ?f2 ?f3 rfl (by decide) ?hl ?hc ?hg ?hk ?hcell ?hb
  case f1 => k_is
  case f2 => k_is
  case f3 => exact len_ind2 fun _ _ => rfl
  case hl => decide
  case hc => rfl
  case hg => rfl
  case hk => rfl
  case hcell => decide
  refine fun c ok fx => ?_
  dsimp only [List.zip_cons_cons, List.zip_nil_left]
  obtain ⟨⟨h0, h1⟩, ⟨h2, h3⟩, _⟩ := fx
  have hl : (figuresV n p).length ≤ 20009 := Nat.le_trans (figuresV_len h0 (by omega)) (by omega)
  walk_at "leave"
  · walk_at "fact"; intro hp
    refine' Ex.retD (Ev.ifexp ?t ?a ?b)
    case t => walk_at "et"
    case a =>
      walk_at "fact"; intro hn
      refine' Ev.to ?a1 ?a2 fun _ => hl
      case a1 => walk_at "ev"
      case a2 => unfold figuresV; rw [if_pos hp, if_pos hn]
    case b =>
      walk_at "fact"; intro hn
      refine' Ev.to ?b1 ?b2 fun _ => hl
      case b1 => walk_at "ev"
      case b2 => unfold figuresV numText; rw [if_pos hp, if_neg hn]
  walk_at "fact"; intro hp
  refine Ex.sharpI (x := "power") (-200) 0 rfl ⟨h2, by omega⟩ ?_
  walk_at "set"
  refine' Ex.retD (Ev.ifexp ?t2 ?c1 ?d1)
  case t2 => walk_at "et"
  case c1 =>
    walk_at "fact"; intro hn
    refine' Ev.to ?a3 ?a4 fun _ => hl
    case a3 => walk_at "ev"
    case a4 => unfold figuresV; rw [if_neg hp, if_pos hn]
  case d1 =>
    walk_at "fact"; intro hn
    refine' Ev.to ?b3 ?b4 fun _ => hl
    case b3 => walk_at "ev"
    case b4 => unfold figuresV numText; rw [if_neg hp, if_neg hn]
local macro_rules | `(tactic| walk_at "evc") => `(tactic| ((first | ((with_reducible refine' Ev.call (by assumption) field_def ?ha ?hg ?hf ?hn ?hx ?hd ?hs ?hss); (case hg => k_is)) | ((with_reducible refine' Ev.call (by assumption) sign_def ?ha ?hg ?hf ?hn ?hx ?hd ?hs ?hss); (case hg => k_is)) | ((with_reducible refine' Ev.call (by assumption) point_def ?ha ?hg ?hf ?hn ?hx ?hd ?hs ?hss); (case hg => k_is)) | ((with_reducible refine' Ev.call (by assumption) figures_def ?ha ?hg ?hf ?hn ?hx ?hd ?hs ?hss); (case hg => k_is))); (case hf => k_is); (case ha => walk_at "evl"); (case hn => decide); (case hx => rfl); (case hd => rfl); (case hs => rfl); (case hss => rfl)))
theorem fixed_def {va : Addr} {n e width places scale : Int} {plus : Bool} {k : Nat} {t1 t2 : Tok} {news : Led} (hv : (va, tupOf #[.int n t1, .int e t2] k) ∈ news) (hn1 : -999999999 ≤ n) (hn2 : n ≤ 999999999) (he1 : -60 ≤ e) (he2 : e ≤ 60) :
    Def 95 [.val (.ref va), .int width 0 20000, .int places 0 10000, .int scale (-60) 4400, .bool plus] news 3 (Ret (.str (editFixedV n e width places scale plus) 20000) news) := by
  unfold Def Calls
  k_fill
  intro w
  refine' Def.of (need := 2) (ns := ["value", "width", "places", "scale", "is_plus"]) ?f1 ?f2 ?f3 rfl (by decide) ?hl ?hc ?hg ?hk ?hcell ?hb
  case f1 => k_is
  case f2 => k_is
  case f3 => exact len_ind5 fun _ _ _ _ _ => rfl
  case hl => decide
  case hc => rfl
  case hg => rfl
  case hk => rfl
  case hcell => decide
  refine fun c ok fx => ?_
  dsimp only [List.zip_cons_cons, List.zip_nil_left]
  obtain ⟨_, ⟨hw1, hw2⟩, _⟩ := fx
  walk_at "set"
  walk_at "set"
  walk_at "set"
  walk_at "set"
  walk_at "retS"
  · rfl
  · exact fun _ => by rw [editFixedV_len hw1]; omega
theorem leading_def {va : Addr} {n e count : Int} {k : Nat} {t1 t2 : Tok} {news : Led} (hv : (va, tupOf #[.int n t1, .int e t2] k) ∈ news) (hn1 : -999999999 ≤ n) (hn2 : n ≤ 999999999) (he1 : -60 ≤ e) (he2 : e ≤ 60) :
    Def 102 [.val (.ref va), .int count 1 15000] news 3 (RetT [.str (leadingV n e count).1 30000, .int (leadingV n e count).2 (-100) 100] news) := by
  unfold Def Calls
  k_fill
  intro w
  refine' Def.of (need := 2) (ns := ["value", "count"]) ?f1 ?f2 ?f3 rfl (by decide) ?hl ?hc ?hg ?hk ?hcell ?hb
  case f1 => k_is
  case f2 => k_is
  case f3 => exact len_ind2 fun _ _ => rfl
  case hl => decide
  case hc => rfl
  case hg => rfl
  case hk => rfl
  case hcell => decide
  refine fun c ok fx => ?_
  dsimp only [List.zip_cons_cons, List.zip_nil_left]
  walk_at "set"
  walk_at "leave"
  · walk_at "fact"; intro hp
    have hq : leadingV n e count = (Txt.mul (Str.ofString "0") count, 0) := if_pos hp
    rw [hq]
    refine' Ex.retT ?r1
    case r1 => walk_at "evtw"
  walk_at "fact"; intro hp
  walk_at "set"
  walk_at "set"
  walk_at "set"
  refine' Ex.iteP True ?t1 ?p1 ?q1 ?r2
  case t1 => walk_at "et"
  case p1 =>
    intro _
    walk_at "set"
    walk_at "augAdd"
    exact Ex.nil ⟨trivial, rfl, rfl⟩
  case q1 =>
    walk_at "fact"; intro hl _
    have hq : leadingV n e count = _ := (if_neg hp).trans (if_pos hl)
    rw [hq]
    refine' Ex.retT ?r3
    case r3 => walk_at "evtw"
  case r2 =>
    walk_at "fact"; intro hl
    have hq : leadingV n e count = _ := (if_neg hp).trans (if_neg hl)
    rw [hq]
    refine' Ex.retT ?r4
    case r4 => walk_at "evtw"
theorem isgen_def {va : Addr} {n e places : Int} {k : Nat} {t1 t2 : Tok} {news : Led} (hv : (va, tupOf #[.int n t1, .int e t2] k) ∈ news) (hn1 : -999999999 ≤ n) (hn2 : n ≤ 999999999) (he1 : -60 ≤ e) (he2 : e ≤ 60) :
    Def 123 [.val (.ref va), .int places 0 10000] news 1 (Ret (.bool (isGenV n e places)) news) := by
  unfold Def Calls
  k_fill
  intro w
  refine' Def.of (need := 0) (ns := ["value", "places"]) ?f1 ?f2 ?f3 rfl (by decide) ?hl ?hc ?hg ?hk ?hcell ?hb
  case f1 => k_is
  case f2 => k_is
  case f3 => exact len_ind2 fun _ _ => rfl
  case hl => decide
  case hc => rfl
  case hg => rfl
  case hk => rfl
  case hcell => decide
  refine fun c ok fx => ?_
  dsimp only [List.zip_cons_cons, List.zip_nil_left]
  walk_at "leave"
  · walk_at "fact"; intro hp
    refine' Ex.retD (Ev.boolTo ?e1 ?h1)
    case e1 => walk_at "ev"
    case h1 => unfold isGenV; rw [if_pos hp]
  walk_at "fact"; intro hp
  refine' Ex.retD (Ev.boolTo ?e2 ?h2)
  case e2 => walk_at "ev"
  case h2 => unfold isGenV numText; rw [if_neg hp]
local macro_rules | `(tactic| walk_at "evtc") => `(tactic| ((first | ((with_reducible refine' EvT.call (by assumption) (leading_def (by assumption) (by assumption) (by assumption) (by assumption) (by assumption)) ?ha ?hg ?hf ?hn ?hx ?hd ?hs ?hss); (case hg => k_is))); (case hf => k_is); (case ha => walk_at "evl"); (case hn => decide); (case hx => rfl); (case hd => rfl); (case hs => rfl); (case hss => rfl)))
local macro_rules | `(tactic| walk_at "evc") => `(tactic| ((first | ((with_reducible refine' Ev.call (by assumption) field_def ?ha ?hg ?hf ?hn ?hx ?hd ?hs ?hss); (case hg => k_is)) | ((with_reducible refine' Ev.call (by assumption) sign_def ?ha ?hg ?hf ?hn ?hx ?hd ?hs ?hss); (case hg => k_is)) | ((with_reducible refine' Ev.call (by assumption) point_def ?ha ?hg ?hf ?hn ?hx ?hd ?hs ?hss); (case hg => k_is)) | ((with_reducible refine' Ev.call (by assumption) expo_def ?ha ?hg ?hf ?hn ?hx ?hd ?hs ?hss); (case hg => k_is))); (case hf => k_is); (case ha => walk_at "evl"); (case hn => decide); (case hx => rfl); (case hd => rfl); (case hs => rfl); (case hss => rfl)))
theorem exp_def {x : Str} {va : Addr} {n e width places scale : Int} {plus : Bool} {z : Option Int} {k : Nat} {t1 t2 : Tok} {news : Led} (hv : (va, tupOf #[.int n t1, .int e t2] k) ∈ news) (hn1 : -999999999 ≤ n) (hn2 : n ≤ 999999999) (he1 : -60 ≤ e) (he2 : e ≤ 60)
    (hs1 : -places < scale) (hs2 : scale ≤ places + 1) :
    Def 116 [.str x 1, .val (.ref va), .int width 0 20000, .int places 0 10000, zD z, .int scale (-60) 4400, .bool plus] news 4 (Ret (.str (expV x n e width places z scale plus) 20000) news) := by
  unfold Def Calls
  k_fill
  intro w
  refine' Def.of (need := 3) (ns := ["letter", "value", "width", "places", "size", "scale", "is_plus"]) ?f1 ?f2 ?f3 rfl (by decide) ?hl ?hc ?hg ?hk ?hcell ?hb
  case f1 => k_is
  case f2 => k_is
  case f3 => exact len_ind7 fun _ _ _ _ _ _ _ => rfl
  case hl => decide
  case hc => rfl
  case hg => rfl
  case hk => rfl
  case hcell => decide
  refine fun c ok fx => ?_
  dsimp only [List.zip_cons_cons, List.zip_nil_left]
  obtain ⟨_, _, ⟨hw1, hw2⟩, ⟨hp1, hp2⟩, _, ⟨hc1, hc2⟩, _⟩ := fx
  have hlen : (expV x n e width places z scale plus).length ≤ 20000 := by rw [expV_len hw1]; omega
  walk_at "leave"
  · intro hp
    rw [Bool.or_eq_true] at hp
    rcases hp with hp | hp
    · exact absurd (of_decide_eq_true hp) (by omega)
    · exact absurd (of_decide_eq_true hp) (by omega)
  intro _
  walk_at "set"
  refine' Ex.ite (J1 := fun md' nw => md' = (("count" : Str), VD.int (if scale ≤ 0 then places + scale else places + 1) 1 15000) :: [(("letter" : Str), VD.str x 1), (("value" : Str), VD.val (.ref va)), (("width" : Str), VD.int width 0 20000), (("places" : Str), VD.int places 0 10000), (("size" : Str), zD z), (("scale" : Str), VD.int scale (-60) 4400), (("is_plus" : Str), VD.bool plus)] ∧ nw = news) ?t1 ?p1 ?q1 ?r1
  case t1 => walk_at "et"
  case p1 =>
    walk_at "fact"; intro hp
    walk_at "set"
    refine Ex.sharpI (x := "count") 1 15000 rfl ⟨by omega, by omega⟩ (Ex.conv (fun m hm => hm.drop.drop) (Ex.nil ⟨?_, rfl⟩))
    rw [if_pos hp]
  case q1 =>
    walk_at "fact"; intro hp
    refine Ex.sharpI (x := "count") 1 15000 rfl ⟨by omega, by omega⟩ (Ex.conv (fun m hm => hm.drop) (Ex.nil ⟨?_, rfl⟩))
    rw [if_neg hp]
  case r1 =>
    rintro _ news ⟨rfl, rfl⟩
    have hcount : expV x n e width places z scale plus = expW x n e width places z scale plus (if scale ≤ 0 then places + scale else places + 1) := rfl
    rw [hcount] at hlen ⊢
    generalize (if scale ≤ 0 then places + scale else places + 1) = count at hlen ⊢
    walk_at "unpack"
    refine' Ex.ite (J1 := fun md' nw => md' = (("power" : Str), VD.int (if n = 0 then (leadingV n e count).2 else (leadingV n e count).2 - scale) (-99999) 99999) :: [(("digits" : Str), VD.str (leadingV n e count).1 30000), (("count" : Str), VD.int count 1 15000), (("letter" : Str), VD.str x 1), (("value" : Str), VD.val (.ref va)), (("width" : Str), VD.int width 0 20000), (("places" : Str), VD.int places 0 10000), (("size" : Str), zD z), (("scale" : Str), VD.int scale (-60) 4400), (("is_plus" : Str), VD.bool plus)] ∧ nw = news) ?t2 ?p2 ?q2 ?r2
    case t2 => walk_at "et"
    case p2 =>
      intro hb
      have hn : ¬ n = 0 := fun q => by rw [q] at hb; cases hb
      walk_at "augSub"
      refine Ex.weakI (x := "power") (-99999) 99999 (by decide) (by decide) (Ex.conv (fun m hm => hm.drop) (Ex.nil ⟨?_, rfl⟩))
      rw [if_neg hn]
    case q2 =>
      intro hb
      have hn : n = 0 := by
        have := hb; simp at this; exact this
      refine Ex.weakI (x := "power") (-99999) 99999 (by decide) (by decide) (Ex.nil ⟨?_, rfl⟩)
      rw [if_pos hn]
    case r2 =>
      rintro _ news ⟨rfl, rfl⟩
      walk_at "set"
      unfold expW at hlen ⊢
      generalize (if n = 0 then (leadingV n e count).2 else (leadingV n e count).2 - scale) = P at hlen ⊢
      cases hx : expoV x P z with
      | none =>
        rw [hx] at hlen
        unfold oD
        dsimp only at hlen ⊢
        walk_at "leave"
        · intro _
          walk_at "retS"
          · rfl
          · exact fun _ => hlen
        · intro h; cases h
      | some tail =>
        rw [hx] at hlen
        unfold oD
        dsimp only at hlen ⊢
        walk_at "leave"
        · intro h; cases h
        intro _
        walk_at "set"
        walk_at "leave"
        · walk_at "fact"; intro hp
          rw [if_neg (by omega)] at hlen ⊢
          walk_at "retS"
          · rfl
          · exact fun _ => hlen
        walk_at "fact"; intro hp
        rw [if_pos (by omega)] at hlen ⊢
        walk_at "retS"
        · rfl
        · exact fun _ => hlen
local macro_rules | `(tactic| walk_at "evc") => `(tactic| ((first | ((with_reducible refine' Ev.call (by assumption) (exp_def (z := none) (by assumption) (by assumption) (by assumption) (by assumption) (by assumption) (by assumption) (by assumption)) ?ha ?hg ?hf ?hn ?hx ?hd ?hs ?hss); (case hg => k_is)) | ((with_reducible refine' Ev.call (by assumption) (isgen_def (by assumption) (by assumption) (by assumption) (by assumption) (by assumption)) ?ha ?hg ?hf ?hn ?hx ?hd ?hs ?hss); (case hg => k_is)) | ((with_reducible refine' Ev.call (by assumption) (fixed_def (by assumption) (by assumption) (by assumption) (by assumption) (by assumption)) ?ha ?hg ?hf ?hn ?hx ?hd ?hs ?hss); (case hg => k_is))); (case hf => k_is); (case ha => walk_at "evl"); (case hn => decide); (case hx => rfl); (case hd => rfl); (case hs => rfl); (case hss => rfl)))
theorem general_def0 {va : Addr} {n e width places scale : Int} {plus : Bool} {k : Nat} {t1 t2 : Tok} {news : Led} (hv : (va, tupOf #[.int n t1, .int e t2] k) ∈ news) (hn1 : -999999999 ≤ n) (hn2 : n ≤ 999999999) (he1 : -60 ≤ e) (he2 : e ≤ 60)
    (hs1 : isGenV n e places = false → -places < scale) (hs2 : isGenV n e places = false → scale ≤ places + 1) :
    Def 130 [.val (.ref va), .int width 0 20000, .int places 0 10000, .val .none, .int scale (-60) 4400, .bool plus] news 5 (Ret (.str (generalV n e width places none scale plus) 20000) news) := by
  unfold Def Calls
  k_fill
  intro w
  refine' Def.of (need := 4) (ns := ["value", "width", "places", "size", "scale", "is_plus"]) ?f1 ?f2 ?f3 rfl (by decide) ?hl ?hc ?hg ?hk ?hcell ?hb
  case f1 => k_is
  case f2 => k_is
  case f3 => exact len_ind6 fun _ _ _ _ _ _ => rfl
  case hl => decide
  case hc => rfl
  case hg => rfl
  case hk => rfl
  case hcell => decide
  refine fun c ok fx => ?_
  dsimp only [List.zip_cons_cons, List.zip_nil_left]
  obtain ⟨_, ⟨hw1, hw2⟩, ⟨hp1, hp2⟩, _, ⟨hc1, hc2⟩, _⟩ := fx
  have hr := absI_range (n := n) (by omega) (by omega)
  have hl := numText_len hr.1 hr.2
  have hlen : (generalV n e width places none scale plus).length ≤ 20000 := by
    unfold generalV
    split
    · rw [genB_len hw1 (by unfold blanksV; dsimp only; omega)]; omega
    · rw [expV_len hw1]; omega
  walk_at "leave"
  · intro hg
    replace hg : isGenV n e places = false := by revert hg; cases isGenV n e places <;> simp
    have hs1' := hs1 hg
    have hs2' := hs2 hg
    walk_at "retS"
    · unfold generalV; rw [if_neg (ne_true_of_eq_false hg)]
    · exact fun _ => hlen
  intro hg
  replace hg : isGenV n e places = true := by revert hg; cases isGenV n e places <;> simp
  have hin : 0 ≤ ((numText (absI n)).length : Int) + e ∧ ((numText (absI n)).length : Int) + e ≤ places := by
    have h := hg
    unfold isGenV at h
    split at h
    · cases h
    · rw [Bool.and_eq_true] at h
      exact ⟨of_decide_eq_true h.1, of_decide_eq_true h.2⟩
  unfold numText at hin hl
  have hval : generalV n e width places none scale plus = genB n e width places plus 4 := by unfold generalV; rw [if_pos hg]; rfl
  rw [hval] at hlen ⊢
  walk_at "set"
  refine' Ex.iteP True (mdA := []) ?t1 ?p1 ?q1 ?r1
  case t1 => walk_at "et"
  case p1 => intro h; cases h
  case q1 => intro h; cases h
  intro _
  walk_at "set"
  walk_at "leave"
  · walk_at "fact"; intro hw
    walk_at "retS"
    · unfold genB; rw [if_pos hw]
    · exact fun _ => hlen
  walk_at "fact"; intro hw
  have hfl := editFixedV_len (n := n) (e := e) (width := width - 4) (places := places - ((Str.ofString (toString (absI n))).length + e)) (scale := 0) (plus := plus) (by omega)
  walk_at "set"
  walk_at "leave"
  · intro hi
    walk_at "retS"
    · unfold genB numText; rw [if_neg hw, if_pos hi]
    · exact fun _ => hlen
  intro hi
  walk_at "retS"
  · unfold genB numText; rw [if_neg hw, if_neg (ne_true_of_eq_false hi)]
  · exact fun _ => hlen
local macro_rules | `(tactic| walk_at "evc") => `(tactic| ((first | ((with_reducible refine' Ev.call (by assumption) (exp_def (z := some _) (by assumption) (by assumption) (by assumption) (by assumption) (by assumption) (by assumption) (by assumption)) ?ha ?hg ?hf ?hn ?hx ?hd ?hs ?hss); (case hg => k_is)) | ((with_reducible refine' Ev.call (by assumption) (isgen_def (by assumption) (by assumption) (by assumption) (by assumption) (by assumption)) ?ha ?hg ?hf ?hn ?hx ?hd ?hs ?hss); (case hg => k_is)) | ((with_reducible refine' Ev.call (by assumption) (fixed_def (by assumption) (by assumption) (by assumption) (by assumption) (by assumption)) ?ha ?hg ?hf ?hn ?hx ?hd ?hs ?hss); (case hg => k_is))); (case hf => k_is); (case ha => walk_at "evl"); (case hn => decide); (case hx => rfl); (case hd => rfl); (case hs => rfl); (case hss => rfl)))
theorem general_def1 {va : Addr} {n e width places scale s : Int} {plus : Bool} {k : Nat} {t1 t2 : Tok} {news : Led} (hv : (va, tupOf #[.int n t1, .int e t2] k) ∈ news) (hn1 : -999999999 ≤ n) (hn2 : n ≤ 999999999) (he1 : -60 ≤ e) (he2 : e ≤ 60)
    (hs1 : isGenV n e places = false → -places < scale) (hs2 : isGenV n e places = false → scale ≤ places + 1) :
    Def 130 [.val (.ref va), .int width 0 20000, .int places 0 10000, .int s 1 5, .int scale (-60) 4400, .bool plus] news 5 (Ret (.str (generalV n e width places (some s) scale plus) 20000) news) := by
  unfold Def Calls
  k_fill
  intro w
  refine' Def.of (need := 4) (ns := ["value", "width", "places", "size", "scale", "is_plus"]) ?f1 ?f2 ?f3 rfl (by decide) ?hl ?hc ?hg ?hk ?hcell ?hb
  case f1 => k_is
  case f2 => k_is
  case f3 => exact len_ind6 fun _ _ _ _ _ _ => rfl
  case hl => decide
  case hc => rfl
  case hg => rfl
  case hk => rfl
  case hcell => decide
  refine fun c ok fx => ?_
  dsimp only [List.zip_cons_cons, List.zip_nil_left]
  obtain ⟨_, ⟨hw1, hw2⟩, ⟨hp1, hp2⟩, ⟨hk1, hk2⟩, ⟨hc1, hc2⟩, _⟩ := fx
  have hr := absI_range (n := n) (by omega) (by omega)
  have hl := numText_len hr.1 hr.2
  have hlen : (generalV n e width places (some s) scale plus).length ≤ 20000 := by
    unfold generalV
    split
    · rw [genB_len hw1 (by unfold blanksV; dsimp only; omega)]; omega
    · rw [expV_len hw1]; omega
  walk_at "leave"
  · intro hg
    replace hg : isGenV n e places = false := by revert hg; cases isGenV n e places <;> simp
    have hs1' := hs1 hg
    have hs2' := hs2 hg
    walk_at "retS"
    · unfold generalV; rw [if_neg (ne_true_of_eq_false hg)]
    · exact fun _ => hlen
  intro hg
  replace hg : isGenV n e places = true := by revert hg; cases isGenV n e places <;> simp
  have hin : 0 ≤ ((numText (absI n)).length : Int) + e ∧ ((numText (absI n)).length : Int) + e ≤ places := by
    have h := hg
    unfold isGenV at h
    split at h
    · cases h
    · rw [Bool.and_eq_true] at h
      exact ⟨of_decide_eq_true h.1, of_decide_eq_true h.2⟩
  unfold numText at hin hl
  have hval : generalV n e width places (some s) scale plus = genB n e width places plus (s + 2) := by unfold generalV; rw [if_pos hg]; rfl
  rw [hval] at hlen ⊢
  walk_at "set"
  refine' Ex.iteP True ?t1 ?p1 ?q1 ?r1
  case t1 => walk_at "et"
  case p1 =>
    intro _
    walk_at "set"
    exact Ex.nil ⟨trivial, rfl, rfl⟩
  case r1 => intro h; cases h
  intro _ _
  walk_at "set"
  walk_at "leave"
  · walk_at "fact"; intro hw
    walk_at "retS"
    · unfold genB; rw [if_pos hw]
    · exact fun _ => hlen
  walk_at "fact"; intro hw
  have hfl := editFixedV_len (n := n) (e := e) (width := width - (s + 2)) (places := places - ((Str.ofString (toString (absI n))).length + e)) (scale := 0) (plus := plus) (by omega)
  walk_at "set"
  walk_at "leave"
  · intro hi
    walk_at "retS"
    · unfold genB numText; rw [if_neg hw, if_pos hi]
    · exact fun _ => hlen
  intro hi
  walk_at "retS"
  · unfold genB numText; rw [if_neg hw, if_neg (ne_true_of_eq_false hi)]
  · exact fun _ => hlen
theorem ahead_def {p q : Bool} {news : Led} : Def 172 [.bool p, .bool q] news 1 (Ret (.str (signV p q) 1) news) := by
  unfold Def Calls
  k_fill
  intro w
  refine' Def.of (need := 0) (ns := ["is_minus", "is_plus"]) ?f1 ?f2 ?f3 rfl (by decide) ?hl ?hc ?hg ?hk ?hcell ?hb
  case f1 => k_is
  case f2 => k_is
  case f3 => exact len_ind2 fun _ _ => rfl
  case hl => decide
  case hc => rfl
  case hg => rfl
  case hk => rfl
  case hcell => decide
  refine fun c ok fx => ?_
  dsimp only [List.zip_cons_cons, List.zip_nil_left]
  refine' Ex.retD ?e
  case e =>
    walk_at "ifexp"
    · intro hp
      walk_at "to"
      · exact (if_t hp).symm
      · exact fun _ => signV_len _ _
    · intro hp
      walk_at "ifexp"
      · intro hq
        walk_at "to"
        · exact ((if_f hp).trans (if_t hq)).symm
        · exact fun _ => signV_len _ _
      · intro hq
        walk_at "to"
        · exact ((if_f hp).trans (if_f hq)).symm
        · exact fun _ => signV_len _ _
theorem told_def0 {x : Str} {p : Int} {news : Led} : Def 200 [.str x 1, .int p (-99999) 99999, .val .none] news 1 (Ret (oD (expoV x p none) 30) news) := by
  unfold Def Calls
  k_fill
  intro w
  refine' Def.of (need := 0) (ns := ["letter", "power", "size"]) ?f1 ?f2 ?f3 rfl (by decide) ?hl ?hc ?hg ?hk ?hcell ?hb
  case f1 => k_is
  case f2 => k_is
  case f3 => exact len_ind3 fun _ _ _ => rfl
  case hl => decide
  case hc => rfl
  case hg => rfl
  case hk => rfl
  case hcell => decide
  refine fun c ok fx => ?_
  dsimp only [List.zip_cons_cons, List.zip_nil_left]
  refine' Ex.unpackSw2 ok (d1 := .str (Str.ofString (toString (absI p))) 9) (d2 := .str (expSign p) 1) ?e ?x ?y ?h1 ?h2 ?_
  case x => rfl
  case y => rfl
  case h1 => rfl
  case h2 => rfl
  case e =>
    refine EvT.mk (EvL.cons ?e1 (EvL.cons ?e2 EvL.nil (starEach_plain rfl _ _)) (starEach_plain rfl _ _)) (Nat.le_of_ble_eq_true rfl)
    case e1 => walk_at "ev"
    case e2 =>
      walk_at "ifexp"
      · walk_at "fact"; intro hp
        walk_at "to"
        · unfold expSign; rw [if_pos hp]
        · exact fun _ => by rw [expSign_len]; decide
      · walk_at "fact"; intro hp
        walk_at "to"
        · unfold expSign; rw [if_neg hp]
        · exact fun _ => by rw [expSign_len]; decide
  refine' Ex.ite (J1 := fun _ _ => False) ?t1 ?p1 ?q1 ?r1
  case t1 => walk_at "et"
  case q1 => intro h; cases h
  case r1 => rintro _ _ ⟨⟩
  intro _
  refine' Ex.retD ?e3
  case e3 =>
    walk_at "ifexp"
    · walk_at "fact"; intro hl
      walk_at "toO"
      unfold expoV absText numText; dsimp only; rw [if_pos (by omega)]
    · walk_at "fact"; intro hl
      walk_at "ifexp"
      · walk_at "fact"; intro hl2
        walk_at "toO"
        unfold expoV absText numText; dsimp only; rw [if_neg (by omega), if_pos hl2]
      · walk_at "fact"; intro hl2
        walk_at "toN"
        unfold expoV absText numText; dsimp only; rw [if_neg (by omega), if_neg hl2]
theorem told_def1 {x : Str} {p s : Int} {news : Led} : Def 200 [.str x 1, .int p (-99999) 99999, .int s 1 5] news 1 (Ret (oD (expoV x p (some s)) 30) news) := by
  unfold Def Calls
  k_fill
  intro w
  refine' Def.of (need := 0) (ns := ["letter", "power", "size"]) ?f1 ?f2 ?f3 rfl (by decide) ?hl ?hc ?hg ?hk ?hcell ?hb
  case f1 => k_is
  case f2 => k_is
  case f3 => exact len_ind3 fun _ _ _ => rfl
  case hl => decide
  case hc => rfl
  case hg => rfl
  case hk => rfl
  case hcell => decide
  refine fun c ok fx => ?_
  dsimp only [List.zip_cons_cons, List.zip_nil_left]
  refine' Ex.unpackSw2 ok (d1 := .str (Str.ofString (toString (absI p))) 9) (d2 := .str (expSign p) 1) ?e ?x ?y ?h1 ?h2 ?_
  case x => rfl
  case y => rfl
  case h1 => rfl
  case h2 => rfl
  case e =>
    refine EvT.mk (EvL.cons ?e1 (EvL.cons ?e2 EvL.nil (starEach_plain rfl _ _)) (starEach_plain rfl _ _)) (Nat.le_of_ble_eq_true rfl)
    case e1 => walk_at "ev"
    case e2 =>
      walk_at "ifexp"
      · walk_at "fact"; intro hp
        walk_at "to"
        · unfold expSign; rw [if_pos hp]
        · exact fun _ => by rw [expSign_len]; decide
      · walk_at "fact"; intro hp
        walk_at "to"
        · unfold expSign; rw [if_neg hp]
        · exact fun _ => by rw [expSign_len]; decide
  walk_at "leave"
  · intro h; cases h
  intro _
  refine' Ex.retD ?e3
  case e3 =>
    walk_at "ifexp"
    · walk_at "fact"; intro hl
      walk_at "toN"
      unfold expoV absText numText; dsimp only; rw [if_pos hl]
    · walk_at "fact"; intro hl
      walk_at "toO"
      unfold expoV absText numText; dsimp only; rw [if_neg hl]
theorem told_def {x : Str} {p : Int} {z : Option Int} {news : Led} : Def 200 [.str x 1, .int p (-99999) 99999, zD z] news 1 (Ret (oD (expoV x p z) 30) news) := by
  cases z with
  | none => exact told_def0
  | some k => exact told_def1
local macro_rules | `(tactic| walk_at "evc") => `(tactic| ((first | ((with_reducible refine' Ev.call (by assumption) (nextup_def (by assumption)) ?ha ?hg ?hf ?hn ?hx ?hd ?hs ?hss); (case hg => k_is))); (case hf => k_is); (case ha => walk_at "evl"); (case hn => decide); (case hx => rfl); (case hd => rfl); (case hs => rfl); (case hss => rfl)))
theorem around_def {x : Str} {p places : Int} {news : Led} (hd : AllD x) (hx1 : 1 ≤ x.length) : Def 179 [.str x 9, .int p (-200) 5000, .int places 0 10000] news 2 (RetT [.str (aroundV x p places).1 30000, .str (aroundV x p places).2 30000] news) := by
  unfold Def Calls
  k_fill
  intro w
  refine' Def.of (need := 1) (ns := ["row", "power", "places"]) ?f1 ?f2 ?f3 rfl (by decide) ?hl ?hc ?hg ?hk ?hcell ?hb
  case f1 => k_is
  case f2 => k_is
  case f3 => exact len_ind3 fun _ _ _ => rfl
  case hl => decide
  case hc => rfl
  case hg => rfl
  case hk => rfl
  case hcell => decide
  refine fun c ok fx => ?_
  dsimp only [List.zip_cons_cons, List.zip_nil_left]
  obtain ⟨hx9, ⟨hp1, hp2⟩, ⟨hq1, hq2⟩, _⟩ := fx
  replace hx9 : x.length ≤ 9 := hx9
  walk_at "leave"
  · walk_at "fact"; intro hp
    have hq : aroundV x p places = _ := if_pos hp
    rw [hq]
    refine' Ex.retT ?r1
    case r1 => walk_at "evtw"
  walk_at "fact"; intro hp
  walk_at "set"
  rcases Classical.em (0 < (x.length : Int) + p) with hs | hs
  · refine' Ex.unpack2 ok (d1 := .str (Txt.slice x none (some (x.length + p))) 9) (d2 := .str (Txt.slice x (some (x.length + p)) none) 9) ?e ?x ?y ?h1 ?h2 ?_
    case x => rfl
    case y => rfl
    case h1 => rfl
    case h2 => rfl
    case e =>
      refine' EvT.ifexp ?t2 ?a2 ?b2
      case t2 => walk_at "et"
      case a2 => intro _; walk_at "evt"
      case b2 => walk_at "fact"; intro q; exact absurd hs q
    walk_at "leave"
    · walk_at "fact"; intro hl
      have hq : aroundV x p places = _ := (if_neg hp).trans ((if_pos hs).trans (if_pos hl))
      rw [hq]
      refine' Ex.retT ?r2
      case r2 => walk_at "evtw"
    walk_at "fact"; intro hl
    walk_at "set"
    have hk : AllD (Txt.slice x none (some (x.length + p)) ++ Txt.slice (Txt.slice x (some (x.length + p)) none) none (some places)) :=
      (AllD.to hd (by omega) (by omega)).app (AllD.to (AllD.from hd (by omega) (by omega)) hq1 (by omega))
    refine' Ex.iteP True ?t3 ?p3 ?q3 ?r3
    case t3 => walk_at "et"
    case p3 =>
      intro _
      walk_at "set"
      exact Ex.nil ⟨trivial, rfl, rfl⟩
    case q3 =>
      walk_at "fact"; intro hc _
      have hq : aroundV x p places = _ := (if_neg hp).trans ((if_pos hs).trans ((if_neg hl).trans (if_neg hc)))
      rw [hq]
      refine' Ex.retT ?r4
      case r4 => walk_at "evtw"
    case r3 =>
      walk_at "fact"; intro hc
      have hq : aroundV x p places = _ := (if_neg hp).trans ((if_pos hs).trans ((if_neg hl).trans (if_pos hc)))
      rw [hq]
      refine' Ex.retT ?r5
      case r5 => walk_at "evtw"
  · refine' Ex.unpack2 ok (d1 := .str (Str.ofString "") 1) (d2 := .str (Txt.mul (Str.ofString "0") (-(x.length + p)) ++ x) 209) ?e' ?x' ?y' ?h1' ?h2' ?_
    case x' => rfl
    case y' => rfl
    case h1' => rfl
    case h2' => rfl
    case e' =>
      refine' EvT.ifexp ?t6 ?a6 ?b6
      case t6 => walk_at "et"
      case a6 => walk_at "fact"; intro q; exact absurd q hs
      case b6 => intro _; walk_at "evtw"
    walk_at "leave"
    · walk_at "fact"; intro hl
      have hq : aroundV x p places = _ := (if_neg hp).trans ((if_neg hs).trans (if_pos hl))
      rw [hq]
      refine' Ex.retT ?r6
      case r6 => walk_at "evtw"
    walk_at "fact"; intro hl
    walk_at "set"
    have hk : AllD (Str.ofString "" ++ Txt.slice (Txt.mul (Str.ofString "0") (-(x.length + p)) ++ x) none (some places)) :=
      AllD.none.app (AllD.to ((AllD.zeros _).app hd) hq1 (by omega))
    refine' Ex.iteP True ?t7 ?p7 ?q7 ?r7
    case t7 => walk_at "et"
    case p7 =>
      intro _
      walk_at "set"
      exact Ex.nil ⟨trivial, rfl, rfl⟩
    case q7 =>
      walk_at "fact"; intro hc _
      have hq : aroundV x p places = _ := (if_neg hp).trans ((if_neg hs).trans ((if_neg hl).trans (if_neg hc)))
      rw [hq]
      refine' Ex.retT ?r8
      case r8 => walk_at "evtw"
    case r7 =>
      walk_at "fact"; intro hc
      have hq : aroundV x p places = _ := (if_neg hp).trans ((if_neg hs).trans ((if_neg hl).trans (if_pos hc)))
      rw [hq]
      refine' Ex.retT ?r9
      case r9 => walk_at "evtw"
local macro_rules | `(tactic| walk_at "evc") => `(tactic| ((first | ((with_reducible refine' Ev.call (by assumption) (nextup_def (by assumption)) ?ha ?hg ?hf ?hn ?hx ?hd ?hs ?hss); (case hg => k_is))); (case hf => k_is); (case ha => walk_at "evl"); (case hn => decide); (case hx => rfl); (case hd => rfl); (case hs => rfl); (case hss => rfl)))
theorem first_def {va : Addr} {n e many : Int} {k : Nat} {t1 t2 : Tok} {news : Led} (hv : (va, tupOf #[.int n t1, .int e t2] k) ∈ news) (hn1 : -999999999 ≤ n) (hn2 : n ≤ 999999999) (he1 : -60 ≤ e) (he2 : e ≤ 60) :
    Def 193 [.val (.ref va), .int many 1 15000] news 3 (RetT [.str (firstV n e many).1 30000, .int (firstV n e many).2 (-100) 100] news) := by
  unfold Def Calls
  k_fill
  intro w
  refine' Def.of (need := 2) (ns := ["value", "many"]) ?f1 ?f2 ?f3 rfl (by decide) ?hl ?hc ?hg ?hk ?hcell ?hb
  case f1 => k_is
  case f2 => k_is
  case f3 => exact len_ind2 fun _ _ => rfl
  case hl => decide
  case hc => rfl
  case hg => rfl
  case hk => rfl
  case hcell => decide
  refine fun c ok fx => ?_
  dsimp only [List.zip_cons_cons, List.zip_nil_left]
  obtain ⟨_, ⟨hm1, hm2⟩, _⟩ := fx
  have hr := absI_range (n := n) (by omega) (by omega)
  have hl := numText_len hr.1 hr.2
  unfold numText at hl
  walk_at "leave"
  · walk_at "fact"; intro hp
    have hq : firstV n e many = _ := if_pos hp
    rw [hq]
    refine' Ex.retT ?r1
    case r1 => walk_at "evtw"
  walk_at "fact"; intro hp
  walk_at "set"
  walk_at "set"
  walk_at "leave"
  · walk_at "fact"; intro hl1
    have hq : firstV n e many = _ := (if_neg hp).trans (if_pos hl1)
    rw [hq]
    refine' Ex.retT ?r2
    case r2 => walk_at "evtw"
  walk_at "fact"; intro hl1
  walk_at "set"
  have hk : AllD (Txt.slice (Str.ofString (toString (absI n))) none (some many)) := AllD.to (text_digits hr.1) (by omega) (by omega)
  have hs := slice_to_len (x := Str.ofString (toString (absI n))) (k := many) (by omega) (by omega)
  have hu1 := nextUpV_len (Txt.slice (Str.ofString (toString (absI n))) none (some many))
  have hu2 := nextUpV_len2 (Txt.slice (Str.ofString (toString (absI n))) none (some many))
  refine' Ex.iteP True ?t3 ?p3 ?q3 ?r3
  case t3 => walk_at "et"
  case p3 =>
    intro _
    walk_at "set"
    exact Ex.nil ⟨trivial, rfl, rfl⟩
  case q3 =>
    walk_at "fact"; intro hc _
    have hq : firstV n e many = _ := (if_neg hp).trans ((if_neg hl1).trans (if_neg hc))
    rw [hq]
    refine' Ex.retT ?r4
    case r4 =>
      unfold numText
      walk_at "evtw"
  case r3 =>
    walk_at "fact"; intro hc
    have hq : firstV n e many = _ := (if_neg hp).trans ((if_neg hl1).trans (if_pos hc))
    rw [hq]
    refine' Ex.retT ?r5
    case r5 =>
      unfold numText
      walk_at "evtw"
local macro_rules | `(tactic| walk_at "evc") => `(tactic| ((first | ((with_reducible refine' Ev.call (by assumption) ahead_def ?ha ?hg ?hf ?hn ?hx ?hd ?hs ?hss); (case hg => k_is))); (case hf => k_is); (case ha => walk_at "evl"); (case hn => decide); (case hx => rfl); (case hd => rfl); (case hs => rfl); (case hss => rfl)))
local macro_rules | `(tactic| walk_at "evtc") => `(tactic| ((first | ((with_reducible refine' EvT.call (by assumption) (around_def (by assumption) (by assumption)) ?ha ?hg ?hf ?hn ?hx ?hd ?hs ?hss); (case hg => k_is))); (case hf => k_is); (case ha => walk_at "evl"); (case hn => decide); (case hx => rfl); (case hd => rfl); (case hs => rfl); (case hss => rfl)))
theorem byf_def {va : Addr} {n e width places scale : Int} {plus : Bool} {k : Nat} {t1 t2 : Tok} {news : Led} (hv : (va, tupOf #[.int n t1, .int e t2] k) ∈ news) (hn1 : -999999999 ≤ n) (hn2 : n ≤ 999999999) (he1 : -60 ≤ e) (he2 : e ≤ 60) :
    Def 186 [.val (.ref va), .int width 0 20000, .int places 0 10000, .int scale (-60) 4400, .bool plus] news 3 (Ret (.str (byfV n e width places scale plus) 20000) news) := by
  unfold Def Calls
  k_fill
  intro w
  refine' Def.of (need := 2) (ns := ["value", "width", "places", "scale", "is_plus"]) ?f1 ?f2 ?f3 rfl (by decide) ?hl ?hc ?hg ?hk ?hcell ?hb
  case f1 => k_is
  case f2 => k_is
  case f3 => exact len_ind5 fun _ _ _ _ _ => rfl
  case hl => decide
  case hc => rfl
  case hg => rfl
  case hk => rfl
  case hcell => decide
  refine fun c ok fx => ?_
  dsimp only [List.zip_cons_cons, List.zip_nil_left]
  obtain ⟨_, ⟨hw1, hw2⟩, ⟨hp1, hp2⟩, ⟨hc1, hc2⟩, _⟩ := fx
  have hlen : (byfV n e width places scale plus).length ≤ 20000 := by rw [byfV_len hw1]; omega
  have hr := absI_range (n := n) (by omega) (by omega)
  have hl := numText_len hr.1 hr.2
  unfold numText at hl
  have hall := text_digits hr.1
  have hl1 : 1 ≤ (Str.ofString (toString (absI n))).length := hl.1
  walk_at "unpackSw"
  rcases Classical.em (n = 0) with hn | hn
  · refine' Ex.iteP True (mdA := []) ?t1 ?p1 ?q1 ?r1
    case t1 => walk_at "et"
    case p1 => intro h; rw [hn] at h; cases h
    case q1 => intro h; rw [hn] at h; cases h
    intro _
    have hval : byfV n e width places scale plus = fieldsV (signV (decide (n < 0) && (Txt.stripChars (Str.ofString "" ++ Txt.mul (Str.ofString "0") places) (Str.ofString "0") != Str.ofString "")) plus) (Str.ofString "") (Txt.mul (Str.ofString "0") places) width := by
      unfold byfV byfWR; rw [if_pos hn]
    rw [hval] at hlen ⊢
    walk_at "set"
    refine' Ex.leave ?tA ?pA ?qA
    case tA => walk_at "et"
    case pA =>
      intro hb
      rw [Bool.and_eq_true] at hb
      refine' Ex.retS (Ev.callA ok (fun a vs hv => field1_def (.head _) hv ?k1A) ?aA ?bA ?gA ?fA (by decide) rfl rfl rfl rfl) ?eA ?lA
      case gA => k_is
      case fA => k_is
      case aA =>
        refine' EvA.mk ?a1A (Nat.le_of_ble_eq_true rfl)
        case a1A => walk_at "evl1"
      case bA => intro y; walk_at "evw"
      case k1A => decide
      case eA => unfold fieldsV; rw [if_pos hb.1, if_pos hb.2]
      case lA => exact fun _ => hlen
    case qA =>
      intro hb
      refine' Ex.setA ok (EvA.mk (EvL.cons ?xA EvL.nil (starEach_plain rfl _ _)) (Nat.le_of_ble_eq_true rfl)) rfl rfl ?yA
      case xA => walk_at "ev"
      case yA =>
        intro a vs hvs
        refine Ex.less ?_
        cases hA : (Str.ofString "" == Str.ofString "") with
        | true =>
          rw [hA, Bool.true_and] at hb
          refine' Ex.retS (Ev.callA ok (fun b us hu => field2_def (.head _) hu ?k2A ?k3A) ?a2A ?b2A ?g2A ?f2A (by decide) rfl rfl rfl rfl) ?e2A ?l2A
          case g2A => k_is
          case f2A => k_is
          case a2A =>
            refine' EvA.ifexp ?t3A ?p3A ?q3A
            case t3A => walk_at "et"
            case p3A =>
              intro _
              refine' EvA.add2 (EvA.mk ?a4A ?n4A) ?h4A (.head _) hvs
              case a4A => walk_at "evl1"
              case n4A => exact Nat.le_of_ble_eq_true rfl
              case h4A => intro x; walk_at "ev"
            case q3A => intro q; rw [hA] at q; cases q
          case b2A => intro y; walk_at "evw"
          case k2A => decide
          case k3A => decide
          case e2A => unfold fieldsV; rw [if_pos hA, if_neg (ne_true_of_eq_false hb)]
          case l2A => exact fun _ => hlen
        | false =>
          refine' Ex.retS (Ev.call ok (field1_def (.head _) hvs (by decide)) (EvL.cons (Ev.ifexp ?t5A ?p5A ?q5A) (EvL.cons ?w5A EvL.nil (starEach_plain rfl _ _)) (starEach_plain rfl _ _)) ?g5A ?f5A (by decide) rfl rfl rfl rfl) ?e5A ?l5A
          case g5A => k_is
          case f5A => k_is
          case t5A => walk_at "et"
          case p5A => intro q; rw [hA] at q; cases q
          case q5A => intro _; walk_at "ev"
          case w5A => walk_at "evw"
          case e5A => unfold fieldsV; rw [if_neg (ne_true_of_eq_false hA)]
          case l5A => exact fun _ => hlen
  · refine' Ex.iteP True ?t2 ?p2 ?q2 ?r2
    case t2 => walk_at "et"
    case p2 =>
      intro _
      walk_at "unpack"
      exact Ex.nil ⟨trivial, rfl, rfl⟩
    case r2 =>
      intro h
      exact absurd h (by simp [hn])
    intro _ _
    have hval : byfV n e width places scale plus = fieldsV (signV (decide (n < 0) && (Txt.stripChars ((aroundV (numText (absI n)) (e + scale) places).1 ++ (aroundV (numText (absI n)) (e + scale) places).2) (Str.ofString "0") != Str.ofString "")) plus) (aroundV (numText (absI n)) (e + scale) places).1 (aroundV (numText (absI n)) (e + scale) places).2 width := by
      unfold byfV byfWR; rw [if_neg hn]
    rw [hval] at hlen ⊢
    unfold numText at hlen ⊢
    generalize aroundV (Str.ofString (toString (absI n))) (e + scale) places = W at hlen ⊢
    walk_at "set"
    refine' Ex.leave ?tB ?pB ?qB
    case tB => walk_at "et"
    case pB =>
      intro hb
      rw [Bool.and_eq_true] at hb
      refine' Ex.retS (Ev.callA ok (fun a vs hv => field1_def (.head _) hv ?k1B) ?aB ?bB ?gB ?fB (by decide) rfl rfl rfl rfl) ?eB ?lB
      case gB => k_is
      case fB => k_is
      case aB =>
        refine' EvA.mk ?a1B (Nat.le_of_ble_eq_true rfl)
        case a1B => walk_at "evl1"
      case bB => intro y; walk_at "evw"
      case k1B => decide
      case eB => unfold fieldsV; rw [if_pos hb.1, if_pos hb.2]
      case lB => exact fun _ => hlen
    case qB =>
      intro hb
      refine' Ex.setA ok (EvA.mk (EvL.cons ?xB EvL.nil (starEach_plain rfl _ _)) (Nat.le_of_ble_eq_true rfl)) rfl rfl ?yB
      case xB => walk_at "ev"
      case yB =>
        intro a vs hvs
        refine Ex.less ?_
        cases hA : (W.1 == Str.ofString "") with
        | true =>
          rw [hA, Bool.true_and] at hb
          refine' Ex.retS (Ev.callA ok (fun b us hu => field2_def (.head _) hu ?k2B ?k3B) ?a2B ?b2B ?g2B ?f2B (by decide) rfl rfl rfl rfl) ?e2B ?l2B
          case g2B => k_is
          case f2B => k_is
          case a2B =>
            refine' EvA.ifexp ?t3B ?p3B ?q3B
            case t3B => walk_at "et"
            case p3B =>
              intro _
              refine' EvA.add2 (EvA.mk ?a4B ?n4B) ?h4B (.head _) hvs
              case a4B => walk_at "evl1"
              case n4B => exact Nat.le_of_ble_eq_true rfl
              case h4B => intro x; walk_at "ev"
            case q3B => intro q; rw [hA] at q; cases q
          case b2B => intro y; walk_at "evw"
          case k2B => decide
          case k3B => decide
          case e2B => unfold fieldsV; rw [if_pos hA, if_neg (ne_true_of_eq_false hb)]
          case l2B => exact fun _ => hlen
        | false =>
          refine' Ex.retS (Ev.call ok (field1_def (.head _) hvs (by decide)) (EvL.cons (Ev.ifexp ?t5B ?p5B ?q5B) (EvL.cons ?w5B EvL.nil (starEach_plain rfl _ _)) (starEach_plain rfl _ _)) ?g5B ?f5B (by decide) rfl rfl rfl rfl) ?e5B ?l5B
          case g5B => k_is
          case f5B => k_is
          case t5B => walk_at "et"
          case p5B => intro q; rw [hA] at q; cases q
          case q5B => intro _; walk_at "ev"
          case w5B => walk_at "evw"
          case e5B => unfold fieldsV; rw [if_neg (ne_true_of_eq_false hA)]
          case l5B => exact fun _ => hlen
local macro_rules | `(tactic| walk_at "evc") => `(tactic| ((first | ((with_reducible refine' Ev.call (by assumption) ahead_def ?ha ?hg ?hf ?hn ?hx ?hd ?hs ?hss); (case hg => k_is)) | ((with_reducible refine' Ev.call (by assumption) told_def ?ha ?hg ?hf ?hn ?hx ?hd ?hs ?hss); (case hg => k_is))); (case hf => k_is); (case ha => walk_at "evl"); (case hn => decide); (case hx => rfl); (case hd => rfl); (case hs => rfl); (case hss => rfl)))
theorem bye_def {x : Str} {va : Addr} {n e width places scale : Int} {plus : Bool} {z : Option Int} {k : Nat} {t1 t2 : Tok} {news : Led} (hv : (va, tupOf #[.int n t1, .int e t2] k) ∈ news) (hn1 : -999999999 ≤ n) (hn2 : n ≤ 999999999) (he1 : -60 ≤ e) (he2 : e ≤ 60) :
    Def 207 [.str x 1, .val (.ref va), .int width 0 20000, .int places 0 10000, zD z, .int scale (-60) 4400, .bool plus] news 4 (Ret (oD (byeV x n e width places z scale plus) 20000) news) := by
  unfold Def Calls
  k_fill
  intro w
  refine' Def.of (need := 3) (ns := ["letter", "value", "width", "places", "size", "scale", "is_plus"]) ?f1 ?f2 ?f3 rfl (by decide) ?hl ?hc ?hg ?hk ?hcell ?hb
  case f1 => k_is
  case f2 => k_is
  case f3 => exact len_ind7 fun _ _ _ _ _ _ _ => rfl
  case hl => decide
  case hc => rfl
  case hg => rfl
  case hk => rfl
  case hcell => decide
  refine fun c ok fx => ?_
  dsimp only [List.zip_cons_cons, List.zip_nil_left]
  obtain ⟨_, _, ⟨hw1, hw2⟩, ⟨hp1, hp2⟩, _, ⟨hc1, hc2⟩, _⟩ := fx
  walk_at "leave"
  · intro hb
    walk_at "retN"
    unfold byeV
    by_cases h1 : -places < scale
    · by_cases h2 : scale < places + 2
      · rw [decide_eq_true h1, decide_eq_true h2] at hb; cases hb
      · rw [if_pos h1, if_neg h2]
    · rw [if_neg h1]
  intro hb
  have h12 : -places < scale ∧ scale < places + 2 := by
    by_cases h1 : -places < scale
    · by_cases h2 : scale < places + 2
      · exact ⟨h1, h2⟩
      · rw [decide_eq_true h1, decide_eq_false h2] at hb; cases hb
    · rw [decide_eq_false h1] at hb; cases hb
  have hval : byeV x n e width places z scale plus = some (byeW x n e width places z scale plus (if 0 < scale then places + 1 else places + scale)) := by
    unfold byeV; rw [if_pos h12.1, if_pos h12.2]
  rw [hval]
  have hlen := byeW_len (x := x) (n := n) (e := e) (places := places) (z := z) (scale := scale) (plus := plus) (count := if 0 < scale then places + 1 else places + scale) hw1
  have hct : 1 ≤ (if 0 < scale then places + 1 else places + scale) ∧ (if 0 < scale then places + 1 else places + scale) ≤ 15000 := by split <;> omega
  refine' Ex.unpack2 ok (d1 := .str (firstV n e (if 0 < scale then places + 1 else places + scale)).1 30000) (d2 := .int (firstV n e (if 0 < scale then places + 1 else places + scale)).2 (-100) 100) ?e1 ?x1 ?y1 ?h11 ?h21 ?r1
  case x1 => rfl
  case y1 => rfl
  case h11 => rfl
  case h21 => rfl
  case e1 =>
    refine' EvT.call ok (first_def hv hn1 hn2 he1 he2) (EvL.cons ?a1 (EvL.cons ?b1 EvL.nil (starEach_plain rfl _ _)) (starEach_plain rfl _ _)) ?g1 ?f1' (by decide) rfl rfl rfl rfl
    case g1 => k_is
    case f1' => k_is
    case a1 => walk_at "ev"
    case b1 =>
      walk_at "ifexp"
      · walk_at "fact"; intro hs
        refine' Ev.toI ?i1 ?i2 ?i3
        case i1 => walk_at "ev"
        case i2 => rw [if_pos hs]
        case i3 => exact fun _ _ => hct
      · walk_at "fact"; intro hs
        refine' Ev.toI ?j1 ?j2 ?j3
        case j1 => walk_at "ev"
        case j2 => rw [if_neg hs]
        case j3 => exact fun _ _ => hct
  case r1 =>
    have hlen' : (byeW x n e width places z scale plus (if 0 < scale then places + 1 else places + scale)).length ≤ 20000 := by rw [hlen]; omega
    clear hval hlen hct
    generalize (if 0 < scale then places + 1 else places + scale) = count at hlen' ⊢
    unfold byeW at hlen' ⊢
    generalize firstV n e count = W at hlen' ⊢
    refine' Ex.set ok (d := oD (expoV x (if n = 0 then 0 else W.2 - scale) z) 30) ?e2 rfl rfl ?r2
    case e2 =>
      refine' Ev.call ok (told_def (x := x) (p := if n = 0 then 0 else W.2 - scale) (z := z)) (EvL.cons ?a2 (EvL.cons ?b2 (EvL.cons ?c2 EvL.nil (starEach_plain rfl _ _)) (starEach_plain rfl _ _)) (starEach_plain rfl _ _)) ?g2 ?f2 (by decide) rfl rfl rfl rfl
      case g2 => k_is
      case f2 => k_is
      case a2 => walk_at "ev"
      case c2 => walk_at "ev"
      case b2 =>
        walk_at "ifexp"
        · intro hb
          have hn : ¬ n = 0 := fun q => by rw [q] at hb; cases hb
          refine' Ev.toI ?k1 ?k2 ?k3
          case k1 => walk_at "ev"
          case k2 => rw [if_neg hn]
          case k3 => rw [if_neg hn]; exact fun p q => ⟨by omega, by omega⟩
        · intro hb
          have hn : n = 0 := by
            have := hb; simp at this; exact this
          refine' Ev.toI ?l1 ?l2 ?l3
          case l1 => walk_at "ev"
          case l2 => rw [if_pos hn]
          case l3 => rw [if_pos hn]; exact fun p q => ⟨by omega, by omega⟩
    case r2 =>
      generalize (if n = 0 then 0 else W.2 - scale) = P at hlen' ⊢
      cases hx : expoV x P z with
      | none =>
        rw [hx] at hlen'
        dsimp only at hlen' ⊢
        unfold oD
        dsimp only
        walk_at "leave"
        · intro _
          walk_at "retS"
          · rfl
          · exact fun _ => hlen'
        · intro h; cases h
      | some told =>
        rw [hx] at hlen'
        dsimp only at hlen' ⊢
        unfold oD
        dsimp only
        walk_at "leave"
        · intro h; cases h
        intro _
        walk_at "set"
        refine' Ex.leave ?t3 ?p3 ?q3
        case t3 => walk_at "et"
        case p3 =>
          walk_at "fact"; intro hs
          rw [if_pos hs] at hlen' ⊢
          refine' Ex.retS (Ev.callA ok (fun a vs hv => field1_def (.head _) hv ?k5) ?a5 ?b5 ?g5 ?f5 (by decide) rfl rfl rfl rfl) ?e5 ?l5
          case g5 => k_is
          case f5 => k_is
          case a5 =>
            refine' EvA.mk ?a6 (Nat.le_of_ble_eq_true rfl)
            case a6 => walk_at "evl1"
          case b5 => intro y; walk_at "evw"
          case k5 => decide
          case e5 => rfl
          case l5 => exact fun _ => hlen'
        case q3 =>
          walk_at "fact"; intro hs
          rw [if_neg hs] at hlen' ⊢
          walk_at "set"
          refine' Ex.retS (Ev.callA ok (fun a vs hv => field2_def (.head _) hv ?k7 ?k8) ?a7 ?b7 ?g7 ?f7 (by decide) rfl rfl rfl rfl) ?e7 ?l7
          case g7 => k_is
          case f7 => k_is
          case a7 =>
            refine' EvA.mk ?a8 (Nat.le_of_ble_eq_true rfl)
            case a8 => walk_at "evl1"
          case b7 => intro y; walk_at "evw"
          case k7 => decide
          case k8 => decide
          case e7 => rfl
          case l7 => exact fun _ => hlen'
local macro_rules | `(tactic| walk_at "evc") => `(tactic| ((first | ((with_reducible refine' Ev.call (by assumption) (bye_def (z := none) (by assumption) (by assumption) (by assumption) (by assumption) (by assumption)) ?ha ?hg ?hf ?hn ?hx ?hd ?hs ?hss); (case hg => k_is)) | ((with_reducible refine' Ev.call (by assumption) (byf_def (by assumption) (by assumption) (by assumption) (by assumption) (by assumption)) ?ha ?hg ?hf ?hn ?hx ?hd ?hs ?hss); (case hg => k_is))); (case hf => k_is); (case ha => walk_at "evl"); (case hn => decide); (case hx => rfl); (case hd => rfl); (case hs => rfl); (case hss => rfl)))
theorem byg_def0 {va : Addr} {n e width places scale : Int} {plus : Bool} {k : Nat} {t1 t2 : Tok} {news : Led} (hv : (va, tupOf #[.int n t1, .int e t2] k) ∈ news) (hn1 : -999999999 ≤ n) (hn2 : n ≤ 999999999) (he1 : -60 ≤ e) (he2 : e ≤ 60) :
    Def 214 [.val (.ref va), .int width 0 20000, .int places 0 10000, .val .none, .int scale (-60) 4400, .bool plus] news 5 (Ret (oD (bygV n e width places none scale plus) 20000) news) := by
  unfold Def Calls
  k_fill
  intro w
  refine' Def.of (need := 4) (ns := ["value", "width", "places", "size", "scale", "is_plus"]) ?f1 ?f2 ?f3 rfl (by decide) ?hl ?hc ?hg ?hk ?hcell ?hb
  case f1 => k_is
  case f2 => k_is
  case f3 => exact len_ind6 fun _ _ _ _ _ _ => rfl
  case hl => decide
  case hc => rfl
  case hg => rfl
  case hk => rfl
  case hcell => decide
  refine fun c ok fx => ?_
  dsimp only [List.zip_cons_cons, List.zip_nil_left]
  obtain ⟨_, ⟨hw1, hw2⟩, ⟨hp1, hp2⟩, _, ⟨hc1, hc2⟩, _⟩ := fx
  have hr := absI_range (n := n) (by omega) (by omega)
  have hl := numText_len hr.1 hr.2
  unfold numText at hl
  walk_at "set"
  rcases Classical.em (n ≠ 0 ∧ 0 ≤ ((Str.ofString (toString (absI n))).length : Int) + e ∧ ((Str.ofString (toString (absI n))).length : Int) + e ≤ places) with hin | hin
  · have hval : bygV n e width places none scale plus = some (bygB n e width places plus 4) := by
      unfold bygV numText; rw [if_neg hin.1, if_pos hin.2.1, if_pos hin.2.2]; rfl
    rw [hval]
    unfold oD
    dsimp only
    have hlen : (bygB n e width places plus 4).length ≤ 20000 := by rw [bygB_len hw1 (by omega)]; omega
    walk_at "leave"
    · intro hb
      rw [show (n == 0) = false from beq_eq_false_iff_ne.mpr hin.1, decide_eq_true hin.2.1, decide_eq_true hin.2.2] at hb; cases hb
    intro _
    refine' Ex.set ok (d := .int 4 4 4) ?e1 rfl rfl ?r1
    case e1 =>
      walk_at "ifexp"
      · intro q; walk_at "evw"
      · intro q; cases q
    case r1 =>
      walk_at "leave"
      · walk_at "fact"; intro hw
        walk_at "retS"
        · unfold bygB; rw [if_pos hw]
        · exact fun _ => hlen
      walk_at "fact"; intro hw
      have hfl := byfV_len (n := n) (e := e) (width := width - 4) (places := places - ((Str.ofString (toString (absI n))).length + e)) (scale := 0) (plus := plus) (by omega)
      walk_at "set"
      refine' Ex.retD ?e3
      case e3 =>
        walk_at "ifexp"
        · intro hi
          walk_at "to"
          · unfold bygB numText; rw [if_neg hw, if_pos hi]
          · exact fun _ => hlen
        · intro hi
          walk_at "to"
          · unfold bygB numText; rw [if_neg hw, if_neg (ne_true_of_eq_false hi)]
          · exact fun _ => hlen
  · have hval : bygV n e width places none scale plus = byeV (Str.ofString "E") n e width places none scale plus := by
      unfold bygV numText
      by_cases h0 : n = 0
      · rw [if_pos h0]
      · rw [if_neg h0]
        by_cases h1 : 0 ≤ ((Str.ofString (toString (absI n))).length : Int) + e
        · rw [if_pos h1, if_neg fun h2 => hin ⟨h0, h1, h2⟩]
        · rw [if_neg h1]
    rw [hval]
    walk_at "leave"
    · intro _
      refine' Ex.retD ?e4
      case e4 => walk_at "ev"
    · intro hb
      rw [Bool.or_eq_false_iff] at hb
      have b := hb.2
      rw [Bool.not_eq_false', Bool.and_eq_true] at b
      exact absurd ⟨ne_of_beq_false hb.1, of_decide_eq_true b.1, of_decide_eq_true b.2⟩ hin
local macro_rules | `(tactic| walk_at "evc") => `(tactic| ((first | ((with_reducible refine' Ev.call (by assumption) (bye_def (z := some _) (by assumption) (by assumption) (by assumption) (by assumption) (by assumption)) ?ha ?hg ?hf ?hn ?hx ?hd ?hs ?hss); (case hg => k_is)) | ((with_reducible refine' Ev.call (by assumption) (byf_def (by assumption) (by assumption) (by assumption) (by assumption) (by assumption)) ?ha ?hg ?hf ?hn ?hx ?hd ?hs ?hss); (case hg => k_is))); (case hf => k_is); (case ha => walk_at "evl"); (case hn => decide); (case hx => rfl); (case hd => rfl); (case hs => rfl); (case hss => rfl)))
theorem byg_def1 {va : Addr} {n e width places scale s : Int} {plus : Bool} {k : Nat} {t1 t2 : Tok} {news : Led} (hv : (va, tupOf #[.int n t1, .int e t2] k) ∈ news) (hn1 : -999999999 ≤ n) (hn2 : n ≤ 999999999) (he1 : -60 ≤ e) (he2 : e ≤ 60) :
    Def 214 [.val (.ref va), .int width 0 20000, .int places 0 10000, .int s 1 5, .int scale (-60) 4400, .bool plus] news 5 (Ret (oD (bygV n e width places (some s) scale plus) 20000) news) := by
  unfold Def Calls
  k_fill
  intro w
  refine' Def.of (need := 4) (ns := ["value", "width", "places", "size", "scale", "is_plus"]) ?f1 ?f2 ?f3 rfl (by decide) ?hl ?hc ?hg ?hk ?hcell ?hb
  case f1 => k_is
  case f2 => k_is
  case f3 => exact len_ind6 fun _ _ _ _ _ _ => rfl
  case hl => decide
  case hc => rfl
  case hg => rfl
  case hk => rfl
  case hcell => decide
  refine fun c ok fx => ?_
  dsimp only [List.zip_cons_cons, List.zip_nil_left]
  obtain ⟨_, ⟨hw1, hw2⟩, ⟨hp1, hp2⟩, ⟨hk1, hk2⟩, ⟨hc1, hc2⟩, _⟩ := fx
  have hr := absI_range (n := n) (by omega) (by omega)
  have hl := numText_len hr.1 hr.2
  unfold numText at hl
  walk_at "set"
  rcases Classical.em (n ≠ 0 ∧ 0 ≤ ((Str.ofString (toString (absI n))).length : Int) + e ∧ ((Str.ofString (toString (absI n))).length : Int) + e ≤ places) with hin | hin
  · have hval : bygV n e width places (some s) scale plus = some (bygB n e width places plus (s + 2)) := by
      unfold bygV numText; rw [if_neg hin.1, if_pos hin.2.1, if_pos hin.2.2]; rfl
    rw [hval]
    unfold oD
    dsimp only
    have hlen : (bygB n e width places plus (s + 2)).length ≤ 20000 := by rw [bygB_len hw1 (by omega)]; omega
    walk_at "leave"
    · intro hb
      rw [show (n == 0) = false from beq_eq_false_iff_ne.mpr hin.1, decide_eq_true hin.2.1, decide_eq_true hin.2.2] at hb; cases hb
    intro _
    refine' Ex.set ok (d := .int (s + 2) 3 7) ?e1 rfl rfl ?r1
    case e1 =>
      walk_at "ifexp"
      · intro q; cases q
      · intro q; walk_at "evw"
    case r1 =>
      walk_at "leave"
      · walk_at "fact"; intro hw
        walk_at "retS"
        · unfold bygB; rw [if_pos hw]
        · exact fun _ => hlen
      walk_at "fact"; intro hw
      have hfl := byfV_len (n := n) (e := e) (width := width - (s + 2)) (places := places - ((Str.ofString (toString (absI n))).length + e)) (scale := 0) (plus := plus) (by omega)
      walk_at "set"
      refine' Ex.retD ?e3
      case e3 =>
        walk_at "ifexp"
        · intro hi
          walk_at "to"
          · unfold bygB numText; rw [if_neg hw, if_pos hi]
          · exact fun _ => hlen
        · intro hi
          walk_at "to"
          · unfold bygB numText; rw [if_neg hw, if_neg (ne_true_of_eq_false hi)]
          · exact fun _ => hlen
  · have hval : bygV n e width places (some s) scale plus = byeV (Str.ofString "E") n e width places (some s) scale plus := by
      unfold bygV numText
      by_cases h0 : n = 0
      · rw [if_pos h0]
      · rw [if_neg h0]
        by_cases h1 : 0 ≤ ((Str.ofString (toString (absI n))).length : Int) + e
        · rw [if_pos h1, if_neg fun h2 => hin ⟨h0, h1, h2⟩]
        · rw [if_neg h1]
    rw [hval]
    walk_at "leave"
    · intro _
      refine' Ex.retD ?e4
      case e4 => walk_at "ev"
    · intro hb
      rw [Bool.or_eq_false_iff] at hb
      have b := hb.2
      rw [Bool.not_eq_false', Bool.and_eq_true] at b
      exact absurd ⟨ne_of_beq_false hb.1, of_decide_eq_true b.1, of_decide_eq_true b.2⟩ hin
section
variable {c : Ctx} {cs : Scope} {md md2 : Loc} {news : Led} {need : Nat} {pos np tpos : Pos} {k : Nat} {elts : List Expr} {rest : List Stmt} {R : Value → Led → Prop} {J J1 : Loc → Led → Prop} {P P' : Led → Prop}
/-- a call whose value and ledger a relation takes -/
def EvR (c : Ctx) (cs : Scope) (md : Loc) (news : Led) (e : Expr) (R : Value → Led → Prop) : Prop :=
  ∀ (m : Str → Option Value) (h : Heap) (t : Nat) (Q E : Value → Shared → Prop), Fits m md → Fr c.h₀ c.L h m → News c.h₀ c.L h news →
    (∀ v nw h' t', R v nw → Fr c.h₀ c.L h' m → News c.h₀ c.L h' nw → Q v (c.st h' t')) → wpAny c.M (c.A cs) (eval e (c.env cs)) Q E (c.st h t)
theorem EvR.call (ok : c.Ok cs need) {x : Str} {f : Addr} {e : Expr} {es : List Expr} {ds : List VD} {need' : Nat} (C : Def f ds news need' R) (ha : EvL c cs md news pos (e :: es) ds)
    (hg : nsIn (hd.heap_39 c.w.params) mainGlobals x = some (some (.ref f))) (hf : keepIn (hd.heap_39 c.w.params) (.ref f) = true) (hn : need' ≤ need)
    (hx : cs.names.lookup x = some .globalImplicit) (hd : (x == ("__debug__" : Str)) = false) (hs : isStar e = false) (hss : es.any isStar = false) : EvR c cs md news (.Call (.Name x np) (e :: es) [] pos) R := by
  intro m h t Q E hm F N k
  refine Call_ (nameX_K F ok.X (topRead_of ok.T) hg ?_ ok.hk (by unfold Env.kindOf; exact hx) hd)
  refine callWith_K ok.X hf ?_ (starEach_plain hs _ _) (starEach_none hss _ _)
  refine ha m h t _ _ hm F N fun vs h1 t1 q1 F1 N1 => ⟨ok.X.keeps F1.keep, ?_⟩
  exact use (C c.w c.mean c.mg c.mb vs q1) ok.B F1 ok.X N1 ok.T ok.hk (by have := ok.hdp; omega) (by have := ok.hun; omega) fun v nw h2 t2 r F2 N2 => k v nw h2 t2 r F2 N2
/-- a tuple that stands in the ledger behind it -/
def EvTG (c : Ctx) (cs : Scope) (md : Loc) (news : Led) (e : Expr) (S : List VD → Led → Prop) : Prop :=
  ∀ (m : Str → Option Value) (h : Heap) (t : Nat) (Q E : Value → Shared → Prop), Fits m md → Fr c.h₀ c.L h m → News c.h₀ c.L h news →
    (∀ a ds vs nw h' t', S ds nw → HasL ds vs → (a, tupOf vs.toArray 0) ∈ nw → Fr c.h₀ c.L h' m → News c.h₀ c.L h' nw → Q (.ref a) (c.st h' t')) → wpAny c.M (c.A cs) (eval e (c.env cs)) Q E (c.st h t)
theorem Ex.unpackG (ok : c.Ok cs need) (names : List (Str × Pos)) {e : Expr} {S : List VD → Led → Prop} (he : EvTG c cs md news e S) (helt : elts = names.map fun p => .Name p.1 p.2) (hn : ∀ ds nw, S ds nw → names.length = ds.length) (hl : ∀ x ∈ names.map (·.1), cs.names.lookup x = some .local)
    (h1 : swapsWithSole [.Tuple elts k tpos] e pos.line (c.env cs) = pure false) (h2 : swappedStores [.Tuple elts k tpos] e (c.env cs) = pure none)
    (hr : ∀ ds nw, S ds nw → Ex c cs (((names.map (·.1)).zip ds).reverse ++ md) nw rest R J) : Ex c cs md news (.Assign [.Tuple elts k tpos] e pos :: rest) R J := by
  intro m h t Q E hm F N kr kj
  subst helt
  refine wpAny_execs_cons (Assign_Tuple (he m h t _ _ hm F N fun a ds vs nw h' t' s q ha F' N' => ?_) h1 h2)
  have hae := assignEach_names (c.env cs) names
  refine unpackN_ (items := vs.toArray) F' N' (News.isTup N' ha) rfl ?_ ?_ (fun h3 F3 N3 => ?_)
  · rw [hae, List.length_map, List.size_toArray, q.len]; exact hn ds nw s
  · rw [hae]
    rw [List.findIdx?_eq_none_iff]; intro x hx; obtain ⟨_, _, rfl⟩ := List.mem_map.mp hx; rfl
  · rw [hae, List.map_map]
    refine takes ok q (names.map (·.1)) md m h3 t' _ _ E (by rw [List.length_map]; exact hn ds nw s) hl ?_ (by rw [List.length_map, List.length_map]) hm F3 N3 fun m' h4 t4 hm4 F4 N4 => hr ds nw s m' h4 t4 Q E hm4 F4 N4 kr kj
    intro x v h5 t5 Q5 f hf hw
    rw [List.zip_map'] at hf
    obtain ⟨p, _, e⟩ := List.mem_map.mp hf
    cases e
    exact PyProof.Rows.assign_Name hw
theorem Ex.unpackSwG (ok : c.Ok cs need) (names : List Str) {e : Expr} {S : List VD → Led → Prop} (he : EvTG c cs md news e S) (hn : ∀ ds nw, S ds nw → names.length = ds.length) (hl : ∀ x ∈ names, cs.names.lookup x = some .local)
    (h1 : swapsWithSole [.Tuple elts k tpos] e pos.line (c.env cs) = pure false) (h2 : swappedStores [.Tuple elts k tpos] e (c.env cs) = pure (some names))
    (hr : ∀ ds nw, S ds nw → Ex c cs ((names.reverse.zip ds.reverse).reverse ++ md) nw rest R J) : Ex c cs md news (.Assign [.Tuple elts k tpos] e pos :: rest) R J := by
  intro m h t Q E hm F N kr kj
  refine wpAny_execs_cons (Assign_Tuple_swapped (he m h t _ _ hm F N fun a ds vs nw h' t' s q ha F' N' => ?_) h1 h2)
  refine unpackItemsN_ (items := vs.toArray) F' N' (News.isTup N' ha) rfl ?_ (fun h3 F3 N3 => ?_)
  · rw [List.size_toArray, q.len]; exact hn ds nw s
  · refine takes ok q.reverse names.reverse md m h3 t' _ _ E (by rw [List.length_reverse, List.length_reverse]; exact hn ds nw s) (fun x hx => hl x (List.mem_reverse.mp hx)) ?_ (by rw [List.length_map]) hm F3 N3 fun m' h4 t4 hm4 F4 N4 => hr ds nw s m' h4 t4 Q E hm4 F4 N4 kr kj
    intro x v h5 t5 Q5 f hf hw
    have e1 := List.zip_map' (f := fun n : Str => n) (g := fun n => bindName (c.env cs) n) (l := names.reverse)
    rw [List.map_id'] at e1
    rw [e1] at hf
    obtain ⟨p, _, e⟩ := List.mem_map.mp hf
    cases e
    exact bindName_ hw
/-- the value's draw: the tuple that it hands back -/
theorem EvTG.ofR {e : Expr} {pen sc : Addr} {r : Led} {K : Int} {S : List VD → Prop} (he : EvR c cs md news e (RetP pen sc r K S)) : EvTG c cs md news e fun ds nw => S ds ∧ ∃ x vs, HasL ds vs ∧ x ≠ pen ∧ PenAt pen sc ((x, tupOf vs.toArray 0) :: r) K nw := by
  intro m h t Q E hm F N q
  refine he m h t Q E hm F N fun v nw h' t' rr F' N' => ?_
  obtain ⟨x, ds, vs, rfl, s, hv, hx, hP⟩ := rr
  refine q x ds vs nw h' t' ⟨s, x, vs, hv, hx, hP⟩ hv ?_ F' N'
  obtain ⟨_, _, _, _, rfl⟩ := hP
  exact .tail _ (.head _)
/-- a pair: an int drawn, and what a call hands back -/
theorem EvTG.pair {e1 e2 : Expr} {pen sc : Addr} {r : Led} {K lo hi : Int} {S : List VD → Prop} (h1 : EvF c cs md news e1 (ofI lo hi) P) (h2 : ∀ nw, P nw → EvR c cs md nw e2 (RetP pen sc r K S)) (s1 : isStar e1 = false) (s2 : isStar e2 = false) :
    EvTG c cs md news (.Tuple [e1, e2] k tpos) fun ds nw => ∃ z nw' i x es vs, ds = [.int i lo hi, .val (.ref x)] ∧ nw = z :: nw' ∧ S es ∧ HasL es vs ∧ x ≠ pen ∧ PenAt pen sc ((x, tupOf vs.toArray 0) :: r) K nw' := by
  intro m h t Q E hm F N q
  refine Tuple_ (args_cons (h1 m h t _ _ hm F N fun i v nw h' t' q1 p1 F1 N1 => args_cons (h2 nw p1 m h' t' _ _ hm F1 N1 fun u nw2 h2' t2 rr F2 N2 => spliced_none ?_) (starEach_plain s2 _ _)) (starEach_plain s1 _ _))
  obtain ⟨x, es, vs, rfl, s, hv, hx, hP⟩ := rr
  exact kup_newTuple F2 N2 (fun D h3 F3 N3 _ => q D [.int i lo hi, .val (.ref x)] [v, .ref x] _ h3 t2 ⟨_, _, i, x, es, vs, rfl, rfl, s, hv, hx, hP⟩ (.cons q1 (.cons rfl .nil)) (.head _) F3 N3) (by rw [sizeLine_eq]; exact Nat.le_of_ble_eq_true rfl)
theorem Ex.drop {z : Addr × Obj} {ss : List Stmt} (h : Ex c cs md news ss R J) : Ex c cs md (z :: news) ss R J := fun m hp t Q E hm F N kr kj => h m hp t Q E hm F (drop1 N) kr kj
/-- a test that is decided -/
theorem Ex.yes {t : Expr} {p q : List Stmt} {b : Bool} (ht : Et c cs md news t b) (hb : b = true) (hp : Ex c cs md news p R J1) (hr : ∀ md' nw, J1 md' nw → Ex c cs md' nw rest R J) : Ex c cs md news (.If t p q pos :: rest) R J :=
  Ex.ite ht (fun _ => hp) (fun h => by rw [hb] at h; cases h) hr
theorem Ex.no {t : Expr} {p q : List Stmt} {b : Bool} (ht : Et c cs md news t b) (hb : b = false) (hp : Ex c cs md news q R J1) (hr : ∀ md' nw, J1 md' nw → Ex c cs md' nw rest R J) : Ex c cs md news (.If t p q pos :: rest) R J :=
  Ex.ite ht (fun h => by rw [hb] at h; cases h) (fun _ => hp) hr
theorem Ex.weakJ {ss : List Stmt} (h : Ex c cs md news ss R J1) (hj : ∀ md' nw, J1 md' nw → J md' nw) : Ex c cs md news ss R J := fun m hp t Q E hm F N kr kj => h m hp t Q E hm F N kr fun md' nw m' h' t' j => kj md' nw m' h' t' (hj md' nw j)
/-- a try that meets no exception -/
theorem Ex.tryNo {body : List Stmt} {h₀ : ExceptHandler} {hs : List ExceptHandler} (hb : Ex c cs md news body R J1) (hr : ∀ md' nw, J1 md' nw → Ex c cs md' nw rest R J) : Ex c cs md news (.Try body (h₀ :: hs) [] [] pos :: rest) R J := by
  intro m h t Q E hm F N kr kj
  exact wpAny_execs_cons (wpAny_Try_except (hb m h t _ _ hm F N kr fun md' nw m' h' t' j hm' F' N' => wpAny_execs_nil (hr md' nw j m' h' t' Q E hm' F' N' kr kj)))
end
abbrev excO (t0 : Addr) (od : Option Addr) : Obj := { cls := .ref 51, dict := od, data := .fields #[.ref t0, .none, .none, .none, .bool false, .none] }
abbrev tupN (vs : Array Value) : Obj := { cls := .type "tuple", data := .seq vs }

section
variable {prog : Program} {w : World} {A : Around} {E : Value → Shared → Prop} {h : Heap} {g : Array GenState} {d : Drawn} {t : Nat} {os : OsState}
variable {nm q : Str} {C N : Addr} {bs bm bm₀ : List Value} {hdct : Bool} {sn : List Str} {sub : List Value} {ab : Bool} {col : Option Bool} {dd : Option Addr} {k0 k1 k2 k3 k5 : Option Value} {B newId initId : String}

theorem my_check_new (F : ExcBaseFacts B newId initId bm₀) (hB : bm.contains (.type B) = true) {M : Model} {rest : List Value} {Q : Unit → Shared → Prop} (hC : h.get? C = some (excClassObj nm q C N bs bm hdct sn sub ab col dd k0 k1 k2 k3 k5 newId))
    (hq : Q () ⟨h, g, d, t, os⟩) : wpAny M A (checkBuiltinCall newId ⟨.ref C :: rest, []⟩) Q E ⟨h, g, d, t, os⟩ := by
  have hcont : (Value.ref C :: bm).contains (.type B) = true := by rw [List.contains_cons, hB, Bool.or_true]
  have hstar := F.noStar
  simp only [checkBuiltinCall, F.newKind, F.newSplit, F.newRow]
  repeat (first | refine wpAny_loadPart_at hC ?_ | (refine wpAny_isSubtype_exc hC ?_; rw [hcont]) | refine wpAny_staticBase_exc hC ?_ | refine wpAny_madeBy_exc hC ?_ | simp only [bne_self_eq_false, Bool.false_eq_true, if_false] | wp_step)
  exact hq

theorem my_new {R : Result → Shared → Prop} (F : ExcBaseFacts B newId initId bm₀) (hB : bm.contains (.type B) = true) (hA : bm.contains (.type "AttributeError") = false) (hN : bm.contains (.type "NameError") = false)
    {rest : List Value} (hC : h.get? C = some (excClassObj nm q C N bs bm hdct sn sub ab col dd k0 k1 k2 k3 k5 newId))
    (hq : R (.ok (.ret (.ref (h.objs.size + 1)))) ⟨(h.push { cls := .type "tuple", data := .seq rest.toArray }).push
      { cls := .ref C, data := .fields #[.ref h.objs.size, .none, .none, .none, .bool false, .none] }, g, d, t, os⟩) (hrest : rest.length ≤ sizeLine) :
    codeAny (model prog w) A (.builtin newId ⟨.ref C :: rest, []⟩) R ⟨h, g, d, t, os⟩ := by
  have hends := F.ends
  have hcB : (Value.ref C :: bm).contains (.type B) = true := by rw [List.contains_cons, hB, Bool.or_true]
  have hcA : (Value.ref C :: bm).contains (.type "AttributeError") = false := by rw [List.contains_cons, hA]; rfl
  have hcN : (Value.ref C :: bm).contains (.type "NameError") = false := by rw [List.contains_cons, hN]; rfl
  refine codeAny_builtinAt F.entry ?_
  unfold Builtin.«BaseException.__new__»
  refine _root_.PySem.wpAt_bind ?_
  show _root_.PySem.wpAt _ _ _ (stack >>= _) _ _ _
  refine _root_.PySem.wpAt_bind (_root_.PySem.wpAt_stack fun p below => _root_.PySem.wpAt_of_wpAny ?_)
  wp_walk
  refine _root_.PySem.wpAt_of_wpAny ?_
  rw [F.owner]
  repeat (first | with_reducible refine wpAny_madeHere_exc F.canon hC ?_ | with_reducible refine wpAny_loadPart_at hC ?_ | (with_reducible refine wpAny_isSubtype_exc hC ?_; first | rw [hcB] | rw [hcA] | rw [hcN]) | wp_step)
  show R _ _
  rw [Heap.size_push]
  exact hq

theorem my_call_class (F : ExcBaseFacts B newId initId bm₀) (hB : bm.contains (.type B) = true) (hA : bm.contains (.type "AttributeError") = false) (hN : bm.contains (.type "NameError") = false)
    {rest : List Value} {fI : Addr} {oI : Obj} {Q : Value → Shared → Prop} 
    (hC : h.get? C = some (excClassObj nm q C N bs bm hdct sn sub ab col dd k0 k1 k2 k3 k5 newId)) (hi : Looks (model prog w) h (typeLookup (.ref C) "__init__") (some (.ref fI)))
    (hfI : h.get? fI = some oI) (hfc : oI.cls = .type "function") (hrest : rest.length ≤ sizeLine)
    (hq : ∀ h' e, Heap.MadeExcOf h h' e (.ref C) rest →
      wpAny (model prog w) (A.under (.builtin "type.__call__" ⟨.ref C :: rest, []⟩)) (call (.ref fI) (.ref e :: rest)) (fun r s' => r = .none ∧ Q (.ref e) s') E ⟨h', g, d, t, os⟩) :
    wpAny (model prog w) A (call (.ref C) rest) Q E ⟨h, g, d, t, os⟩ := by
  have f1 := tc_lookup
  have f2 := tc_bind (.ref C)
  have hT : (⟨h, g, d, t, os⟩ : Shared).TypeIs (.ref C) "type" := ⟨_, hC, rfl⟩
  refine wpAny_call (codeAny_of_tree ?_)
  show wpAny _ _ (callAny (.ref C) _) _ _ _
  repeat (any_goals (first | assumption | with_reducible refine wpAny_loadPart_at hC ?_ | wp_step))
  refine ⟨rfl, ?_⟩
  refine codeAny_call_builtin_at (Code.quiet_builtin _ (by decide +kernel)) entry_typeCall (wpAny_check_type_call_sub hC ?_)
  repeat (first | with_reducible refine wpAny_loadPart_at hC ?_ | with_reducible refine wpAny_madeBy_exc hC ?_ | wp_step)
  refine codeAny_call_builtin_code (Code.quiet_builtin _ F.quiet) (my_check_new F hB hC ?_)
  refine my_new F hB hA hN hC ?_ hrest
  show wpAny _ _ _ _ _ _
  have hC₁ := Heap.get?_push_of_some { cls := .ref C, data := .fields #[.ref h.objs.size, .none, .none, .none, .bool false, .none] }
    (Heap.get?_push_of_some { cls := .type "tuple", data := .seq rest.toArray } hC)
  have hfI₁ := Heap.get?_push_of_some { cls := .ref C, data := .fields #[.ref h.objs.size, .none, .none, .none, .bool false, .none] }
    (Heap.get?_push_of_some { cls := .type "tuple", data := .seq rest.toArray } hfI)
  have hget : ((h.push { cls := .type "tuple", data := .seq rest.toArray }).push
      { cls := .ref C, data := .fields #[.ref h.objs.size, .none, .none, .none, .bool false, .none] }).get? (h.objs.size + 1) = some
      { cls := .ref C, data := .fields #[.ref h.objs.size, .none, .none, .none, .bool false, .none] } := by heap_get
  have hcC : (Value.ref C :: bm).contains (.ref C) = true := by simp
  unfold isInstance
  repeat (first | with_reducible refine wpAny_loadPart_at hget ?_ | ((with_reducible show wpAny _ _ (isSubtype _ _) _ _ _); refine wpAny_isSubtype_exc hC₁ ?_; rw [hcC]) | wp_step)
  show wpAny _ _ (typeLookup (.ref C) _) _ _ _
  refine hi _ _ _ _ (fun b o hb => Heap.get?_push_of_some _ (Heap.get?_push_of_some _ hb)) ?_
  refine wpAny_holding (wpAny_bind ?_)
  unfold bindSpecial
  refine wpAny_bind (wpAny_typeOf (T := "function") ⟨_, hfI₁, hfc⟩ ?_)
  rw [if_pos (by decide)]
  refine wpAny_pure (wpAny_bind (wpAny_mono (hq _ (h.objs.size + 1) ⟨fun b o hb => Heap.get?_push_of_some _ (Heap.get?_push_of_some _ hb), Heap.get?_none_of_le (Nat.le_succ _), h.objs.size, hget, Heap.get?_none_of_le (Nat.le_refl _), ?_⟩) (fun r s' hr => ?_) fun _ _ x => x))
  · exact Heap.get?_push_of_some _ (Heap.get?_push_at rfl rfl)
  · obtain ⟨rfl, hQ⟩ := hr
    wp_walk
    exact hQ

theorem my_check_init (F : ExcBaseFacts B newId initId bm₀) (hB : bm.contains (.type B) = true) {M : Model} {e : Addr} {oe : Obj} {rest : List Value} {Q : Unit → Shared → Prop}
    (hC : h.get? C = some (excClassObj nm q C N bs bm hdct sn sub ab col dd k0 k1 k2 k3 k5 newId)) (he : h.get? e = some oe) (hcls : oe.cls = .ref C) (hq : Q () ⟨h, g, d, t, os⟩) :
    wpAny M A (checkBuiltinCall initId ⟨.ref e :: rest, []⟩) Q E ⟨h, g, d, t, os⟩ := by
  have hcB : (Value.ref C :: bm).contains (.type B) = true := by rw [List.contains_cons, hB, Bool.or_true]
  have hshort := F.noStar
  simp only [checkBuiltinCall, F.initKind, F.initSplit, F.initRow]
  repeat (first | (with_reducible refine wpAny_loadPart_at he ?_; rw [hcls]) | with_reducible refine wpAny_loadPart_at hC ?_ | (with_reducible refine wpAny_isSubtype_exc hC ?_; rw [hcB]) | wp_step)
  refine wpAny_onRaise ?_
  rw [show ∀ (a b : String) (n : Nat), Bind.check ⟨.positional, "*", B, .self, [⟨"args", .varPos, false⟩]⟩ a b n (List.map (fun x => x.fst) ({ pos := Value.ref e :: rest } : Args).kw) = pure () from
    fun a b n => check_star_args _ _ _ _ _ _]
  exact wpAny_pure hq
end

def exIn (K : Frag) : Bool := match K.lookup 51 with
  | some ⟨.type "type", _, .cls cd, sl⟩ => (match cd.mro, sl.toList with
    | [.ref C', .ref D', .type x1, .type x2, .type x3], [_, _, _, _, some (.builtin n), _] => C' == 51 && D' == 31 && x1 == "Exception" && x2 == "BaseException" && x3 == "object" && cd.hasDict && !cd.hasDel && n == "Exception.__new__"
    | _, _ => false)
  | _ => false
theorem ex_cls {K : Frag} {h : Heap} (X : K.In h) (q : exIn K = true) : ∃ nm qn N bs sn sub ab col dd k0 k1 k2 k3 k5,
    h.get? 51 = some (excClassObj nm qn 51 N bs [.ref 31, .type "Exception", .type "BaseException", .type "object"] true sn sub ab col dd k0 k1 k2 k3 k5 "Exception.__new__") := by
  unfold exIn at q
  split at q
  · rename_i dd cd sl ho
    split at q
    · rename_i C' D' x1 x2 x3 k0 k1 k2 k3 n k5 hm hs
      simp only [Bool.and_eq_true, beq_iff_eq, Bool.not_eq_true'] at q
      obtain ⟨⟨⟨⟨⟨⟨⟨rfl, rfl⟩, rfl⟩, rfl⟩, rfl⟩, hdi⟩, hdel⟩, rfl⟩ := q
      obtain ⟨nm, bs, mro, ns, qn, hd, sn, sub, ab, col, del⟩ := cd
      dsimp only at hm hdel hdi
      subst hm hdel hdi
      have hsl : sl = #[k0, k1, k2, k3, some (.builtin "Exception.__new__"), k5] := by
        obtain ⟨l⟩ := sl
        simp only at hs
        rw [hs]
      subst hsl
      exact ⟨nm, qn, ns, bs, sn, sub, ab, col, dd, k0, k1, k2, k3, k5, X _ _ ho⟩
    · cases q
  · cases q
theorem exIn51 {w : World} : exIn (hd.heap_39 w.params) = true := by kernel_rfl
theorem set51 {w : World} : findIn (hd.heap_39 w.params) (.ref 51) "__setattr__" = some (some (.builtin "object.__setattr__")) := by kernel_rfl
theorem text51 {w : World} : findIn (hd.heap_39 w.params) (.ref 51) "text" = some none := by kernel_rfl
theorem at51 {w : World} : findIn (hd.heap_39 w.params) (.ref 51) "at" = some none := by kernel_rfl
theorem init51 {w : World} : findIn (hd.heap_39 w.params) (.ref 51) "__init__" = some (some (.ref 48)) := by kernel_rfl
theorem fn48 {w : World} : typeIn (hd.heap_39 w.params) (.ref 48) = some (.type "function") := by kernel_rfl
abbrev tail51 : List Value := [.ref 31, .type "Exception", .type "BaseException", .type "object"]
theorem cls51 {w : World} {h : Heap} (X : (hd.heap_39 w.params).In h) : ∃ nm qn N bs sn sub ab col dd k0 k1 k2 k3 k5,
    h.get? 51 = some (excClassObj nm qn 51 N bs tail51 true sn sub ab col dd k0 k1 k2 k3 k5 "Exception.__new__") := ex_cls X exIn51

section
variable {prog : Program} {w : World} {A : Around} {E : Value → Shared → Prop} {s : Shared} {h₀ : Heap} {L : Addr} {m : Str → Option Value} {rest : Led} {e t0 : Addr} {od : Option Addr} {v : Value} {Q : Value → Shared → Prop}
theorem my_init (F : Fr h₀ L s.heap m) (N : News h₀ L s.heap ((e, excO t0 od) :: rest)) (X₀ : (hd.heap_39 w.params).In h₀) (ne : ∀ p ∈ rest, p.1 ≠ e)
    (hQ : ∀ h' t1, Fr h₀ L h' m → News h₀ L h' ((e, excO t1 od) :: (t1, tupN #[v]) :: rest) → e ≠ t1 → (∀ p ∈ rest, p.1 ≠ t1) → Q .none { s with heap := h' }) :
    wpAny (model prog w) A (call (.builtin "Exception.__init__") [.ref e, v]) Q E s := by
  have X := X₀.keeps F.keep
  obtain ⟨nm, qn, N51, bs, sn, sub, ab, col, dd, k0, k1, k2, k3, k5, hC⟩ := cls51 X
  have EF := PySem.F.excBase_Exception
  obtain ⟨h, g, d, tk, os⟩ := s
  have he := (N _ (.head _)).1
  refine wpAny_call (codeAny_call_builtin EF.init.plain EF.initEntry (my_check_init EF (by decide) hC he rfl ?_))
  wp_walk
  obtain ⟨F1, N1⟩ := news_upd (pre := []) (f := Obj.mapFields fun x => x.setIfInBounds 0 (Value.ref h.objs.size)) (o' := excO h.objs.size od) (F.push (tupN #[v])) (N.pushKeep (tupN #[v])) (fun _ q => nomatch q) ne rfl rfl
  have lt : ∀ p ∈ (e, excO t0 od) :: rest, p.1 < h.objs.size := fun p hp => Heap.lt_size (N p hp).1
  refine hQ _ h.objs.size F1 (fun p hp => ?_) (Nat.ne_of_lt (lt _ (.head _))) (fun p hp => Nat.ne_of_lt (lt p (.tail _ hp)))
  rcases List.mem_cons.mp hp with rfl | hp
  · exact N1 _ (.head _)
  · rcases List.mem_cons.mp hp with rfl | hp
    · exact ⟨(Heap.get?_update_ne _ _ _ _ (Nat.ne_of_gt (lt _ (.head _)))).trans (Heap.get?_push_size _ rfl), Nat.ne_of_gt F.ns.lt, none_at_size F⟩
    · exact N1 _ (.tail _ hp)
end

section
open Builtin Builtin.ObjectAttr
variable {prog : Program} {w : World} {A : Around} {E : Value → Shared → Prop} {h : Heap} {g : Array GenState} {d : Drawn} {t : Nat} {os : OsState}
variable {nm q : Str} {N x : Addr} {bs : List Value} {sn : List Str} {sub : List Value} {ab : Bool} {col : Option Bool} {dd : Option Addr} {k0 k1 k2 k3 k5 : Option Value} {newId : String}
  {mA : Str → Option Value} {name : Str} {v : Value}
theorem my_store {tk : Tok} {Q : Fin → Shared → Prop} {ns : List Str}
    (hC : h.get? 51 = some (excClassObj nm q 51 N bs tail51 true sn sub ab col dd k0 k1 k2 k3 k5 newId))
    (hB : Looks (model prog w) h (typeLookup (.ref 51) name) none) (I : h.Inst x 51 mA)
    (hq : ∀ h' tk', h'.Inst x 51 (fun y => if y = name then some v else mA y) →
      (∀ b o, b ≠ x → (∀ o₀ dx, h.get? x = some o₀ → o₀.dict = some dx → b ≠ dx) → h.get? b = some o → h'.get? b = some o) →
      (∀ o₀, h.get? x = some o₀ → ∃ o₁, h'.get? x = some o₁ ∧ o₁.cls = o₀.cls ∧ o₁.data = o₀.data ∧ o₁.slots = o₀.slots ∧ (∀ dx, o₀.dict = some dx → o₁.dict = some dx) ∧ (o₀.dict = none → o₁.dict = some h.objs.size)) → Q (.done (.ret .none)) ⟨h', g, d, tk', os⟩) (hw : Within mA ns) (hsz : ns.length ≤ 1000) :
    wpAny (model prog w) A (Builtin.«object.__setattr__» ⟨[.ref x, .str name tk, v], []⟩) Q E ⟨h, g, d, t, os⟩ := by
  obtain ⟨o, hx, hc, hnc, hd⟩ := I
  have hpass := PySem.F.store_Exception.passes (.ref x)
  have hB' : ∀ (A : Around) (Q : Option Value → Shared → Prop) (E : Value → Shared → Prop) (s : Shared), (∀ b o, h.get? b = some o → s.heap.get? b = some o) → Q none s → wpAny (model prog w) A (typeLookup (.ref 51) name) Q E s := hB
  unfold Builtin.«object.__setattr__»
  repeat (first | rw [refuse_eq] | (rw [refuseLoop_ref, refuseLoop_ref, hpass]) | (with_reducible refine wpAny_loadPart_at hx ?_; rw [hc]) | with_reducible refine wpAny_mroOf_exc hC ?_ | (with_reducible refine hB' _ _ _ _ (fun _ _ z => z) ?_) | wp_step)
  rcases hd with ⟨hdn, hmA⟩ | ⟨dx, hdx, hne, hns⟩
  ·
    rw [hdn, if_neg (by simp [typeHasDict])]
    split
    · rename_i hcd
      cases hcd
    split
    · rename_i c hcd
      exact absurd hcd (hnc c)
    · have hx₁ : (h.push { cls := .type "dict", data := .dict #[] }).get? x = some o := Heap.get?_push_of_some _ hx
      have hxs : x ≠ h.objs.size := Nat.ne_of_lt (Heap.lt_size hx)
      refine wpAny_bind (wpAny_alloc' ?_)
      refine wpAny_bind (wpAny_update' hx₁ ?_)
      refine wpAny_pure ?_
      have hgd : ((h.push { cls := .type "dict", data := .dict #[] }).update x fun o => { cls := o.cls, dict := some h.objs.size, data := o.data, slots := o.slots }).get? h.objs.size
          = some { cls := .type "dict", data := .dict #[] } :=
        (Heap.get?_update_ne _ _ _ _ hxs.symm).trans (Heap.get?_push_at rfl rfl)
      have hnd : ((h.push { cls := .type "dict", data := .dict #[] }).update x fun o => { cls := o.cls, dict := some h.objs.size, data := o.data, slots := o.slots }).Ns h.objs.size (fun _ => none) :=
        ⟨_, #[], _, hgd, rfl, fun e he => absurd he (by simp), fun _ => rfl⟩
      show wpAny _ _ (storeInDict h.objs.size (.str name tk) name v) _ _ _
      unfold storeInDict newKeyGuard
      refine wpAny_bind (wpAny_pure (wpAny_bind (wpAny_nsSet1 (Heap.Ns1.of_empty hnd) fun h' hn' hs => ?_)))
      obtain ⟨oD, esD, epD, hoD, hdD, hcD⟩ := hn'.count (Within.cons name v Within.nil)
      refine wpAny_bind (wpAny_lookBehind hoD (by rw [hdD]; exact pastItsLine_dict (Nat.le_trans hcD (by rw [List.length_cons, List.length_nil, sizeLine_eq]; omega))) ?_)
      wp_walk
      have hx' : h'.get? x = some { cls := o.cls, dict := some h.objs.size, data := o.data, slots := o.slots } := ?_
      refine hq h' _ ⟨{ cls := o.cls, dict := some h.objs.size, data := o.data, slots := o.slots }, hx', hc, hnc, .inr ⟨h.objs.size, rfl, hxs.symm, ?_⟩⟩ (fun b ob hbx _ hb => ?_)
        (fun o₀ h₀ => by obtain rfl : o = o₀ := Option.some.inj (hx.symm.trans h₀); exact ⟨_, hx', rfl, rfl, rfl, (fun dx e => by rw [hdn] at e; cases e), fun _ => rfl⟩)
      · obtain ⟨o', es, ep, e1, e2, e3, eu, e4⟩ := hn'
        exact ⟨o', es, ep, e1, e2, e3, eu, fun y => by rw [e4 y]; by_cases hy : y = name <;> simp [hy, hmA]⟩
      · exact (hs.2 b (Nat.ne_of_lt (Heap.lt_size hb))).trans ((Heap.get?_update_ne _ _ _ _ hbx).trans (Heap.get?_push_of_some _ hb))
      · refine (hs.2 x hxs).trans (Heap.get?_update_self _ hx₁ ?_)
        have hfr := (Heap.get?_some_iff.mp hx).2
        obtain ⟨oc, od, odt, osl⟩ := o
        cases odt <;> first | rfl | exact hfr
  ·
    rw [hdx]
    refine wpAny_pure ?_
    show wpAny _ _ (storeInDict dx (.str name tk) name v) _ _ _
    unfold storeInDict newKeyGuard
    refine wpAny_bind (wpAny_pure (wpAny_bind (wpAny_nsSet1 hns fun h' hn' hs => ?_)))
    obtain ⟨oD, esD, epD, hoD, hdD, hcD⟩ := hn'.count (Within.cons name v hw)
    refine wpAny_bind (wpAny_lookBehind hoD (by rw [hdD]; exact pastItsLine_dict (Nat.le_trans hcD (by rw [List.length_cons, sizeLine_eq]; omega))) ?_)
    wp_walk
    refine hq h' _ ⟨o, (hs.2 x hne.symm).trans hx, hc, hnc, .inr ⟨dx, hdx, hne, hn'⟩⟩ (fun b ob _ hbd hb => ?_)
      (fun o₀ h₀ => ⟨o₀, (hs.2 x hne.symm).trans h₀, rfl, rfl, rfl, fun _ e => e, (fun e => by obtain rfl : o = o₀ := Option.some.inj (hx.symm.trans h₀); rw [hdx] at e; cases e)⟩)
    exact (hs.2 b (hbd o dx hx hdx)).trans hb
end

def DictN (d : Addr) (mA : Str → Option Value) (o : Obj) : Prop := ∀ h : Heap, h.get? d = some o → h.Ns1 d mA
section
variable {prog : Program} {w : World} {A : Around} {E : Value → Shared → Prop} {s : Shared} {h₀ : Heap} {L : Addr} {m : Str → Option Value} {rest : Led} {e t0 d : Addr} {od : Obj} {v : Value} {name : Str} {mA : Str → Option Value} {Q : Unit → Shared → Prop}
theorem my_sa (X : (hd.heap_39 w.params).In s.heap) {o' : Option Obj} {dx : Option Addr} (I : InstAt s.heap e (excO t0 dx) 51 o') (I1 : s.heap.Inst e 51 mA) (hf : findIn (hd.heap_39 w.params) (.ref 51) name = some none) {ns : List Str} (hw : Within mA ns) (hsz : ns.length ≤ 1000)
    (hQ : ∀ h' tk', h'.Inst e 51 (fun y => if y = name then some v else mA y) →
      (∀ b o, b ≠ e → (∀ d, dx = some d → b ≠ d) → s.heap.get? b = some o → h'.get? b = some o) →
      (∃ d, h'.get? e = some (excO t0 (some d)) ∧ (∀ d', dx = some d' → d = d') ∧ (dx = none → d = s.heap.objs.size)) → Q () { s with heap := h', toks := tk' }) :
    wpAny (model prog w) A (setAttr (.ref e) name v) Q E s := by
  obtain ⟨nm, qn, N51, bs, sn, sub, ab, col, dd, k0, k1, k2, k3, k5, hC⟩ := cls51 X
  have he := I.at_
  refine set_plain X I set51 ?_
  have SF := PySem.F.store_object
  obtain ⟨h, g, dr, tk, os⟩ := s
  have sub : Looks (model prog w) h (isInstance (.ref e) (.type "object")) true := I.type.andThen (looks_mroIn X (by kernel_rfl))
  refine codeAny_call_builtin SF.slot.plain SF.entry (@check_slot (model prog w) _ _ _ "object.__setattr__" "object" "__setattr__" (.ref e) [.str name _, v] [] _ SF.kind SF.split sub (SF.args (.ref e) (.str name _) v) ?_)
  refine my_store hC (looks_findIn X hf) I1 (fun h' tk' I' hk hs => ?_) hw hsz
  refine hQ h' tk' I' (fun b o n1 n2 hb => hk b o n1 (fun o₀ d h₀ hd => ?_) hb) ?_
  · obtain rfl := Option.some.inj (he.symm.trans h₀)
    exact n2 d hd
  · obtain ⟨⟨oc, odi, oda, osl⟩, a1, a2, a3, a4, a5, a6⟩ := hs _ he
    dsimp only at a2 a3 a4 a5 a6
    subst a2 a3 a4
    cases dx with
    | none => have a7 := a6 rfl; subst a7; exact ⟨_, a1, (fun d' q => nomatch q), fun _ => rfl⟩
    | some d => have a7 := a5 d rfl; subst a7; exact ⟨_, a1, (fun d' q => Option.some.inj q), fun q => nomatch q⟩

theorem dict_of {h' : Heap} {e d : Addr} {t : Addr} {mB : Str → Option Value} (I : h'.Inst e 51 mB) (he : h'.get? e = some (excO t (some d))) : ∃ od, h'.get? d = some od ∧ DictN d mB od ∧ d ≠ e := by
  obtain ⟨o, ho, _, _, hd⟩ := I
  obtain rfl := Option.some.inj (he.symm.trans ho)
  rcases hd with ⟨q, _⟩ | ⟨d', hd', ne, hn⟩
  · cases q
  · obtain rfl := Option.some.inj hd'
    obtain ⟨od, es, ep, h1, r⟩ := hn
    exact ⟨od, h1, fun h2 q => ⟨od, es, ep, q, r⟩, ne⟩

theorem my_set0 (F : Fr h₀ L s.heap m) (N : News h₀ L s.heap ((e, excO t0 none) :: rest)) (X₀ : (hd.heap_39 w.params).In h₀) (ne : ∀ p ∈ rest, p.1 ≠ e)
    (hf : findIn (hd.heap_39 w.params) (.ref 51) name = some none)
    (hQ : ∀ h' tk' d od, Fr h₀ L h' m → News h₀ L h' ((e, excO t0 (some d)) :: (d, od) :: rest) → DictN d (fun y => if y = name then some v else none) od → d ≠ e → (∀ p ∈ rest, p.1 ≠ d) → Q () { s with heap := h', toks := tk' }) :
    wpAny (model prog w) A (setAttr (.ref e) name v) Q E s := by
  have X := X₀.keeps F.keep
  have he := (N _ (.head _)).1
  refine my_sa (mA := fun _ => none) X (o' := none) ⟨he, rfl, rfl, trivial⟩ ⟨_, he, rfl, (fun _ q => nomatch q), .inl ⟨rfl, fun _ => rfl⟩⟩ hf Within.nil (by decide) (fun h' tk' I' hk hs => ?_)
  obtain ⟨d, h1, -, h3⟩ := hs
  have h4 := h3 rfl
  obtain ⟨od, h5, h6, h7⟩ := dict_of I' h1
  obtain ⟨oL, es, ep, hL, r⟩ := F.ns
  have keep : ∀ b o, b ≠ e → s.heap.get? b = some o → h'.get? b = some o := fun b o n hb => hk b o n (fun _ q => nomatch q) hb
  have lt : ∀ b o, s.heap.get? b = some o → b ≠ d := fun b o q => h4 ▸ Nat.ne_of_lt (Heap.lt_size q)
  have fe : h₀.get? e = none := (N _ (.head _)).2.2
  refine hQ h' tk' d od ⟨⟨oL, es, ep, keep _ _ (fun q => (N _ (.head _)).2.1 q.symm) hL, r⟩, fun b o q => keep b o (fun z => by rw [z, fe] at q; cases q) (F.keep b o q), F.above⟩ (fun p hp => ?_) h6 h7 (fun p hp => lt _ _ (N p (.tail _ hp)).1)
  rcases List.mem_cons.mp hp with rfl | hp
  · exact ⟨h1, (N _ (.head _)).2⟩
  rcases List.mem_cons.mp hp with rfl | hp
  · exact ⟨h5, fun q => lt _ _ hL q.symm, by rw [h4]; exact none_at_size F⟩
  · exact ⟨keep _ _ (ne p hp) (N p (.tail _ hp)).1, (N p (.tail _ hp)).2⟩

theorem my_set1 (F : Fr h₀ L s.heap m) (N : News h₀ L s.heap ((e, excO t0 (some d)) :: (d, od) :: rest)) (X₀ : (hd.heap_39 w.params).In h₀) (ne : ∀ p ∈ rest, p.1 ≠ e) (nd : ∀ p ∈ rest, p.1 ≠ d) (hde : d ≠ e)
    (hd' : DictN d mA od) {ns : List Str} (hw : Within mA ns) (hsz : ns.length ≤ 1000)
    (hf : findIn (hd.heap_39 w.params) (.ref 51) name = some none)
    (hQ : ∀ h' tk' od', Fr h₀ L h' m → News h₀ L h' ((e, excO t0 (some d)) :: (d, od') :: rest) → Q () { s with heap := h', toks := tk' }) :
    wpAny (model prog w) A (setAttr (.ref e) name v) Q E s := by
  have X := X₀.keeps F.keep
  have he := (N _ (.head _)).1
  have hdd := (N _ (.tail _ (.head _))).1
  refine my_sa (mA := mA) X (o' := some od) ⟨he, rfl, rfl, hdd⟩ ⟨_, he, rfl, (fun _ q => nomatch q), .inr ⟨d, rfl, hde, hd' _ hdd⟩⟩ hf hw hsz (fun h' tk' I' hk hs => ?_)
  obtain ⟨d', h1, h3, -⟩ := hs
  obtain rfl := h3 d rfl
  obtain ⟨od', h5, h6, h7⟩ := dict_of I' h1
  obtain ⟨oL, es, ep, hL, r⟩ := F.ns
  have keep : ∀ b o, b ≠ e → b ≠ d' → s.heap.get? b = some o → h'.get? b = some o := fun b o n n' hb => hk b o n (fun _ q => Option.some.inj q ▸ n') hb
  have fe : h₀.get? e = none := (N _ (.head _)).2.2
  have fd : h₀.get? d' = none := (N _ (.tail _ (.head _))).2.2
  refine hQ h' tk' od' ⟨⟨oL, es, ep, keep _ _ (fun q => (N _ (.head _)).2.1 q.symm) (fun q => (N _ (.tail _ (.head _))).2.1 q.symm) hL, r⟩, fun b o q => keep b o (fun z => by rw [z, fe] at q; cases q) (fun z => by rw [z, fd] at q; cases q) (F.keep b o q), F.above⟩ (fun p hp => ?_)
  rcases List.mem_cons.mp hp with rfl | hp
  · exact ⟨h1, (N _ (.head _)).2⟩
  rcases List.mem_cons.mp hp with rfl | hp
  · exact ⟨h5, (N _ (.tail _ (.head _))).2⟩
  · exact ⟨keep _ _ (ne p hp) (nd p hp) (N p (.tail _ (.tail _ hp))).1, (N p (.tail _ (.tail _ hp))).2⟩
end
local macro_rules | `(tactic| walk_at "mine size") => `(tactic| with_reducible assumption)
local macro_rules | `(tactic| k_all) => `(tactic| assumption)
local macro_rules | `(tactic| k_mem) => `(tactic| first | assumption | (refine List.mem_cons_of_mem _ ?_; k_mem))
local macro_rules | `(tactic| is_list) => `(tactic| exact News.isList (by k_asm) (by k_dflt k_mem))
theorem cons_ne {e t1 : Addr} {o : Obj} {rest : Led} (h : e ≠ t1) (ne : ∀ p ∈ rest, p.1 ≠ e) : ∀ p ∈ (t1, o) :: rest, p.1 ≠ e := fun p hp => by
  rcases List.mem_cons.mp hp with rfl | hp
  · exact h.symm
  · exact ne p hp

local macro_rules | `(tactic| walk_at "getMethod type:Exception") => `(tactic| (k_here; refine' method_type ?F ?X ?m (by decide +kernel) ?e ?h ?_; (case F => k_asm); (case X => k_asm); (case m => kernel_rfl); (case e => k_dflt k_is); (case h => k_handed)))
local macro_rules | `(tactic| walk_at "call builtin:Exception.__init__") => `(tactic| (k_here; k_dflt (refine my_init (by k_asm) (by k_asm) (by k_asm) (by assumption) ?_); intro h' t1 F' N' ne1 ne2))
local macro_rules | `(tactic| walk_at "setAttr ref") => `(tactic| (k_here; k_dflt (refine my_set0 (by k_asm) (by k_asm) (by k_asm) (by first | assumption | exact cons_ne (by assumption) (by assumption)) text51 ?_); intro h' tk' d' od' F' N' dn' de' dr'))

def R28 (e : Addr) (x : Value) (rest : Led) (v : Value) (news' : Led) : Prop :=
  v = .none ∧ ∃ t1 d od xv, news' = (e, excO t1 (some d)) :: (d, od) :: (t1, tupN #[x]) :: rest ∧ DictN d (fun y => if y = "text" then some xv else none) od ∧ d ≠ e ∧ (∀ p ∈ (t1, tupN #[x]) :: rest, p.1 ≠ d) ∧ (∀ p ∈ (t1, tupN #[x]) :: rest, p.1 ≠ e) ∧ (∀ p ∈ rest, p.1 ≠ t1)

theorem init28_spec {w : World} {mean : ExcName → Option Value} {mg mb : Str → Option Value} {rest : Led} {e t0 : Addr} {x : Str} {c : Tok} (ne : ∀ p ∈ rest, p.1 ≠ e) :
    Calls w mean mg mb 28 [.ref e, .str x c] ((e, excO t0 none) :: rest) 60 (fun v news' => ∃ c', R28 e (.str x c') rest v news') := by
  unfold Calls
  k_fill
  w_on
  intro dp un gd cn cs a ccd cl outer A₀ base h₀ L m s Q E B F X N T hk hdp hun hret
  refine wpAny_call ?_
  k_dflt cell_enter
  k_steps
  all_goals (first | k_end | trace_state)
  all_goals (first | k_end | w_report)
  all_goals (refine hret _ _ _ _ ⟨c, rfl, _, _, _, _, rfl, by assumption, by assumption, by assumption, by exact cons_ne (by assumption) (by assumption), by assumption⟩ (by k_asm) (by k_asm))
local macro_rules | `(tactic| walk_at "call ref") => `(tactic| (k_here; (with_reducible show wpAny _ _ (call (Value.ref 28) _) _ _ _); k_dflt (refine' use (init28_spec ?s0) ?k1 ?k2 ?k3 ?k4 ?k5 ?kK ?kd ?ku ?_; (case k1 => k_asm); (case k2 => k_asm); (case k3 => k_asm); (case k4 => k_asm); (case k5 => k_asm); (case kK => first | exact rfl | assumption); (case kd => ktr_room); (case ku => ktr_units); (case s0 => walk_at "mine size"); k_whole); (intro v9 nw9 h9 tk9 R9 F9 N9; (try dsimp only at R9); obtain ⟨c9, e9, t19, d9, od9, xv9, n9, dn9, de9, nd9, ne9, nt9⟩ := R9); subst e9; subst n9;  (try dsimp only); (try k_fold)))
local macro_rules | `(tactic| walk_at "setAttr ref") => `(tactic| (k_here; k_dflt (refine my_set1 (ns := ["text"]) (by k_asm) (by k_asm) (by k_asm) (by assumption) (by assumption) (by assumption) (by assumption) (Within.cons "text" _ Within.nil) (by decide) at51 ?_); intro h' tk' od' F' N'))
def R48 (e : Addr) (rest : Led) (v : Value) (news' : Led) : Prop :=
  v = .none ∧ ∃ t1 d od x, news' = (e, excO t1 (some d)) :: (d, od) :: (t1, tupN #[x]) :: rest ∧ (∀ p ∈ rest, p.1 ≠ t1)
theorem init48_spec {w : World} {mean : ExcName → Option Value} {mg mb : Str → Option Value} {rest : Led} {e t0 : Addr} {x : Str} {c : Tok} {at' : Value} (ne : ∀ p ∈ rest, p.1 ≠ e) :
    Calls w mean mg mb 48 [.ref e, at', .str x c] ((e, excO t0 none) :: rest) 120 (R48 e rest) := by
  unfold Calls
  k_fill
  w_on
  intro dp un gd cn cs a ccd cl outer A₀ base h₀ L m s Q E B F X N T hk hdp hun hret
  refine wpAny_call ?_
  k_dflt cell_enter
  k_steps
  all_goals (first | k_end | trace_state)
  all_goals (first | k_end | w_report)
  all_goals (refine hret _ _ _ _ ⟨rfl, _, _, _, _, rfl, by assumption⟩ (by k_asm) (by k_asm))
theorem fn_at {K : Frag} {h : Heap} {a : Addr} (X : K.In h) (q : typeIn K (.ref a) = some (.type "function")) : ∃ o, h.get? a = some o ∧ o.cls = .type "function" := by
  obtain ⟨o, ho, hc⟩ := Option.map_eq_some_iff.mp q
  exact ⟨o, X _ _ ho, hc⟩
def R51 (news : Led) (v : Value) (news' : Led) : Prop :=
  ∃ e t1 d od x r, v = .ref e ∧ news' = (e, excO t1 (some d)) :: (d, od) :: (t1, tupN #[x]) :: r :: news ∧ ∀ p ∈ news, p.1 ≠ e ∧ p.1 ≠ t1
theorem make51_spec {w : World} {mean : ExcName → Option Value} {mg mb : Str → Option Value} {news : Led} {x : Str} {c : Tok} {at' : Value} :
    Calls w mean mg mb 51 [at', .str x c] news 130 (R51 news) := by
  unfold Calls
  intro dp un gd cn cs a ccd cl outer A₀ base h₀ L m s Q E B F X N T hk hdp hun hret
  obtain ⟨h, g, d, t, os⟩ := s
  have X' := X.keeps F.keep
  obtain ⟨nm, qn, N51, bs, sn, sub, ab, col, dd, k0, k1, k2, k3, k5, hC⟩ := cls51 X'
  obtain ⟨oI, hfI, hfc⟩ := fn_at X' fn48
  refine my_call_class PySem.F.excBase_Exception (by decide) (by decide) (by decide) hC (looks_findIn X' init51) hfI hfc (by rw [sizeLine_eq]; exact Nat.le_of_ble_eq_true rfl) (fun h' e hm => ?_)
  obtain ⟨t0, he, ht0, ht⟩ := hm.there
  have F' : Fr h₀ L h' m := F.keeps hm.keeps
  have lt : ∀ p ∈ news, p.1 ≠ e ∧ p.1 ≠ t0 := fun p hp => ⟨fun q => (by have z := (N p hp).1; rw [q] at z; exact absurd (hm.new.symm.trans z) (by simp)), fun q => (by have z := (N p hp).1; rw [q] at z; exact absurd (ht0.symm.trans z) (by simp))⟩
  have N1 : News h₀ L h' ((e, excO t0 none) :: (t0, tupN #[at', .str x c]) :: news) :=
    News.more F' (News.more F' (N.keepsAll hm.keeps) ht (fun _ _ q => nomatch q) (kts_none F.keep ht0)) he (fun _ _ q => nomatch q) (kts_none F.keep hm.new)
  have net : t0 ≠ e := fun q => by rw [q, he] at ht; cases ht
  refine use (init48_spec (cons_ne (Ne.symm net) fun p hp => (lt p hp).1)) (dp := dp + 1) (un := un + 1) (s := ⟨h', g, d, t, os⟩) B F' X N1 T hk (by omega) (by omega) (fun v nw h2 tk2 R F2 N2 => ?_)
  obtain ⟨rfl, t1, d1, od, x', rfl, nt⟩ := R
  exact ⟨rfl, hret _ _ _ _ ⟨e, t1, d1, od, x', _, rfl, rfl, fun p hp => ⟨(lt p hp).1, nt p (.tail _ hp)⟩⟩ F2 N2⟩
theorem my_raise {prog : Program} {w : World} {A : Around} {E : Value → Shared → Prop} {s : Shared} {env : Env} {x : Sem Value} {Q : Flow → Shared → Prop} (hh : A.handled = none)
    (h : wpAny (model prog w) A x (fun v s₁ => ∃ e t d, v = .ref e ∧ (hd.heap_39 w.params).In s₁.heap ∧ s₁.heap.get? e = some (excO t (some d)) ∧ E (.ref e) s₁) E s) :
    wpAny (model prog w) A (raiseStmt env (some x) none) Q E s := by
  have hcB : (Value.ref 51 :: tail51).contains (.type "BaseException") = true := by decide
  unfold raiseStmt
  refine wpAny_bind (wpAny_mono h (fun v s₁ h₁ => ?_) fun _ _ x => x)
  obtain ⟨e, t, d, rfl, X, he, hE⟩ := h₁
  obtain ⟨nm, qn, N51, bs, sn, sub, ab, col, dd, k0, k1, k2, k3, k5, hC⟩ := cls51 X
  obtain ⟨hp, g, dr, tk, os⟩ := s₁
  repeat (first | with_reducible refine wpAny_loadPart_at he ?_ | with_reducible refine wpAny_loadPart_at hC ?_ | ((with_reducible show wpAny _ _ (isSubtype _ _) _ _ _); refine wpAny_isSubtype_exc hC ?_; rw [hcB]) | wp_step)
  exact wpAny_raiseNew_none hh hE

theorem my_Raise {prog : Program} {w : World} {A : Around} {E : Value → Shared → Prop} {s : Shared} {env : Env} {x : Str} {np cpos pos : Pos} {args : List Expr} {Q : Flow → Shared → Prop} (hh : A.handled = none)
    (h : wpAny (model prog w) A (eval (.Call (.Name x np) args [] cpos) env) (fun v s₁ => ∃ e t d, v = .ref e ∧ (hd.heap_39 w.params).In s₁.heap ∧ s₁.heap.get? e = some (excO t (some d)) ∧ E (.ref e) s₁) E s) :
    wpAny (model prog w) A (exec (.Raise (some (.Call (.Name x np) args [] cpos)) none pos) env) Q E s := by
  rw [arm_exec_Raise]
  first
    | exact wpAny_bind (wpAny_standAt (my_raise hh h))
    | (simp only [evalOpt, Option.map]; exact wpAny_bind (wpAny_standAt (my_raise hh h)))
    | (refine wpAny_bind (wpAny_standAt (my_raise hh ?_)); refine wpAny_bind (wpAny_mono h (fun v s₃ h₃ => wpAny_bind (wpAny_standAt (wpAny_pure h₃))) fun _ _ x => x))
    | (simp only [evalOpt, Option.map]; refine wpAny_bind (wpAny_standAt (my_raise hh ?_)); refine wpAny_bind (wpAny_mono h (fun v s₃ h₃ => wpAny_bind (wpAny_standAt (wpAny_pure h₃))) fun _ _ x => x))

theorem my_leave {M : Model} {A : Around} {E : Value → Shared → Prop} {s' : Shared} {base g : Heap} {outer : List Env} {L a e t d : Addr} {m : Str → Option Value} {name : Str} {scope : Scope} {cd : Value} {Q : Unit → Shared → Prop} {news : Led} {x : Value} {od : Obj} {r : Addr × Obj}
    (K : Below A base outer g) (F : Fr g L s'.heap m) (N : News g L s'.heap ((e, excO t (some d)) :: (d, od) :: (t, tupN #[x]) :: r :: news)) (nt : ∀ p ∈ news, p.1 ≠ e ∧ p.1 ≠ t)
    (hQ : ∀ h', RaisedS base g outer e (.ref 51) t [x] news h' → g.UpToSlots h' → Q () { s' with heap := h' }) (hk : scope.kind = .function := by rfl) :
    wpAny M (A.deeper (envOf name scope L a cd)) (leaving (envOf name scope L a cd) (.ref e)) Q E s' := by
  have K' := K.push (name := name) (a := a) (cd := cd) F hk
  have he := N _ (.head _)
  have ht := N _ (.tail _ (.tail _ (.head _)))
  let l : List Addr := (envOf name scope L a cd :: outer).filterMap (·.frame) ++ [e, t]
  have hin : ∀ env ∈ (envOf name scope L a cd :: outer), ∀ b, env.frame = some b → b ∈ l := fun env he b hb => List.mem_append_left _ (List.mem_filterMap.mpr ⟨env, he, hb⟩)
  have ml : ∀ b, b ∈ l → b = L ∨ b ∈ outer.filterMap (·.frame) ∨ b = e ∨ b = t := fun b hb => by
    rcases List.mem_append.mp hb with z | z
    · rcases kts_mem z with z | z
      · exact .inl z
      · exact .inr (.inl z)
    · rcases List.mem_cons.mp z with z | z
      · exact .inr (.inr (.inl z))
      · exact .inr (.inr (.inr (List.mem_singleton.mp z)))
  have fresh : ∀ b, g.get? b = none → base.get? b = none := fun b hb => fresh_of_stays K.stays hb
  have gout : ∀ b, b ∈ outer.filterMap (·.frame) → base.get? b = none ∧ ∃ o, g.get? b = some o := fun b hb => by
    obtain ⟨h1, o, h2, _⟩ := K.frames.mem hb
    exact ⟨h1, o, h2⟩
  have st : base.StaysIn (hideAll s'.heap l) := fun b o q => hideAll_get _ (K'.stays b o q) fun hm => by
    rcases ml b hm with z | z | z | z
    · have := fresh L (kts_self F); rw [z, this] at q; cases q
    · rw [(gout b z).1] at q; cases q
    · rw [z, fresh e he.2.2] at q; cases q
    · rw [z, fresh t ht.2.2] at q; cases q
  have sg : ∀ b o, g.get? b = some o → b ∉ outer.filterMap (·.frame) → (hideAll s'.heap l).get? b = some o := fun b o q nm => hideAll_get _ (F.keep b o q) fun hm => by
    rcases ml b hm with z | z | z | z
    · rw [z, kts_self F] at q; cases q
    · exact nm z
    · have := he.2.2; rw [z] at q; rw [this] at q; cases q
    · have := ht.2.2; rw [z] at q; rw [this] at q; cases q
  have hl : ∀ q ∈ news, (hideAll s'.heap l).get? q.1 = some q.2 ∧ g.get? q.1 = none ∧ base.get? q.1 = none := fun q hq => by
    have Nq := N q (.tail _ (.tail _ (.tail _ (.tail _ hq))))
    refine ⟨hideAll_get _ Nq.1 fun hm => ?_, Nq.2.2, fresh _ Nq.2.2⟩
    rcases ml _ hm with z | z | z | z
    · exact Nq.2.1 z
    · obtain ⟨_, o, ho⟩ := gout _ z; rw [Nq.2.2] at ho; cases ho
    · exact (nt q hq).1 z
    · exact (nt q hq).2 z
  have ne : (hideAll s'.heap l).get? e = none := hideAll_none _ (List.mem_append_right _ (.head _))
  have ntt : (hideAll s'.heap l).get? t = none := hideAll_none _ (List.mem_append_right _ (.tail _ (.head _)))
  refine wpAny_leaving_firstW (a0 := .ref t) K'.stack (funFrames_hide K'.frames hin) rfl he.1 (fun b o q => of_hideAll _ q) ne rfl rfl rfl fun h' hL => ?_
  obtain ⟨k1, ⟨_, _, k2⟩, k3, k4⟩ := hL
  exact hQ h' ⟨⟨_, st, sg, hl, ⟨k1, ne, k2, k3⟩, ntt⟩, Heap.TupAt.of_slots ⟨_, _, ht.1, rfl, rfl⟩ k4⟩ ((Heap.UpToSlots.of_keeps F.keep).trans k4)
abbrev Raises (w : World) (mean : ExcName → Option Value) (mg mb : Str → Option Value) (f : Addr) (vs : List Value) (news : Led) (need : Nat) : Prop :=
  ∀ (dp un : Nat) (gd : Option (List Code)) (cn : Str) (cs : Scope) (a : Addr) (ccd : Value) (cl : List (Str × Addr)) (outer : List Env) (A₀ : Around) (base h₀ : Heap) (L : Addr) (m : Str → Option Value) (s : Shared) (Q E : Value → Shared → Prop),
    Below A₀ base outer h₀ → Fr h₀ L s.heap m → (hd.heap_39 w.params).In h₀ → News h₀ L s.heap news → Top lookAt (looseW lookAt []) mean mg mb h₀ → cs.kind = .function →
    dp + need < recursionLimit → un + 8 * need < cLine →
    (∀ g e t xs h' tk', Fr h₀ L g m → RaisedS base g (envX cn cs L a ccd cl :: outer) e (.ref 51) t xs news h' → g.UpToSlots h' → E (.ref e) { s with heap := h', toks := tk' }) →
    wpAny (model PySem.Challenge.rw_pq0351_01.row.prog w) (ktrTop dp un gd cn cs L a ccd cl outer) (call (.ref f) vs) Q E s
theorem useR {w : World} {mean : ExcName → Option Value} {mg mb : Str → Option Value} {f : Addr} {vs : List Value} {news : Led} {need : Nat}
    {dp un : Nat} {gd : Option (List Code)} {cn : Str} {cs : Scope} {a : Addr} {ccd : Value} {cl : List (Str × Addr)} {outer : List Env} {A₀ : Around} {base h₀ : Heap} {L : Addr} {m : Str → Option Value} {s : Shared} {Q E : Value → Shared → Prop}
    (C : Raises w mean mg mb f vs news need)
    (B : Below A₀ base outer h₀) (F : Fr h₀ L s.heap m) (X : (hd.heap_39 w.params).In h₀) (N : News h₀ L s.heap news) (T : Top lookAt (looseW lookAt []) mean mg mb h₀) (hk : cs.kind = .function)
    (hdp : dp + need < recursionLimit) (hun : un + 8 * need < cLine)
    (ret : ∀ g e t xs h' tk', Fr h₀ L g m → RaisedS base g (envX cn cs L a ccd cl :: outer) e (.ref 51) t xs news h' → g.UpToSlots h' → E (.ref e) { s with heap := h', toks := tk' }) :
    wpAny (model PySem.Challenge.rw_pq0351_01.row.prog w) (ktrTop dp un gd cn cs L a ccd cl outer) (call (.ref f) vs) Q E s :=
  C dp un gd cn cs a ccd cl outer A₀ base h₀ L m s Q E B F X N T hk hdp hun ret
/-- a def that raises the text's own exception -/
def RDef (f : Addr) (ds : List VD) (news : Led) (need : Nat) : Prop :=
  ∀ (w : World) (mean : ExcName → Option Value) (mg mb : Str → Option Value) (vs : List Value), HasL ds vs → Raises w mean mg mb f vs news need
/-- an expression, statements that raise: in a call that they make -/
def EvX (c : Ctx) (cs : Scope) (md : Loc) (news : Led) (e : Expr) : Prop :=
  ∀ (m : Str → Option Value) (h : Heap) (t : Nat) (Q E : Value → Shared → Prop), Fits m md → Fr c.h₀ c.L h m → News c.h₀ c.L h news →
    (∀ g x t' xs h' tk', Fr c.h₀ c.L g m → RaisedS c.base g (c.env cs :: c.outer) x (.ref 51) t' xs news h' → g.UpToSlots h' → E (.ref x) (c.st h' tk')) → wpAny c.M (c.A cs) (eval e (c.env cs)) Q E (c.st h t)
def ExX (c : Ctx) (cs : Scope) (md : Loc) (news : Led) (ss : List Stmt) : Prop :=
  ∀ (m : Str → Option Value) (h : Heap) (t : Nat) (Q : Flow → Shared → Prop) (E : Value → Shared → Prop), Fits m md → Fr c.h₀ c.L h m → News c.h₀ c.L h news →
    (∀ g x t' xs h' tk', Fr c.h₀ c.L g m → RaisedS c.base g (c.env cs :: c.outer) x (.ref 51) t' xs news h' → g.UpToSlots h' → E (.ref x) (c.st h' tk')) → wpAny c.M (c.A cs) (execs ss (c.env cs)) Q E (c.st h t)
/-- statements that raise themselves -/
def ExW (c : Ctx) (cs : Scope) (md : Loc) (news : Led) (ss : List Stmt) : Prop :=
  ∀ (m : Str → Option Value) (h : Heap) (t : Nat) (Q : Flow → Shared → Prop) (E : Value → Shared → Prop), Fits m md → Fr c.h₀ c.L h m → News c.h₀ c.L h news →
    (∀ x t' d od y r h' tk', Fr c.h₀ c.L h' m → News c.h₀ c.L h' ((x, excO t' (some d)) :: (d, od) :: (t', tupN #[y]) :: r :: news) → (∀ p ∈ news, p.1 ≠ x ∧ p.1 ≠ t') → E (.ref x) (c.st h' tk')) → wpAny c.M (c.A cs) (execs ss (c.env cs)) Q E (c.st h t)
theorem RDef.of {w : World} {f : Addr} {name qual : Str} {params : Arguments} {body : List Stmt} {scope : Scope} {dV kV doc pm cdv ct oc : Value} {an od : Option Addr} {osl : Array (Option Value)} {ds : List VD} {news : Led} {need : Nat} {ns : List Str}
    (h1 : List.lookup f (hd.heap_39 w.params) = some { cls := oc, dict := od, data := Data.func (fnOf name qual params body scope dV kV doc pm an cdv ct), slots := osl }) (h2 : codeIn (hd.heap_39 w.params) cdv qual = true)
    (h3 : ∀ vs : List Value, vs.length = ds.length → bindArgs (fnOf name qual params body scope dV kV doc pm an cdv ct) ⟨vs, []⟩ = pure (ns.zip vs))
    (hn : ds.length = ns.length) (hnd : ns.Nodup) (hl : ∀ x ∈ ns, scope.names.lookup x = some .local)
    (hc : scope.isCoroutine = false) (hg : scope.isGenerator = false) (hk : scope.kind = .function) (hcell : ∀ x ∈ scope.names, x.2 ≠ NameKind.cell)
    (hb : ∀ c : Ctx, c.Ok scope need → ExX c scope (ns.zip ds) news body ∨ ExW c scope (ns.zip ds) news body) : ∀ (mean : ExcName → Option Value) (mg mb : Str → Option Value) (vs : List Value), HasL ds vs → Raises w mean mg mb f vs news (need + 1) := by
  intro mean mg mb vs hvs dp un gd cn cs a ccd cl outer A₀ base h₀ L m s Q E B F X N T hks hdp hun hret
  have hlen := hvs.len
  refine wpAny_call (code_def B F X N T rfl rfl hks h1 h2 (by show dp < recursionLimit; omega) (BindsTo.of_eq (h3 vs hlen)) ?_ (fun g L' h' FG' F' N' B' X' T' => ?_) hc hg hk hcell)
  · intro y hy
    refine hl _ ?_
    have : y.1 ∈ (ns.zip vs).map (·.1) := List.mem_map_of_mem hy
    rwa [zip_fst (hlen.trans hn)] at this
  · obtain ⟨h, gg, d, t, os⟩ := s
    have hfit : Fits (fun y => List.lookup y (ns.zip vs).reverse) (ns.zip ds) := by
      intro x d' hx
      show ∃ v, List.lookup x (ns.zip vs).reverse = some v ∧ _
      rw [lookup_reverse (by rw [zip_fst (hlen.trans hn)]; exact hnd)]
      exact hvs.zip ns x d' hx
    rcases hb ⟨w, mean, mg, mb, dp + 1, un + 3, gd, qual, L', f, cdv, [], envX cn cs L a ccd cl :: outer, ktrTop dp un gd cn cs L a ccd cl outer, base, g, gg, d, os⟩
      ⟨B', X', T', hk, by show dp + 1 + need < _; omega, by show un + 3 + 8 * need < _; omega⟩ with hx | hw
    · refine hx _ h' _ _ _ hfit F' N' fun g2 x t' xs h2 tk2 Fg R U => ?_
      exact leave_onS B' Fg R U fun h3 R' _ U' => hret g x t' xs h3 tk2 FG' R' U'
    · refine hw _ h' _ _ _ hfit F' N' fun x t' d1 od1 y r h2 tk2 F2 N2 nt => ?_
      exact my_leave B' F2 N2 nt (fun h3 R' U' => hret g x t' [y] h3 tk2 FG' R' U') hk
section
variable {c : Ctx} {cs : Scope} {md md2 : Loc} {news : Led} {need : Nat} {pos np cp rp ip : Pos} {k : Nat} {rest : List Stmt} {R : Value → Led → Prop} {J J1 : Loc → Led → Prop}
theorem ExW.ifRaise (ok : c.Ok cs need) {t : Expr} {b : Bool} {x : Str} {args : List Expr} {q : List Stmt} (ht : Et c cs md news t b) (hb : b = true) (he : EvR c cs md news (.Call (.Name x np) args [] cp) (R51 news)) :
    ExW c cs md news (.If t [.Raise (some (.Call (.Name x np) args [] cp)) none rp] q ip :: rest) := by
  intro m h tt Q E hm F N kw
  subst hb
  refine wpAny_execs_cons (wpAny_If (ht m h tt _ _ hm F N fun h1 t1 F1 N1 => wpAny_execs_cons (my_Raise rfl (he m h1 t1 _ _ hm F1 N1 fun v nw h2 t2 r F2 N2 => ?_))))
  obtain ⟨e, t1', d, od, y, rr, rfl, rfl, nt⟩ := r
  exact ⟨e, t1', d, rfl, ok.X.keeps F2.keep, (N2 _ (.head _)).1, kw e t1' d od y rr h2 t2 F2 N2 nt⟩
theorem ExX.ifT {t : Expr} {p q : List Stmt} {b : Bool} (ht : Et c cs md news t b) (hb : b = true) (hp : ExX c cs md news p) : ExX c cs md news (.If t p q pos :: rest) := by
  intro m h tt Q E hm F N k
  subst hb
  exact wpAny_execs_cons (wpAny_If (ht m h tt _ _ hm F N fun h1 t1 F1 N1 => hp m h1 t1 _ _ hm F1 N1 k))
theorem ExX.ifF {t : Expr} {p q : List Stmt} {b : Bool} (ht : Et c cs md news t b) (hb : b = false) (hp : ExX c cs md news q) : ExX c cs md news (.If t p q pos :: rest) := by
  intro m h tt Q E hm F N k
  subst hb
  exact wpAny_execs_cons (wpAny_If (ht m h tt _ _ hm F N fun h1 t1 F1 N1 => hp m h1 t1 _ _ hm F1 N1 k))
theorem ExX.ret {e : Expr} (he : EvX c cs md news e) : ExX c cs md news (.Return (some e) pos :: rest) := fun m h t _ _ hm F N k => wpAny_execs_cons (wpAny_Return_some (he m h t _ _ hm F N k))
theorem ExX.set {x : Str} {e : Expr} (he : EvX c cs md news e) (hsw : swapsWith e (some (.Name x np)) pos.line (c.env cs) = pure false) : ExX c cs md news (.Assign [.Name x np] e pos :: rest) := fun m h t _ _ hm F N k => wpAny_execs_cons (wpAny_Assign_Name (he m h t _ _ hm F N k) hsw)
theorem EvX.call (ok : c.Ok cs need) {x : Str} {f : Addr} {e : Expr} {es : List Expr} {ds : List VD} {need' : Nat} (C : RDef f ds news need') (ha : EvL c cs md news pos (e :: es) ds)
    (hg : nsIn (hd.heap_39 c.w.params) mainGlobals x = some (some (.ref f))) (hf : keepIn (hd.heap_39 c.w.params) (.ref f) = true) (hn : need' ≤ need)
    (hx : cs.names.lookup x = some .globalImplicit) (hd : (x == ("__debug__" : Str)) = false) (hs : isStar e = false) (hss : es.any isStar = false) : EvX c cs md news (.Call (.Name x np) (e :: es) [] pos) := by
  intro m h t Q E hm F N k
  refine Call_ (nameX_K F ok.X (topRead_of ok.T) hg ?_ ok.hk (by unfold Env.kindOf; exact hx) hd)
  refine callWith_K ok.X hf ?_ (starEach_plain hs _ _) (starEach_none hss _ _)
  refine ha m h t _ _ hm F N fun vs h1 t1 q1 F1 N1 => ⟨ok.X.keeps F1.keep, ?_⟩
  exact useR (C c.w c.mean c.mg c.mb vs q1) ok.B F1 ok.X N1 ok.T ok.hk (by have := ok.hdp; omega) (by have := ok.hun; omega) fun g e t xs h' tk' Fg R U => k g e t xs h' tk' Fg R U
end
theorem make51_def {d : VD} {x : Str} {K : Nat} {news : Led} : Def 51 [d, .str x K] news 130 (R51 news) := by
  intro w mean mg mb vs hvs
  cases hvs with
  | cons a1 r1 => cases r1 with
    | cons a2 r2 =>
      cases r2
      obtain ⟨⟨t2, rfl⟩, _⟩ := a2
      exact make51_spec
theorem exp_rdef {x : Str} {v d : VD} {width places scale : Int} {plus : Bool} {news : Led} (bad : ¬ (-places < scale ∧ scale ≤ places + 1)) :
    RDef 116 [.str x 1, v, .int width 0 20000, .int places 0 10000, d, .int scale (-60) 4400, .bool plus] news 160 := by
  unfold RDef Raises
  k_fill
  intro w
  refine' RDef.of (need := 159) (ns := ["letter", "value", "width", "places", "size", "scale", "is_plus"]) ?f1 ?f2 ?f3 rfl (by decide) ?hl ?hc ?hg ?hk ?hcell ?hb
  case f1 => k_is
  case f2 => k_is
  case f3 => exact len_ind7 fun _ _ _ _ _ _ _ => rfl
  case hl => decide
  case hc => rfl
  case hg => rfl
  case hk => rfl
  case hcell => decide
  refine fun c ok => ?_
  dsimp only [List.zip_cons_cons, List.zip_nil_left]
  refine .inr ?_
  refine' ExW.ifRaise ok ?t ?b (EvR.call ok (make51_def (d := .int (-1) (-1) (-1)) (K := 30)) (EvL.cons (Ev.neg Ev.cint) (EvL.cons (Ev.cstr (by decide)) EvL.nil (starEach_plain rfl _ _)) (starEach_plain rfl _ _)) ?g ?f (by decide) rfl rfl rfl rfl)
  case t => walk_at "et"
  case g => k_is
  case f => k_is
  case b =>
    by_cases h : scale ≤ -places
    · rw [decide_eq_true h]; rfl
    · rw [decide_eq_true (show places + 1 < scale by omega), Bool.or_true]
local macro_rules | `(tactic| walk_at "evc") => `(tactic| ((first | ((with_reducible refine' Ev.call (by assumption) (isgen_def (by assumption) (by assumption) (by assumption) (by assumption) (by assumption)) ?ha ?hg ?hf ?hn ?hx ?hd ?hs ?hss); (case hg => k_is)) | ((with_reducible refine' Ev.call (by assumption) (isgen_def (by assumption) (by assumption) (by assumption) (by assumption) (by assumption)) ?ha ?hg ?hf ?hn ?hx ?hd ?hs ?hss); (case hg => k_is))); (case hf => k_is); (case ha => walk_at "evl"); (case hn => decide); (case hx => rfl); (case hd => rfl); (case hs => rfl); (case hss => rfl)))
theorem general_rdef {va : Addr} {n e width places scale : Int} {plus : Bool} {d : VD} {k : Nat} {t1 t2 : Tok} {news : Led} (hv : (va, tupOf #[.int n t1, .int e t2] k) ∈ news) (hn1 : -999999999 ≤ n) (hn2 : n ≤ 999999999) (he1 : -60 ≤ e) (he2 : e ≤ 60)
    (hg : isGenV n e places = false) (bad : ¬ (-places < scale ∧ scale ≤ places + 1)) : RDef 130 [.val (.ref va), .int width 0 20000, .int places 0 10000, d, .int scale (-60) 4400, .bool plus] news 170 := by
  unfold RDef Raises
  k_fill
  intro w
  refine' RDef.of (need := 169) (ns := ["value", "width", "places", "size", "scale", "is_plus"]) ?f1 ?f2 ?f3 rfl (by decide) ?hl ?hc ?hg ?hk ?hcell ?hb
  case f1 => k_is
  case f2 => k_is
  case f3 => exact len_ind6 fun _ _ _ _ _ _ => rfl
  case hl => decide
  case hc => rfl
  case hg => rfl
  case hk => rfl
  case hcell => decide
  refine fun c ok => ?_
  dsimp only [List.zip_cons_cons, List.zip_nil_left]
  refine' .inl (ExX.ifT (b := !isGenV n e places) ?t ?b (ExX.ret (EvX.call ok (exp_rdef bad) ?a ?g ?f (by decide) rfl rfl rfl rfl)))
  case t => walk_at "et"
  case b => rw [hg]; rfl
  case g => k_is
  case f => k_is
  case a =>
    refine' EvL.cons ?a1 (EvL.cons ?a2 (EvL.cons ?a3 (EvL.cons ?a4 (EvL.cons ?a5 (EvL.cons ?a6 (EvL.cons ?a7 EvL.nil (starEach_plain rfl _ _)) (starEach_plain rfl _ _)) (starEach_plain rfl _ _)) (starEach_plain rfl _ _)) (starEach_plain rfl _ _)) (starEach_plain rfl _ _)) (starEach_plain rfl _ _)
    case a1 => walk_at "ev"
    case a2 => walk_at "ev"
    case a3 => walk_at "ev"
    case a4 => walk_at "ev"
    case a5 => walk_at "ev"
    case a6 => walk_at "ev"
    case a7 => walk_at "ev"
theorem empty_list {x : Str} : x = Str.ofString "" ↔ x.cps.toList = [] := by
  have e : (Str.ofString "").cps.toList = [] := by decide
  constructor
  · intro h; rw [h, e]
  · intro h; exact str_ext (h.trans e.symm)
theorem empty_len {x : Str} : x = Str.ofString "" ↔ x.length = 0 := by
  rw [empty_list, ← len_list]; exact List.length_eq_zero_iff.symm

open Builtin Builtin.Str in
theorem strip_pad {x : Str} {T V : Nat} (h : x.cps.toList = pad T V) (hV : V < 10 ^ T) : (Txt.stripChars x (Str.ofString "0") != Str.ofString "") = decide (V ≠ 0) := by
  have hT : x.length = T := by rw [← len_list, h, pad_len]
  have goes48 : (Str.ofString "0").cps.contains 48 = true := by
    have e : (Str.ofString "0").cps = #[48] := by decide
    rw [e]; simp
  have goesOf : ∀ c : Nat, (Str.ofString "0").cps.contains c = true → c = 48 := by
    intro c hc
    have e : (Str.ofString "0").cps = #[48] := by decide
    rw [e] at hc
    simpa using hc
  have hlen : (Txt.stripChars x (Str.ofString "0")).length = stripHi (Str.ofString "0").cps.contains true x (stripLo (Str.ofString "0").cps.contains true x) - stripLo (Str.ofString "0").cps.contains true x := by
    unfold Txt.stripChars
    rw [PyProof.Rows.stripBy_eq]
    exact size_strSub _ _ _ (PyProof.Rows.hi_facts _ x _ (PyProof.Rows.lo_facts _ x).1).2.1
  obtain ⟨l1, l2, l3⟩ := PyProof.Rows.lo_facts (Str.ofString "0").cps.contains x
  obtain ⟨g1, g2, g3, _⟩ := PyProof.Rows.hi_facts (Str.ofString "0").cps.contains x _ l1
  generalize stripLo (Str.ofString "0").cps.contains true x = lo at *
  generalize stripHi (Str.ofString "0").cps.contains true x lo = hi at *
  by_cases hz : V = 0
  · subst hz
    rw [pad_zero] at h
    have key : lo = x.length := by
      rcases l3 with l3 | l3
      · exact l3
      · by_cases q : lo < x.length
        · rw [← PyProof.Rows.getD_list, h, List.getD_eq_getElem?_getD, List.getElem?_replicate, if_pos (by omega)] at l3
          rw [show (some 48).getD 0 = 48 from rfl, goes48] at l3
          cases l3
        · omega
    have : Txt.stripChars x (Str.ofString "0") = Str.ofString "" := empty_len.mpr (by omega)
    rw [this]
    decide
  · have hj : ∃ j, j < T ∧ (pad T V).getD j 0 ≠ 48 := by
      refine Classical.byContradiction fun hno => hz ?_
      have hall : pad T V = List.replicate T 48 := by
        refine List.eq_replicate_iff.mpr ⟨pad_len T V, fun c hc => ?_⟩
        obtain ⟨j, hj, e⟩ := List.getElem_of_mem hc
        refine Classical.byContradiction fun hc' => hno ⟨j, by rw [pad_len] at hj; exact hj, ?_⟩
        rw [List.getD_eq_getElem?_getD, List.getElem?_eq_getElem hj, e]
        exact hc'
      have := val_pad T V hV
      rw [hall, ← pad_zero, val_pad T 0 (Nat.pow_pos (by decide))] at this
      exact this.symm
    obtain ⟨j, hj1, hj2⟩ := hj
    have hlo : lo ≤ j := by
      refine Classical.byContradiction fun q => hj2 ?_
      have := goesOf _ (l2 j (by omega))
      rw [← PyProof.Rows.getD_list, h] at this
      exact this
    have hhi : lo < hi := by
      refine Classical.byContradiction fun q => ?_
      rcases l3 with l3 | l3
      · omega
      · have := g3 lo (by omega) (by omega)
        rw [this] at l3; cases l3
    have hne : Txt.stripChars x (Str.ofString "0") ≠ Str.ofString "" := fun e => by
      have := empty_len.mp e
      omega
    rw [show decide (V ≠ 0) = true from decide_eq_true hz]
    exact bne_iff_ne.mpr hne

theorem numText_pad {v : Int} (h0 : 0 ≤ v) : (numText v).cps.toList = pad (numText v).length v.toNat ∧ v.toNat < 10 ^ (numText v).length ∧ (1 ≤ v.toNat → 10 ^ ((numText v).length - 1) ≤ v.toNat) := by
  obtain ⟨m, rfl⟩ := Int.eq_ofNat_of_zero_le h0
  have hd : PySem.NumText.AllDigits (numText ((m : Nat) : Int)).cps.toList := text_digits h0
  have hv : PySem.NumText.digitsVal (numText ((m : Nat) : Int)).cps.toList = m := by
    show PySem.NumText.digitsVal (Str.ofString (toString ((m : Nat) : Int))).cps.toList = m
    rw [KIN.signs_num, KIN.val_back]
  have h1 := pad_val _ hd
  have h2 := val_lt _ hd
  rw [hv, len_list] at h1 h2
  refine ⟨h1.symm, h2, fun hm => ?_⟩
  have hone : 1 ≤ (numText ((m : Nat) : Int)).length := KLn.one_le h0
  by_cases hL : (numText ((m : Nat) : Int)).length = 1
  · rw [hL]; exact hm
  · refine Classical.byContradiction fun q => ?_
    have q' : ((m : Nat) : Int) < 10 ^ ((numText ((m : Nat) : Int)).length - 1) := by
      have := Int.ofNat_lt.mpr (Nat.lt_of_not_le q)
      simpa using this
    have := PyProof.Rows.toString_length_le h0 (show 0 < (numText ((m : Nat) : Int)).length - 1 by omega) q'
    have e : (Str.ofString (toString ((m : Nat) : Int))).length = (numText ((m : Nat) : Int)).length := rfl
    omega

theorem pow_uniq {a b M : Nat} (h1 : 10 ^ (a - 1) ≤ M) (h2 : M < 10 ^ a) (h3 : 10 ^ (b - 1) ≤ M) (h4 : M < 10 ^ b) (ha : 1 ≤ a) (hb : 1 ≤ b) : a = b := by
  rcases Nat.lt_trichotomy a b with h | h | h
  · have := Nat.pow_le_pow_right (show 0 < 10 by decide) (show a ≤ b - 1 by omega); omega
  · exact h
  · have := Nat.pow_le_pow_right (show 0 < 10 by decide) (show b ≤ a - 1 by omega); omega

/-- the figures of M, led by noughts to 'places' of them -/
theorem canon_pad {M T : Nat} {places : Nat} (h1 : M < 10 ^ T) (h2 : T = places ∨ (places < T ∧ 10 ^ (T - 1) ≤ M)) :
    (digitsV (if (M : Int) = 0 then Str.ofString "" else numText M) places).cps.toList = pad T M := by
  unfold digitsV
  rw [app_list, mul_list zero_is]
  by_cases hM : M = 0
  · subst hM
    have hT : T = places := by
      rcases h2 with h2 | ⟨_, h2⟩
      · exact h2
      · exact absurd h2 (Nat.not_le.mpr (Nat.pow_pos (by decide)))
    rw [if_pos (show ((0 : Nat) : Int) = 0 from rfl), show (Str.ofString "").cps.toList = [] by decide, List.append_nil, show (Str.ofString "").length = 0 by decide, pad_zero, hT]
    congr 1
  · rw [if_neg (by omega)]
    obtain ⟨e1, e2, e3⟩ := numText_pad (v := (M : Int)) (by omega)
    simp only [Int.toNat_natCast] at e1 e2 e3
    have e3 := e3 (by omega)
    have hone : 1 ≤ (numText (M : Int)).length := KLn.one_le (by omega)
    rw [e1, pad_lead _ _ _ e2]
    congr 1
    rcases h2 with h2 | ⟨h2, h3⟩
    · have : (numText (M : Int)).length - 1 < places := by
        refine Classical.byContradiction fun q => ?_
        have := Nat.pow_le_pow_right (show 0 < 10 by decide) (show places ≤ (numText (M : Int)).length - 1 by omega)
        rw [h2] at h1; omega
      omega
    · have := pow_uniq e3 e2 h3 h1 hone (by omega)
      omega
theorem canon_sign {M : Nat} : ((if (M : Int) = 0 then Str.ofString "" else numText M) != Str.ofString "") = decide (M ≠ 0) := by
  by_cases hM : M = 0
  · subst hM; decide
  · rw [if_neg (by omega), show decide (M ≠ 0) = true from decide_eq_true hM]
    refine bne_iff_ne.mpr fun e => ?_
    have := empty_len.mp e
    have hone : 1 ≤ (numText (M : Int)).length := KLn.one_le (by omega)
    omega
theorem scaled_nat {N k : Nat} (hk : 1 ≤ k) : scaledV (N : Int) (-(k : Int)) = (((N / 10 ^ (k - 1) + 5) / 10 : Nat) : Int) := by
  unfold scaledV
  rw [if_neg (by omega), show (- -(k : Int)).toNat = k by omega, show k = (k - 1) + 1 by omega]
  simp only [Nat.add_sub_cancel]
  generalize k - 1 = j
  have hv : 0 < 10 ^ j := Nat.pow_pos (by decide)
  have e : ((10 : Int) ^ (j + 1)) = ((10 * 10 ^ j : Nat) : Int) := by
    rw [Int.pow_succ, Int.mul_comm, Int.natCast_mul, Int.natCast_pow]; rfl
  rw [e, Int.fdiv_eq_ediv_of_nonneg _ (by omega)]
  have e2 : (2 * N + 10 * 10 ^ j) / (2 * (10 * 10 ^ j)) = (N / 10 ^ j + 5) / 10 := by
    rw [show 2 * (10 * 10 ^ j) = (2 * 10 ^ j) * 10 by omega, ← Nat.div_div_eq_div_mul]
    congr 1
    rw [show 2 * N + 10 * 10 ^ j = 2 * (N + 5 * 10 ^ j) by omega, Nat.mul_div_mul_left _ _ (by decide), Nat.add_mul_div_right _ _ hv]
  rw [← e2, Int.natCast_ediv, Int.natCast_add, Int.natCast_mul, Int.natCast_mul]
  rfl
theorem scaled_zero (N : Int) : scaledV N 0 = N := by
  unfold scaledV
  rw [if_pos (by decide), show Int.toNat 0 = 0 from rfl, Int.pow_zero, Int.mul_one]

theorem figs_up {N L : Nat} {p : Int} (hx : (numText (N : Int)).cps.toList = pad L N) (hN : 1 ≤ N) (hp : 0 ≤ p) : (figuresV (N : Int) p).cps.toList = pad (L + p.toNat) (N * 10 ^ p.toNat) := by
  unfold figuresV
  by_cases h : p > 0
  · rw [if_pos h, if_neg (by omega), app_list, mul_list zero_is, hx, pad_shift]
  · have : p = 0 := by omega
    subst this
    rw [if_neg h, scaled_zero, if_neg (by omega), hx]
    simp
theorem figs_down {N k : Nat} (hk : 1 ≤ k) : figuresV (N : Int) (-(k : Int)) = if (((N / 10 ^ (k - 1) + 5) / 10 : Nat) : Int) = 0 then Str.ofString "" else numText (((N / 10 ^ (k - 1) + 5) / 10 : Nat) : Int) := by
  unfold figuresV
  rw [if_neg (by omega), scaled_nat hk]

theorem five_lt {x : Str} {k : Int} (h0 : 0 ≤ k) (h1 : k < x.length) : ((Txt.item x k).cps.toList < (Str.ofString "5").cps.toList) ↔ x.cps.toList.getD k.toNat 0 < 53 := by
  rw [item_list h0 h1, show (Str.ofString "5").cps.toList = [53] by decide]
  show [x.cps.toList.getD k.toNat 0] < [53] ↔ _
  generalize x.cps.toList.getD k.toNat 0 = c
  constructor
  · intro h
    rcases List.cons_lt_cons_iff.mp h with h | ⟨_, h⟩
    · exact h
    · exact absurd h (List.not_lt_nil _)
  · intro h
    exact List.cons_lt_cons_iff.mpr (.inl h)

theorem nextUp_pad {x : Str} {T V : Nat} (h : x.cps.toList = pad T V) (hV : V < 10 ^ T) : nextUpV x = if V + 1 < 10 ^ T then P T (V + 1) else P (T + 1) (V + 1) := by
  have hl : x.length = T := by rw [← len_list, h, pad_len]
  unfold nextUpV
  rw [h, val_pad T V hV, hl]
open Classical in
noncomputable def aroundTail (W R : Str) (p : Int) : Str × Str :=
  if (R.length : Int) ≤ p then (W, R ++ Txt.mul (Str.ofString "0") (p - R.length))
  else if (Txt.item R p).cps.toList < (Str.ofString "5").cps.toList then
    (Txt.slice (W ++ Txt.slice R none (some p)) none (some ((W ++ Txt.slice R none (some p)).length - p)), Txt.slice (W ++ Txt.slice R none (some p)) (some ((W ++ Txt.slice R none (some p)).length - p)) none)
  else (Txt.slice (nextUpV (W ++ Txt.slice R none (some p))) none (some ((nextUpV (W ++ Txt.slice R none (some p))).length - p)), Txt.slice (nextUpV (W ++ Txt.slice R none (some p))) (some ((nextUpV (W ++ Txt.slice R none (some p))).length - p)) none)
theorem around_tail {x : Str} {q p : Int} (hq : ¬ 0 ≤ q) :
    aroundV x q p = if 0 < (x.length : Int) + q then aroundTail (Txt.slice x none (some (x.length + q))) (Txt.slice x (some (x.length + q)) none) p
      else aroundTail (Str.ofString "") (Txt.mul (Str.ofString "0") (-(x.length + q)) ++ x) p := by
  unfold aroundV aroundTail
  rw [if_neg hq]

theorem digits_long {f : Str} {p : Int} (h : p ≤ f.length) : (digitsV f p).cps.toList = f.cps.toList := by
  unfold digitsV
  rw [app_list, mul_list zero_is, show (p - (f.length : Int)).toNat = 0 by omega]
  rfl
theorem cut_list {K : Str} {p : Nat} (h : p ≤ K.length) : (Txt.slice K none (some ((K.length : Int) - p))).cps.toList ++ (Txt.slice K (some ((K.length : Int) - p)) none).cps.toList = K.cps.toList ∧ (Txt.slice K (some ((K.length : Int) - p)) none).length = p := by
  rw [slice_to (by omega) (by omega), slice_from (by omega) (by omega), List.take_append_drop]
  refine ⟨rfl, ?_⟩
  rw [← len_list, slice_from (by omega) (by omega), List.length_drop, len_list]; omega

def Agrees (AB : Str × Str) (f : Str) (p : Nat) : Prop :=
  ∃ T V, AB.1.cps.toList ++ AB.2.cps.toList = pad T V ∧ V < 10 ^ T ∧ AB.2.length = p ∧ (digitsV f p).cps.toList = pad T V ∧ (f != Str.ofString "") = decide (V ≠ 0)

theorem ne_of_len {f : Str} (h : 1 ≤ f.length) : (f != Str.ofString "") = true := bne_iff_ne.mpr fun e => by have := empty_len.mp e; omega

theorem tail_agrees {W R : Str} {N L r p : Nat} (hx : (numText (N : Int)).cps.toList = pad L N) (h1 : 10 ^ (L - 1) ≤ N) (h2 : N < 10 ^ L) (hL : 1 ≤ L) (hN : 1 ≤ N)
    (hW : W.cps.toList = pad (L - r) (N / 10 ^ r)) (hR : R.cps.toList = pad r N) : Agrees (aroundTail W R p) (figuresV (N : Int) ((p : Int) - r)) p := by
  have lW : W.length = L - r := by rw [← len_list, hW, pad_len]
  have lR : R.length = r := by rw [← len_list, hR, pad_len]
  unfold aroundTail
  by_cases hrp : r ≤ p
  · rw [if_pos (by omega)]
    have hf := figs_up hx hN (show (0 : Int) ≤ (p : Int) - r by omega)
    rw [show ((p : Int) - r).toNat = p - r by omega] at hf
    have lf : (figuresV (N : Int) ((p : Int) - r)).length = L + (p - r) := by rw [← len_list, hf, pad_len]
    refine ⟨L - r + r + (p - r), N * 10 ^ (p - r), ?_, ?_, ?_, ?_, ?_⟩
    · dsimp only
      rw [app_list, mul_list zero_is, hW, hR, lR, show ((p : Int) - (r : Int)).toNat = p - r by omega, ← List.append_assoc, ← pad_append, pad_shift]
    · have : N < 10 ^ (L - r + r) := Nat.lt_of_lt_of_le h2 (Nat.pow_le_pow_right (by decide) (by omega))
      rw [Nat.pow_add]
      exact Nat.mul_lt_mul_of_pos_right this (Nat.pow_pos (by decide))
    · dsimp only
      rw [PySem.Str.length_append, mul_len _ len_zero, lR]; omega
    · unfold digitsV
      rw [app_list, mul_list zero_is, hf, lf]
      have : N * 10 ^ (p - r) < 10 ^ (L + (p - r)) := by
        rw [Nat.pow_add]
        exact Nat.mul_lt_mul_of_pos_right h2 (Nat.pow_pos (by decide))
      rw [pad_lead _ _ _ this]
      congr 1; omega
    · have : N * 10 ^ (p - r) ≠ 0 := Nat.mul_ne_zero (by omega) (Nat.ne_of_gt (Nat.pow_pos (by decide)))
      rw [decide_eq_true this]
      exact ne_of_len (by omega)
  · rw [if_neg (by omega)]
    obtain ⟨k, hk⟩ : ∃ k, r = p + (k + 1) := ⟨r - p - 1, by omega⟩
    have hslice : (Txt.slice R none (some (p : Int))).cps.toList = pad p (N / 10 ^ (k + 1)) := by
      rw [slice_to (by omega) (by omega), hR, Int.toNat_natCast, hk, pad_take]
    have hK : (W ++ Txt.slice R none (some (p : Int))).cps.toList = pad (L - r + p) (N / 10 ^ (k + 1)) := by
      rw [app_list, hW, hslice, pad_append, Nat.div_div_eq_div_mul, ← Nat.pow_add, show k + 1 + p = r by omega]
    have hdig : ((Txt.item R (p : Int)).cps.toList < (Str.ofString "5").cps.toList) ↔ N / 10 ^ k % 10 < 5 := by
      rw [five_lt (by omega) (by omega), Int.toNat_natCast, hR, hk, pad_getD]
      omega
    have hq : N / 10 ^ (k + 1) = N / 10 ^ k / 10 := by rw [Nat.pow_succ, Nat.div_div_eq_div_mul]
    have hfig : figuresV (N : Int) ((p : Int) - r) = if (((N / 10 ^ k + 5) / 10 : Nat) : Int) = 0 then Str.ofString "" else numText (((N / 10 ^ k + 5) / 10 : Nat) : Int) := by
      have := figs_down (N := N) (k := k + 1) (by omega)
      rw [show (p : Int) - r = -((k + 1 : Nat) : Int) by omega, this]
      rfl
    have hlt : N / 10 ^ (k + 1) < 10 ^ (L - r + p) := by
      refine Nat.div_lt_of_lt_mul ?_
      rw [← Nat.pow_add]
      exact Nat.lt_of_lt_of_le h2 (Nat.pow_le_pow_right (by decide) (by omega))
    have hge : r < L → 10 ^ (L - r + p - 1) ≤ N / 10 ^ (k + 1) := by
      intro h
      refine (Nat.le_div_iff_mul_le (Nat.pow_pos (by decide))).mpr ?_
      rw [← Nat.pow_add, show L - r + p - 1 + (k + 1) = L - 1 by omega]
      exact h1
    generalize hKd : W ++ Txt.slice R none (some (p : Int)) = K at *
    have lK : K.length = L - r + p := by rw [← len_list, hK, pad_len]
    by_cases hd : N / 10 ^ k % 10 < 5
    · rw [if_pos (hdig.mpr hd)]
      have hM : (N / 10 ^ k + 5) / 10 = N / 10 ^ (k + 1) := by omega
      rw [hM] at hfig
      obtain ⟨c1, c2⟩ := cut_list (K := K) (p := p) (by omega)
      refine ⟨L - r + p, N / 10 ^ (k + 1), c1.trans hK, hlt, c2, ?_, ?_⟩
      · rw [hfig]
        refine canon_pad hlt ?_
        by_cases hr : r < L
        · exact .inr ⟨by omega, hge hr⟩
        · exact .inl (by omega)
      · rw [hfig]; exact canon_sign
    · rw [if_neg (fun h => hd (hdig.mp h))]
      have hM : (N / 10 ^ k + 5) / 10 = N / 10 ^ (k + 1) + 1 := by omega
      rw [hM] at hfig
      have hup := nextUp_pad hK hlt
      by_cases hc : N / 10 ^ (k + 1) + 1 < 10 ^ (L - r + p)
      · rw [if_pos hc] at hup
        rw [hup]
        obtain ⟨c1, c2⟩ := cut_list (K := P (L - r + p) (N / 10 ^ (k + 1) + 1)) (p := p) (by rw [P_len]; omega)
        refine ⟨L - r + p, N / 10 ^ (k + 1) + 1, c1, hc, c2, ?_, ?_⟩
        · rw [hfig]
          refine canon_pad hc ?_
          by_cases hr : r < L
          · exact .inr ⟨by omega, Nat.le_succ_of_le (hge hr)⟩
          · exact .inl (by omega)
        · rw [hfig]; exact canon_sign
      · rw [if_neg hc] at hup
        rw [hup]
        obtain ⟨c1, c2⟩ := cut_list (K := P (L - r + p + 1) (N / 10 ^ (k + 1) + 1)) (p := p) (by rw [P_len]; omega)
        have hlt2 : N / 10 ^ (k + 1) + 1 < 10 ^ (L - r + p + 1) := by
          rw [show 10 ^ (L - r + p + 1) = 10 ^ (L - r + p) * 10 by rw [Nat.pow_succ]]
          have h10 : 1 ≤ 10 ^ (L - r + p) := Nat.pow_pos (by decide)
          revert h10 hlt
          generalize 10 ^ (L - r + p) = Y
          generalize N / 10 ^ (k + 1) = X
          intros; omega
        refine ⟨L - r + p + 1, N / 10 ^ (k + 1) + 1, c1, hlt2, c2, ?_, ?_⟩
        · rw [hfig]
          exact canon_pad hlt2 (.inr ⟨by omega, by rw [Nat.add_sub_cancel]; exact Nat.le_of_not_lt hc⟩)
        · rw [hfig]; exact canon_sign

theorem around_agrees {N L p : Nat} {q : Int} (hx : (numText (N : Int)).cps.toList = pad L N) (h1 : 10 ^ (L - 1) ≤ N) (h2 : N < 10 ^ L) (hL : 1 ≤ L) (hN : 1 ≤ N) :
    Agrees (aroundV (numText (N : Int)) q p) (figuresV (N : Int) (q + p)) p := by
  have lx : (numText (N : Int)).length = L := by rw [← len_list, hx, pad_len]
  by_cases hq : 0 ≤ q
  · have hf := figs_up hx hN (show (0 : Int) ≤ q + p by omega)
    have lf : (figuresV (N : Int) (q + p)).length = L + (q + p).toNat := by rw [← len_list, hf, pad_len]
    unfold aroundV
    rw [if_pos hq]
    refine ⟨L + (q + p).toNat, N * 10 ^ (q + p).toNat, ?_, ?_, ?_, ?_, ?_⟩
    · dsimp only
      rw [app_list, mul_list zero_is, mul_list zero_is, hx, List.append_assoc, List.replicate_append_replicate, Int.toNat_natCast, show (q + (p : Int)).toNat = q.toNat + p by omega, pad_shift]
    · rw [Nat.pow_add]
      exact Nat.mul_lt_mul_of_pos_right h2 (Nat.pow_pos (by decide))
    · dsimp only
      rw [mul_len _ len_zero]; omega
    · rw [digits_long (by omega), hf]
    · have : N * 10 ^ (q + p).toNat ≠ 0 := Nat.mul_ne_zero (by omega) (Nat.ne_of_gt (Nat.pow_pos (by decide)))
      rw [decide_eq_true this]
      exact ne_of_len (by omega)
  · obtain ⟨r, hr⟩ : ∃ r : Nat, q = -(r : Int) := ⟨(-q).toNat, by omega⟩
    rw [around_tail hq, show q + (p : Int) = (p : Int) - r by omega]
    split
    · rename_i hs
      refine tail_agrees hx h1 h2 hL hN ?_ ?_
      · rw [slice_to (by omega) (by omega), hx, lx, show ((L : Int) + q).toNat = L - r by omega]
        conv => lhs; rw [show L = (L - r) + r by omega, Nat.add_sub_cancel]
        exact pad_take _ _ _
      · rw [slice_from (by omega) (by omega), hx, lx, show ((L : Int) + q).toNat = L - r by omega]
        conv => lhs; rw [show L = (L - r) + r by omega, Nat.add_sub_cancel]
        exact pad_drop _ _ _
    · rename_i hs
      refine tail_agrees hx h1 h2 hL hN ?_ ?_
      · rw [show L - r = 0 by omega]
        show (Str.ofString "").cps.toList = []
        decide
      · rw [app_list, mul_list zero_is, hx, lx, pad_lead _ _ _ h2]
        congr 1; omega

theorem point_fields {S A B : Str} {n : Int} : pointV S A B n = fieldsV S A B n := by
  unfold pointV fieldsV field2V
  split
  · split
    · rename_i h1 h2
      have e : B = Str.ofString "" := by simpa using h2
      congr 1
      refine str_ext ?_
      rw [e]
      simp only [app_list, List.append_assoc]
      congr 1
    · have e : ((S ++ Str.ofString "0." ++ B).length : Int) = ((S.length + (Str.ofString "0.").length + B.length : Nat) : Int) := by
        rw [PySem.Str.length_append, PySem.Str.length_append]
      rw [e]
  · rfl

/-- edit_fixed tells the law's own text -/
theorem fixed_is {n e width places scale : Int} {plus : Bool} (hn1 : -10 ^ 9 < n) (hn2 : n < 10 ^ 9) (hp : 0 ≤ places) : editFixedV n e width places scale plus = byfV n e width places scale plus := by
  have hr := absI_range hn1 hn2
  obtain ⟨p, rfl⟩ := Int.eq_ofNat_of_zero_le hp
  obtain ⟨N, hNe⟩ := Int.eq_ofNat_of_zero_le hr.1
  by_cases h0 : n = 0
  · have hz : absI n = 0 := by rw [h0]; decide
    have hfig : figuresV 0 (e + scale + p) = Str.ofString "" := by
      unfold figuresV
      split
      · rw [if_pos rfl]
      · rename_i h
        have := scaledV_range (n := 0) (p := e + scale + p) (by omega) (by omega)
        rw [if_pos (by omega)]
    unfold editFixedV byfV byfWR
    rw [if_pos h0, hz, hfig, point_fields]
    have d0 : decide (n < 0) = false := decide_eq_false (by omega)
    rw [d0, Bool.false_and, Bool.false_and]
    have hD : digitsV (Str.ofString "") (p : Int) = Txt.mul (Str.ofString "0") (p : Int) := by
      unfold digitsV
      refine str_ext ?_
      rw [app_list, show (Str.ofString "").cps.toList = [] by decide, List.append_nil, show ((Str.ofString "").length : Int) = 0 by decide, Int.sub_zero]
    have hl : (Txt.mul (Str.ofString "0") (p : Int)).length = p := by rw [mul_len _ len_zero, Int.toNat_natCast]
    rw [hD, hl, Int.sub_self]
    have e1 : Txt.slice (Txt.mul (Str.ofString "0") (p : Int)) none (some 0) = Str.ofString "" := by
      refine empty_list.mpr ?_
      rw [slice_to (by omega) (by omega)]; rfl
    have e2 : Txt.slice (Txt.mul (Str.ofString "0") (p : Int)) (some 0) none = Txt.mul (Str.ofString "0") (p : Int) := by
      refine str_ext ?_
      rw [slice_from (by omega) (by omega)]; rfl
    rw [e1, e2]
  · have hN : 1 ≤ N := by
      have : absI n ≠ 0 := by unfold absI; split <;> omega
      omega
    obtain ⟨m1, m2, m3⟩ := numText_pad (v := (N : Int)) (by omega)
    rw [Int.toNat_natCast] at m1 m2 m3
    have hone : 1 ≤ (numText (N : Int)).length := KLn.one_le (by omega)
    have hA := around_agrees (q := e + scale) (p := p) m1 (m3 hN) m2 hone hN
    unfold editFixedV byfV byfWR
    rw [if_neg h0, hNe, point_fields]
    obtain ⟨T, V, a1, a2, a3, a4, a5⟩ := hA
    generalize aroundV (numText (N : Int)) (e + scale) (p : Int) = AB at *
    obtain ⟨A, B⟩ := AB
    dsimp only at *
    have hst := strip_pad (x := A ++ B) (T := T) (V := V) (by rw [app_list]; exact a1) a2
    rw [hst, a5]
    have hDl : (digitsV (figuresV (N : Int) (e + scale + p)) p).length = A.length + B.length := by
      rw [← len_list, a4, ← a1, List.length_append, len_list, len_list]
    have e1 : Txt.slice (digitsV (figuresV (N : Int) (e + scale + p)) p) none (some ((digitsV (figuresV (N : Int) (e + scale + p)) p).length - (p : Int))) = A := by
      refine str_ext ?_
      rw [slice_to (by omega) (by omega), a4, ← a1, hDl, show (((A.length + B.length : Nat) : Int) - (p : Int)).toNat = A.length by omega]
      rw [← len_list A, List.take_left']
      rfl
    have e2 : Txt.slice (digitsV (figuresV (N : Int) (e + scale + p)) p) (some ((digitsV (figuresV (N : Int) (e + scale + p)) p).length - (p : Int))) none = B := by
      refine str_ext ?_
      rw [slice_from (by omega) (by omega), a4, ← a1, hDl, show (((A.length + B.length : Nat) : Int) - (p : Int)).toNat = A.length by omega]
      rw [← len_list A, List.drop_left']
      rfl
    rw [e1, e2]
theorem numText_P {M c : Nat} (h1 : 10 ^ (c - 1) ≤ M) (h2 : M < 10 ^ c) (hc : 1 ≤ c) : numText (M : Int) = P c M := by
  have hM : 1 ≤ M := Nat.le_trans (Nat.pow_pos (by decide)) h1
  obtain ⟨m1, m2, m3⟩ := numText_pad (v := (M : Int)) (by omega)
  rw [Int.toNat_natCast] at m1 m2 m3
  have hone : 1 ≤ (numText (M : Int)).length := KLn.one_le (by omega)
  have := pow_uniq (m3 hM) m2 h1 h2 hone hc
  refine str_ext ?_
  rw [m1, this, P_list]
theorem P_cut {c M : Nat} : Txt.slice (P c M) none (some (c : Int)) = P c M := by
  refine str_ext ?_
  rw [slice_to (by omega) (by rw [P_len]; omega), P_list, Int.toNat_natCast, List.take_of_length_le (by rw [pad_len]; exact Nat.le_refl _)]

theorem lead_first {n e : Int} {c : Nat} (hn1 : -10 ^ 9 < n) (hn2 : n < 10 ^ 9) (hc : 1 ≤ c) : leadingV n e c = firstV n e c ∧ (firstV n e c).1.length = c ∧ (n = 0 → (firstV n e c).2 = 0) := by
  have hr := absI_range hn1 hn2
  obtain ⟨N, hNe⟩ := Int.eq_ofNat_of_zero_le hr.1
  unfold leadingV firstV
  by_cases h0 : n = 0
  · have hz : absI n = 0 := by rw [h0]; decide
    rw [if_pos hz, if_pos h0]
    exact ⟨rfl, by dsimp only; rw [mul_len _ len_zero, Int.toNat_natCast], fun _ => rfl⟩
  · have hN : 1 ≤ N := by
      have : absI n ≠ 0 := by unfold absI; split <;> omega
      omega
    rw [if_neg (by omega), if_neg h0, hNe]
    obtain ⟨m1, m2, m3⟩ := numText_pad (v := (N : Int)) (by omega)
    rw [Int.toNat_natCast] at m1 m2 m3
    have m3 := m3 hN
    have hone : 1 ≤ (numText (N : Int)).length := KLn.one_le (by omega)
    have hxl : (numText (N : Int)).length = (numText (N : Int)).length := rfl
    generalize hLd : (numText (N : Int)).length = L at *
    by_cases hLc : L ≤ c
    · have hf := figs_up m1 hN (show (0 : Int) ≤ (c : Int) - L by omega)
      rw [show ((c : Int) - L).toNat = c - L by omega] at hf
      have lf : (figuresV (N : Int) ((c : Int) - L)).length = c := by rw [← len_list, hf, pad_len]; omega
      rw [if_neg (by omega), if_pos (by omega)]
      refine ⟨?_, ?_, fun h => absurd h h0⟩
      · congr 1
        refine str_ext ?_
        rw [hf, app_list, mul_list zero_is, m1, show ((c : Int) - L).toNat = c - L by omega, pad_shift]
      · dsimp only
        rw [PySem.Str.length_append, mul_len _ len_zero, hLd]; omega
    · rw [if_neg (show ¬ ((L : Nat) : Int) ≤ c by omega)]
      obtain ⟨k, hk⟩ : ∃ k, L = c + (k + 1) := ⟨L - c - 1, by omega⟩
      have hfig : figuresV (N : Int) ((c : Int) - L) = if (((N / 10 ^ k + 5) / 10 : Nat) : Int) = 0 then Str.ofString "" else numText (((N / 10 ^ k + 5) / 10 : Nat) : Int) := by
        have := figs_down (N := N) (k := k + 1) (by omega)
        rw [show (c : Int) - L = -((k + 1 : Nat) : Int) by omega, this]
        rfl
      have hs : (Txt.slice (numText (N : Int)) none (some (c : Int))).cps.toList = pad c (N / 10 ^ (k + 1)) := by
        rw [slice_to (by omega) (by omega), m1, hk, Int.toNat_natCast, pad_take]
      have hsP : Txt.slice (numText (N : Int)) none (some (c : Int)) = P c (N / 10 ^ (k + 1)) := str_ext hs
      have hdig : ((Txt.item (numText (N : Int)) (c : Int)).cps.toList < (Str.ofString "5").cps.toList) ↔ N / 10 ^ k % 10 < 5 := by
        rw [five_lt (by omega) (by omega), Int.toNat_natCast, m1, hk, pad_getD]
        omega
      have hq : N / 10 ^ (k + 1) = N / 10 ^ k / 10 := by rw [Nat.pow_succ, Nat.div_div_eq_div_mul]
      have hlt : N / 10 ^ (k + 1) < 10 ^ c := by
        refine Nat.div_lt_of_lt_mul ?_
        rw [← Nat.pow_add, Nat.add_comm (k + 1) c, ← hk]
        exact m2
      have hge : 10 ^ (c - 1) ≤ N / 10 ^ (k + 1) := by
        refine (Nat.le_div_iff_mul_le (Nat.pow_pos (by decide))).mpr ?_
        rw [← Nat.pow_add, show c - 1 + (k + 1) = L - 1 by omega]
        exact m3
      have hpos : 1 ≤ N / 10 ^ (k + 1) := Nat.le_trans (Nat.pow_pos (by decide)) hge
      rw [hsP]
      by_cases hd : N / 10 ^ k % 10 < 5
      · have hM : (N / 10 ^ k + 5) / 10 = N / 10 ^ (k + 1) := by omega
        rw [hM, if_neg (by omega), numText_P hge hlt hc] at hfig
        rw [hfig, P_len, if_neg (by omega), if_pos (hdig.mpr hd), P_cut]
        refine ⟨?_, P_len _ _, fun h => absurd h h0⟩
        congr 1; omega
      · have hM : (N / 10 ^ k + 5) / 10 = N / 10 ^ (k + 1) + 1 := by omega
        rw [if_neg (fun h => hd (hdig.mp h))]
        have hup := nextUp_pad (x := P c (N / 10 ^ (k + 1))) (P_list _ _) hlt
        by_cases hcc : N / 10 ^ (k + 1) + 1 < 10 ^ c
        · rw [hM, if_neg (by omega), numText_P (Nat.le_succ_of_le hge) hcc hc] at hfig
          rw [if_pos hcc] at hup
          rw [hup, hfig, P_len, if_neg (by omega), P_cut]
          refine ⟨?_, P_len _ _, fun h => absurd h h0⟩
          congr 1; omega
        · have h11 : N / 10 ^ (k + 1) + 1 < 10 ^ (c + 1) := by
            have h10 : 1 ≤ 10 ^ c := Nat.pow_pos (by decide)
            rw [show 10 ^ (c + 1) = 10 ^ c * 10 by rw [Nat.pow_succ]]
            revert h10 hlt
            generalize 10 ^ c = Y
            generalize N / 10 ^ (k + 1) = X
            intros; omega
          rw [hM, if_neg (by omega), numText_P (c := c + 1) (by rw [Nat.add_sub_cancel]; exact Nat.le_of_not_lt hcc) h11 (by omega)] at hfig
          rw [if_neg hcc] at hup
          rw [hup, hfig, P_len, if_pos (by omega)]
          refine ⟨?_, ?_, fun h => absurd h h0⟩
          · congr 1; omega
          · dsimp only
            rw [slice_to_len (by omega) (by rw [P_len]; omega)]; omega

theorem str_assoc (x y z : Str) : x ++ y ++ z = x ++ (y ++ z) := by
  refine str_ext ?_
  simp only [app_list, List.append_assoc]

/-- edit_exp tells the law's own text, where the scale factor is one -/
theorem exp_is {x : Str} {n e width places : Int} {z : Option Int} {scale : Int} {plus : Bool} (hn1 : -10 ^ 9 < n) (hn2 : n < 10 ^ 9) (h1 : -places < scale) (h2 : scale ≤ places + 1) :
    byeV x n e width places z scale plus = some (expV x n e width places z scale plus) := by
  unfold byeV
  rw [if_pos h1, if_pos (by omega)]
  congr 1
  unfold expV byeW expW
  have hcnt : (if scale ≤ 0 then places + scale else places + 1) = (if 0 < scale then places + 1 else places + scale) := by
    by_cases h : scale ≤ 0
    · rw [if_pos h, if_neg (by omega)]
    · rw [if_neg h, if_pos (by omega)]
  rw [hcnt]
  obtain ⟨c, hce⟩ : ∃ c : Nat, (if 0 < scale then places + 1 else places + scale) = (c : Int) := ⟨(if 0 < scale then places + 1 else places + scale).toNat, by split <;> omega⟩
  have hc1 : 1 ≤ c := by
    by_cases h : 0 < scale
    · rw [if_pos h] at hce; omega
    · rw [if_neg h] at hce; omega
  have hc2 : scale ≤ c := by
    by_cases h : 0 < scale
    · rw [if_pos h] at hce; omega
    · omega
  rw [hce]
  obtain ⟨l1, l2, l3⟩ := lead_first (e := e) hn1 hn2 hc1
  rw [l1]
  have hp : (if n = 0 then 0 else (firstV n e c).2 - scale) = (if n = 0 then (firstV n e c).2 else (firstV n e c).2 - scale) := by
    by_cases h : n = 0
    · rw [if_pos h, if_pos h, l3 h]
    · rw [if_neg h, if_neg h]
  rw [hp]
  cases expoV x (if n = 0 then (firstV n e c).2 else (firstV n e c).2 - scale) z with
  | none => rfl
  | some tail =>
    dsimp only
    generalize (firstV n e c).1 = A at *
    by_cases h : scale ≤ 0
    · rw [if_pos h, if_neg (by omega)]
      unfold pointV field2V
      have hne : (Txt.mul (Str.ofString "0") (-scale) ++ A ++ tail == Str.ofString "") = false := by
        refine beq_eq_false_iff_ne.mpr fun e => ?_
        have := empty_len.mp e
        rw [PySem.Str.length_append, PySem.Str.length_append] at this
        omega
      rw [if_pos (show (Str.ofString "" == Str.ofString "") = true by decide), hne, if_neg (show ¬ ((false : Bool) = true) by decide)]
      have e0 : Str.ofString "0." = Str.ofString "0" ++ Str.ofString "." := by decide
      have a1 : signV (decide (n < 0)) plus ++ Str.ofString "0" ++ (Str.ofString "." ++ Txt.mul (Str.ofString "0") (-scale) ++ A ++ tail) = signV (decide (n < 0)) plus ++ Str.ofString "0." ++ (Txt.mul (Str.ofString "0") (-scale) ++ A ++ tail) := by
        rw [e0]
        refine str_ext ?_
        simp only [app_list, List.append_assoc]
      have a2 : signV (decide (n < 0)) plus ++ (Str.ofString "." ++ Txt.mul (Str.ofString "0") (-scale) ++ A ++ tail) = signV (decide (n < 0)) plus ++ Str.ofString "" ++ Str.ofString "." ++ (Txt.mul (Str.ofString "0") (-scale) ++ A ++ tail) := by
        refine str_ext ?_
        simp only [app_list, List.append_assoc, show (Str.ofString "").cps.toList = [] by decide, List.nil_append]
      rw [a1, a2]
      have e : ((signV (decide (n < 0)) plus ++ Str.ofString "0." ++ (Txt.mul (Str.ofString "0") (-scale) ++ A ++ tail)).length : Int) = (((signV (decide (n < 0)) plus).length + (Str.ofString "0.").length + (Txt.mul (Str.ofString "0") (-scale) ++ A ++ tail).length : Nat) : Int) := by
        rw [PySem.Str.length_append, PySem.Str.length_append]
      rw [e]
    · rw [if_neg h, if_pos (by omega)]
      unfold pointV
      have hne : (Txt.slice A none (some scale) == Str.ofString "") = false := by
        refine beq_eq_false_iff_ne.mpr fun e => ?_
        have := empty_len.mp e
        rw [slice_to_len (by omega) (by omega)] at this
        omega
      rw [hne, if_neg (by decide), str_assoc _ (Txt.slice A (some scale) none) tail]

theorem exp_none {x : Str} {n e width places : Int} {z : Option Int} {scale : Int} {plus : Bool} (h : ¬ (-places < scale ∧ scale ≤ places + 1)) : byeV x n e width places z scale plus = none := by
  unfold byeV
  by_cases h1 : -places < scale
  · rw [if_pos h1, if_neg (by omega)]
  · rw [if_neg h1]

/-- edit_general tells the law's own text -/
theorem general_is {n e width places : Int} {z : Option Int} {scale : Int} {plus : Bool} (hn1 : -10 ^ 9 < n) (hn2 : n < 10 ^ 9) (hg : isGenV n e places = false → -places < scale ∧ scale ≤ places + 1) :
    bygV n e width places z scale plus = some (generalV n e width places z scale plus) := by
  unfold bygV generalV
  by_cases h0 : n = 0
  · have hf : isGenV n e places = false := by unfold isGenV; rw [if_pos h0]
    rw [if_pos h0, hf, if_neg (by decide)]
    exact exp_is hn1 hn2 (hg hf).1 (hg hf).2
  · have hgen : isGenV n e places = (decide (0 ≤ ((numText (absI n)).length : Int) + e) && decide (((numText (absI n)).length : Int) + e ≤ places)) := by unfold isGenV; rw [if_neg h0]
    rw [if_neg h0]
    by_cases a : 0 ≤ ((numText (absI n)).length : Int) + e
    · by_cases b : ((numText (absI n)).length : Int) + e ≤ places
      · have ht : isGenV n e places = true := by rw [hgen, decide_eq_true a, decide_eq_true b]; rfl
        rw [if_pos a, if_pos b, if_pos ht]
        unfold bygB genB
        rw [fixed_is hn1 hn2 (by omega)]
      · have hf : isGenV n e places = false := by rw [hgen, decide_eq_false b, Bool.and_false]
        rw [if_pos a, if_neg b, hf, if_neg (by decide)]
        exact exp_is hn1 hn2 (hg hf).1 (hg hf).2
    · have hf : isGenV n e places = false := by rw [hgen, decide_eq_false a, Bool.false_and]
      rw [if_neg a, hf, if_neg (by decide)]
      exact exp_is hn1 hn2 (hg hf).1 (hg hf).2
theorem general_none {n e width places : Int} {z : Option Int} {scale : Int} {plus : Bool} (hf : isGenV n e places = false) (h : ¬ (-places < scale ∧ scale ≤ places + 1)) : bygV n e width places z scale plus = none := by
  unfold bygV
  by_cases h0 : n = 0
  · rw [if_pos h0]; exact exp_none h
  · have hgen : isGenV n e places = (decide (0 ≤ ((numText (absI n)).length : Int) + e) && decide (((numText (absI n)).length : Int) + e ≤ places)) := by unfold isGenV; rw [if_neg h0]
    rw [if_neg h0]
    by_cases a : 0 ≤ ((numText (absI n)).length : Int) + e
    · by_cases b : ((numText (absI n)).length : Int) + e ≤ places
      · rw [hgen, decide_eq_true a, decide_eq_true b] at hf
        cases hf
      · rw [if_pos a, if_neg b]; exact exp_none h
    · rw [if_neg a]; exact exp_none h
theorem fr_back {fs : List Addr} (h : fs = []) {g g' : Heap} {L : Addr} {h' : Heap} {m : Str → Option Value} (T : KtsTurn fs g g') (F : Fr g' L h' m) : Fr g L h' m := by
  subst h
  exact ⟨F.ns, fun b o e => F.keep b o (T.other b o e (by simp)), by rw [← T.size]; exact F.above⟩
theorem news_back {fs : List Addr} (h : fs = []) {g g' : Heap} {L : Addr} {h' : Heap} {news : Led} (T : KtsTurn fs g g') (N : News g' L h' news) : News g L h' news := by
  subst h
  refine fun p hp => ⟨(N p hp).1, (N p hp).2.1, ?_⟩
  cases q : g.get? p.1 with
  | none => rfl
  | some o => have z := T.other _ _ q (by simp); rw [(N p hp).2.2] at z; cases z
theorem g_ff (w : World) : nsIn (hd.heap_39 w.params) mainGlobals "FormatFault" = some (some (.ref 51)) := by kernel_rfl
theorem q_ff (w : World) : ktsIn (hd.heap_39 w.params) 51 "BaseException" = true := by kernel_rfl
/-- the law's frame: the first -/
structure Ctx.Low (c : Ctx) : Prop where
  cl : c.cl = []
  outer : c.outer = []
  base : c.base = c.h₀
  A : ∀ cs, c.A cs = c.A₀.deeper (envOf c.cn cs c.L c.a c.ccd)
section
variable {c : Ctx} {cs : Scope} {md : Loc} {news : Led} {need : Nat} {pos np xp ap hp qp : Pos} {k : Nat} {rest : List Stmt} {R : Value → Led → Prop} {J : Loc → Led → Prop}
theorem Ex.tryHear (ok : c.Ok cs need) (lo : c.Low) {x : Str} {o : Option Str} {K : Nat} {body : List Stmt} (hx : cs.names.lookup x = some .local) (hff : cs.names.lookup ("FormatFault" : Str) = some .globalImplicit)
    (hb : (∃ y, o = some y ∧ Ex c cs md news body R fun md' nw => md' = (x, .str y K) :: md ∧ nw = news) ∨ (o = none ∧ ExX c cs md news body)) (hr : Ex c cs ((x, oD o K) :: md) news rest R J) :
    Ex c cs md news (.Try body [.ExceptHandler (some (.Name "FormatFault" np)) none [.Assign [.Name x xp] (.Constant .none k pos) ap] hp] [] [] qp :: rest) R J := by
  rcases hb with ⟨y, rfl, hb⟩ | ⟨rfl, hb⟩
  · exact Ex.tryNo hb fun md' nw ⟨e1, e2⟩ => by subst e1; subst e2; exact hr
  · intro m h t Q E hm F N kr kj
    obtain ⟨w, mean, mg, mb, dp, un, gd, cn, L, a, ccd, cl, outer, A₀, base, h₀, g, d, os⟩ := c
    obtain ⟨e1, e2, e3, e4⟩ := lo
    dsimp only at e1 e2 e3 e4
    subst e1; subst e2; subst e3
    have hA := e4 cs
    refine wpAny_execs_cons (wpAny_mono (E := fun _ _ => False) (wpAny_Try_except (hb m h t _ _ hm F N fun g2 e t' xs h' tk' Fg Rr U => ?_)) (fun _ _ z => z) fun _ _ z => z.elim)
    rw [hA]
    refine caught_SO0 Rr Fg ok.B U ok.X ok.T ktsDicts_nil KtsTurn.refl (g_ff w) (q_ff w) ?_ ok.hk (by unfold Env.kindOf; exact hff) (by decide) ?_
    · intro h2 g' n₂ T' F' N₂ G' N' K' X' P' D'
      have F2 := fr_back rfl T' F'
      have N2 := news_back rfl T' N'
      refine wpAny_execs_cons (wpAny_Assign_Name (wpAny_Constant_none (storeX_L F2 N2 (fun h3 F3 N3 => wpAny_execs_nil ?_) ok.hk (by unfold Env.kindOf; exact hx))) ?_)
      · have := hr _ h3 (tk' + 1) Q E (hm.set rfl) F3 N3 kr kj
        rw [hA] at this; dsimp only at this ⊢; exact this
      · rfl
    · passes_own
end
theorem bye_some {x : Str} {n e width places : Int} {z : Option Int} {scale : Int} {plus : Bool} {y : Str} (hn1 : -10 ^ 9 < n) (hn2 : n < 10 ^ 9) (h : byeV x n e width places z scale plus = some y) : -places < scale ∧ scale ≤ places + 1 ∧ y = expV x n e width places z scale plus := by
  by_cases hv : -places < scale ∧ scale ≤ places + 1
  · rw [exp_is hn1 hn2 hv.1 hv.2] at h; exact ⟨hv.1, hv.2, (Option.some.inj h).symm⟩
  · rw [exp_none hv] at h; cases h
theorem bye_bad {x : Str} {n e width places : Int} {z : Option Int} {scale : Int} {plus : Bool} (hn1 : -10 ^ 9 < n) (hn2 : n < 10 ^ 9) (h : byeV x n e width places z scale plus = none) : ¬ (-places < scale ∧ scale ≤ places + 1) := fun hv => by
  rw [exp_is hn1 hn2 hv.1 hv.2] at h; cases h
theorem byg_some {n e width places : Int} {z : Option Int} {scale : Int} {plus : Bool} {y : Str} (hn1 : -10 ^ 9 < n) (hn2 : n < 10 ^ 9) (h : bygV n e width places z scale plus = some y) : (isGenV n e places = false → -places < scale ∧ scale ≤ places + 1) ∧ y = generalV n e width places z scale plus := by
  by_cases hg : isGenV n e places = false → -places < scale ∧ scale ≤ places + 1
  · rw [general_is hn1 hn2 hg] at h; exact ⟨hg, (Option.some.inj h).symm⟩
  · have hf : isGenV n e places = false := by
      cases hb : isGenV n e places with
      | false => rfl
      | true => exact absurd (fun q => by rw [hb] at q; cases q) hg
    rw [general_none hf (fun q => hg fun _ => q)] at h; cases h
theorem byg_bad {n e width places : Int} {z : Option Int} {scale : Int} {plus : Bool} (hn1 : -10 ^ 9 < n) (hn2 : n < 10 ^ 9) (h : bygV n e width places z scale plus = none) : isGenV n e places = false ∧ ¬ (-places < scale ∧ scale ≤ places + 1) := by
  by_cases hg : isGenV n e places = false → -places < scale ∧ scale ≤ places + 1
  · rw [general_is hn1 hn2 hg] at h; cases h
  · have hf : isGenV n e places = false := by
      cases hb : isGenV n e places with
      | false => rfl
      | true => exact absurd (fun q => by rw [hb] at q; cases q) hg
    exact ⟨hf, fun q => hg fun _ => q⟩
section
variable {x y : Str} {va : Addr} {n e width places scale : Int} {plus : Bool} {z : Option Int} {k : Nat} {t1 t2 : Tok} {news : Led}
theorem fixed2_def (hp : 0 ≤ places) (hv : (va, tupOf #[.int n t1, .int e t2] k) ∈ news) (hn1 : -999999999 ≤ n) (hn2 : n ≤ 999999999) (he1 : -60 ≤ e) (he2 : e ≤ 60) :
    Def 95 [.val (.ref va), .int width 0 20000, .int places 0 10000, .int scale (-60) 4400, .bool plus] news 3 (Ret (.str (byfV n e width places scale plus) 20000) news) := by
  rw [← fixed_is (by omega) (by omega) hp]
  exact fixed_def hv hn1 hn2 he1 he2
theorem exp2_def (h : byeV x n e width places z scale plus = some y) (hv : (va, tupOf #[.int n t1, .int e t2] k) ∈ news) (hn1 : -999999999 ≤ n) (hn2 : n ≤ 999999999) (he1 : -60 ≤ e) (he2 : e ≤ 60) :
    Def 116 [.str x 1, .val (.ref va), .int width 0 20000, .int places 0 10000, zD z, .int scale (-60) 4400, .bool plus] news 4 (Ret (.str y 20000) news) := by
  obtain ⟨h1, h2, rfl⟩ := bye_some (by omega) (by omega) h
  exact exp_def hv hn1 hn2 he1 he2 h1 h2
theorem general2_def (h : bygV n e width places z scale plus = some y) (hv : (va, tupOf #[.int n t1, .int e t2] k) ∈ news) (hn1 : -999999999 ≤ n) (hn2 : n ≤ 999999999) (he1 : -60 ≤ e) (he2 : e ≤ 60) :
    Def 130 [.val (.ref va), .int width 0 20000, .int places 0 10000, zD z, .int scale (-60) 4400, .bool plus] news 5 (Ret (.str y 20000) news) := by
  obtain ⟨h1, rfl⟩ := byg_some (by omega) (by omega) h
  cases z with
  | none => exact general_def0 hv hn1 hn2 he1 he2 (fun q => (h1 q).1) fun q => (h1 q).2
  | some s => exact general_def1 hv hn1 hn2 he1 he2 (fun q => (h1 q).1) fun q => (h1 q).2
theorem byg_def (hv : (va, tupOf #[.int n t1, .int e t2] k) ∈ news) (hn1 : -999999999 ≤ n) (hn2 : n ≤ 999999999) (he1 : -60 ≤ e) (he2 : e ≤ 60) :
    Def 214 [.val (.ref va), .int width 0 20000, .int places 0 10000, zD z, .int scale (-60) 4400, .bool plus] news 5 (Ret (oD (bygV n e width places z scale plus) 20000) news) := by
  cases z with
  | none => exact byg_def0 hv hn1 hn2 he1 he2
  | some s => exact byg_def1 hv hn1 hn2 he1 he2
theorem exp3_rdef {v d : VD} (hn1 : -999999999 ≤ n) (hn2 : n ≤ 999999999) (h : byeV x n e width places z scale plus = none) : RDef 116 [.str x 1, v, .int width 0 20000, .int places 0 10000, d, .int scale (-60) 4400, .bool plus] news 160 :=
  exp_rdef (bye_bad (by omega) (by omega) h)
theorem general3_rdef {d : VD} (h : bygV n e width places z scale plus = none) (hv : (va, tupOf #[.int n t1, .int e t2] k) ∈ news) (hn1 : -999999999 ≤ n) (hn2 : n ≤ 999999999) (he1 : -60 ≤ e) (he2 : e ≤ 60) :
    RDef 130 [.val (.ref va), .int width 0 20000, .int places 0 10000, d, .int scale (-60) 4400, .bool plus] news 170 :=
  general_rdef hv hn1 hn2 he1 he2 (byg_bad (by omega) (by omega) h).1 (byg_bad (by omega) (by omega) h).2
end
section
variable {c : Ctx} {cs : Scope} {md : Loc} {news : Led} {need : Nat} {pos np xp ap hp : Pos} {k : Nat} {rest : List Stmt} {R : Value → Led → Prop} {J : Loc → Led → Prop}
theorem Ex.fact {x : Str} {a lo hi : Int} (hl : md.lookup x = some (.int a lo hi)) {ss : List Stmt} (h : lo ≤ a → a ≤ hi → Ex c cs md news ss R J) : Ex c cs md news ss R J := fun m hp t Q E hm F N kr kj => by
  obtain ⟨v, _, _, h1, h2⟩ := hm _ _ hl
  exact h h1 h2 m hp t Q E hm F N kr kj
theorem o_neO {o : Option Str} {K L : Nat} {u v : Value} {h : Heap} {t : Nat} {Q E : Value → Shared → Prop} (p : (oD o K).Has u) (q : (oD o L).Has v) (k' : Q (.bool false) (c.st h t)) : wpAny c.M (c.A cs) (compareOp .NotEq u v) Q E (c.st h t) := by
  cases o with
  | none => cases p; cases q; exact EqNone.ne_none_none k'
  | some y =>
    obtain ⟨⟨_, rfl⟩, _⟩ := p; obtain ⟨⟨_, rfl⟩, _⟩ := q
    refine ne_str ?_
    rw [show (y != y) = false by simp]
    exact k'
/-- a branch that stores one name, the same kind on every way -/
theorem Ex.into (ok : c.Ok cs need) {x : Str} {e : Expr} {d : VD} {D : VD → Prop} (he : Ev c cs md news e d) (hD : D d) (hx : cs.names.lookup x = some .local) (hsw : swapsWith e (some (.Name x np)) pos.line (c.env cs) = pure false) :
    Ex c cs md news [.Assign [.Name x np] e pos] R fun md' nw => ∃ d, D d ∧ md' = (x, d) :: md ∧ nw = news :=
  Ex.set ok he hx hsw (Ex.nil ⟨d, hD, rfl, rfl⟩)
end
theorem run9 {w : World} {mean : ExcName → Option Value} {mg mb : Str → Option Value} {cn : Str} {cs : Scope} {L a : Addr} {ccd : Value} {h₀ : Heap} {s : Shared} {md : Loc} {nw : Led} {body : List Stmt} {J : Loc → Led → Prop} {m : Str → Option Value} {Q : Flow → Shared → Prop} {E : Value → Shared → Prop}
    (T : Top lookAt (looseW lookAt []) mean mg mb h₀) (X : (hd.heap_39 w.params).In h₀) (hk : cs.kind = .function) (F : Fr h₀ L s.heap m) (N : News h₀ L s.heap nw) (hm : Fits m md)
    (hex : ∀ c : Ctx, c.Ok cs 180 → c.Low → Ex c cs md nw body (fun _ _ => False) J)
    (hj : ∀ md' nw' m' h' t', J md' nw' → Fits m' md' → Fr h₀ L h' m' → News h₀ L h' nw' → Q .next { s with heap := h', toks := t' }) :
    wpAny (model PySem.Challenge.rw_pq0351_01.row.prog w) (callerA.deeper (envOf cn cs L a ccd)) (execs body (envOf cn cs L a ccd)) Q E s := by
  obtain ⟨h, g, d, t, os⟩ := s
  exact hex ⟨w, mean, mg, mb, (callerA.deeper (envOf cn cs L a ccd)).depth, (callerA.deeper (envOf cn cs L a ccd)).units, (callerA.deeper (envOf cn cs L a ccd)).guards, cn, L, a, ccd, [], [], callerA, h₀, h₀, g, d, os⟩
    ⟨below_caller h₀, X, T, hk, Nat.le_of_ble_eq_true rfl, Nat.le_of_ble_eq_true rfl⟩ ⟨rfl, rfl, rfl, fun _ => rfl⟩ m h t Q E hm F N (fun _ _ _ _ _ z => z.elim) hj
section
variable {prog : Program} {w : World} {A : Around} {E : Value → Shared → Prop} {h₀ : Heap} {env : Env} {x : Str} {body : List Stmt} {Q : Flow → Shared → Prop} {s : Shared} {I : Addr} {a : Int} {n : Nat}
theorem unr_mono {L : Addr} {s₁ : Shared} {it : Obj} {r r' : (Str → Option Value) → Led → Prop} (h : ∀ m news, r m news → r' m news) {f : Flow} {s₂ : Shared} (u : UnrPost h₀ L s₁ I it r Q f s₂) : UnrPost h₀ L s₁ I it r' Q f s₂ := by
  have key : UnrEnd h₀ L s₁ I it r s₂ → UnrEnd h₀ L s₁ I it r' s₂ := fun ⟨h', tk, m', news', e, F, N, off, q⟩ => ⟨h', tk, m', news', e, F, N, off, h _ _ q⟩
  cases f <;> first | exact u | exact key u
theorem rr_ind (Inv : Nat → (Str → Option Value) → Led → Prop)
    (fin : ∀ m news h tk, Inv n m news → Fr h₀ env.locals h m → News h₀ env.locals h news → Q .next { s with heap := h, toks := tk })
    (step : ∀ i m news t h tk, i < n → Inv i m news → Fr h₀ env.locals h (fun y => if y = x then some (.int (a + (i : Int)) t) else m y) →
      News h₀ env.locals h ((I, itR (a + ((i + 1 : Nat) : Int)) ((n : Int) - ((i + 1 : Nat) : Int))) :: news) →
      wpAny (model prog w) A (execs body env) (UnrPost h₀ env.locals { s with heap := h, toks := tk } I (itR (a + ((i + 1 : Nat) : Int)) ((n : Int) - ((i + 1 : Nat) : Int))) (Inv (i + 1)) Q) E { s with heap := h, toks := tk }) :
    ∀ k i m news, i + k = n → Inv i m news → RangeRest prog w A E h₀ env x body Q s I a n k i m news := by
  intro k
  induction k with
  | zero => intro i m news e inv h tk F N; exact fin m news h tk (by rw [← e]; exact inv) F N
  | succ k ih => intro i m news e inv t h tk F N; exact wpAny_mono (step i m news t h tk (by omega) inv F N) (fun f s₂ u => unr_mono (fun m' news' q => ih (i + 1) m' news' (by omega) q) u) fun _ _ z => z
end
theorem pen_ne {h₀ h : Heap} {L a D : Addr} {k : Int} {t : Tok} {ws : List Value} {ns : List Int} (hI : IntsAre ws ns) (N : News h₀ L h [(a, W.listOf #[.ref D, .int k t] 0), (D, W.listOf ws.toArray 0)]) : D ≠ a := by
  rintro rfl
  have h1 := (N _ (.head _)).1
  have h2 := (N _ (.tail _ (.head _))).1
  have h3 : (Data.seq #[.ref D, .int k t] 0) = Data.seq ws.toArray 0 := congrArg Obj.data (Option.some.inj (h1.symm.trans h2))
  injection h3 with h4 _
  have h5 : [.ref D, .int k t] = ws := congrArg Array.toList h4
  rw [← h5] at hI
  cases hI
def Inv (pen D : Addr) (ws : List Value) (i : Nat) (m : Str → Option Value) (news : Led) : Prop :=
  m "pen" = some (.ref pen) ∧ ∃ c t, 0 ≤ c ∧ c ≤ 30 * (i : Int) ∧ news = penL pen D c t [(D, W.listOf ws.toArray 0)]
theorem ty_ne {a b : String} (h : a ≠ b) : Value.type a ≠ Value.type b := fun q => h (Value.type.inj q)
theorem len_take {ws : List Value} {ns : List Int} (_h : IntsAre ws (List.take 60 ns)) : (List.take 60 ns).length ≤ 60 := List.length_take_le _ _
theorem turn_end {h₀ h' : Heap} {L I pen D : Addr} {it : Obj} {ws : List Value} {i : Nat} {s₁ : Shared} {tk : Nat} {m' : Str → Option Value} {all : Led} {k : Int} {t : Tok}
    (F : Fr h₀ L h' m') (N : News h₀ L h' all) (hpen : m' "pen" = some (.ref pen)) (hI : (I, it) ∈ all) (hp : (pen, W.listOf #[.ref D, .int k t] 0) ∈ all) (hD : (D, W.listOf ws.toArray 0) ∈ all)
    (hit : it.cls = .type "range_iterator") (h0 : 0 ≤ k) (h1 : k ≤ 30 * ((i + 1 : Nat) : Int)) : UnrEnd h₀ L s₁ I it (Inv pen D ws (i + 1)) { s₁ with heap := h', toks := tk } :=
  UnrEnd.intro2 F N (penL pen D k t [(D, W.listOf ws.toArray 0)]) hI ⟨hp, hD, trivial⟩ ⟨by rw [hit]; exact ty_ne (by decide), by rw [hit]; exact ty_ne (by decide), trivial⟩ ⟨hpen, k, t, h0, h1, rfl⟩
def Hold (p : Prop) : Prop := p
theorem iter9 {prog : Program} {w : World} {A : Around} {E : Value → Shared → Prop} {s : Shared} {env : Env} {h₀ : Heap} {x : Str} {body : List Stmt} {Q : Flow → Shared → Prop} {r : Addr} {t₀ u₀ v₀ : Tok} {m₀ : Str → Option Value} {news : Led}
    (hh : A.handled = none) (hr : IsRange s.heap r 0 4 1 t₀ u₀ v₀) (F : Fr h₀ env.locals s.heap m₀) (N : News h₀ env.locals s.heap news)
    (rest₀ : Hold (∀ I : Addr, (∀ p ∈ news, p.1 < I) → RangeRest prog w A E h₀ env x body Q s I 0 4 4 0 m₀ news)) :
    wpAny (model prog w) A (pyIter (.ref r)) (fun it s₂ => LoopAtV prog w A h₀ env x body Q E it s₂) E s :=
  iter_rangeUnr (n := 4) hh hr (by rfl) (by rfl) F N rest₀
local macro_rules | `(tactic| walk_at "pyIter ref") => `(tactic| (k_here; (with_reducible show wpAny _ _ (pyIter (Value.ref _)) (fun it s₂ => LoopAtV _ _ _ _ _ _ _ _ _ it s₂) _ _); (with_reducible rename IsRange _ _ _ _ _ _ _ _ => kR9); k_dflt (refine iter9 (by rfl) kR9 (by k_asm) (by k_asm) ?_)))
theorem fits1 {m : Str → Option Value} {x : Str} {v : Value} (h : m x = some v) : Fits m [(x, .val v)] := fun y d hy => by
  rw [List.lookup_cons] at hy
  cases q : y == x with
  | true => rw [q] at hy; cases hy; exact ⟨v, by rw [beq_iff_eq.mp q]; exact h, rfl⟩
  | false => rw [q] at hy; cases hy
section
variable {c : Ctx} {cs : Scope} {md : Loc} {news : Led} {need : Nat} {p1 p2 p3 p4 p5 p6 : Pos} {k1 k2 : Nat}
theorem Ev.letter (ok : c.Ok cs need) {i : Int} (hl : md.lookup ("sort" : Str) = some (.int i 0 3)) (hx : cs.names.lookup ("sort" : Str) = some .local) (h1 : 0 < i) (h2 : i < 3) :
    Ev c cs md news (.Subscript (.Constant (.str "ED") k1 p1) (.BinOp (.Name "sort" p2) .Sub (.Constant (.int 1) k2 p3) p4) p5) (.str (Txt.item (Str.ofString "ED") (i - 1)) 1) :=
  Ev.item (Ev.cstr (K := 2) (by decide)) (Ev.subI (Ev.name ok hl hx (by decide)) Ev.cint) (by decide) (by omega) (by rw [show (PySem.Str.length (Str.ofString "ED")) = 2 by decide]; omega) (fun _ _ _ => rfl) (fun _ _ _ => rfl)
theorem Ev.sizeOr (ok : c.Ok cs need) {i : Int} {z : Option Int} (hl : md.lookup ("sort" : Str) = some (.int i 0 3)) (hx : cs.names.lookup ("sort" : Str) = some .local) (hz : md.lookup ("size" : Str) = some (zD z)) (hy : cs.names.lookup ("size" : Str) = some .local) :
    Ev c cs md news (.IfExp (.Compare (.Name "sort" p1) [.Eq] [.Constant (.int 1) k1 p2] p3) (.Name "size" p4) (.Constant .none k2 p5) p6) (zD (if i = 1 then z else none)) := by
  refine Ev.ifexp (Et.cmp (Ev.name ok hl hx (by decide)) Ev.cint (fun _ _ _ _ _ _ p q k => o_eq p q k) rfl) (fun h => ?_) fun h => ?_
  · rw [if_pos (eq_of_beq h)]; exact Ev.name ok hz hy (by decide)
  · rw [if_neg (ne_of_beq_false h)]; exact Ev.cnone
end
theorem two_ints {n e a1 a2 b1 b2 : Int} {vs : List Value} (h : HasL [.int n a1 a2, .int e b1 b2] vs) : ∃ t1 t2, vs = [.int n t1, .int e t2] ∧ a1 ≤ n ∧ n ≤ a2 ∧ b1 ≤ e ∧ e ≤ b2 := by
  cases h with
  | cons p r => cases r with
    | cons q r =>
      cases r
      obtain ⟨⟨t1, rfl⟩, h1, h2⟩ := p
      obtain ⟨⟨t2, rfl⟩, h3, h4⟩ := q
      exact ⟨t1, t2, rfl, h1, h2, h3, h4⟩
theorem step9 {w : World} {mean : ExcName → Option Value} {mg mb : Str → Option Value} {cn : Str} {cs : Scope} {L a pen D I : Addr} {ccd : Value} {h₀ h : Heap} {s : Shared} {tk i : Nat} {it : Obj} {ws : List Value} {ns : List Int} {k : Int} {tc : Tok} {tv : Value} {body : List Stmt} {m : Str → Option Value} {Q : Flow → Shared → Prop} {E : Value → Shared → Prop}
    (T : Top lookAt (looseW lookAt []) mean mg mb h₀) (X : (hd.heap_39 w.params).In h₀) (hk : cs.kind = .function) (F : Fr h₀ L h (fun y => if y = "turn" then some tv else m y)) (N : News h₀ L h ((I, it) :: penL pen D k tc [(D, W.listOf ws.toArray 0)]))
    (hpen : m "pen" = some (.ref pen)) (h0 : 0 ≤ k) (h1 : k ≤ 30 * (i : Int)) (hI : IntsAre ws ns) (hlen : ns.length ≤ 60) (hIp : I ≠ pen) (hDp : D ≠ pen) (hit : it.cls = .type "range_iterator")
    (hex : ∀ c : Ctx, c.Ok cs 180 → c.Low → ∀ rest nw K, PenOk pen D ws rest → PenAt pen D rest K nw → K ≤ 90 → Ex c cs [(("pen" : Str), VD.val (.ref pen))] nw body (fun _ _ => False) fun md' nw' => md'.lookup ("pen" : Str) = some (.val (.ref pen)) ∧ ∃ r, PenAt pen D (r ++ rest) (K + 30) nw') (hi : i < 4) :
    wpAny (model PySem.Challenge.rw_pq0351_01.row.prog w) (callerA.deeper (envOf cn cs L a ccd)) (execs body (envOf cn cs L a ccd)) (UnrPost h₀ (envOf cn cs L a ccd).locals { s with heap := h, toks := tk } I it (Inv pen D ws (i + 1)) Q) E { s with heap := h, toks := tk } := by
  refine run9 T X hk F (swap2 N) (fits1 ((if_neg (by decide)).trans hpen)) (fun c ok lo => hex c ok lo [(I, it), (D, W.listOf ws.toArray 0)] _ (30 * (i : Int)) ⟨⟨ns, hI, hlen⟩, .tail _ (.head _), fun p hp => ?_⟩ ⟨k, tc, h0, h1, rfl⟩ (by omega)) fun md' nw' m' h' t' j hm' F' N' => ?_
  · rcases List.mem_cons.mp hp with rfl | hp
    · exact hIp
    · rw [List.mem_singleton.mp hp]; exact hDp
  · obtain ⟨hl, r, k', tc', k1, k2, rfl⟩ := j
    obtain ⟨v, hv, hh⟩ := hm' _ _ hl
    cases hh
    exact turn_end F' N' hv (.tail _ (List.mem_append_right _ (.head _))) (.head _) (.tail _ (List.mem_append_right _ (.tail _ (.head _)))) hit k1 (by omega)
local macro_rules | `(tactic| walk_at "args") => `(tactic| (refine' EvL.cons (Ev.letter (by assumption) rfl rfl (by omega) (by omega)) (EvL.cons ?v (EvL.cons ?w (EvL.cons ?p (EvL.cons (Ev.sizeOr (by assumption) rfl rfl rfl rfl) ?r (starEach_plain rfl _ _)) (starEach_plain rfl _ _)) (starEach_plain rfl _ _)) (starEach_plain rfl _ _)) (starEach_plain rfl _ _); (case v => walk_at "ev"); (case w => walk_at "evw"); (case p => walk_at "evw"); (case r => walk_at "evl")))
set_option maxHeartbeats 0 in
theorem law_is : PySem.Challenge.rw_pq0351_01.Holds := by
  refine hd ?_
  k_go0
  k_steps
  rename News _ _ _ _ => kN9
  rename IntsAre _ (List.take 60 _) => hI9
  have hDp := pen_ne hI9 kN9
  intro I9 hi9
  have hpI := hi9 _ (List.Mem.head _)
  have hDI := hi9 _ (List.Mem.tail _ (List.Mem.head _))
  dsimp only at hpI hDI
  refine rr_ind (Inv _ _ _) ?fin ?step 4 0 _ _ rfl ⟨by rfl, 0, _, Int.le_refl 0, by decide, rfl⟩
  case fin =>
    intro m news h tk inv F N
    obtain ⟨hpen, c, tc, hc0, hc1, rfl⟩ := inv
    dsimp only [envOf] at F N
    dsimp only
    k_steps
  case step =>
    intro i m news t h tk hi inv F N
    obtain ⟨hpen, c, tc, hc0, hc1, rfl⟩ := inv
    rename Top lookAt _ _ _ _ _ => kT9
    rename Frag.In _ _ => kX9
    refine step9 kT9 kX9 rfl F N hpen hc0 hc1 hI9 (len_take hI9) (Nat.ne_of_gt hpI) hDp rfl ?hex hi
    intro c ok lo rest nw K po hP hK
    refine' Ex.unpackSwG ok [("sort" : Str), ("value" : Str)] (EvTG.pair (P := PenAt _ _ rest (K + 1)) (lo := 0) (hi := 4 - 1) ?a1 (fun nw1 hP1 => EvR.call ok (value_def po (by omega) hP1) (EvL.cons ?b1 EvL.nil (starEach_plain rfl _ _)) ?c1 ?d1 (by decide) rfl rfl rfl rfl) rfl rfl) ?e1 ?f1 rfl rfl ?g1
    case a1 => walk_at "draw"
    case b1 => walk_at "ev"
    case c1 => k_is
    case d1 => k_is
    case e1 =>
      rintro ds nw ⟨_, _, _, _, _, _, rfl, _⟩
      rfl
    case f1 => decide
    rintro ds nw1 ⟨z1, nw2, sort, x, es, vs, rfl, rfl, ⟨n, _, rfl, e, _, rfl, rfl⟩, hv, hx, hP1⟩
    obtain ⟨t1, t2, rfl, hn1, hn2, he1, he2⟩ := two_ints hv
    have po1 : PenOk _ _ _ ((x, tupOf #[.int n t1, .int e t2] 0) :: rest) := ⟨po.1, .tail _ po.2.1, fun p hp => by
      rcases List.mem_cons.mp hp with rfl | hp
      · exact hx
      · exact po.2.2 p hp⟩
    refine Ex.drop ?_
    show Ex c _ [(("sort" : Str), VD.int sort 0 (4 - 1)), (("value" : Str), VD.val (.ref x)), (("pen" : Str), VD.val (.ref _))] nw2 _ _ _
    refine' Ex.unpackG ok [(("width" : Str), _), (("places" : Str), _), (("scale" : Str), _), (("is_plus" : Str), _), (("size" : Str), _)] (EvTG.ofR (EvR.call ok (sizes_def po1 (by omega) hP1) (EvL.cons ?a2 EvL.nil (starEach_plain rfl _ _)) ?b2 ?c2 (by decide) rfl rfl rfl rfl)) rfl ?d2 ?e2 rfl rfl ?f2
    case a2 => walk_at "ev"
    case b2 => k_is
    case c2 => k_is
    case d2 =>
      rintro ds nw ⟨⟨_, _, rfl, _, _, rfl, _, _, rfl, _, _, rfl, _, _, rfl, rfl⟩, _⟩
      rfl
    case e2 => decide
    rintro ds nw ⟨⟨width, _, rfl, places, _, rfl, scale, _, rfl, plus, _, rfl, z, _, rfl, rfl⟩, y, us, hu, hy, hP2⟩
    have hvn : (x, tupOf #[.int n t1, .int e t2] 0) ∈ nw := by
      obtain ⟨_, _, _, _, rfl⟩ := hP2
      exact .tail _ (.tail _ (.head _))
    show Ex c _ [(("size" : Str), zD z), (("is_plus" : Str), VD.bool plus), (("scale" : Str), VD.int scale (-60) 4400), (("places" : Str), VD.int places 0 9998), (("width" : Str), VD.int width 1 9999), (("sort" : Str), VD.int sort 0 3), (("value" : Str), VD.val (.ref x)), (("pen" : Str), VD.val (.ref _))] nw _ _ _
    have hP3 : ∃ r, PenAt _ _ (r ++ rest) (K + 30) nw := ⟨[(y, tupOf us.toArray 0), (x, tupOf #[.int n t1, .int e t2] 0)], hP2.le (by omega)⟩
    clear hP2 hP1 po1 hP po hu hv hx
    refine Ex.fact (x := "sort") rfl fun hs0 hs3 => ?_
    refine Ex.fact (x := "places") rfl fun hp0 _ => ?_
    refine' Ex.ite (J1 := fun md' nw' => ∃ d, (∃ o, d = oD o 20000 ∧ ((sort = 0 ∧ o = some (byfV n e width places scale plus)) ∨ (0 < sort ∧ sort < 3 ∧ o = byeV (Txt.item (Str.ofString "ED") (sort - 1)) n e width places (if sort = 1 then z else none) scale plus) ∨ (3 ≤ sort ∧ o = bygV n e width places z scale plus))) ∧ md' = (("due" : Str), d) :: [(("size" : Str), zD z), (("is_plus" : Str), VD.bool plus), (("scale" : Str), VD.int scale (-60) 4400), (("places" : Str), VD.int places 0 9998), (("width" : Str), VD.int width 1 9999), (("sort" : Str), VD.int sort 0 3), (("value" : Str), VD.val (.ref x)), (("pen" : Str), VD.val (.ref _))] ∧ nw' = nw) ?t1 ?p1 ?q1 ?r1
    case t1 => walk_at "et"
    case p1 =>
      walk_at "fact"; intro h
      refine' Ex.into ok (Ev.call ok (byf_def hvn hn1 hn2 he1 he2) ?a3 ?b3 ?c3 (by decide) rfl rfl rfl rfl) ⟨some _, rfl, .inl ⟨h, rfl⟩⟩ rfl rfl
      case a3 => walk_at "evl"
      case b3 => k_is
      case c3 => k_is
    case q1 =>
      walk_at "fact"; intro h
      refine' Ex.ite ?t2 ?p2 ?q2 fun _ _ j => Ex.nil j
      case t2 => walk_at "et"
      case p2 =>
        walk_at "fact"; intro h2
        refine' Ex.into ok (Ev.call ok (bye_def (x := Txt.item (Str.ofString "ED") (sort - 1)) (z := if sort = 1 then z else none) hvn hn1 hn2 he1 he2) ?a4 ?b4 ?c4 (by decide) rfl rfl rfl rfl) ⟨_, rfl, .inr (.inl ⟨by omega, h2, rfl⟩)⟩ rfl rfl
        case a4 => walk_at "args"
        case b4 => k_is
        case c4 => k_is
      case q2 =>
        walk_at "fact"; intro h2
        refine' Ex.into ok (Ev.call ok (byg_def hvn hn1 hn2 he1 he2) ?a5 ?b5 ?c5 (by decide) rfl rfl rfl rfl) ⟨_, rfl, .inr (.inr ⟨by omega, rfl⟩)⟩ rfl rfl
        case a5 => walk_at "evl"
        case b5 => k_is
        case c5 => k_is
    rintro _ _ ⟨_, ⟨o, rfl, ho⟩, rfl, rfl⟩
    refine' Ex.leave (Et.cmp (b := false) (p := oD (some (byfV n e width places scale plus)) 20000) (q := oD (some (byfV n e width places scale plus)) 20000) (Ev.call ok (fixed2_def hp0 hvn hn1 hn2 he1 he2) ?a6 ?b6 ?c6 (by decide) rfl rfl rfl rfl) (Ev.call ok (byf_def hvn hn1 hn2 he1 he2) ?d6 ?e6 ?f6 (by decide) rfl rfl rfl rfl) (fun _ _ _ _ _ _ p q k => o_neO p q k) rfl) (fun h => nomatch h) fun _ => ?_
    case a6 => walk_at "evl"
    case d6 => walk_at "evl"
    case b6 => k_is
    case c6 => k_is
    case e6 => k_is
    case f6 => k_is
    with_reducible refine' Ex.tryHear ok lo (o := o) (K := 20000) ?xC ?fC ?hb ?hr
    case xC => rfl
    case fC => rfl
    case hr =>
      with_reducible refine' Ex.leave (b := false) ?tC ?pC ?qC
      case pC => exact fun h => nomatch h
      case qC => exact fun _ => Ex.nil ⟨rfl, hP3⟩
      case tC =>
        with_reducible refine' Et.cmp (p := oD o 20000) (q := oD o 20000) ?lC ?rC ?oC ?mC
        case lC => walk_at "ev"
        case rC => walk_at "ev"
        case oC => exact fun _ _ _ _ _ _ p q k => o_neO p q k
        case mC => rfl
    rcases ho with ⟨h0, rfl⟩ | ⟨h1, h2, ho⟩ | ⟨h3, ho⟩
    · refine' .inl ⟨_, rfl, Ex.yes ?t7 (beq_iff_eq.mpr h0) (Ex.set ok (Ev.call ok (fixed2_def hp0 hvn hn1 hn2 he1 he2) ?a7 ?b7 ?c7 (by decide) rfl rfl rfl rfl) rfl rfl (Ex.nil ⟨rfl, rfl⟩)) fun _ _ j => Ex.nil j⟩
      case t7 => walk_at "et"
      case a7 => walk_at "evl"
      case b7 => k_is
      case c7 => k_is
    · have hs : (sort == 0) = false := beq_false_of_ne (by omega)
      cases o with
      | some y =>
        refine' .inl ⟨_, rfl, Ex.no ?t8 hs (Ex.yes ?u8 (decide_eq_true h2) (Ex.set ok (Ev.call ok (exp2_def ho.symm hvn hn1 hn2 he1 he2) ?a8 ?b8 ?c8 (by decide) rfl rfl rfl rfl) rfl rfl (Ex.nil ⟨rfl, rfl⟩)) fun _ _ j => Ex.nil j) fun _ _ j => Ex.nil j⟩
        case t8 => walk_at "et"
        case u8 => walk_at "et"
        case a8 => walk_at "args"
        case b8 => k_is
        case c8 => k_is
      | none =>
        refine' .inr ⟨rfl, ExX.ifF ?t9 hs (ExX.ifT ?u9 (decide_eq_true h2) (ExX.set (EvX.call ok (exp3_rdef (v := .val (.ref x)) (d := zD (if sort = 1 then z else none)) hn1 hn2 ho.symm) ?a9 ?b9 ?c9 (by decide) rfl rfl rfl rfl) rfl))⟩
        case t9 => walk_at "et"
        case u9 => walk_at "et"
        case a9 => walk_at "args"
        case b9 => k_is
        case c9 => k_is
    · have hs : (sort == 0) = false := beq_false_of_ne (by omega)
      have h2 : decide (sort < 3) = false := decide_eq_false (by omega)
      cases o with
      | some y =>
        refine' .inl ⟨_, rfl, Ex.no ?tA hs (Ex.no ?uA h2 (Ex.set ok (Ev.call ok (general2_def ho.symm hvn hn1 hn2 he1 he2) ?aA ?bA ?cA (by decide) rfl rfl rfl rfl) rfl rfl (Ex.nil ⟨rfl, rfl⟩)) fun _ _ j => Ex.nil j) fun _ _ j => Ex.nil j⟩
        case tA => walk_at "et"
        case uA => walk_at "et"
        case aA => walk_at "evl"
        case bA => k_is
        case cA => k_is
      | none =>
        refine' .inr ⟨rfl, ExX.ifF ?tB hs (ExX.ifF ?uB h2 (ExX.set (EvX.call ok (general3_rdef (d := zD z) ho.symm hvn hn1 hn2 he1 he2) ?aB ?bB ?cB (by decide) rfl rfl rfl rfl) rfl))⟩
        case tB => walk_at "et"
        case uB => walk_at "et"
        case aB => walk_at "evl"
        case bB => k_is
        case cB => k_is
end Mine

theorem PySem.Challenge.cw_pq0351_01_holds : PySem.Challenge.rw_pq0351_01.Holds :=
  Mine.law_is
