import PyProof.Rows.All
import Wide.All
import OpenK.AllK
import Wide.FinOn
import PySem.Challenge.RW_rg0146_01

open PySem PySem.W PyProof.Rows PySem.Calls
set_option Elab.async false
set_option maxRecDepth 100000
set_option maxHeartbeats 8000000
set_option rowWalk.seconds 0
namespace Mine
theorem fresh_HD : True := by
  first | row_walk | exact True.intro
section
/-- a light head: it is asked for the written heap (kx.heap_1) alone -/
theorem light (H : Hook) {P : Prop} (_hw : True) (hc : H.val = H.val ∧ P) : P := hc.2
local macro_rules | `(tactic| o_head $H) => `(tactic| refine light $H ?hw ?hc)
local macro_rules | `(tactic| w_witness2) => `(tactic| exact True.intro)
open_top kx for (PySem.Challenge.rw_rg0146_01.row)
end
def pick : List Bool → List Stmt → List Stmt
  | true :: m, a :: l => a :: pick m l
  | false :: m, _ :: l => pick m l
  | _, _ => []
/-- the view: the rows of the text that stay as they are written -/
noncomputable def vw : Program := (fun (b : List Stmt) (_ : pick [false, true, true, true, true, true, true, true, false, true, true, false, true, true, true, true, true, true, true, true, true, true, true, true, true, true, false, true, true, true, true, false, true, true, true, true, true, true] PySem.Challenge.pw_rg0146_01.main.body = b) => ({ PySem.Challenge.pw_rg0146_01 with main := { PySem.Challenge.pw_rg0146_01.main with body := b } } : Program)) _
  (by dsimp only [pick, PySem.Challenge.pw_rg0146_01])
end Mine
namespace Mine
theorem fresh_C0 : True := by
  first | row_walk | exact True.intro
def PureC (w : World) (f : Addr) (d : Nat) (vs : List Value) (R : Value → Prop) : Prop :=
  ∀ (mean : ExcName → Option Value) (mg mb : Str → Option Value) (dp un : Nat) (gd : Option (List Code)) (cn : Str) (cs : Scope) (a : Addr) (ccd : Value) (cl : List (Str × Addr)) (outer : List Env) (A₀ : Around) (base h₀ : Heap) (L : Addr) (m : Str → Option Value) (news : List (Addr × Obj)) (s : Shared) (Q E : Value → Shared → Prop),
    Below A₀ base outer h₀ → Fr h₀ L s.heap m → (kx.heap_1 w.params).In h₀ → News h₀ L s.heap news → Top vw (looseW vw [PySem.Str.ofString "GateloomError", PySem.Str.ofString "substitute"]) mean mg mb h₀ → cs.kind = .function → dp + d < recursionLimit → un + 8 * d < cLine →
    (∀ r h' tk', R r → Fr h₀ L h' m → News h₀ L h' news → Q r { s with heap := h', toks := tk' }) →
    wpAny (model PySem.Challenge.rw_rg0146_01.row.prog w) (ktrTop dp un gd cn cs L a ccd cl outer) (call (.ref f) vs) Q E s
end Mine
namespace Mine
theorem fresh_C1 : True := by
  first | row_walk | exact True.intro
/-- the machine's word of one sign -/
def isNC (c : Str) : Bool :=
  c == Str.ofString "_" || (c == Str.ofString "$" || ((!decide (c.cps.toList < (Str.ofString "0").cps.toList) && !decide ((Str.ofString "9").cps.toList < c.cps.toList)) ||
  ((!decide (c.cps.toList < (Str.ofString "a").cps.toList) && !decide ((Str.ofString "z").cps.toList < c.cps.toList)) ||
   (!decide (c.cps.toList < (Str.ofString "A").cps.toList) && !decide ((Str.ofString "Z").cps.toList < c.cps.toList)))))
theorem is_name_char_c (w : World) (c : Str) (t : Tok) : PureC w 103 1 [.str c t] (fun r => r = .bool (isNC c)) := by
  unfold PureC
  k_with_none
  k_fill
  intro mean mg mb dp un gd cn cs a ccd cl outer A₀ base h₀ L m news s Q E B F X N T hk hd hu hret
  refine wpAny_call ?_
  k_dflt ktr_enter
  k_steps
  all_goals (refine hret _ _ _ ?_ (by k_asm) (by k_asm))
  all_goals (unfold isNC; simp only [*]; simp)
theorem useC {w : World} {f : Addr} {d : Nat} {vs : List Value} {R : Value → Prop} (C : PureC w f d vs R)
  {mean : ExcName → Option Value} {mg mb : Str → Option Value} {dp un : Nat} {gd : Option (List Code)} {cn : Str} {cs : Scope} {a : Addr} {ccd : Value} {cl : List (Str × Addr)} {outer : List Env} {A₀ : Around} {base h₀ : Heap} {L : Addr} {m : Str → Option Value} {news : List (Addr × Obj)} {s : Shared} {Q E : Value → Shared → Prop}
  (B : Below A₀ base outer h₀) (F : Fr h₀ L s.heap m) (X : (kx.heap_1 w.params).In h₀) (N : News h₀ L s.heap news) (T : Top vw (looseW vw [PySem.Str.ofString "GateloomError", PySem.Str.ofString "substitute"]) mean mg mb h₀) (hk : cs.kind = .function)
  (hd : dp + d < recursionLimit) (hu : un + 8 * d < cLine)
  (ret : ∀ r h' tk', R r → Fr h₀ L h' m → News h₀ L h' news → Q r { s with heap := h', toks := tk' }) :
  wpAny (model PySem.Challenge.rw_rg0146_01.row.prog w) (ktrTop dp un gd cn cs L a ccd cl outer) (call (.ref f) vs) Q E s :=
  C _ _ _ _ _ _ _ _ _ _ _ _ _ _ _ _ _ _ _ _ _ B F X N T hk hd hu ret
end Mine
namespace Mine
theorem fresh_C0b : True := by
  first | row_walk | exact True.intro
/-- as PureC, some objects of the caller's known -/
def PureL (w : World) (f : Addr) (d : Nat) (pre : List (Addr × Obj)) (vs : List Value) (R : Value → Prop) : Prop :=
  ∀ (mean : ExcName → Option Value) (mg mb : Str → Option Value) (dp un : Nat) (gd : Option (List Code)) (cn : Str) (cs : Scope) (a : Addr) (ccd : Value) (cl : List (Str × Addr)) (outer : List Env) (A₀ : Around) (base h₀ : Heap) (L : Addr) (m : Str → Option Value) (news : List (Addr × Obj)) (s : Shared) (Q E : Value → Shared → Prop),
    Below A₀ base outer h₀ → Fr h₀ L s.heap m → (kx.heap_1 w.params).In h₀ → News h₀ L s.heap (pre ++ news) → Top vw (looseW vw [PySem.Str.ofString "GateloomError", PySem.Str.ofString "substitute"]) mean mg mb h₀ → cs.kind = .function → dp + d < recursionLimit → un + 8 * d < cLine →
    (∀ r h' tk', R r → Fr h₀ L h' m → News h₀ L h' (pre ++ news) → Q r { s with heap := h', toks := tk' }) →
    wpAny (model PySem.Challenge.rw_rg0146_01.row.prog w) (ktrTop dp un gd cn cs L a ccd cl outer) (call (.ref f) vs) Q E s
theorem useL {w : World} {f : Addr} {d : Nat} {pre : List (Addr × Obj)} {vs : List Value} {R : Value → Prop} (C : PureL w f d pre vs R)
  {mean : ExcName → Option Value} {mg mb : Str → Option Value} {dp un : Nat} {gd : Option (List Code)} {cn : Str} {cs : Scope} {a : Addr} {ccd : Value} {cl : List (Str × Addr)} {outer : List Env} {A₀ : Around} {base h₀ : Heap} {L : Addr} {m : Str → Option Value} {news : List (Addr × Obj)} {s : Shared} {Q E : Value → Shared → Prop}
  (B : Below A₀ base outer h₀) (F : Fr h₀ L s.heap m) (X : (kx.heap_1 w.params).In h₀) (N : News h₀ L s.heap (pre ++ news)) (T : Top vw (looseW vw [PySem.Str.ofString "GateloomError", PySem.Str.ofString "substitute"]) mean mg mb h₀) (hk : cs.kind = .function)
  (hd : dp + d < recursionLimit) (hu : un + 8 * d < cLine)
  (ret : ∀ r h' tk', R r → Fr h₀ L h' m → News h₀ L h' (pre ++ news) → Q r { s with heap := h', toks := tk' }) :
  wpAny (model PySem.Challenge.rw_rg0146_01.row.prog w) (ktrTop dp un gd cn cs L a ccd cl outer) (call (.ref f) vs) Q E s :=
  C _ _ _ _ _ _ _ _ _ _ _ _ _ _ _ _ _ _ _ _ _ B F X N T hk hd hu ret
end Mine
namespace Mine
theorem fresh_P0 : True := by
  first | row_walk | exact True.intro
/-- a name's sign -/
def ncC (c : Nat) : Bool := c == 95 || c == 36 || (decide (48 ≤ c) && decide (c ≤ 57)) || (decide (97 ≤ c) && decide (c ≤ 122)) || (decide (65 ≤ c) && decide (c ≤ 90))
def ncLen (l : List Nat) : Nat := (l.takeWhile ncC).length
def rowLen (l : List Nat) : Nat := (l.takeWhile (· != 10)).length
def blC (c : Nat) : Bool := c == 32 || c == 9 || c == 13
def blLen (l : List Nat) : Nat := (l.takeWhile blC).length
def tx (x : Str) : List Nat := x.cps.toList
theorem tx_len (x : Str) : (tx x).length = x.length := by unfold tx Str.length; simp
theorem tx_inj {x y : Str} (h : tx x = tx y) : x = y := by
  obtain ⟨⟨a⟩⟩ := x
  obtain ⟨⟨b⟩⟩ := y
  unfold tx at h
  simp at h
  rw [h]
theorem idx_clip (i j n : Nat) : Builtin.Str.strSliceIndices (some (i : Int)) (some (j : Int)) 1 n = Builtin.Str.strSliceIndices (some ((min i n : Nat) : Int)) (some ((min j n : Nat) : Int)) 1 n := by
  have h1 : ¬ ((i : Int) < 0) := by omega
  have h2 : ¬ ((j : Int) < 0) := by omega
  have h3 : ¬ (((min i n : Nat) : Int) < 0) := by omega
  have h4 : ¬ (((min j n : Nat) : Int) < 0) := by omega
  have e1 : max (0 : Int) (min (i : Int) (n : Int)) = max (0 : Int) (min ((min i n : Nat) : Int) (n : Int)) := by omega
  have e2 : max (0 : Int) (min (j : Int) (n : Int)) = max (0 : Int) (min ((min j n : Nat) : Int) (n : Int)) := by omega
  simp only [Builtin.Str.strSliceIndices, h1, h2, h3, h4, if_false, e1, e2, show ((1 : Int) > 0) = True from by simp, if_true]
theorem slice_list (x : Str) (i j : Nat) (hij : i ≤ j) : tx (Txt.slice x (some (i : Int)) (some (j : Int))) = ((tx x).drop i).take (j - i) := by
  unfold Txt.slice
  split
  · rename_i h
    simp only [beq_self_eq_true, Bool.true_and, beq_iff_eq] at h
    rw [idx_clip, StrLaws.strSliceIndices_plain (by omega) (by omega)] at h
    simp only [List.length_map, List.length_range] at h
    have hl := tx_len x
    by_cases hz : x.length = 0
    · have : tx x = [] := List.length_eq_zero_iff.mp (by omega)
      rw [this]; simp
    · have : i = 0 := by omega
      subst this
      rw [List.drop_zero, List.take_of_length_le (by omega)]
  · rw [idx_clip, StrLaws.sliced_plain x (by omega) (by omega)]
    have hl := tx_len x
    show ((tx x).drop (min i x.length)).take (min j x.length - min i x.length) = ((tx x).drop i).take (j - i)
    by_cases hi : i ≤ x.length
    · rw [Nat.min_eq_left hi]
      by_cases hj : j ≤ x.length
      · rw [Nat.min_eq_left hj]
      · rw [Nat.min_eq_right (by omega), List.take_of_length_le (l := (tx x).drop i) (by simp; omega), List.take_of_length_le (l := (tx x).drop i) (by simp; omega)]
    · rw [List.drop_eq_nil_of_le (as := tx x) (by omega), List.drop_eq_nil_of_le (as := tx x) (by omega)]
      simp
theorem slice_to_end (x : Str) (i j : Nat) : tx (Txt.slice x (some (i : Int)) (some ((i : Int) + (j : Int)))) = ((tx x).drop i).take j := by
  have h := slice_list x i (i + j) (by omega)
  rw [show (((i + j : Nat)) : Int) = (i : Int) + (j : Int) from by omega] at h
  rw [h, show i + j - i = j from by omega]
theorem slice_one (x : Str) (i : Nat) : tx (Txt.slice x (some (i : Int)) (some ((i : Int) + 1))) = ((tx x).drop i).take 1 := by
  have h := slice_list x i (i + 1) (by omega)
  rw [show (((i + 1 : Nat)) : Int) = (i : Int) + 1 from by omega] at h
  rw [h, show i + 1 - i = 1 from by omega]
theorem str_beq (a b : Str) : (a == b) = decide (tx a = tx b) := by
  by_cases h : a = b
  · subst h; simp
  · have : ¬ tx a = tx b := fun e => h (tx_inj e)
    simp [h, this]
theorem isNC_nil {c : Str} (h : tx c = []) : isNC c = false := by
  unfold isNC
  rw [str_beq, str_beq]
  unfold tx at h ⊢
  rw [h]
  decide +kernel
theorem lt_one (a b : Nat) : (decide ([a] < [b])) = decide (a < b) := by
  rw [StrLaws.lt_cons_cons, StrLaws.lt_nil_nil]; simp
theorem lt_one' (a b : Nat) : ([a] : List Nat) < [b] ↔ a < b := by
  have h := lt_one a b
  rw [Bool.eq_iff_iff] at h
  simpa only [decide_eq_true_eq] using h
theorem isNC_one {c : Str} {k : Nat} (h : tx c = [k]) : isNC c = ncC k := by
  unfold isNC ncC
  rw [str_beq, str_beq]
  unfold tx at h ⊢
  rw [h]
  have e1 : (Str.ofString "_").cps.toList = [95] := by decide +kernel
  have e2 : (Str.ofString "$").cps.toList = [36] := by decide +kernel
  have e3 : (Str.ofString "0").cps.toList = [48] := by decide +kernel
  have e4 : (Str.ofString "9").cps.toList = [57] := by decide +kernel
  have e5 : (Str.ofString "a").cps.toList = [97] := by decide +kernel
  have e6 : (Str.ofString "z").cps.toList = [122] := by decide +kernel
  have e7 : (Str.ofString "A").cps.toList = [65] := by decide +kernel
  have e8 : (Str.ofString "Z").cps.toList = [90] := by decide +kernel
  rw [e1, e2, e3, e4, e5, e6, e7, e8]
  simp only [lt_one]
  rw [Bool.eq_iff_iff]
  simp
  omega
theorem isNC_at (x : Str) (i : Nat) : isNC (Txt.slice x (some (i : Int)) (some ((i : Int) + 1))) = match (tx x).drop i with | [] => false | k :: _ => ncC k := by
  have h := slice_one x i
  split
  · rename_i e; rw [e] at h; exact isNC_nil (by simpa using h)
  · rename_i k r e; rw [e] at h; exact isNC_one (by simpa using h)
theorem drop_cons {l : List Nat} {i k : Nat} {r : List Nat} (h : l.drop i = k :: r) : l.drop (i + 1) = r ∧ i < l.length := by
  refine ⟨?_, ?_⟩
  · rw [← List.drop_drop, h]; rfl
  · have := congrArg List.length h
    simp at this
    omega
/-- a run of signs of a kind: where the scan stands -/
def Scan (p : Nat → Bool) (x : Str) (n : Nat) (e : Int) : Prop := ∃ j : Nat, e = (j : Int) ∧ n ≤ j ∧ j ≤ x.length ∧ n + (((tx x).drop n).takeWhile p).length = j + (((tx x).drop j).takeWhile p).length
theorem scan_start {p : Nat → Bool} {x : Str} {n : Nat} (h : n ≤ x.length) : Scan p x n (n : Int) := ⟨n, rfl, Nat.le_refl _, h, rfl⟩
theorem scan_turn {p : Nat → Bool} {x : Str} {n : Nat} {e : Int} (h : Scan p x n e) {k : Nat} {r : List Nat} (hk : (tx x).drop e.toNat = k :: r) (hp : p k = true) : Scan p x n (e + 1) := by
  obtain ⟨j, rfl, h1, h2, h3⟩ := h
  have ej : ((j : Int)).toNat = j := by omega
  rw [ej] at hk
  obtain ⟨d, l⟩ := drop_cons hk
  rw [tx_len] at l
  refine ⟨j + 1, by omega, by omega, by omega, ?_⟩
  rw [h3, hk, List.takeWhile_cons, if_pos hp, d, List.length_cons]
  omega
theorem scan_done {p : Nat → Bool} {x : Str} {n : Nat} {e : Int} (h : Scan p x n e) (hk : (((tx x).drop e.toNat).takeWhile p).length = 0) : e = ((n + (((tx x).drop n).takeWhile p).length : Nat) : Int) := by
  obtain ⟨j, rfl, h1, h2, h3⟩ := h
  have ej : ((j : Int)).toNat = j := by omega
  rw [ej] at hk
  omega
theorem scan_nat {p : Nat → Bool} {x : Str} {n : Nat} {e : Int} (h : Scan p x n e) : e = ((e.toNat : Nat) : Int) ∧ n ≤ e.toNat ∧ e.toNat ≤ x.length := by
  obtain ⟨j, rfl, h1, h2, h3⟩ := h
  have ej : ((j : Int)).toNat = j := by omega
  omega
theorem nc_turn {x : Str} {n : Nat} {e : Int} (h : Scan ncC x n e) (hb : isNC (Txt.slice x (some e) (some (e + 1))) = true) : Scan ncC x n (e + 1) ∧ e < x.length ∧ 0 ≤ e := by
  obtain ⟨e0, h1, h2⟩ := scan_nat h
  rw [e0, isNC_at] at hb
  split at hb
  · cases hb
  · rename_i k r hd
    refine ⟨scan_turn h hd hb, ?_, by omega⟩
    have := (drop_cons hd).2
    rw [tx_len] at this
    omega
theorem nc_done {x : Str} {n : Nat} {e : Int} (h : Scan ncC x n e) (hb : isNC (Txt.slice x (some e) (some (e + 1))) = false) : e = ((n + ncLen ((tx x).drop n) : Nat) : Int) := by
  obtain ⟨e0, h1, h2⟩ := scan_nat h
  rw [e0, isNC_at] at hb
  refine scan_done h ?_
  split at hb
  · rename_i hd; rw [hd]; rfl
  · rename_i k r hd; rw [hd, List.takeWhile_cons, if_neg (by rw [hb]; decide)]; rfl
theorem nc_less {x : Str} {n : Nat} {e : Int} (h : Scan ncC x n e) (hb : isNC (Txt.slice x (some e) (some (e + 1))) = true) : x.length - (e + 1).toNat < x.length - e.toNat := by
  obtain ⟨_, h1, h2⟩ := nc_turn h hb
  omega
def digC (k : Nat) : Bool := decide (48 ≤ k) && decide (k ≤ 57)
def nameLen (l : List Nat) : Nat := match l with
  | [] => 0
  | k :: r => if k == 36 || digC k then 0 else ncLen (k :: r)
theorem lit_one (s : String) (k : Nat) (h : tx (Str.ofString s) = [k]) (x : Str) (i : Nat) : (Txt.slice x (some (i : Int)) (some ((i : Int) + 1)) == Str.ofString s) = decide (((tx x).drop i).head? = some k) := by
  rw [str_beq, slice_one, h, Bool.eq_iff_iff]
  simp only [decide_eq_true_eq]
  cases (tx x).drop i <;> simp
theorem tx_dollar : tx (Str.ofString "$") = [36] := by decide +kernel
theorem name_1 {x : Str} {n : Nat} (h : (Txt.slice x (some (n : Int)) (some ((n : Int) + 1)) == Str.ofString "$") = true) : (n : Int) = ((n + nameLen ((tx x).drop n) : Nat) : Int) := by
  rw [lit_one _ _ tx_dollar] at h
  simp only [decide_eq_true_eq] at h
  cases hd : (tx x).drop n with
  | nil => rw [hd] at h; cases h
  | cons k r => rw [hd] at h; cases h; simp [nameLen]
theorem name_2 {x : Str} {n : Nat} (h1 : ¬ (Txt.slice x (some (n : Int)) (some ((n : Int) + 1))).cps.toList < (Str.ofString "0").cps.toList) (h2 : ¬ (Str.ofString "9").cps.toList < (Txt.slice x (some (n : Int)) (some ((n : Int) + 1))).cps.toList) :
    (n : Int) = ((n + nameLen ((tx x).drop n) : Nat) : Int) := by
  have e3 : (Str.ofString "0").cps.toList = [48] := by decide +kernel
  have e4 : (Str.ofString "9").cps.toList = [57] := by decide +kernel
  have hs := slice_one x n
  unfold tx at hs
  rw [e3, hs] at h1
  rw [e4, hs] at h2
  show _ = ((n + nameLen (x.cps.toList.drop n) : Nat) : Int)
  cases hd : x.cps.toList.drop n with
  | nil => rw [hd] at h1; exact absurd (by decide) h1
  | cons k r =>
    rw [hd, List.take_succ_cons, List.take_zero, lt_one'] at h1 h2
    have e : (k == 36 || digC k) = true := by simp [digC]; omega
    simp only [nameLen, e, if_true]
    rfl
theorem name_3 {x : Str} {n : Nat} {e : Int} (h : e = ((n + ncLen ((tx x).drop n) : Nat) : Int)) (h0 : (Txt.slice x (some (n : Int)) (some ((n : Int) + 1)) == Str.ofString "$") = false)
    (h1 : (Txt.slice x (some (n : Int)) (some ((n : Int) + 1))).cps.toList < (Str.ofString "0").cps.toList ∨ (Str.ofString "9").cps.toList < (Txt.slice x (some (n : Int)) (some ((n : Int) + 1))).cps.toList) : e = ((n + nameLen ((tx x).drop n) : Nat) : Int) := by
  have e3 : (Str.ofString "0").cps.toList = [48] := by decide +kernel
  have e4 : (Str.ofString "9").cps.toList = [57] := by decide +kernel
  rw [lit_one _ _ tx_dollar] at h0
  have hs := slice_one x n
  unfold tx at hs h0
  rw [e3, e4, hs] at h1
  rw [h]
  show ((n + ncLen (x.cps.toList.drop n) : Nat) : Int) = ((n + nameLen (x.cps.toList.drop n) : Nat) : Int)
  cases hd : x.cps.toList.drop n with
  | nil => rfl
  | cons k r =>
    rw [hd] at h1 h0
    rw [List.take_succ_cons, List.take_zero, lt_one', lt_one'] at h1
    simp at h0
    have : (k == 36 || digC k) = false := by
      simp [digC, h0]; omega
    simp only [nameLen, this]
    rfl
theorem item_cons {x : Str} {e : Int} (h0 : 0 ≤ e) (h1 : e < (x.length : Int)) : ∃ k r, (tx x).drop e.toNat = k :: r ∧ Txt.item x e = ⟨#[k]⟩ := by
  rw [item_meets ⟨h0, h1⟩]
  have hl : e.toNat < (tx x).length := by rw [tx_len]; omega
  refine ⟨(tx x)[e.toNat], (tx x).drop (e.toNat + 1), List.drop_eq_getElem_cons hl, ?_⟩
  have hs : e.toNat < x.cps.size := by unfold tx at hl; simpa using hl
  congr 2
  unfold tx
  simp only [Array.getD, hs, dite_true]
  exact congrArg (fun z => [z]) (Array.getElem_toList hs).symm
theorem scan_end {p : Nat → Bool} {x : Str} {n : Nat} {e : Int} (h : Scan p x n e) (hb : ¬ e < (x.length : Int)) : e = ((n + (((tx x).drop n).takeWhile p).length : Nat) : Int) := by
  refine scan_done h ?_
  obtain ⟨e0, h1, h2⟩ := scan_nat h
  rw [List.drop_eq_nil_of_le (by rw [tx_len]; omega)]
  rfl
theorem scan_stop {p : Nat → Bool} {x : Str} {n : Nat} {e : Int} (h : Scan p x n e) {k : Nat} {r : List Nat} (hk : (tx x).drop e.toNat = k :: r) (hp : p k = false) : e = ((n + (((tx x).drop n).takeWhile p).length : Nat) : Int) := by
  refine scan_done h ?_
  rw [hk, List.takeWhile_cons, if_neg (by rw [hp]; decide)]
  rfl
theorem one_str (k : Nat) : tx (⟨#[k]⟩ : Str) = [k] := rfl
theorem tx_nl : tx (Str.ofString "\n") = [10] := by decide +kernel
theorem ne_nl (k : Nat) : ((⟨#[k]⟩ : Str) != Str.ofString "\n") = (k != 10) := by
  show (!((⟨#[k]⟩ : Str) == Str.ofString "\n")) = !(k == 10)
  rw [str_beq, tx_nl, one_str, Bool.eq_iff_iff]
  simp
theorem row_turn {x : Str} {n : Nat} {e : Int} (h : Scan (· != 10) x n e) (h0 : 0 ≤ e) (h1 : e < (x.length : Int)) (hb : (Txt.item x e != Str.ofString "\n") = true) : 0 ≤ e + 1 ∧ Scan (· != 10) x n (e + 1) := by
  obtain ⟨k, r, hd, hi⟩ := item_cons h0 h1
  rw [hi, ne_nl] at hb
  exact ⟨by omega, scan_turn h hd hb⟩
theorem row_stop {x : Str} {n : Nat} {e : Int} (h : Scan (· != 10) x n e) (h0 : 0 ≤ e) (h1 : e < (x.length : Int)) (hb : (Txt.item x e != Str.ofString "\n") = false) : e = ((n + rowLen ((tx x).drop n) : Nat) : Int) := by
  obtain ⟨k, r, hd, hi⟩ := item_cons h0 h1
  rw [hi, ne_nl] at hb
  exact scan_stop h hd hb
theorem len_less {x : Str} {e : Int} (h0 : 0 ≤ e) (h1 : e < (x.length : Int)) : x.length - (e + 1).toNat < x.length - e.toNat := by omega
theorem bl_in (k : Nat) : (Builtin.Str.occurrences (Str.ofString " \t\r") (⟨#[k]⟩ : Str) 0 (Str.ofString " \t\r").length 1).isEmpty = !(blC k) := by
  have h := StrLaws.found_one (Str.ofString " \t\r") k
  have e : (Str.ofString " \t\r").cps.toList = [32, 9, 13] := by decide +kernel
  rw [e] at h
  rw [← Bool.not_inj_iff, h, Bool.not_not, Bool.eq_iff_iff]
  simp [blC, or_assoc]
theorem bl_turn {x : Str} {n : Nat} {e : Int} (h : Scan blC x n e) (h0 : 0 ≤ e) (h1 : e < (x.length : Int)) (hb : (Builtin.Str.occurrences (Str.ofString " \t\r") (Txt.item x e) 0 (Str.ofString " \t\r").length 1).isEmpty = false) : 0 ≤ e + 1 ∧ Scan blC x n (e + 1) := by
  obtain ⟨k, r, hd, hi⟩ := item_cons h0 h1
  rw [hi, bl_in] at hb
  exact ⟨by omega, scan_turn h hd (by simpa using hb)⟩
theorem bl_stop {x : Str} {n : Nat} {e : Int} (h : Scan blC x n e) (h0 : 0 ≤ e) (h1 : e < (x.length : Int)) (hb : (Builtin.Str.occurrences (Str.ofString " \t\r") (Txt.item x e) 0 (Str.ofString " \t\r").length 1).isEmpty = true) : e = ((n + blLen ((tx x).drop n) : Nat) : Int) := by
  obtain ⟨k, r, hd, hi⟩ := item_cons h0 h1
  rw [hi, bl_in] at hb
  exact scan_stop h hd (by simpa using hb)
theorem gap_any (x : Str) (i : Nat) : ([Str.ofString " ", Str.ofString "\t", Str.ofString "\r"].any fun y => y == Txt.slice x (some (i : Int)) (some ((i : Int) + 1))) = match (tx x).drop i with | [] => false | k :: _ => blC k := by
  have e1 : tx (Str.ofString " ") = [32] := by decide +kernel
  have e2 : tx (Str.ofString "\t") = [9] := by decide +kernel
  have e3 : tx (Str.ofString "\r") = [13] := by decide +kernel
  simp only [List.any_cons, List.any_nil, str_beq, e1, e2, e3, slice_one]
  cases (tx x).drop i with
  | nil => simp
  | cons k r =>
    rw [Bool.eq_iff_iff]
    simp [blC]
    omega
theorem gap_turn {x : Str} {n : Nat} {e : Int} (h : Scan blC x n e) (hb : ([Str.ofString " ", Str.ofString "\t", Str.ofString "\r"].any fun y => y == Txt.slice x (some e) (some (e + 1))) = true) : Scan blC x n (e + 1) ∧ 0 ≤ e ∧ e < (x.length : Int) := by
  obtain ⟨e0, h1, h2⟩ := scan_nat h
  rw [e0, gap_any] at hb
  split at hb
  · cases hb
  · rename_i k r hd
    refine ⟨scan_turn h hd hb, by omega, ?_⟩
    have := (drop_cons hd).2
    rw [tx_len] at this
    omega
theorem gap_stop {x : Str} {n : Nat} {e : Int} (h : Scan blC x n e) (hb : ([Str.ofString " ", Str.ofString "\t", Str.ofString "\r"].any fun y => y == Txt.slice x (some e) (some (e + 1))) = false) : e = ((n + blLen ((tx x).drop n) : Nat) : Int) := by
  obtain ⟨e0, h1, h2⟩ := scan_nat h
  rw [e0, gap_any] at hb
  split at hb
  · rename_i hd; exact scan_done h (by rw [hd]; rfl)
  · rename_i k r hd; exact scan_stop h hd hb
theorem gap_less {x : Str} {n : Nat} {e : Int} (h : Scan blC x n e) (hb : ([Str.ofString " ", Str.ofString "\t", Str.ofString "\r"].any fun y => y == Txt.slice x (some e) (some (e + 1))) = true) : x.length - (e + 1).toNat < x.length - e.toNat := by
  obtain ⟨_, h1, h2⟩ := gap_turn h hb
  omega
/-- no quote, backslash, apostrophe or star -/
def Clean (x : Str) : Prop := ∀ c ∈ tx x, c ≠ 34 ∧ c ≠ 92 ∧ c ≠ 39 ∧ c ≠ 42
def remLen (l : List Nat) : Nat := if l.take 2 = [47, 47] then rowLen l else 0
def wholeLen (l : List Nat) : Nat := max (ncLen l) 1
theorem item_clean {x : Str} {n : Nat} {s : String} {k : Nat} (hs : tx (Str.ofString s) = [k]) (hk : k = 34 ∨ k = 92 ∨ k = 39) (hc : Clean x) (hn : n < x.length) (h : (Txt.item x (n : Int) == Str.ofString s) = true) : False := by
  obtain ⟨j, r, hd, hi⟩ := item_cons (x := x) (e := (n : Int)) (by omega) (by omega)
  rw [hi, str_beq, hs, one_str, decide_eq_true_eq] at h
  have hm : j ∈ tx x := by
    have : j ∈ (tx x).drop ((n : Int)).toNat := by rw [hd]; exact List.mem_cons_self
    exact List.mem_of_mem_drop this
  have := hc j hm
  cases h
  omega
theorem quote_no {x : Str} {n : Nat} (hc : Clean x) (hn : n < x.length) (h : (Txt.item x (n : Int) == Str.ofString "\"") = true) : False := item_clean (k := 34) (by decide +kernel) (by omega) hc hn h
theorem slash_no {x : Str} {n : Nat} (hc : Clean x) (hn : n < x.length) (h : (Txt.item x (n : Int) == Str.ofString "\\") = true) : False := item_clean (k := 92) (by decide +kernel) (by omega) hc hn h
theorem apos_no {x : Str} {n : Nat} (hc : Clean x) (hn : n < x.length) (h : (Txt.item x (n : Int) == Str.ofString "'") = true) : False := item_clean (k := 39) (by decide +kernel) (by omega) hc hn h
theorem slice_two (x : Str) (i : Nat) : tx (Txt.slice x (some (i : Int)) (some ((i : Int) + 2))) = ((tx x).drop i).take 2 := by
  have h := slice_list x i (i + 2) (by omega)
  rw [show (((i + 2 : Nat)) : Int) = (i : Int) + 2 from by omega] at h
  rw [h, show i + 2 - i = 2 from by omega]
theorem star_no {x : Str} {n : Nat} (hc : Clean x) (h : (Txt.slice x (some (n : Int)) (some ((n : Int) + 2)) != Str.ofString "/*") = false) : False := by
  have e : tx (Str.ofString "/*") = [47, 42] := by decide +kernel
  have h' : (Txt.slice x (some (n : Int)) (some ((n : Int) + 2)) == Str.ofString "/*") = true := by
    unfold bne at h
    cases hb : (Txt.slice x (some (n : Int)) (some ((n : Int) + 2)) == Str.ofString "/*") with
    | true => rfl
    | false => rw [hb] at h; cases h
  rw [str_beq, slice_two, e, decide_eq_true_eq] at h'
  have hm : 42 ∈ tx x := by
    have : 42 ∈ ((tx x).drop n).take 2 := by rw [h']; simp
    exact List.mem_of_mem_drop (List.mem_of_mem_take this)
  exact (hc 42 hm).2.2.2 rfl
theorem tx_ss : tx (Str.ofString "//") = [47, 47] := by decide +kernel
theorem rem_1 {x : Str} {n : Nat} (h : (Txt.slice x (some (n : Int)) (some ((n : Int) + 2)) == Str.ofString "//") = true) : ((n + rowLen ((tx x).drop n) : Nat) : Int) = ((n + remLen ((tx x).drop n) : Nat) : Int) := by
  rw [str_beq, slice_two, tx_ss, decide_eq_true_eq] at h
  unfold remLen
  rw [if_pos h]
theorem rem_2 {x : Str} {n : Nat} (h : (Txt.slice x (some (n : Int)) (some ((n : Int) + 2)) == Str.ofString "//") = false) : (n : Int) = ((n + remLen ((tx x).drop n) : Nat) : Int) := by
  rw [str_beq, slice_two, tx_ss, decide_eq_false_iff_not] at h
  unfold remLen
  rw [if_neg h]
  rfl
theorem whole_v {x : Str} {n : Nat} {e : Int} (h : e = ((n + ncLen ((tx x).drop n) : Nat) : Int)) : (if (n : Int) + 1 > e then (n : Int) + 1 else e) = ((n + wholeLen ((tx x).drop n) : Nat) : Int) := by
  unfold wholeLen
  split <;> omega
theorem count_nl (x : Str) : Txt.count x (Str.ofString "\n") = (((tx x).count 10 : Nat) : Int) := by
  have e : Str.ofString "\n" = ⟨#[10]⟩ := by decide +kernel
  rw [e, count_cnt]
  unfold cnt
  show _ = (((x.cps.toList).count 10 : Nat) : Int)
  generalize x.cps.toList = l
  induction l with
  | nil => rfl
  | cons k r ih =>
    simp only [List.map_cons, PySem.Spec.countIn]
    rw [ih]
    simp only [List.count_cons]
    have hs : Spec.same (PyData.str ⟨#[k]⟩) (PyData.str ⟨#[10]⟩) = (k == 10) := by
      show ((⟨#[k]⟩ : Str) == (⟨#[10]⟩ : Str)) = (k == 10)
      rw [str_beq, one_str, one_str, Bool.eq_iff_iff]
      simp
    rw [hs]
    split <;> omega
end Mine
namespace Mine
theorem fresh_C2 : True := by
  first | row_walk | exact True.intro
local macro_rules | `(tactic| walk_at "call ref") => `(tactic| (k_here; (with_reducible show wpAny _ _ (call (Value.ref 103) [Value.str _ _]) _ _ _); k_dflt (refine' useC (is_name_char_c _ _ _) ?k1 ?k2 ?k3 ?k4 ?k5 ?kK ?kd ?ku ?_); (case k1 => k_asm); (case k2 => k_asm); (case k3 => k_asm); (case k4 => k_asm); (case k5 => k_asm); (case kK => first | exact rfl | assumption); (case kd => ktr_room); (case ku => ktr_units); intro r9 h9 tk9 e9 F9 N9; subst e9; (try dsimp only)))
theorem name_end_c (w : World) (x : Str) (n : Nat) (t u : Tok) (hn : n ≤ x.length) (hx : x.length ≤ 100000) : PureC w 110 3 [.str x t, .int n u] (fun r => ∃ tk, r = .int ((n + nameLen ((tx x).drop n) : Nat) : Int) tk) := by
  unfold PureC
  k_with_none
  k_fill
  intro mean mg mb dp un gd cn cs a ccd cl outer A₀ base h₀ L m news s Q E B F X N T hk hd hu hret
  refine wpAny_call ?_
  k_dflt ktr_enter
  k_with "exec While Call cons nil" => k_while (fun _ e => Scan ncC x n e) (fun _ e => x.length - e.toNat) "end"
  k_with "state" => first | exact scan_start hn | exact (nc_turn (by assumption) (by assumption)).1
  k_with "measure" => exact nc_less (by assumption) (by assumption)
  k_steps
  all_goals (refine hret _ _ _ ⟨_, congrArg (fun z => Value.int z _) ?_⟩ (by k_asm) (by k_asm))
  all_goals first
    | exact name_1 (by assumption)
    | exact name_2 (by assumption) (by assumption)
    | exact name_3 (nc_done (by assumption) (by assumption)) (by assumption) (.inl (by assumption))
    | exact name_3 (nc_done (by assumption) (by assumption)) (by assumption) (.inr (by assumption))

end Mine
namespace Mine
theorem fresh_C3 : True := by
  first | row_walk | exact True.intro
theorem row_end_c (w : World) (x : Str) (n : Nat) (t u : Tok) (hn : n ≤ x.length) (hx : x.length ≤ 100000) : PureC w 117 3 [.str x t, .int n u] (fun r => ∃ tk, r = .int ((n + rowLen ((tx x).drop n) : Nat) : Int) tk) := by
  unfold PureC
  k_with_none
  k_fill
  intro mean mg mb dp un gd cn cs a ccd cl outer A₀ base h₀ L m news s Q E B F X N T hk hd hu hret
  refine wpAny_call ?_
  k_dflt ktr_enter
  k_with "exec While BoolOp cons nil" => k_while (fun _ e => 0 ≤ e ∧ Scan (· != 10) x n e) (fun _ e => x.length - e.toNat) "end"
  k_with "state" => first | exact ⟨by omega, scan_start hn⟩ | exact row_turn (by assumption) (by assumption) (by assumption) (by assumption)
  k_with "measure" => exact len_less (by assumption) (by assumption)
  k_steps
  all_goals (refine hret _ _ _ ⟨_, congrArg (fun z => Value.int z _) ?_⟩ (by k_asm) (by first | k_asm | (refine' cb_drop ?cbN ?cbS; (case cbN => assumption); (case cbS => kcj_all))))
  all_goals first | exact row_stop (by assumption) (by assumption) (by assumption) (by assumption) | exact scan_end (by assumption) (by assumption)
theorem blanks_end_c (w : World) (x : Str) (n : Nat) (t u : Tok) (hn : n ≤ x.length) (hx : x.length ≤ 100000) : PureC w 124 3 [.str x t, .int n u] (fun r => ∃ tk, r = .int ((n + blLen ((tx x).drop n) : Nat) : Int) tk) := by
  unfold PureC
  k_with_none
  k_fill
  intro mean mg mb dp un gd cn cs a ccd cl outer A₀ base h₀ L m news s Q E B F X N T hk hd hu hret
  refine wpAny_call ?_
  k_dflt ktr_enter
  k_with "exec While BoolOp cons nil" => k_while (fun _ e => 0 ≤ e ∧ Scan blC x n e) (fun _ e => x.length - e.toNat) "end"
  k_with "state" => first | exact ⟨by omega, scan_start hn⟩ | exact bl_turn (by assumption) (by assumption) (by assumption) (by assumption)
  k_with "measure" => exact len_less (by assumption) (by assumption)
  k_steps
  all_goals (refine hret _ _ _ ⟨_, congrArg (fun z => Value.int z _) ?_⟩ (by k_asm) (by first | k_asm | (refine' cb_drop ?cbN ?cbS; (case cbN => assumption); (case cbS => kcj_all))))
  all_goals first | exact bl_stop (by assumption) (by assumption) (by assumption) (by assumption) | exact scan_end (by assumption) (by assumption)
theorem gap_behind_c (w : World) (x : Str) (n : Nat) (t u : Tok) (hn : n ≤ x.length) (hx : x.length ≤ 100000) : PureC w 35 3 [.str x t, .int n u] (fun r => ∃ tk, r = .int ((n + blLen ((tx x).drop n) : Nat) : Int) tk) := by
  unfold PureC
  k_with_none
  k_fill
  intro mean mg mb dp un gd cn cs a ccd cl outer A₀ base h₀ L m news s Q E B F X N T hk hd hu hret
  refine wpAny_call ?_
  k_dflt ktr_enter
  k_with "exec While Compare cons nil" => k_while (fun _ e => Scan blC x n e) (fun _ e => x.length - e.toNat) "at"
  k_with "state" => first | exact scan_start hn | exact (gap_turn (by assumption) (by assumption)).1
  k_with "measure" => exact gap_less (by assumption) (by assumption)
  k_steps
  all_goals (refine hret _ _ _ ⟨_, congrArg (fun z => Value.int z _) ?_⟩ (by k_asm) (by first | k_asm | (refine' cb_drop ?cbN ?cbS; (case cbN => assumption); (case cbS => kcj_all))))
  all_goals first | exact gap_stop (by assumption) (by assumption)
end Mine
namespace Mine
theorem fresh_C4 : True := by
  first | row_walk | exact True.intro
local macro_rules | `(tactic| walk_at "call ref") => `(tactic| (k_here; (with_reducible show wpAny _ _ (call (Value.ref 103) [Value.str _ _]) _ _ _); k_dflt (refine' useC (is_name_char_c _ _ _) ?k1 ?k2 ?k3 ?k4 ?k5 ?kK ?kd ?ku ?_); (case k1 => k_asm); (case k2 => k_asm); (case k3 => k_asm); (case k4 => k_asm); (case k5 => k_asm); (case kK => first | exact rfl | assumption); (case kd => ktr_room); (case ku => ktr_units); intro r9 h9 tk9 e9 F9 N9; subst e9; (try dsimp only)))
local macro_rules | `(tactic| walk_at "call ref") => `(tactic| (k_here; (with_reducible show wpAny _ _ (call (Value.ref 117) [Value.str _ _, Value.int _ _]) _ _ _); k_dflt (refine' useC (row_end_c _ _ _ _ _ (by assumption) (by assumption)) ?k1 ?k2 ?k3 ?k4 ?k5 ?kK ?kd ?ku ?_); (case k1 => k_asm); (case k2 => k_asm); (case k3 => k_asm); (case k4 => k_asm); (case k5 => k_asm); (case kK => first | exact rfl | assumption); (case kd => ktr_room); (case ku => ktr_units); intro r9 h9 tk9 e9 F9 N9; obtain ⟨t9, e9⟩ := e9; subst e9; (try dsimp only)))
local macro_rules | `(tactic| walk_at "exec While BoolOp") => `(tactic| (exfalso; exact star_no (by assumption) (by assumption)))
local macro_rules | `(tactic| walk_at "execs cons") => `(tactic| (exfalso; first | exact star_no (by assumption) (by assumption) | exact quote_no (by assumption) (by assumption) (by assumption) | exact slash_no (by assumption) (by assumption) (by assumption) | exact apos_no (by assumption) (by assumption) (by assumption)))
theorem remark_end_c (w : World) (x : Str) (n : Nat) (t u : Tok) (hn : n ≤ x.length) (hx : x.length ≤ 100000) (hc : Clean x) : PureC w 145 6 [.str x t, .int n u] (fun r => ∃ tk, r = .int (((n + remLen ((tx x).drop n) : Nat) : Int)) tk) := by
  unfold PureC
  k_with_none
  k_fill
  intro mean mg mb dp un gd cn cs a ccd cl outer A₀ base h₀ L m news s Q E B F X N T hk hd hu hret
  refine wpAny_call ?_
  k_dflt ktr_enter
  k_steps
  all_goals (refine hret _ _ _ ⟨_, congrArg (fun z => Value.int z _) ?_⟩ (by k_asm) (by first | k_asm | (refine' cb_drop ?cbN ?cbS; (case cbN => assumption); (case cbS => kcj_all))))
  all_goals first | exact rem_1 (by assumption) | exact rem_2 (by assumption)
theorem whole_end_c (w : World) (x : Str) (n : Nat) (t u : Tok) (hn : n < x.length) (hx : x.length ≤ 100000) (hc : Clean x) : PureC w 159 6 [.str x t, .int n u] (fun r => ∃ tk, r = .int (((n + wholeLen ((tx x).drop n) : Nat) : Int)) tk) := by
  unfold PureC
  k_with_none
  k_fill
  intro mean mg mb dp un gd cn cs a ccd cl outer A₀ base h₀ L m news s Q E B F X N T hk hd hu hret
  refine wpAny_call ?_
  k_dflt ktr_enter
  k_with "exec While Call cons nil" => k_while (fun _ e => Scan ncC x n e) (fun _ e => x.length - e.toNat) "end"
  k_with "state" => first | exact scan_start (Nat.le_of_lt hn) | exact (nc_turn (by assumption) (by assumption)).1
  k_with "measure" => exact nc_less (by assumption) (by assumption)
  k_steps
  all_goals (refine hret _ _ _ ⟨_, congrArg (fun z => Value.int z _) ?_⟩ (by k_asm) (by first | k_asm | (refine' cb_drop ?cbN ?cbS; (case cbN => assumption); (case cbS => kcj_all))))
  all_goals first | exact whole_v (nc_done (by assumption) (by assumption))
theorem count_rows_c (w : World) (x : Str) (t : Tok) (hx : x.length ≤ 100000) : PureC w 166 3 [.str x t] (fun r => ∃ tk, r = .int ((((tx x).count 10 : Nat) : Int)) tk) := by
  unfold PureC
  k_with_none
  k_fill
  intro mean mg mb dp un gd cn cs a ccd cl outer A₀ base h₀ L m news s Q E B F X N T hk hd hu hret
  refine wpAny_call ?_
  k_dflt ktr_enter
  k_steps
  all_goals (refine hret _ _ _ ⟨_, congrArg (fun z => Value.int z _) ?_⟩ (by k_asm) (by first | k_asm | (refine' cb_drop ?cbN ?cbS; (case cbN => assumption); (case cbS => kcj_all))))
  all_goals first | exact count_nl _
end Mine
namespace Mine
theorem fresh_C5 : True := by
  first | row_walk | exact True.intro

section
variable {prog : Program} {w : World} {A : Around} {E : Value → Shared → Prop} {s : Shared} {env : Env} {h₀ : Heap} {x : Str} {body : List Stmt} {Q : Flow → Shared → Prop}
def TupEnd (h₀ : Heap) (L : Addr) (J : (Str → Option Value) → Prop) (led : List (Addr × Obj)) (s₁ s₂ : Shared) : Prop := ∃ h' tk m', s₂ = { s₁ with heap := h', toks := tk } ∧ Fr h₀ L h' m' ∧ News h₀ L h' led ∧ J m'
/-- a turn's end of a loop over a tuple: gone on with, all that was known still stands -/
def TupPost (h₀ : Heap) (L : Addr) (J : (Str → Option Value) → Prop) (led : List (Addr × Obj)) (s₁ : Shared) (Q : Flow → Shared → Prop) (f : Flow) (s₂ : Shared) : Prop :=
  match f with
  | .ret v => Q (.ret v) s₂
  | .brk => Q .next s₂
  | _ => TupEnd h₀ L J led s₁ s₂
theorem iter_tupN {D : Addr} {vs : List Value} {n₀ : Nat} {m₀ : Str → Option Value} {news : List (Addr × Obj)} (J : Nat → (Str → Option Value) → Prop)
    (hh : A.handled = none) (hl : (D, ({ cls := .type "tuple", data := .seq vs.toArray n₀ } : Obj)) ∈ news) (F : Fr h₀ env.locals s.heap m₀) (N : News h₀ env.locals s.heap news) (hj : J 0 m₀)
    (turn : ∀ i v m₁ h tk own, vs[i]? = some v → J i m₁ → Fr h₀ env.locals h (fun y => if y = x then some v else m₁ y) → News h₀ env.locals h (own ++ news) →
      wpAny (model prog w) A (execs body env) (TupPost h₀ env.locals (J (i + 1)) (own ++ news) { s with heap := h, toks := tk } Q) E { s with heap := h, toks := tk })
    (done : ∀ m₁ h tk, J vs.length m₁ → Fr h₀ env.locals h m₁ → News h₀ env.locals h news → Q .next { s with heap := h, toks := tk }) :
    wpAny (model prog w) A (pyIter (.ref D)) (fun it s₂ => LoopAtV prog w A h₀ env x body Q E it s₂) E s := by
  have hD := N _ hl
  have ht : s.heap.IsTuple D vs.toArray := ⟨_, hD.1, rfl, n₀, rfl⟩
  have hne : D ≠ s.heap.objs.size := Nat.ne_of_lt (Heap.lt_size hD.1)
  refine wpAny_pyIter_tuple ht ?_
  have W := Walks.tuple (prog := prog) (w := w) hh s.heap.objs.size D hne vs.toArray
  have hlen : vs.toArray.size = vs.length := by simp
  rw [hlen] at W
  refine ⟨_, _, _, vs.length, _, _, m₀, news, (fun i m nx => nx = news ∧ J i m), rfl, W, ?_, ?_, ?_, ⟨⟨_, Heap.get?_push_size _ rfl, rfl, rfl⟩, ht.at fun o e => Heap.get?_push_of_some _ e⟩, F.push _, (fun p hp => ⟨Heap.get?_push_of_some _ (N p hp).1, (N p hp).2⟩), ⟨rfl, hj⟩, ?_, ?_⟩
  · intro hm
    rcases List.mem_cons.mp hm with e | hm
    · exact absurd F.ns.lt (e ▸ Nat.lt_irrefl _)
    · exact hD.2.1 ((List.mem_singleton.mp hm).symm)
  · intro b hb
    rw [List.mem_singleton.mp hb]
    exact next_is_new F
  · intro p hp hI
    exact absurd (Heap.lt_size (N p hp).1) ((List.mem_singleton.mp hI) ▸ Nat.lt_irrefl _)
  · rintro i v m₁ news₁ s₁ own ⟨hh', tk', rfl⟩ hin hP ⟨rfl, hJ⟩ hoff hown _ _ _ F₁ N₁
    have hv : vs[i]? = some v := by simpa using hP
    refine wpAny_mono (turn i v m₁ hh' tk' own hv hJ F₁ N₁) (fun f s₂ p => ?_) fun _ _ e => e
    have fin : (∃ h' tk m', s₂ = { s with heap := h', toks := tk } ∧ Fr h₀ env.locals h' m' ∧ News h₀ env.locals h' (own ++ news₁) ∧ J (i + 1) m') → LoopStepU h₀ env.locals [s.heap.objs.size] own (fun m nx => nx = news₁ ∧ J (i + 1) m) { s with heap := hh', toks := tk' } .next s₂ := by
      rintro ⟨h', tk, m', e, F', N', hm⟩
      exact ⟨rfl, h', tk, m', news₁, e, F', N', hoff, rfl, hm⟩
    cases f with
    | ret v => exact p
    | brk => exact p
    | next => exact fin p
    | cont => exact fin p
  · rintro h' tk m' news' F' N' _ ⟨rfl, hJ⟩
    exact done m' h' tk hJ F' N'
end

def wordF : List Str → List Nat → Option Nat
  | [], _ => none
  | w :: r, l => if l.take w.length = tx w then some w.length else wordF r l
def wordR (n : Nat) (o : Option Nat) : Int := match o with
  | some k => ((n + k : Nat) : Int)
  | none => -1
theorem wordF_hit {ws : List Str} {l : List Nat} {i : Nat} {y : Str} {x : Str} {n : Nat} (hw : ws[i]? = some y) (hl : l = (tx x).drop n) (h : wordF ws l = wordF (ws.drop i) l) (hb : (Txt.slice x (some (n : Int)) (some ((n : Int) + (y.length : Int))) == y) = true) :
    (n : Int) + (y.length : Int) = wordR n (wordF ws l) := by
  have hlt : i < ws.length := (List.getElem?_eq_some_iff.mp hw).1
  have hd : ws.drop i = y :: ws.drop (i + 1) := by
    rw [List.drop_eq_getElem_cons hlt]
    congr 1
    exact (List.getElem?_eq_some_iff.mp hw).2
  rw [str_beq, slice_to_end, decide_eq_true_eq, ← hl] at hb
  rw [h, hd, wordF, if_pos hb]
  show _ = ((n + y.length : Nat) : Int)
  omega
theorem wordF_miss {ws : List Str} {l : List Nat} {i : Nat} {y : Str} {x : Str} {n : Nat} (hw : ws[i]? = some y) (hl : l = (tx x).drop n) (h : wordF ws l = wordF (ws.drop i) l) (hb : (Txt.slice x (some (n : Int)) (some ((n : Int) + (y.length : Int))) == y) = false) :
    wordF ws l = wordF (ws.drop (i + 1)) l := by
  have hlt : i < ws.length := (List.getElem?_eq_some_iff.mp hw).1
  have hd : ws.drop i = y :: ws.drop (i + 1) := by
    rw [List.drop_eq_getElem_cons hlt]
    congr 1
    exact (List.getElem?_eq_some_iff.mp hw).2
  rw [str_beq, slice_to_end, decide_eq_false_iff_not, ← hl] at hb
  rw [h, hd, wordF, if_neg hb]

section
variable {prog : Program} {w : World} {A : Around} {E : Value → Shared → Prop} {s : Shared} {env : Env} {h₀ : Heap} {x : Str} {body : List Stmt} {Q : Flow → Shared → Prop}
theorem iter_tupS {D : Addr} {vs : List Value} {n₀ : Nat} {m₀ : Str → Option Value} {news : List (Addr × Obj)} (P : Nat → Prop)
    (hh : A.handled = none) (hl : (D, ({ cls := .type "tuple", data := .seq vs.toArray n₀ } : Obj)) ∈ news) (F : Fr h₀ env.locals s.heap m₀) (N : News h₀ env.locals s.heap news) (hj : P 0)
    (turn : ∀ i v h tk own, vs[i]? = some v → P i → Fr h₀ env.locals h (fun y => if y = x then some v else m₀ y) → News h₀ env.locals h (own ++ news) →
      wpAny (model prog w) A (execs body env) (TupPost h₀ env.locals (fun m' => (∀ z, z ≠ x → m' z = m₀ z) ∧ P (i + 1)) (own ++ news) { s with heap := h, toks := tk } Q) E { s with heap := h, toks := tk })
    (done : ∀ (u : Str → Option Value) h tk, P vs.length → Fr h₀ env.locals h (fun y => if y = x then u y else m₀ y) → News h₀ env.locals h news → Q .next { s with heap := h, toks := tk }) :
    wpAny (model prog w) A (pyIter (.ref D)) (fun it s₂ => LoopAtV prog w A h₀ env x body Q E it s₂) E s := by
  refine iter_tupN (fun i m => (∀ z, z ≠ x → m z = m₀ z) ∧ P i) hh hl F N ⟨fun _ _ => rfl, hj⟩ ?_ ?_
  · rintro i v m₁ h tk own hv ⟨h1, h2⟩ F₁ N₁
    refine turn i v h tk own hv h2 ?_ N₁
    have e : (fun y => if y = x then some v else m₀ y) = fun y => if y = x then some v else m₁ y := by
      funext y
      by_cases hy : y = x
      · rw [if_pos hy, if_pos hy]
      · rw [if_neg hy, if_neg hy, h1 y hy]
    rw [e]
    exact F₁
  · rintro m₁ h tk ⟨h1, h2⟩ F₁ N₁
    refine done m₁ h tk h2 ?_ N₁
    have e : (fun y => if y = x then m₁ y else m₀ y) = m₁ := by
      funext y
      by_cases hy : y = x
      · rw [if_pos hy]
      · rw [if_neg hy, h1 y hy]
    rw [e]
    exact F₁
end
theorem strs_at {vs : List Value} {ws : List Str} (h : StrsAre vs ws) : ∀ {i : Nat} {v : Value}, vs[i]? = some v → ∃ y t, ws[i]? = some y ∧ v = .str y t := by
  induction h with
  | nil => intro i v e; simp at e
  | cons y t _ ih =>
    intro i v e
    cases i with
    | zero => simp at e; exact ⟨y, t, rfl, e.symm⟩
    | succ i => exact ih (by simpa using e)
local macro_rules | `(tactic| walk_at "exec For Name Name cons nil") => `(tactic| (k_here; (rename Fr _ _ _ _ => lF'); (with_unfolding_all refine' For_invVF lF' ?k1 ?k2 ?_; (case k1 => exact rfl); (case k2 => exact rfl); k_whole)))
local macro_rules | `(tactic| walk_at "TupPost") => `(tactic| dsimp only [TupPost])
theorem word_at_c (w : World) (x : Str) (n : Nat) (t u : Tok) (D : Addr) (ws : List Str) (vs : List Value) (hsv : StrsAre vs ws) (hws : ∀ y ∈ ws, y.length ≤ 100) (hn : n ≤ x.length) (hx : x.length ≤ 100000) :
    PureL w 42 3 [(D, { cls := .type "tuple", data := .seq vs.toArray })] [.str x t, .int n u, .ref D] (fun r => ∃ tk, r = .int (wordR n (wordF ws ((tx x).drop n))) tk) := by
  unfold PureL
  k_with_none
  k_fill
  intro mean mg mb dp un gd cn cs a ccd cl outer A₀ base h₀ L m news s Q E B F X N T hk hd hu hret
  simp only [List.cons_append, List.nil_append] at N hret
  refine wpAny_call ?_
  k_dflt ktr_enter
  k_steps
  (rename Fr _ _ _ _ => lF')
  (rename News _ _ _ _ => lN')
  refine iter_tupS (fun i => wordF ws ((tx x).drop n) = wordF (ws.drop i) ((tx x).drop n)) (by rfl) (.head _) lF' lN' rfl ?turn ?done
  case turn =>
    clear lF' lN'
    intro i v h tk own hv hP Fr1 N1
    obtain ⟨y, ty, hw, rfl⟩ := strs_at hsv hv
    have hy : y.length ≤ 100 := hws y (List.mem_of_getElem? hw)
    k_steps
    · refine hret _ _ _ ⟨_, congrArg (fun z => Value.int z _) (wordF_hit hw rfl hP (by assumption))⟩ (by k_asm) (cb_drop (by assumption) (fun p hp => List.mem_append_right _ hp))
    · exact ⟨_, _, _, rfl, by assumption, by assumption, fun z hz => if_neg hz, wordF_miss hw rfl hP (by assumption)⟩
  case done =>
    clear lF' lN'
    intro u' h tk hP Fr1 N1
    dsimp only
    k_steps
    refine hret _ _ _ ⟨_, congrArg (fun z => Value.int z _) ?_⟩ (by k_asm) (by k_asm)
    have hl := hsv.length
    rw [hP, List.drop_of_length_le (by omega)]
    rfl
end Mine
namespace Mine
theorem fresh_C6 : True := by
  first | row_walk | exact True.intro

abbrev mags : List Str := [Str.ofString "100", Str.ofString "10", Str.ofString "1"]
abbrev units : List Str := [Str.ofString "s", Str.ofString "ms", Str.ofString "us", Str.ofString "ns", Str.ofString "ps", Str.ofString "fs"]
theorem word_at_3 (w : World) (x : Str) (n : Nat) (t u : Tok) (D : Addr) (a b c : Tok) (hn : n ≤ x.length) (hx : x.length ≤ 100000) :
    PureL w 42 3 [(D, { cls := .type "tuple", data := .seq #[.str (Str.ofString "100") a, .str (Str.ofString "10") b, .str (Str.ofString "1") c] })] [.str x t, .int n u, .ref D] (fun r => ∃ tk, r = .int (wordR n (wordF mags ((tx x).drop n))) tk) :=
  word_at_c w x n t u D mags _ (.cons _ _ (.cons _ _ (.cons _ _ .nil))) (by decide +kernel) hn hx
theorem word_at_6 (w : World) (x : Str) (n : Nat) (t u : Tok) (D : Addr) (a b c d e f : Tok) (hn : n ≤ x.length) (hx : x.length ≤ 100000) :
    PureL w 42 3 [(D, { cls := .type "tuple", data := .seq #[.str (Str.ofString "s") a, .str (Str.ofString "ms") b, .str (Str.ofString "us") c, .str (Str.ofString "ns") d, .str (Str.ofString "ps") e, .str (Str.ofString "fs") f] })] [.str x t, .int n u, .ref D] (fun r => ∃ tk, r = .int (wordR n (wordF units ((tx x).drop n))) tk) :=
  word_at_c w x n t u D units _ (.cons _ _ (.cons _ _ (.cons _ _ (.cons _ _ (.cons _ _ (.cons _ _ .nil)))))) (by decide +kernel) hn hx
theorem takeWhile_le (p : Nat → Bool) (l : List Nat) : (l.takeWhile p).length ≤ l.length := by
  induction l with
  | nil => simp
  | cons k r ih => rw [List.takeWhile_cons]; split <;> simp <;> omega
theorem bl_le {x : Str} {n : Nat} (hn : n ≤ x.length) : n + blLen ((tx x).drop n) ≤ x.length := by
  have h1 : blLen ((tx x).drop n) ≤ ((tx x).drop n).length := takeWhile_le blC _
  rw [List.length_drop, tx_len] at h1
  omega
theorem wordF_le {ws : List Str} {l : List Nat} {k : Nat} (h : wordF ws l = some k) : k ≤ l.length := by
  induction ws with
  | nil => cases h
  | cons y r ih =>
    unfold wordF at h
    split at h
    · rename_i e
      cases h
      have := congrArg List.length e
      rw [List.length_take, tx_len] at this
      omega
    · exact ih h
theorem word_le {ws : List Str} {x : Str} {n k : Nat} (hn : n ≤ x.length) (h : wordF ws ((tx x).drop n) = some k) : n + k ≤ x.length := by
  have h1 := wordF_le h
  rw [List.length_drop, tx_len] at h1
  omega
local macro_rules | `(tactic| walk_at "call ref") => `(tactic| (k_here; (with_reducible show wpAny _ _ (call (Value.ref 35) [Value.str _ _, Value.int _ _]) _ _ _); k_dflt (refine' useC (gap_behind_c _ _ _ _ _ (by first | assumption | exact bl_le (by assumption) | exact bl_le (word_le (bl_le (by assumption)) (by assumption)) | exact word_le (bl_le (by assumption)) (by assumption) | exact word_le (bl_le (word_le (bl_le (by assumption)) (by assumption))) (by assumption)) (by assumption)) ?k1 ?k2 ?k3 ?k4 ?k5 ?kK ?kd ?ku ?_); (case k1 => k_asm); (case k2 => k_asm); (case k3 => k_asm); (case k4 => k_asm); (case k5 => k_asm); (case kK => first | exact rfl | assumption); (case kd => ktr_room); (case ku => ktr_units); intro r9 h9 tk9 e9 F9 N9; obtain ⟨t9, e9⟩ := e9; subst e9; (try dsimp only)))
local macro_rules | `(tactic| walk_at "call ref") => `(tactic| (k_here; (with_reducible show wpAny _ _ (call (Value.ref 42) [Value.str _ _, Value.int _ _, Value.ref _]) _ _ _); k_dflt (refine' useL (word_at_3 _ _ _ _ _ _ _ _ _ (by first | assumption | exact bl_le (by assumption) | exact bl_le (word_le (bl_le (by assumption)) (by assumption)) | exact word_le (bl_le (by assumption)) (by assumption) | exact word_le (bl_le (word_le (bl_le (by assumption)) (by assumption))) (by assumption)) (by assumption)) ?k1 ?k2 ?k3 ?k4 ?k5 ?kK ?kd ?ku ?_); (case k1 => k_asm); (case k2 => k_asm); (case k3 => k_asm); (case k4 => assumption); (case k5 => k_asm); (case kK => first | exact rfl | assumption); (case kd => ktr_room); (case ku => ktr_units); intro r9 h9 tk9 e9 F9 N9; (simp only [List.cons_append, List.nil_append] at N9); obtain ⟨t9, e9⟩ := e9; subst e9; (try dsimp only); (generalize hW9 : wordF _ _ = o9; cases o9 <;> dsimp only [wordR])))
local macro_rules | `(tactic| walk_at "call ref") => `(tactic| (k_here; (with_reducible show wpAny _ _ (call (Value.ref 42) [Value.str _ _, Value.int _ _, Value.ref _]) _ _ _); k_dflt (refine' useL (word_at_6 _ _ _ _ _ _ _ _ _ _ _ _ (by first | assumption | exact bl_le (by assumption) | exact bl_le (word_le (bl_le (by assumption)) (by assumption)) | exact word_le (bl_le (by assumption)) (by assumption) | exact word_le (bl_le (word_le (bl_le (by assumption)) (by assumption))) (by assumption)) (by assumption)) ?k1 ?k2 ?k3 ?k4 ?k5 ?kK ?kd ?ku ?_); (case k1 => k_asm); (case k2 => k_asm); (case k3 => k_asm); (case k4 => assumption); (case k5 => k_asm); (case kK => first | exact rfl | assumption); (case kd => ktr_room); (case ku => ktr_units); intro r9 h9 tk9 e9 F9 N9; (simp only [List.cons_append, List.nil_append] at N9); obtain ⟨t9, e9⟩ := e9; subst e9; (try dsimp only); (generalize hW9 : wordF _ _ = o9; cases o9 <;> dsimp only [wordR])))

def badS (y : Str) : Bool := Txt.isalnum y || [Str.ofString "_", Str.ofString "$"].any fun z => z == y
def badL (l : List Nat) : Bool := badS ⟨(l.take 1).toArray⟩
theorem bad_at (x : Str) (i : Nat) : badS (Txt.slice x (some (i : Int)) (some ((i : Int) + 1))) = badL ((tx x).drop i) := by
  unfold badL
  congr 1
  apply tx_inj
  rw [slice_one]
  rfl
/-- a time's signs, none where it is no time -/
def timeF (l : List Nat) : Option Nat :=
  match wordF mags (l.drop (blLen l)) with
  | none => none
  | some k =>
    match wordF units (l.drop (blLen l + k + blLen (l.drop (blLen l + k)))) with
    | none => none
    | some j => if badL (l.drop (blLen l + k + blLen (l.drop (blLen l + k)) + j)) then none else some (blLen l + k + blLen (l.drop (blLen l + k)) + j)
section
variable {x : Str} {n k j : Nat}
theorem time_1 (h1 : wordF mags ((tx x).drop (n + blLen ((tx x).drop n))) = none) : (-1 : Int) = wordR n (timeF ((tx x).drop n)) := by
  unfold timeF
  rw [List.drop_drop, h1]
  rfl
theorem dd (l : List Nat) (n a : Nat) : (l.drop n).drop a = l.drop (n + a) := by rw [List.drop_drop]
theorem time_v (h1 : wordF mags ((tx x).drop (n + blLen ((tx x).drop n))) = some k) : timeF ((tx x).drop n) =
    match wordF units ((tx x).drop (n + blLen ((tx x).drop n) + k + blLen ((tx x).drop (n + blLen ((tx x).drop n) + k)))) with
    | none => none
    | some j => if badL ((tx x).drop (n + blLen ((tx x).drop n) + k + blLen ((tx x).drop (n + blLen ((tx x).drop n) + k)) + j)) then none else some (blLen ((tx x).drop n) + k + blLen ((tx x).drop (n + blLen ((tx x).drop n) + k)) + j) := by
  unfold timeF
  simp only [dd, h1, ← Nat.add_assoc]
theorem time_2 (h1 : wordF mags ((tx x).drop (n + blLen ((tx x).drop n))) = some k) (h2 : wordF units ((tx x).drop (n + blLen ((tx x).drop n) + k + blLen ((tx x).drop (n + blLen ((tx x).drop n) + k)))) = none) : (-1 : Int) = wordR n (timeF ((tx x).drop n)) := by
  rw [time_v h1, h2]
  rfl
theorem time_3 (h1 : wordF mags ((tx x).drop (n + blLen ((tx x).drop n))) = some k) (h2 : wordF units ((tx x).drop (n + blLen ((tx x).drop n) + k + blLen ((tx x).drop (n + blLen ((tx x).drop n) + k)))) = some j)
    (h3 : Txt.isalnum (Txt.slice x (some ((n + blLen ((tx x).drop n) + k + blLen ((tx x).drop (n + blLen ((tx x).drop n) + k)) + j : Nat) : Int)) (some (((n + blLen ((tx x).drop n) + k + blLen ((tx x).drop (n + blLen ((tx x).drop n) + k)) + j : Nat) : Int) + 1))) = true) : (-1 : Int) = wordR n (timeF ((tx x).drop n)) := by
  rw [time_v h1, h2]
  dsimp only
  rw [← bad_at, if_pos (by unfold badS; rw [h3]; rfl)]
  rfl
theorem time_4 (h1 : wordF mags ((tx x).drop (n + blLen ((tx x).drop n))) = some k) (h2 : wordF units ((tx x).drop (n + blLen ((tx x).drop n) + k + blLen ((tx x).drop (n + blLen ((tx x).drop n) + k)))) = some j)
    (h4 : ([Str.ofString "_", Str.ofString "$"].any fun z => z == (Txt.slice x (some ((n + blLen ((tx x).drop n) + k + blLen ((tx x).drop (n + blLen ((tx x).drop n) + k)) + j : Nat) : Int)) (some (((n + blLen ((tx x).drop n) + k + blLen ((tx x).drop (n + blLen ((tx x).drop n) + k)) + j : Nat) : Int) + 1)))) = true) : (-1 : Int) = wordR n (timeF ((tx x).drop n)) := by
  rw [time_v h1, h2]
  dsimp only
  rw [← bad_at, if_pos (by unfold badS; rw [h4, Bool.or_true])]
  rfl
theorem time_5 (h1 : wordF mags ((tx x).drop (n + blLen ((tx x).drop n))) = some k) (h2 : wordF units ((tx x).drop (n + blLen ((tx x).drop n) + k + blLen ((tx x).drop (n + blLen ((tx x).drop n) + k)))) = some j)
    (h3 : Txt.isalnum (Txt.slice x (some ((n + blLen ((tx x).drop n) + k + blLen ((tx x).drop (n + blLen ((tx x).drop n) + k)) + j : Nat) : Int)) (some (((n + blLen ((tx x).drop n) + k + blLen ((tx x).drop (n + blLen ((tx x).drop n) + k)) + j : Nat) : Int) + 1))) = false)
    (h4 : ([Str.ofString "_", Str.ofString "$"].any fun z => z == (Txt.slice x (some ((n + blLen ((tx x).drop n) + k + blLen ((tx x).drop (n + blLen ((tx x).drop n) + k)) + j : Nat) : Int)) (some (((n + blLen ((tx x).drop n) + k + blLen ((tx x).drop (n + blLen ((tx x).drop n) + k)) + j : Nat) : Int) + 1)))) = false) :
    ((n + blLen ((tx x).drop n) + k + blLen ((tx x).drop (n + blLen ((tx x).drop n) + k)) + j : Nat) : Int) = wordR n (timeF ((tx x).drop n)) := by
  rw [time_v h1, h2]
  dsimp only
  rw [← bad_at, if_neg (by unfold badS; rw [h3, h4]; decide)]
  show _ = ((n + (blLen ((tx x).drop n) + k + blLen ((tx x).drop (n + blLen ((tx x).drop n) + k)) + j) : Nat) : Int)
  omega
end
theorem bl_le' (l : List Nat) : blLen l ≤ l.length := takeWhile_le blC l
theorem timeF_le {l : List Nat} {a : Nat} (h : timeF l = some a) : a ≤ l.length := by
  unfold timeF at h
  split at h
  · cases h
  · rename_i k h1
    split at h
    · cases h
    · rename_i j h2
      split at h
      · cases h
      · cases h
        have e1 := wordF_le h1
        have e2 := wordF_le h2
        have e3 := bl_le' l
        have e4 := bl_le' (l.drop (blLen l + k))
        rw [List.length_drop] at e1 e2 e4
        omega
theorem time_end_c (w : World) (x : Str) (n : Nat) (t u : Tok) (hn : n ≤ x.length) (hx : x.length ≤ 100000) : PureC w 49 6 [.str x t, .int n u] (fun r => ∃ tk, r = .int (wordR n (timeF ((tx x).drop n))) tk) := by
  unfold PureC
  k_with_none
  k_fill
  intro mean mg mb dp un gd cn cs a ccd cl outer A₀ base h₀ L m news s Q E B F X N T hk hd hu hret
  refine wpAny_call ?_
  k_dflt ktr_enter
  k_steps
  all_goals (refine hret _ _ _ ⟨_, congrArg (fun z => Value.int z _) ?_⟩ (by k_asm) (by first | k_asm | (refine' cb_drop ?cbN ?cbS; (case cbN => assumption); (case cbS => kcj_all))))
  all_goals first | exact time_1 (by assumption) | exact time_2 (by assumption) (by assumption) | exact time_3 (by assumption) (by assumption) (by assumption) | exact time_4 (by assumption) (by assumption) (by assumption) | exact time_5 (by assumption) (by assumption) (by assumption) (by assumption)
end Mine
namespace Mine
local macro_rules | `(tactic| walk_at "unused 0") => `(tactic| skip)
theorem fresh_C7 : True := by
  first | row_walk | exact True.intro

theorem time_end_z (w : World) (x : Str) (z : Int) (t u : Tok) (h0 : 0 ≤ z) (hz : z ≤ x.length) (hx : x.length ≤ 100000) : PureC w 49 6 [.str x t, .int z u] (fun r => ∃ tk, r = .int (wordR z.toNat (timeF ((tx x).drop z.toNat))) tk) := by
  have e : z = ((z.toNat : Nat) : Int) := by omega
  have h := time_end_c w x z.toNat t u (by omega) hx
  rw [← e] at h
  exact h
/-- the operand of a time scale: its signs -/
def tsF (l : List Nat) : Option Nat :=
  match timeF l with
  | none => none
  | some a => if (l.drop (a + blLen (l.drop a))).head? = some 47 then (match timeF (l.drop (a + blLen (l.drop a) + 1)) with | none => none | some b => some (a + blLen (l.drop a) + 1 + b)) else none
theorem tx_slash : tx (Str.ofString "/") = [47] := by decide +kernel
section
variable {x : Str} {n a b : Nat}
theorem stroke_ne (x : Str) (i : Nat) : (Txt.slice x (some (i : Int)) (some ((i : Int) + 1)) != Str.ofString "/") = !decide (((tx x).drop i).head? = some 47) := by
  show (!(_ == _)) = _
  rw [lit_one _ _ tx_slash]
theorem ts_1 (h1 : timeF ((tx x).drop n) = none) : (-1 : Int) = wordR n (tsF ((tx x).drop n)) := by
  unfold tsF
  rw [h1]
  rfl
theorem ts_v (h1 : timeF ((tx x).drop n) = some a) : tsF ((tx x).drop n) = if ((tx x).drop (n + a + blLen ((tx x).drop (n + a)))).head? = some 47 then (match timeF ((tx x).drop (n + a + blLen ((tx x).drop (n + a)) + 1)) with | none => none | some b => some (a + blLen ((tx x).drop (n + a)) + 1 + b)) else none := by
  unfold tsF
  simp only [dd, h1, ← Nat.add_assoc]
theorem ts_2 (h1 : timeF ((tx x).drop n) = some a) (h2 : (Txt.slice x (some ((n + a + blLen ((tx x).drop (n + a)) : Nat) : Int)) (some (((n + a + blLen ((tx x).drop (n + a)) : Nat) : Int) + 1)) != Str.ofString "/") = true) : (-1 : Int) = wordR n (tsF ((tx x).drop n)) := by
  rw [stroke_ne, Bool.not_eq_true', decide_eq_false_iff_not] at h2
  rw [ts_v h1, if_neg h2]
  rfl
theorem ts_3 (h1 : timeF ((tx x).drop n) = some a) (h2 : (Txt.slice x (some ((n + a + blLen ((tx x).drop (n + a)) : Nat) : Int)) (some (((n + a + blLen ((tx x).drop (n + a)) : Nat) : Int) + 1)) != Str.ofString "/") = false) :
    wordR ((((n + a + blLen ((tx x).drop (n + a)) : Nat) : Int) + 1)).toNat (timeF ((tx x).drop ((((n + a + blLen ((tx x).drop (n + a)) : Nat) : Int) + 1)).toNat)) = wordR n (tsF ((tx x).drop n)) := by
  rw [stroke_ne, Bool.not_eq_false', decide_eq_true_eq] at h2
  rw [ts_v h1, if_pos h2]
  have e : (((n + a + blLen ((tx x).drop (n + a)) : Nat) : Int) + 1).toNat = n + a + blLen ((tx x).drop (n + a)) + 1 := by omega
  rw [e]
  cases timeF ((tx x).drop (n + a + blLen ((tx x).drop (n + a)) + 1)) with
  | none => rfl
  | some b =>
    show ((n + a + blLen ((tx x).drop (n + a)) + 1 + b : Nat) : Int) = ((n + (a + blLen ((tx x).drop (n + a)) + 1 + b) : Nat) : Int)
    omega
theorem time_le (hn : n ≤ x.length) (h1 : timeF ((tx x).drop n) = some a) : n + a ≤ x.length := by
  have := timeF_le h1
  rw [List.length_drop, tx_len] at this
  omega
theorem stroke_lt {i : Nat} (h : (Txt.slice x (some (i : Int)) (some ((i : Int) + 1)) != Str.ofString "/") = false) : ((i : Int) + 1) ≤ (x.length : Int) := by
  rw [stroke_ne, Bool.not_eq_false', decide_eq_true_eq] at h
  have : i < (tx x).length := by
    apply Classical.byContradiction
    intro hc
    rw [List.drop_eq_nil_of_le (by omega)] at h
    cases h
  rw [tx_len] at this
  omega
end
local macro_rules | `(tactic| walk_at "call ref") => `(tactic| (k_here; (with_reducible show wpAny _ _ (call (Value.ref 35) [Value.str _ _, Value.int _ _]) _ _ _); k_dflt (refine' useC (gap_behind_c _ _ _ _ _ (by first | assumption | exact time_le (by assumption) (by assumption)) (by assumption)) ?k1 ?k2 ?k3 ?k4 ?k5 ?kK ?kd ?ku ?_); (case k1 => k_asm); (case k2 => k_asm); (case k3 => k_asm); (case k4 => k_asm); (case k5 => k_asm); (case kK => first | exact rfl | assumption); (case kd => ktr_room); (case ku => ktr_units); intro r9 h9 tk9 e9 F9 N9; obtain ⟨t9, e9⟩ := e9; subst e9; (try dsimp only)))
local macro_rules | `(tactic| walk_at "call ref") => `(tactic| (k_here; (with_reducible show wpAny _ _ (call (Value.ref 49) [Value.str _ _, Value.int _ _]) _ _ _); k_dflt (refine' useC (time_end_z _ _ _ _ _ (by omega) (stroke_lt (by assumption)) (by assumption)) ?k1 ?k2 ?k3 ?k4 ?k5 ?kK ?kd ?ku ?_); (case k1 => k_asm); (case k2 => k_asm); (case k3 => k_asm); (case k4 => k_asm); (case k5 => k_asm); (case kK => first | exact rfl | assumption); (case kd => ktr_room); (case ku => ktr_units); intro r9 h9 tk9 e9 F9 N9; obtain ⟨t9, e9⟩ := e9; subst e9; (try dsimp only)))
local macro_rules | `(tactic| walk_at "call ref") => `(tactic| (k_here; (with_reducible show wpAny _ _ (call (Value.ref 49) [Value.str _ _, Value.int _ _]) _ _ _); k_dflt (refine' useC (time_end_c _ _ _ _ _ (by assumption) (by assumption)) ?k1 ?k2 ?k3 ?k4 ?k5 ?kK ?kd ?ku ?_); (case k1 => k_asm); (case k2 => k_asm); (case k3 => k_asm); (case k4 => k_asm); (case k5 => k_asm); (case kK => first | exact rfl | assumption); (case kd => ktr_room); (case ku => ktr_units); intro r9 h9 tk9 e9 F9 N9; obtain ⟨t9, e9⟩ := e9; subst e9; (try dsimp only); (generalize hW9 : timeF _ = o9; cases o9 <;> dsimp only [wordR])))
theorem timescale_end_c (w : World) (x : Str) (n : Nat) (t u : Tok) (hn : n ≤ x.length) (hx : x.length ≤ 100000) : PureC w 56 9 [.str x t, .int n u] (fun r => ∃ tk, r = .int (wordR n (tsF ((tx x).drop n))) tk) := by
  unfold PureC
  k_with_none
  k_fill
  intro mean mg mb dp un gd cn cs a ccd cl outer A₀ base h₀ L m news s Q E B F X N T hk hd hu hret
  refine wpAny_call ?_
  k_dflt ktr_enter
  k_steps
  all_goals (refine hret _ _ _ ⟨_, congrArg (fun z => Value.int z _) ?_⟩ (by k_asm) (by first | k_asm | (refine' cb_drop ?cbN ?cbS; (case cbN => assumption); (case cbS => kcj_all))))
  all_goals first | exact ts_1 (by assumption) | exact ts_2 (by assumption) (by assumption) | exact ts_3 (by assumption) (by assumption)
end Mine
namespace Mine
theorem fresh_D1 : True := by
  first | row_walk | exact True.intro
section
variable {M : Model} {A : Around} {E : Value → Shared → Prop} {h : Heap} {g : Array GenState} {d : Drawn} {t : Nat} {os : OsState}
variable {nm q : Str} {C N : Addr} {bs bm : List Value} {hdct : Bool} {sn : List Str} {sub : List Value} {ab : Bool} {col : Option Bool} {dd : Option Addr} {k0 k1 k2 k3 k5 : Option Value}
/-- an own class of exceptions over Exception, at any depth -/
theorem ex_check_new (hB : bm.contains (.type "Exception") = true) {rest : List Value} {Q : Unit → Shared → Prop} (hC : h.get? C = some (excClassObj nm q C N bs bm hdct sn sub ab col dd k0 k1 k2 k3 k5 "Exception.__new__"))
    (hq : Q () ⟨h, g, d, t, os⟩) : wpAny M A (checkBuiltinCall "Exception.__new__" ⟨.ref C :: rest, []⟩) Q E ⟨h, g, d, t, os⟩ := by
  have hcont : (Value.ref C :: bm).contains (.type "Exception") = true := by rw [List.contains_cons, hB, Bool.or_true]
  have F := PySem.F.excBase_Exception
  have hstar := F.noStar
  simp only [checkBuiltinCall, F.newKind, F.newSplit, F.newRow]
  repeat (first | refine wpAny_loadPart_at hC ?_ | (refine wpAny_isSubtype_exc hC ?_; rw [hcont]) | refine wpAny_staticBase_exc hC ?_ | refine wpAny_madeBy_exc hC ?_ | simp only [bne_self_eq_false, Bool.false_eq_true, if_false] | wp_step)
  exact hq
end
section
variable {prog : Program} {w : World} {A : Around} {R : Result → Shared → Prop} {h : Heap} {g : Array GenState} {d : Drawn} {t : Nat} {os : OsState}
variable {nm q : Str} {C N : Addr} {bs bm : List Value} {hdct : Bool} {sn : List Str} {sub : List Value} {ab : Bool} {col : Option Bool} {dd : Option Addr} {k0 k1 k2 k3 k5 : Option Value}
theorem ex_new (hB : bm.contains (.type "Exception") = true) (hAt : bm.contains (.type "AttributeError") = false) (hNm : bm.contains (.type "NameError") = false) {rest : List Value}
    (hC : h.get? C = some (excClassObj nm q C N bs bm hdct sn sub ab col dd k0 k1 k2 k3 k5 "Exception.__new__"))
    (hq : R (.ok (.ret (.ref (h.objs.size + 1)))) ⟨(h.push { cls := .type "tuple", data := .seq rest.toArray }).push
      { cls := .ref C, data := .fields #[.ref h.objs.size, .none, .none, .none, .bool false, .none] }, g, d, t, os⟩) (hrest : rest.length ≤ sizeLine := by size_fits) :
    codeAny (model prog w) A (.builtin "Exception.__new__" ⟨.ref C :: rest, []⟩) R ⟨h, g, d, t, os⟩ := by
  have F := PySem.F.excBase_Exception
  have hends := F.ends
  have hcB : (Value.ref C :: bm).contains (.type "Exception") = true := by rw [List.contains_cons, hB, Bool.or_true]
  have hcA : (Value.ref C :: bm).contains (.type "AttributeError") = false := by rw [List.contains_cons, hAt]; rfl
  have hcN : (Value.ref C :: bm).contains (.type "NameError") = false := by rw [List.contains_cons, hNm]; rfl
  refine codeAny_builtinAt F.entry ?_
  unfold Builtin.«BaseException.__new__»
  refine PySem.wpAt_bind ?_
  show PySem.wpAt _ _ _ (stack >>= _) _ _ _
  refine PySem.wpAt_bind (PySem.wpAt_stack fun p below => PySem.wpAt_of_wpAny ?_)
  wp_walk
  refine PySem.wpAt_of_wpAny ?_
  rw [F.owner]
  repeat (first | with_reducible refine wpAny_madeHere_exc F.canon hC ?_ | with_reducible refine wpAny_loadPart_at hC ?_ | (with_reducible refine wpAny_isSubtype_exc hC ?_; first | rw [hcB] | rw [hcA] | rw [hcN]) | wp_step)
  show R _ _
  rw [Heap.size_push]
  exact hq
end
section
variable {prog : Program} {w : World} {A : Around} {E : Value → Shared → Prop} {h : Heap} {g : Array GenState} {d : Drawn} {t : Nat} {os : OsState}
variable {nm q : Str} {C N : Addr} {bs bm : List Value} {hdct : Bool} {sn : List Str} {sub : List Value} {ab : Bool} {col : Option Bool} {dd : Option Addr} {k0 k1 k2 k3 k5 : Option Value}
theorem ex_type_call (hB : bm.contains (.type "Exception") = true) (hAt : bm.contains (.type "AttributeError") = false) (hNm : bm.contains (.type "NameError") = false) {rest : List Value} {fI : Addr} {oI : Obj} {Q : Fin → Shared → Prop}
    (hC : h.get? C = some (excClassObj nm q C N bs bm hdct sn sub ab col dd k0 k1 k2 k3 k5 "Exception.__new__"))
    (hl : Looks (model prog w) h (typeLookup (.ref C) "__init__") (some (.ref fI))) (hfI : h.get? fI = some oI) (hfc : oI.cls = .type "function")
    (hq : ∀ h' e, Heap.MadeExcOf h h' e (.ref C) rest →
      wpAny (model prog w) A (call (.ref fI) (.ref e :: rest)) (fun r s' => r = .none ∧ Q (.done (.ret (.ref e))) s') E ⟨h', g, d, t, os⟩) (hrest : rest.length ≤ sizeLine := by size_fits) :
    wpAny (model prog w) A (Builtin.«type.__call__» ⟨.ref C :: rest, []⟩) Q E ⟨h, g, d, t, os⟩ := by
  have F := PySem.F.excBase_Exception
  repeat (first | with_reducible refine wpAny_loadPart_at hC ?_ | with_reducible refine wpAny_madeBy_exc hC ?_ | wp_step)
  refine codeAny_call_builtin_code (Code.quiet_builtin _ F.quiet) (ex_check_new hB hC ?_)
  refine ex_new hB hAt hNm hC ?_ hrest
  show wpAny _ _ _ _ _ _
  have kp : ∀ b o, h.get? b = some o → ((h.push { cls := .type "tuple", data := .seq rest.toArray }).push { cls := .ref C, data := .fields #[.ref h.objs.size, .none, .none, .none, .bool false, .none] }).get? b = some o :=
    fun b o e => Heap.get?_push_of_some _ (Heap.get?_push_of_some _ e)
  have hC₁ := kp _ _ hC
  have hfI₁ := kp _ _ hfI
  have hl₁ := hl.keeps kp
  have hget : ((h.push { cls := .type "tuple", data := .seq rest.toArray }).push
      { cls := .ref C, data := .fields #[.ref h.objs.size, .none, .none, .none, .bool false, .none] }).get? (h.objs.size + 1) = some
      { cls := .ref C, data := .fields #[.ref h.objs.size, .none, .none, .none, .bool false, .none] } := by heap_get
  have hcC : (Value.ref C :: bm).contains (.ref C) = true := by simp
  unfold isInstance
  repeat (first | with_reducible refine wpAny_loadPart_at hget ?_ | (with_reducible refine wpAny_isSubtype_exc hC₁ ?_; rw [hcC]) | wp_step)
  show wpAny _ _ (typeLookup (.ref C) _) _ _ _
  refine hl₁.here ?_
  refine wpAny_holding (wpAny_bind ?_)
  unfold bindSpecial
  refine wpAny_bind (wpAny_typeOf (T := "function") ⟨_, hfI₁, hfc⟩ ?_)
  rw [if_pos (by decide)]
  refine wpAny_pure (wpAny_bind (wpAny_mono (hq _ (h.objs.size + 1) ⟨kp, Heap.get?_none_of_le (Nat.le_succ _), h.objs.size, hget, Heap.get?_none_of_le (Nat.le_refl _), ?_⟩) (fun r s' hr => ?_) fun _ _ x => x))
  · exact Heap.get?_push_of_some _ (Heap.get?_push_at rfl rfl)
  · obtain ⟨rfl, hQ⟩ := hr
    wp_walk
    exact hQ
theorem ex_call (hB : bm.contains (.type "Exception") = true) (hAt : bm.contains (.type "AttributeError") = false) (hNm : bm.contains (.type "NameError") = false) {rest : List Value} {fI : Addr} {oI : Obj} {Q : Value → Shared → Prop}
    (hC : h.get? C = some (excClassObj nm q C N bs bm hdct sn sub ab col dd k0 k1 k2 k3 k5 "Exception.__new__"))
    (hl : Looks (model prog w) h (typeLookup (.ref C) "__init__") (some (.ref fI))) (hfI : h.get? fI = some oI) (hfc : oI.cls = .type "function")
    (hq : ∀ h' e, Heap.MadeExcOf h h' e (.ref C) rest →
      wpAny (model prog w) (A.under (.builtin "type.__call__" ⟨.ref C :: rest, []⟩)) (call (.ref fI) (.ref e :: rest)) (fun r s' => r = .none ∧ Q (.ref e) s') E ⟨h', g, d, t, os⟩) (hrest : rest.length ≤ sizeLine := by size_fits) :
    wpAny (model prog w) A (call (.ref C) rest) Q E ⟨h, g, d, t, os⟩ := by
  have f1 := tc_lookup
  have f2 := tc_bind (.ref C)
  have hT : (⟨h, g, d, t, os⟩ : Shared).TypeIs (.ref C) "type" := ⟨_, hC, rfl⟩
  refine wpAny_call (codeAny_of_tree ?_)
  show wpAny _ _ (callAny (.ref C) _) _ _ _
  repeat (any_goals (first | assumption | with_reducible refine wpAny_loadPart_at hC ?_ | wp_step))
  refine ⟨rfl, ?_⟩
  refine codeAny_call_builtin_at (Code.quiet_builtin _ (by decide +kernel)) entry_typeCall (wpAny_check_type_call_sub hC (ex_type_call (hrest := hrest) hB hAt hNm hC hl hfI hfc fun h' e hm => ?_))
  exact hq h' e hm
end
end Mine
namespace Mine
theorem fresh_D2 : True := by
  first | row_walk | exact True.intro
open PySem.Builtin PySem.Builtin.ObjectAttr
section
variable {prog : Program} {w : World} {A : Around} {R : Result → Shared → Prop} {s : Shared} {K : Frag} {x C L : Addr} {h₀ : Heap} {m : Str → Option Value} {news : List (Addr × Obj)}
/-- a store's head, over any own class whose line of classes lets object's own store pass -/
theorem ex_open {ox : Obj} {od : Option Obj} {name : Str} {tk : Tok} {v : Value} {cd : ClassData} (X : K.In s.heap) (I : InstAt s.heap x ox C od) (hc : clsIn K C = some cd)
    (hr : refuseLoop (.ref x) "__setattr__" cd.mro = pure ()) (ho : mroIn K C (.type "object") = some true) (ha : findIn K (.ref C) name = some none)
    (h : ∀ b, wpAny (model prog w) A.in1 (storeInOwnDict (.ref x) (.ref C) (.str name tk) name v b)
      (fun fin s' => match fin with | .done f => R (.ok f) s' | .again c' => c'.quiet = true ∧ codeAny (model prog w) A c' R s') (fun e s' => R (.error e) s') s) :
    codeAny (model prog w) A (.call (.builtin "object.__setattr__") ⟨[.ref x, .str name tk, v], []⟩) R s := by
  have SF := PySem.F.store_object
  have sub : Looks (model prog w) s.heap (isInstance (.ref x) (.type "object")) true := I.type.andThen (looks_mroIn X ho)
  refine codeAny_call_builtin SF.slot.plain SF.entry (@check_slot (model prog w) _ _ s "object.__setattr__" "object" "__setattr__" (.ref x) [.str name tk, v] [] _ SF.kind SF.split sub (SF.args (.ref x) (.str name tk) v) ?_)
  have hm : Looks (model prog w) s.heap (mroOf (.ref C)) cd.mro := (looks_clsIn X hc).andThen .now
  rw [osa_eq, refuse_eq]
  refine wpAny_bind (wpAny_bind (I.type.here (wpAny_bind (hm.here ?_))))
  rw [hr]
  refine wpAny_pure (wpAny_bind (I.type.here (wpAny_bind ((looks_findIn X ha).here (wpAny_bind (wpAny_pure ?_))))))
  exact h _
/-- a store over the object's dict, which stands -/
theorem ex_dict {ox : Obj} {dx : Addr} {name : Str} {tk : Tok} {v : Value} {pre post : List (Addr × Obj)} {es es' : List DictEntry} {n n' : Nat} {cd : ClassData} (F : Fr h₀ L s.heap m) (N : News h₀ L s.heap (pre ++ (dx, dictOf es n) :: post)) (X : K.In s.heap)
    (I : InstAt s.heap x ox C (some (dictOf es n))) (hd : ox.dict = some dx) (hc : clsIn K C = some cd) (hcd : cd.hasDict = true)
    (hr : refuseLoop (.ref x) "__setattr__" cd.mro = pure ()) (ho : mroIn K C (.type "object") = some true) (ha : findIn K (.ref C) name = some none)
    (hl : (getL name es).isSome = true) (h1 : ∀ p ∈ pre, p.1 ≠ dx) (h2 : ∀ p ∈ post, p.1 ≠ dx)
    (e : (putL name (PyData.keyHash w.params name) (.str name s.toks) v es, putN name es n) = (es', n')) (hz : es'.length ≤ 1000)
    (h : ∀ h', Fr h₀ L h' m → News h₀ L h' (pre ++ (dx, dictOf es' n') :: post) → R (.ok (.ret .none)) { s with heap := h', toks := s.toks + 1 }) :
    codeAny (model prog w) A (.call (.builtin "object.__setattr__") ⟨[.ref x, .str name tk, v], []⟩) R s := by
  obtain ⟨e1, e2⟩ := Prod.mk.inj e
  refine ex_open X I hc hr ho ha fun b => ?_
  obtain ⟨U1, U2⟩ := news_upd (f := Obj.putName name (PyData.keyHash w.params name) (.str name s.toks) v) (o' := dictOf es' n') F N h1 h2 (by rw [putName_dict, e1, e2]) rfl
  have D := (N (dx, dictOf es n) (by simp)).1
  have D' := (U2 (dx, dictOf es' n') (by simp)).1
  obtain ⟨hx, hcl, hn, -⟩ := I
  obtain ⟨oc, odi, oda, osl⟩ := ox
  dsimp only at hcl hd
  subst hcl hd
  refine wpAny_bind (wpAny_pure (wpAny_bind (wpAny_bind (wpAny_loadPart hx (wpAny_bind ((looks_clsIn X hc).here ?_))))))
  rw [hcd]
  refine wpAny_pure (a := some dx) (wpAny_bind (wpAny_pure (wpAny_bind ?_)))
  unfold nsSet
  refine wpAny_bind (wpAny_bind (wpAny_askSetting (wpAny_pure (wpAny_bind (wpAny_mkText (wpAny_bind (wpAny_loadPart D ?_)))))))
  dsimp only [dictOf]
  have c : (!es.toArray.any (·.key.isStr name) && es.toArray.any (·.refKey)) = false := by
    unfold getL at hl
    simp only [List.any_toArray]
    split at hl
    · rename_i en he
      rw [List.any_eq_true.mpr ⟨en, List.mem_of_find?_eq_some he, List.find?_some he⟩]; rfl
    · split at hl
      · cases hl
      · rename_i z; rw [Bool.not_eq_true] at z; rw [z, Bool.and_false]
  rw [aRefKeyMayBeTheName_at, c]
  refine wpAny_updatePart D ?_
  refine wpAny_bind (wpAny_lookBehind D' (pastItsLine_dict (by rw [List.size_toArray, sizeLine_eq]; omega)) ?_)
  exact wpAny_pure (h _ U1 U2)
/-- the first store into an object without a dict makes one -/
theorem ex_fresh {ox : Obj} {name : Str} {tk : Tok} {v : Value} {pre post : List (Addr × Obj)} {cd : ClassData} (F : Fr h₀ L s.heap m) (N : News h₀ L s.heap (pre ++ (x, ox) :: post)) (X : K.In s.heap)
    (I : InstAt s.heap x ox C none) (hd : ox.dict = none) (hf : ox.isFreed = false) (hc : clsIn K C = some cd) (hcd : cd.hasDict = true)
    (hr : refuseLoop (.ref x) "__setattr__" cd.mro = pure ()) (ho : mroIn K C (.type "object") = some true) (ha : findIn K (.ref C) name = some none)
    (h1 : ∀ p ∈ pre, p.1 ≠ x) (h2 : ∀ p ∈ post, p.1 ≠ x)
    (h : ∀ D h', (∀ p ∈ pre ++ (x, ox) :: post, p.1 < D) → Fr h₀ L h' m → News h₀ L h' ((D, dictOf [⟨PyData.keyHash w.params name, .str name s.toks, v⟩] 1) :: (pre ++ (x, { ox with dict := some D }) :: post)) → R (.ok (.ret .none)) { s with heap := h', toks := s.toks + 1 }) :
    codeAny (model prog w) A (.call (.builtin "object.__setattr__") ⟨[.ref x, .str name tk, v], []⟩) R s := by
  refine ex_open X I hc hr ho ha fun b => ?_
  have hx := (N (x, ox) (by simp)).1
  obtain ⟨-, hcl, hn, -⟩ := I
  have F1 : Fr h₀ L (s.heap.push (dictOf [] 0)) m := F.push _
  have N1 := News.push F N (dictOf [] 0)
  have hlt : ∀ p ∈ pre ++ (x, ox) :: post, p.1 < s.heap.objs.size := fun p hp => Heap.lt_size (N p hp).1
  have hxD : s.heap.objs.size ≠ x := Nat.ne_of_gt (hlt (x, ox) (by simp))
  have hfr : ({ ox with dict := some s.heap.objs.size } : Obj).isFreed = false := by
    obtain ⟨oc, odi, oda, osl⟩ := ox
    cases oda <;> first | rfl | cases hf
  obtain ⟨U1, U2⟩ := news_upd (d := x) (pre := (s.heap.objs.size, dictOf [] 0) :: pre) (f := fun o => { cls := o.cls, dict := some s.heap.objs.size, data := o.data, slots := o.slots }) (o' := { ox with dict := some s.heap.objs.size }) F1 N1
    (fun p hp => by rcases List.mem_cons.mp hp with rfl | hp; exact hxD; exact h1 p hp) h2 rfl hfr
  have hpre : ∀ p ∈ pre ++ (x, { ox with dict := some s.heap.objs.size }) :: post, p.1 ≠ s.heap.objs.size := fun p hp => by
    rcases List.mem_append.mp hp with q | q
    · exact Nat.ne_of_lt (hlt p (List.mem_append_left _ q))
    · rcases List.mem_cons.mp q with rfl | q
      · exact Ne.symm hxD
      · exact Nat.ne_of_lt (hlt p (List.mem_append_right _ (.tail _ q)))
  obtain ⟨V1, V2⟩ := news_upd (d := s.heap.objs.size) (pre := []) (f := Obj.putName name (PyData.keyHash w.params name) (.str name s.toks) v) (o' := dictOf [⟨PyData.keyHash w.params name, .str name s.toks, v⟩] 1) U1 U2
    (fun _ hp => nomatch hp) hpre (by rw [putName_dict]; rfl) rfl
  have D := (U2 (s.heap.objs.size, dictOf [] 0) (by simp)).1
  have D' := (V2 (s.heap.objs.size, dictOf [⟨PyData.keyHash w.params name, .str name s.toks, v⟩] 1) (by simp)).1
  obtain ⟨hh, gg, dd, tt, oo⟩ := s
  obtain ⟨oc, odi, oda, osl⟩ := ox
  dsimp only at hcl hd hx hn
  subst hcl hd
  refine wpAny_bind (wpAny_pure (wpAny_bind (wpAny_bind (wpAny_loadPart hx (wpAny_bind ((looks_clsIn X hc).here ?_))))))
  rw [hcd]
  refine wpAny_bind (wpAny_pure ?_)
  have hx₁ : (hh.push (dictOf [] 0)).get? x = some { cls := Value.ref C, data := oda, slots := osl } := Heap.get?_push_of_some _ hx
  have step : wpAny (model prog w) A.in1 (do
      let d ← alloc { cls := Value.type "dict", data := Data.dict #[] }
      update x fun o => { cls := o.cls, dict := some d, data := o.data, slots := o.slots }
      dictMade (Value.ref C) x d) (fun a s' => wpAny (model prog w) A.in1
        (match a with
        | some d => storeInDict d (Value.str name tk) name v
        | none => noDictFor (Value.ref x) (Value.ref C) name b)
        (fun fin s' => match fin with | .done f => R (.ok f) s' | .again c' => c'.quiet = true ∧ codeAny (model prog w) A c' R s') (fun e s' => R (.error e) s') s')
      (fun e s' => R (.error e) s') { heap := hh, gens := gg, drawn := dd, toks := tt, os := oo } := by
    refine wpAny_bind (wpAny_alloc' ?_)
    refine wpAny_bind (wpAny_update' hx₁ ?_)
    refine wpAny_pure ?_
    dsimp only
    unfold storeInDict newKeyGuard
    refine wpAny_bind (wpAny_pure (wpAny_bind ?_))
    unfold nsSet
    refine wpAny_bind (wpAny_bind (wpAny_askSetting (wpAny_pure (wpAny_bind (wpAny_mkText (wpAny_bind (wpAny_loadPart D ?_)))))))
    dsimp only [dictOf]
    have c : (!(([] : List DictEntry).toArray.any (·.key.isStr name)) && ([] : List DictEntry).toArray.any (·.refKey)) = false := by simp
    rw [aRefKeyMayBeTheName_at, c]
    refine wpAny_updatePart D ?_
    refine wpAny_bind (wpAny_lookBehind D' (pastItsLine_dict (by rw [List.size_toArray, sizeLine_eq, List.length_cons, List.length_nil]; omega)) ?_)
    exact wpAny_pure (h _ _ hlt V1 V2)
  cases oda <;> first | exact step | cases hn
end
end Mine
namespace Mine
theorem fresh_D3 : True := by
  first | row_walk | exact True.intro
/-- an exception in flight, its object known but for its fields -/
structure FltT (base : Heap) (l : List Env) (e : Addr) (o : Obj) (fl : Value) (h : Heap) : Prop where
  stays : base.StaysIn h
  fresh : base.get? e = none
  ff : h.FunFrames base l
  obj : ∃ vs T oT ts, h.get? e = some { o with data := .fields vs } ∧ vs[1]? = some (.ref T) ∧ base.get? T = none ∧ T ≠ e ∧ h.get? T = some oT ∧ oT.data = .fields ts ∧ ts[3]? = some fl
section
variable {M : Model} {A : Around} {E : Value → Shared → Prop} {s : Shared}
theorem flt_entry {base : Heap} {env : Env} {outer : List Env} {L e : Addr} {o : Obj} {vs : Array Value} {head : Value} {b : Bool} {Q : Unit → Shared → Prop}
    (hfr : A.frames = some (env :: outer)) (hl : s.heap.FunFrames base (env :: outer)) (hf : env.frame = some L)
    (he : s.heap.get? e = some { o with data := .fields vs }) (hkb : base.StaysIn s.heap) (hen : base.get? e = none) (hsz : 1 < vs.size)
    (h : ∀ h', FltT base (env :: outer) e o (rawInt L) h' → s.heap.UpToSlots h' → Q () { s with heap := h' }) :
    wpAny M A (do let a ← frameOf env; let pl ← entryPlaceOf L b; let c ← EntryCells.newEntry head a .none (rawInt L) .none pl; setField (.ref e) 1 c) Q E s := by
  have hene : e ∉ (env :: outer).filterMap (·.frame) := fun hm => by
    obtain ⟨_, o', ho, hnf⟩ := hl.mem hm
    rw [he] at ho
    cases ho
    exact hnf vs rfl
  refine wpAny_bind (wpAny_frameOf_fun hfr hl hf fun h₁ hs₁ => ?_)
  refine wpAny_bind (wpAny_entryPlaceOf fun pl hpl => ?_)
  unfold EntryCells.newEntry newFields
  refine wpAny_bind (wpAny_newObj_type ?_ (hpl.sizeOk5 _ _ _ _ _))
  generalize htb : ({ cls := .type "traceback", dict := none, data := .fields ([head, .ref L, .none, rawInt L, .none] ++ (if pl.isEmpty then List.replicate 6 Value.none else pl)).toArray } : Obj) = tb
  have htbd : ∃ ts, tb.data = .fields ts ∧ ts[3]? = some (rawInt L) := by
    rw [← htb]
    exact ⟨_, rfl, by simp⟩
  have htbf : tb.isFreed = false := by rw [← htb]; rfl
  have he₁ : h₁.get? e = some { o with data := .fields vs } := (hs₁.2.1 e hene).trans he
  have he₂ := Heap.get?_push_of_some (h := h₁) tb he₁
  have hne : h₁.objs.size ≠ e := Nat.ne_of_gt (Heap.lt_size he₁)
  refine wpAny_setField he₂ rfl hsz (h _ ?_ ?_)
  · have kb₁ : base.StaysIn h₁ := fun c x hc => (hs₁.2.1 c fun hm => by rw [(hl.mem hm).1] at hc; cases hc).trans (hkb c x hc)
    have other : ∀ c x, c ≠ e → h₁.get? c = some x → ((h₁.push tb).update e (Obj.mapFields (·.setIfInBounds 1 (Value.ref h₁.objs.size)))).get? c = some x := fun c x hc hx =>
      (Heap.get?_update_other _ _ (Ne.symm hc)).trans (Heap.get?_push_of_some _ hx)
    obtain ⟨ts, ht1, ht2⟩ := htbd
    refine ⟨fun c x hc => other c x (fun q => by rw [q, hen] at hc; cases hc) (kb₁ c x hc), hen, hl.of_keeps fun c x hc hnf => ?_, vs.setIfInBounds 1 (.ref h₁.objs.size), h₁.objs.size, tb, ts, ?_, by simp [hsz], kb₁.fresh, hne, ?_, ht1, ht2⟩
    · obtain ⟨sl, hsl⟩ := hs₁.2.2 c x hc
      refine ⟨_, other c _ (fun q => ?_) hsl, rfl⟩
      rw [q, he] at hc
      cases hc
      exact hnf vs rfl
    · have hd₃ := Obj.data_mapFields (o := { o with data := .fields vs }) rfl (·.setIfInBounds 1 (Value.ref h₁.objs.size))
      exact Heap.get?_update_self (Obj.mapFields (·.setIfInBounds 1 (Value.ref h₁.objs.size))) he₂ (Obj.isFreed_of_fields hd₃)
    · exact (Heap.get?_update_other _ _ (Ne.symm hne)).trans (Heap.get?_push_size h₁ htbf)
  · intro c x hc hnf
    obtain ⟨sl, hsl⟩ := hs₁.2.2 c x hc
    refine ⟨sl, (Heap.get?_update_other _ _ fun q => ?_).trans (Heap.get?_push_of_some _ hsl)⟩
    rw [← q, he] at hc
    cases hc
    exact hnf vs rfl
theorem flt_note0 {base : Heap} {env : Env} {outer : List Env} {L e : Addr} {o : Obj} {vs : Array Value} {Q : Unit → Shared → Prop}
    (hfr : A.frames = some (env :: outer)) (hl : s.heap.FunFrames base (env :: outer)) (hf : env.frame = some L)
    (he : s.heap.get? e = some { o with data := .fields vs }) (hkb : base.StaysIn s.heap) (hen : base.get? e = none) (h1 : vs[1]? = some .none)
    (h : ∀ h', FltT base (env :: outer) e o (rawInt L) h' → s.heap.UpToSlots h' → Q () { s with heap := h' }) : wpAny M A (noteFrame (.ref e) env) Q E s := by
  unfold noteFrame
  simp only [hf]
  refine wpAny_bind (wpAny_field he rfl h1 ?_)
  rw [if_neg (by decide)]
  exact flt_entry hfr hl hf he hkb hen (Array.getElem?_eq_some_iff.mp h1).1 h
theorem flt_note {base : Heap} {env : Env} {outer : List Env} {L e : Addr} {o : Obj} {Q : Unit → Shared → Prop}
    (hfr : A.frames = some (env :: outer)) (hf : env.frame = some L) (X : FltT base (env :: outer) e o .none s.heap)
    (h : ∀ h', FltT base (env :: outer) e o (rawInt L) h' → s.heap.UpToSlots h' → Q () { s with heap := h' }) : wpAny M A (noteFrame (.ref e) env) Q E s := by
  obtain ⟨hkb, hen, hl, vs, T, oT, ts, he, h1, hnT, hTe, hT, hdT, h3⟩ := X
  unfold noteFrame
  simp only [hf]
  refine wpAny_bind (wpAny_field he rfl h1 ?_)
  rw [if_pos (show (Value.ref T != Value.none) = true from by simp)]
  refine wpAny_bind (wpAny_field hT hdT h3 ?_)
  rw [if_neg (show ¬ ((Value.none == rawInt L) = true) from by simp [rawInt])]
  refine wpAny_bind (wpAny_setField hT hdT (Array.getElem?_eq_some_iff.mp h3).1 ?_)
  have other : ∀ c, c ≠ T → (s.heap.update T (Obj.mapFields (·.setIfInBounds 3 Value.none))).get? c = s.heap.get? c := fun c hc => Heap.get?_update_other _ _ (Ne.symm hc)
  have noRec : ∀ c x, s.heap.get? c = some x → (∀ ws, x.data ≠ .fields ws) → c ≠ T := fun c x hc hnf q => by
    rw [q, hT] at hc
    cases hc
    exact hnf ts hdT
  refine flt_entry hfr (hl.of_keeps fun c x hc hnf => ⟨x, (other c (noRec c x hc hnf)).trans hc, rfl⟩) hf ((other e (Ne.symm hTe)).trans he)
    (fun c x hc => (other c fun q => by rw [q, hnT] at hc; cases hc).trans (hkb c x hc)) hen (Array.getElem?_eq_some_iff.mp h1).1
    fun h' x1 x2 => h h' x1 fun c x hc hnf => x2 c x ((other c (noRec c x hc hnf)).trans hc) hnf
theorem flt_again {base : Heap} {env : Env} {outer : List Env} {L e : Addr} {o : Obj} {Q : Unit → Shared → Prop} (hf : env.frame = some L) (X : FltT base (env :: outer) e o (rawInt L) s.heap) (h : Q () s) :
    wpAny M A (noteFrame (.ref e) env) Q E s := by
  obtain ⟨hkb, hen, hl, vs, T, oT, ts, he, h1, hnT, hTe, hT, hdT, h3⟩ := X
  unfold noteFrame
  simp only [hf]
  refine wpAny_bind (wpAny_field he rfl h1 ?_)
  rw [if_pos (show (Value.ref T != Value.none) = true from by simp)]
  refine wpAny_bind (wpAny_field hT hdT h3 ?_)
  rw [if_pos (show (rawInt L == rawInt L) = true from by simp)]
  exact wpAny_pure h
theorem flt_land {base : Heap} {l : List Env} {e : Addr} {o : Obj} {fl : Value} {Q : Unit → Shared → Prop} (X : FltT base l e o fl s.heap)
    (h : ∀ h', FltT base l e o .none h' → s.heap.UpToSlots h' → Q () { s with heap := h' }) : wpAny M A (setFlight (.ref e) none) Q E s := by
  obtain ⟨hkb, hen, hl, vs, T, oT, ts, he, h1, hnT, hTe, hT, hdT, h3⟩ := X
  have hsz3 : 3 < ts.size := (Array.getElem?_eq_some_iff.mp h3).1
  have other : ∀ c, c ≠ T → (s.heap.update T (Obj.mapFields (·.setIfInBounds 3 ((none : Option Addr).elim Value.none fun f => rawInt f)))).get? c = s.heap.get? c :=
    fun c hc => Heap.get?_update_other _ _ (Ne.symm hc)
  have noRec : ∀ c x, s.heap.get? c = some x → (∀ ws, x.data ≠ .fields ws) → c ≠ T := fun c x hc hnf q => by
    rw [q, hT] at hc
    cases hc
    exact hnf ts hdT
  unfold setFlight
  refine wpAny_bind (wpAny_field he rfl h1 ?_)
  rw [if_pos (show (Value.ref T != Value.none) = true from by simp)]
  refine wpAny_setField hT hdT hsz3 (h _ ⟨fun c x hc => (other c fun q => by rw [q, hnT] at hc; cases hc).trans (hkb c x hc), hen,
    hl.of_keeps fun c x hc hnf => ⟨x, (other c (noRec c x hc hnf)).trans hc, rfl⟩, vs, T, _, _, (other e (Ne.symm hTe)).trans he, h1, hnT, hTe, Heap.get?_update_self _ hT (Obj.isFreed_of_fields (Obj.data_mapFields hdT _)), Obj.data_mapFields hdT _, by simp [hsz3]⟩
    fun c x hc hnf => ⟨x.slots, (other c (noRec c x hc hnf)).trans hc⟩)
theorem flt_leave0 {base : Heap} {env : Env} {outer : List Env} {L e : Addr} {o : Obj} {vs : Array Value} {Q : Unit → Shared → Prop}
    (hfr : A.frames = some (env :: outer)) (hl : s.heap.FunFrames base (env :: outer)) (hf : env.frame = some L)
    (he : s.heap.get? e = some { o with data := .fields vs }) (hkb : base.StaysIn s.heap) (hen : base.get? e = none) (h1 : vs[1]? = some .none)
    (h : ∀ h', FltT base outer e o .none h' → s.heap.UpToSlots h' → Q () { s with heap := h' }) : wpAny M A (leaving env (.ref e)) Q E s := by
  unfold leaving
  refine wpAny_bind (flt_note0 hfr hl hf he hkb hen h1 fun h' x1 u1 => flt_land (s := { s with heap := h' }) x1 fun h'' x2 u2 => ?_)
  exact h h'' ⟨x2.stays, x2.fresh, x2.ff.2.2, x2.obj⟩ (u1.trans u2)
theorem flt_leave {base : Heap} {env : Env} {outer : List Env} {L e : Addr} {o : Obj} {Q : Unit → Shared → Prop}
    (hfr : A.frames = some (env :: outer)) (hf : env.frame = some L) (X : FltT base (env :: outer) e o .none s.heap)
    (h : ∀ h', FltT base outer e o .none h' → s.heap.UpToSlots h' → Q () { s with heap := h' }) : wpAny M A (leaving env (.ref e)) Q E s := by
  unfold leaving
  refine wpAny_bind (flt_note hfr hf X fun h' x1 u1 => flt_land (s := { s with heap := h' }) x1 fun h'' x2 u2 => ?_)
  exact h h'' ⟨x2.stays, x2.fresh, x2.ff.2.2, x2.obj⟩ (u1.trans u2)
end
end Mine
namespace Mine
theorem fresh_D4 : True := by
  first | row_walk | exact True.intro
/-- an exception in flight over a ledger that stands: G is the heap of the frame that it has come to -/
def RaisedD (base G : Heap) (l : List Env) (e : Addr) (o : Obj) (news : List (Addr × Obj)) (h : Heap) : Prop :=
  ∃ B, base.StaysIn B ∧ (∀ b x, G.get? b = some x → b ∉ l.filterMap (·.frame) → B.get? b = some x) ∧ (∀ q ∈ news, B.get? q.1 = some q.2 ∧ G.get? q.1 = none ∧ base.get? q.1 = none) ∧ FltT B l e o .none h
section
variable {M : Model} {A : Around} {E : Value → Shared → Prop} {s' : Shared} {base g g₂ h : Heap} {outer : List Env} {L a e : Addr} {m : Str → Option Value} {name : Str} {scope : Scope} {cd : Value} {Q : Unit → Shared → Prop} {news : List (Addr × Obj)} {o : Obj}
theorem leave_raiseD {vs : Array Value} (K : Below A base outer g) (F : Fr g L s'.heap m) (N : News g L s'.heap ((e, { o with data := .fields vs }) :: news)) (hne : ∀ q ∈ news, q.1 ≠ e) (h1 : vs[1]? = some .none)
    (hQ : ∀ h', RaisedD base g outer e o news h' → g.UpToSlots h' → Q () { s' with heap := h' }) (hk : scope.kind = .function := by rfl) :
    wpAny M (A.deeper (envOf name scope L a cd)) (leaving (envOf name scope L a cd) (.ref e)) Q E s' := by
  have K' := K.push (name := name) (a := a) (cd := cd) F hk
  have hE := N _ (.head _)
  have hfr : ∀ b, b ∈ e :: (envOf name scope L a cd :: outer).filterMap (·.frame) → b = e ∨ b ∈ (envOf name scope L a cd :: outer).filterMap (·.frame) := fun b hb => List.mem_cons.mp hb
  have st : base.StaysIn (hideAll s'.heap (e :: (envOf name scope L a cd :: outer).filterMap (·.frame))) := fun b x q => hideAll_get _ (K'.stays b x q) fun hm => by
    rcases hfr b hm with rfl | hm
    · rw [fresh_of_stays K.stays hE.2.2] at q; cases q
    · rw [(K'.frames.mem hm).1] at q; cases q
  have sg : ∀ b x, g.get? b = some x → b ∉ outer.filterMap (·.frame) → (hideAll s'.heap (e :: (envOf name scope L a cd :: outer).filterMap (·.frame))).get? b = some x := fun b x q nm => hideAll_get _ (F.keep b x q) fun hm => by
    rcases hfr b hm with rfl | hm
    · rw [hE.2.2] at q; cases q
    · rcases kts_mem hm with z | z
      · rw [z, kts_self F] at q; cases q
      · exact nm z
  have hl : ∀ q ∈ news, (hideAll s'.heap (e :: (envOf name scope L a cd :: outer).filterMap (·.frame))).get? q.1 = some q.2 ∧ g.get? q.1 = none ∧ base.get? q.1 = none := fun q hq => by
    have Nq := N q (.tail _ hq)
    refine ⟨hideAll_get _ Nq.1 fun hm => ?_, Nq.2.2, fresh_of_stays K.stays Nq.2.2⟩
    rcases hfr _ hm with z | hm
    · exact hne q hq z
    · obtain ⟨env, he, hf⟩ := List.mem_filterMap.mp hm
      rcases List.mem_cons.mp he with rfl | he
      · exact Nq.2.1 (Option.some.inj hf).symm
      · obtain ⟨x, hx, _⟩ := (K.frames.mem (List.mem_filterMap.mpr ⟨env, he, hf⟩)).2
        rw [Nq.2.2] at hx; cases hx
  have ffB : s'.heap.FunFrames (hideAll s'.heap (e :: (envOf name scope L a cd :: outer).filterMap (·.frame))) (envOf name scope L a cd :: outer) := by
    have := funFrames_hide (as := e :: (envOf name scope L a cd :: outer).filterMap (·.frame)) K'.frames (fun env he b hb => .tail _ (List.mem_filterMap.mpr ⟨env, he, hb⟩))
    exact this
  exact flt_leave0 (o := o) K'.stack ffB rfl hE.1 (fun b x q => of_hideAll _ q) (hideAll_none _ (.head _)) h1 fun h' x1 u1 => hQ h' ⟨_, st, sg, hl, x1⟩ ((Heap.UpToSlots.of_keeps F.keep).trans u1)
theorem leave_onD (K : Below A base outer g) (F : Fr g L g₂ m) (R : RaisedD base g₂ (envOf name scope L a cd :: outer) e o news s'.heap) (hsm : g₂.UpToSlots s'.heap)
    (hQ : ∀ h', RaisedD base g outer e o news h' → g.UpToSlots h' → Q () { s' with heap := h' }) :
    wpAny M (A.deeper (envOf name scope L a cd)) (leaving (envOf name scope L a cd) (.ref e)) Q E s' := by
  obtain ⟨B, hB, hBG, hl, hfl⟩ := R
  exact flt_leave (Around.frames_deeper K.stack) rfl hfl fun h' x1 x2 => hQ h' ⟨B, hB, fun b x q nm => hBG b x (F.keep b x q) (fun hm => by
      rcases kts_mem hm with z | z
      · rw [z, kts_self F] at q
        cases q
      · exact nm z), fun q hq => ⟨(hl q hq).1, kts_none F.keep (hl q hq).2.1, (hl q hq).2.2⟩, x1⟩ ((Heap.UpToSlots.of_keeps F.keep).trans (hsm.trans x2))
end
section
variable {prog : Program} {w : World} {A₀ : Around} {E : Value → Shared → Prop} {s' : Shared} {base g G : Heap} {outer : List Env} {L a e C : Addr} {m : Str → Option Value} {name : Str} {scope : Scope} {cd : Value}
  {n : Str} {b₀ : Stmt} {suite : List Stmt} {pos np : Pos} {rest : List ExceptHandler} {Q : Flow → Shared → Prop} {news : List (Addr × Obj)} {KF : Frag} {o : Obj}
  {p : Program} {loose : List Str} {mean : ExcName → Option Value} {mg mb : Str → Option Value} {x : Str}
theorem caught_D (R : RaisedD base G (envOf name scope L a cd :: outer) e o news s'.heap) (ho : o.cls = .ref C) (F : Fr g L G m) (K : Below A₀ base outer g) (hsm : G.UpToSlots s'.heap) (XB : KF.In base) (TB : Top p loose mean mg mb base)
    (ex : nsIn KF mainGlobals x = some (some (.ref C))) (q : ktsIn KF C "BaseException" = true)
    (k : ∀ h' g' vs tk, KtsTurn (outer.filterMap (·.frame)) g g' → Fr g' L h' (fun y => if y = n then some (.ref e) else m y) → News g' L h' ((e, { o with data := .fields vs }) :: news) → Below A₀ base outer g' → KF.In g' → Top p loose mean mg mb g' →
      wpAny (model prog w) ((A₀.deeper (envOf name scope L a cd)).mark (some (.ref e))) (execs (b₀ :: suite) (envOf name scope L a cd))
        (fun f s₄ => wpAny (model prog w) (A₀.deeper (envOf name scope L a cd)) (do bindName (envOf name scope L a cd) n .none; unbindBehindTheSuite (envOf name scope L a cd) n pos) (fun _ s₅ => Q f s₅) E s₄)
        (AsSuiteRaised (model prog w) ((A₀.deeper (envOf name scope L a cd)).mark (some (.ref e))) (envOf name scope L a cd) n pos (notedBy (model prog w) ((A₀.deeper (envOf name scope L a cd)).mark (some (.ref e))) (envOf name scope L a cd) (cameBackBy (model prog w) (A₀.deeper (envOf name scope L a cd)) (envOf name scope L a cd) E)))
        { s' with heap := h', toks := tk })
    (hk : scope.kind = .function := by rfl) (hlo : (envOf name scope L a cd).kindOf n = some .local := by rfl) (hx : (envOf name scope L a cd).kindOf x = some .globalImplicit := by rfl) (hd : (x == ("__debug__" : Str)) = false := by decide) :
    wpAny (model prog w) (A₀.deeper (envOf name scope L a cd)) (noteFrame (.ref e) (envOf name scope L a cd))
      (fun _ s₂ => wpAny (model prog w) (A₀.deeper (envOf name scope L a cd)) (setFlight (.ref e) none) (fun _ s₃ =>
        wpAny (model prog w) (A₀.deeper (envOf name scope L a cd)) (handleBy (.ref e) (envOf name scope L a cd) (.ExceptHandler (some (.Name x np)) (some n) (b₀ :: suite) pos :: rest)) Q E s₃) E s₂) E s' := by
  obtain ⟨B, hB, hBG, hl, hfl⟩ := R
  have hL : B.get? L = none := by
    obtain ⟨_, ⟨L', _, hf, hn', _⟩, _⟩ := hfl.ff
    obtain rfl : L = L' := Option.some.inj hf
    exact hn'
  refine flt_note (Around.frames_deeper K.stack) rfl hfl fun h₄ x₄ hsm₄ => ?_
  refine flt_land (s := { s' with heap := h₄ }) x₄ fun h₅ x₅ hsm₅' => ?_
  have hsm₅ := hsm₄.trans hsm₅'
  obtain ⟨g₅, T₅, F₅, K₅⟩ := kts_ground K F hBG x₅.stays (hsm.trans hsm₅)
  have X₅ : KF.In g₅ := XB.keeps K₅.stays
  have P₅ : TopRead p loose mg mb g₅ := topRead_of (TB.keeps K₅.stays)
  obtain ⟨vs₅, -, -, -, hob, -⟩ := x₅.obj
  obtain ⟨nm, q', N, bs, bm, hdct, sn, sub, ab, col, dd, k0, k1, k2, k3, k5, newId, hC, hbase, hbT⟩ := kts_cls X₅ q
  have hC₅ := F₅.keep _ _ hC
  refine wpAny_handleBy_cons (codeAny_handlers_test (name_K F₅ X₅ P₅ ex ?_ hk hx hd)) (by intro q; cases q)
  refine wpAny_excMatches_sub_self hC₅ hob ho hbase (codeAny_handlers_suite_as ?_)
  refine flt_land x₅ fun h₆ x₆ hsm₆ => ?_
  obtain ⟨g₆, T₆, F₆, K₆⟩ := kts_ground K F hBG x₆.stays ((hsm.trans hsm₅).trans hsm₆)
  obtain ⟨vs₆, -, -, -, hoe, -⟩ := x₆.obj
  have ne₆ : g₆.get? e = none := T₆.none_ _ (kts_fresh F hBG x₆.fresh fun o' ho' m' => by
    obtain ⟨_, o'', ho'', hd⟩ := K.frames.mem m'
    rw [ho'] at ho''
    cases ho''
    obtain ⟨sl, hs⟩ := ((hsm.trans hsm₅).trans hsm₆) _ _ (F.keep _ _ ho') hd
    rw [hoe] at hs
    have z : Data.fields vs₆ = o'.data := congrArg Obj.data (Option.some.inj hs)
    exact hd _ z.symm)
  have N₆ := News.more F₆ News.nil hoe (fun es n q => by cases q) ne₆
  have Nl : News g₆ L h₆ news := fun q hq => ⟨x₆.stays _ _ (hl q hq).1, (fun z => by have := (hl q hq).1; rw [z, hL] at this; cases this), T₆.none_ _ (kts_none F.keep (hl q hq).2.1)⟩
  refine stN F₆ (news := (e, { o with data := .fields vs₆ }) :: news) (fun q hq => by rcases List.mem_cons.mp hq with rfl | hq; exact N₆ _ (.head _); exact Nl q hq) (fun h₇ F₇ N₇ => ?_) hk hlo
  exact k h₇ g₆ vs₆ _ T₆ F₇ N₇ K₆ (XB.keeps K₆.stays) (TB.keeps K₆.stays)
end
end Mine
namespace Mine
theorem fresh_R0 : True := by
  first | row_walk | exact True.intro
/-- what the whole comes to: a text's signs, or the place of a wrong directive -/
inductive Res where
  | ok (out : List Nat)
  | err (j : Nat)
def emitF (b : Bool) (l : List Nat) : List Nat := if b then l else List.replicate (l.count 10) 10
def tokLen (l : List Nat) : Nat := if 0 < remLen l then remLen l else wholeLen l
/-- «timescale», «ifdef», «endif» -/
def sTs : List Nat := [116, 105, 109, 101, 115, 99, 97, 108, 101]
def sIf : List Nat := [105, 102, 100, 101, 102]
def sEn : List Nat := [101, 110, 100, 105, 102]
/-- the expander's way through a text: what is left, its place, active or not, the place of the open condition, what has been handed out -/
inductive Run (res : Res) : List Nat → Nat → Bool → Option Nat → List Nat → Prop
  | done {j : Nat} {b : Bool} {out : List Nat} : res = .ok out → Run res [] j b none out
  | tok {c : Nat} {r : List Nat} {j : Nat} {b : Bool} {C : Option Nat} {out : List Nat} : c ≠ 96 →
      Run res ((c :: r).drop (tokLen (c :: r))) (j + tokLen (c :: r)) b C (out ++ emitF b ((c :: r).take (tokLen (c :: r)))) → Run res (c :: r) j b C out
  | ts {r : List Nat} {j k : Nat} {C : Option Nat} {out : List Nat} : nameLen r = 9 → r.take 9 = sTs → tsF (r.drop 9) = some k → Run res (r.drop (9 + k)) (j + 1 + 9 + k) true C out → Run res (96 :: r) j true C out
  | bad {r : List Nat} {j : Nat} {C : Option Nat} {out : List Nat} : nameLen r = 9 → r.take 9 = sTs → tsF (r.drop 9) = none → res = .err j → Run res (96 :: r) j true C out
  | skip {r : List Nat} {j : Nat} {C : Option Nat} {out : List Nat} : nameLen r = 9 → r.take 9 = sTs → Run res (r.drop 9) (j + 1 + 9) false C out → Run res (96 :: r) j false C out
  | ifdef {r : List Nat} {j : Nat} {out : List Nat} : nameLen r = 5 → r.take 5 = sIf → 0 < nameLen (r.drop (5 + blLen (r.drop 5))) →
      Run res (r.drop (5 + blLen (r.drop 5) + nameLen (r.drop (5 + blLen (r.drop 5))))) (j + 1 + 5 + blLen (r.drop 5) + nameLen (r.drop (5 + blLen (r.drop 5)))) false (some j) out → Run res (96 :: r) j true none out
  | endif {r : List Nat} {j p : Nat} {b : Bool} {out : List Nat} : nameLen r = 5 → r.take 5 = sEn → Run res (r.drop 5) (j + 1 + 5) true none out → Run res (96 :: r) j b (some p) out
end Mine
namespace Mine
theorem fresh_X0 : True := by
  first | row_walk | exact True.intro
structure MP where
  h1 : Int
  h2 : Int
  h3 : Int
  h4 : Int
  h5 : Int
  h6 : Int
  k1 : Tok
  k2 : Tok
  k3 : Tok
  k4 : Tok
  k5 : Tok
  k6 : Tok
  g1 : Int
  g2 : Int
  g3 : Int
  g4 : Int
  l1 : Tok
  l2 : Tok
  l3 : Tok
  l4 : Tok
  rs : Value
  u3 : Value
  u4 : Value
/-- the machine's five objects -/
def MLed (mx dx tb td mc : Addr) (om : Obj) (p : MP) (v2 v3 v4 v5 v6 : Value) : List (Addr × Obj) :=
  [(mx, instObj 309 dx),
   (dx, dictOf [⟨p.h1, .str (Str.ofString "table") p.k1, .ref tb⟩, ⟨p.h2, .str (Str.ofString "nettypes") p.k2, v2⟩, ⟨p.h3, .str (Str.ofString "pieces") p.k3, v3⟩, ⟨p.h4, .str (Str.ofString "length") p.k4, v4⟩, ⟨p.h5, .str (Str.ofString "conditions") p.k5, v5⟩, ⟨p.h6, .str (Str.ofString "active") p.k6, v6⟩] 6),
   (tb, instObj 238 td),
   (td, dictOf [⟨p.g1, .str (Str.ofString "macros") p.l1, .ref mc⟩, ⟨p.g2, .str (Str.ofString "reserved") p.l2, p.rs⟩, ⟨p.g3, .str (Str.ofString "uses") p.l3, p.u3⟩, ⟨p.g4, .str (Str.ofString "size") p.l4, p.u4⟩] 4),
   (mc, om)]
def Apart (mx dx tb td mc : Nat) : Prop := mx ≠ dx ∧ mx ≠ tb ∧ mx ≠ td ∧ mx ≠ mc ∧ dx ≠ tb ∧ dx ≠ td ∧ dx ≠ mc ∧ tb ≠ td ∧ tb ≠ mc ∧ td ≠ mc
abbrev excO (D : Addr) (vs : Array Value) : Obj := { cls := .ref 94, dict := some D, data := .fields vs }
theorem allLt_ne {d : Addr} : ∀ {l : List (Addr × Obj)}, AllLt d l → ∀ p ∈ l, p.1 ≠ d
  | [], _, _, hp => nomatch hp
  | q :: r, h, p, hp => by
    rcases List.mem_cons.mp hp with rfl | hp
    · exact Nat.ne_of_lt h.1
    · exact allLt_ne h.2 p hp
def Stop (p : Prop) : Prop := p
theorem Stop.mk {p : Prop} (h : Stop p) : p := h
/-- the loop's own state -/
structure LS where
  j : Nat
  tj : Tok
  vs : List Value
  ss : List Str
  k : Nat
  len : Int
  tl : Tok
  b : Bool
  C : Option (Addr × Nat × Tok)
  kc : Nat
def condV : Option (Addr × Nat × Tok) → List Value
  | none => []
  | some c => [.ref c.1]
def condL : Option (Addr × Nat × Tok) → List (Addr × Obj)
  | none => []
  | some c => [(c.1, W.listOf #[.int (c.2.1 : Int) c.2.2, .bool true, .bool false, .bool false] 0)]
def LedE (mx dx tb td mc : Addr) (om : Obj) (p : MP) (nt ps cs : Addr) (news : List (Addr × Obj)) (c : LS) : List (Addr × Obj) :=
  (cs, W.listOf (condV c.C).toArray c.kc) :: (ps, W.listOf c.vs.toArray c.k) :: (nt, W.listOf #[] 0) :: (MLed mx dx tb td mc om p (.ref nt) (.ref ps) (.int c.len c.tl) (.ref cs) (.bool c.b) ++ (condL c.C ++ news))
/-- what holds between the turns -/
def InvE (x : Str) (res : Res) (lim : Nat) (c : LS) : Prop :=
  ∃ out, c.j ≤ x.length ∧ Run res ((tx x).drop c.j) c.j c.b (c.C.map (·.2.1)) out ∧ StrsAre c.vs c.ss ∧ (c.ss.map tx).flatten = out ∧ out.length ≤ c.j ∧ c.vs.length ≤ c.j ∧ ∀ d, c.C = some d → @LT.lt Nat _ lim d.1
theorem cond_ne {C : Option (Addr × Nat × Tok)} {news : List (Addr × Obj)} {lim d : Nat} (h : ∀ c, C = some c → @LT.lt Nat _ lim c.1) (hd : d ≤ lim) (hn : ∀ q ∈ news, q.1 ≠ d) : ∀ q ∈ condL C ++ news, q.1 ≠ d := by
  intro q hq
  rcases List.mem_append.mp hq with hq | hq
  · cases C with
    | none => cases hq
    | some c =>
      rcases List.mem_cons.mp hq with rfl | hq
      · have := h c rfl
        intro e
        have e' : @Eq Nat c.1 d := e
        omega
      · cases hq
  · exact hn q hq
def Order (mx dx tb td mc nt ps cs : Nat) (news : List (Addr × Obj)) : Prop :=
  (mx < nt ∧ dx < nt ∧ tb < nt ∧ td < nt ∧ mc < nt ∧ nt < ps ∧ ps < cs) ∧ AllLt nt news ∧ AllLt ps news ∧ AllLt cs news
theorem order_of {mx dx tb td mc nt ps cs : Nat} {news : List (Addr × Obj)} (h1 : mx < nt ∧ dx < nt ∧ tb < nt ∧ td < nt ∧ mc < nt ∧ AllLt nt news) (h2 : nt < ps ∧ mx < ps ∧ dx < ps ∧ tb < ps ∧ td < ps ∧ mc < ps ∧ AllLt ps news)
    (h3 : ps < cs ∧ nt < cs ∧ mx < cs ∧ dx < cs ∧ tb < cs ∧ td < cs ∧ mc < cs ∧ AllLt cs news) : Order mx dx tb td mc nt ps cs news :=
  ⟨⟨h1.1, h1.2.1, h1.2.2.1, h1.2.2.2.1, h1.2.2.2.2.1, h2.1, h3.1⟩, h1.2.2.2.2.2, h2.2.2.2.2.2.2, h3.2.2.2.2.2.2.2⟩
theorem led_of {g h : Heap} {L mx dx tb td mc l1 l2 l3 : Addr} {om : Obj} {news : List (Addr × Obj)} {H1 H2 H3 H4 H5 H6 G1 G2 G3 G4 : Int} {K1 K2 K3 K4 K5 K6 L1 L2 L3 L4 tl : Tok} {rs u3 u4 : Value}
    (N : News g L h ((l3, W.listOf #[] 0) :: (l2, W.listOf #[] 0) :: (l1, W.listOf #[] 0) :: (mx, instObj 309 dx) ::
      (dx, dictOf [⟨H1, .str (Str.ofString "table") K1, .ref tb⟩, ⟨H2, .str (Str.ofString "nettypes") K2, .ref l1⟩, ⟨H3, .str (Str.ofString "pieces") K3, .ref l2⟩, ⟨H4, .str (Str.ofString "length") K4, .int 0 tl⟩, ⟨H5, .str (Str.ofString "conditions") K5, .ref l3⟩, ⟨H6, .str (Str.ofString "active") K6, .bool true⟩] 6) ::
      (tb, instObj 238 td) ::
      (td, dictOf [⟨G1, .str (Str.ofString "macros") L1, .ref mc⟩, ⟨G2, .str (Str.ofString "reserved") L2, rs⟩, ⟨G3, .str (Str.ofString "uses") L3, u3⟩, ⟨G4, .str (Str.ofString "size") L4, u4⟩] 4) ::
      (mc, om) :: news))
    (h1 : @LT.lt Nat _ mx l1 ∧ @LT.lt Nat _ dx l1 ∧ @LT.lt Nat _ tb l1 ∧ @LT.lt Nat _ td l1 ∧ @LT.lt Nat _ mc l1 ∧ AllLt l1 news) (h2 : @LT.lt Nat _ l1 l2 ∧ @LT.lt Nat _ mx l2 ∧ @LT.lt Nat _ dx l2 ∧ @LT.lt Nat _ tb l2 ∧ @LT.lt Nat _ td l2 ∧ @LT.lt Nat _ mc l2 ∧ AllLt l2 news)
    (h3 : @LT.lt Nat _ l2 l3 ∧ @LT.lt Nat _ l1 l3 ∧ @LT.lt Nat _ mx l3 ∧ @LT.lt Nat _ dx l3 ∧ @LT.lt Nat _ tb l3 ∧ @LT.lt Nat _ td l3 ∧ @LT.lt Nat _ mc l3 ∧ AllLt l3 news) :
    ∃ nt ps cs p tl, ∀ tj, News g L h (LedE mx dx tb td mc om p nt ps cs news ⟨0, tj, [], [], 0, 0, tl, true, none, 0⟩) ∧ Order mx dx tb td mc nt ps cs news :=
  ⟨l1, l2, l3, ⟨H1, H2, H3, H4, H5, H6, K1, K2, K3, K4, K5, K6, G1, G2, G3, G4, L1, L2, L3, L4, rs, u3, u4⟩, tl, fun _ => ⟨N, order_of h1 h2 h3⟩⟩
end Mine
namespace Mine
theorem fresh_D5 : True := by
  first | row_walk | exact True.intro
def ClsAt (h : Heap) (C : Addr) : Prop := ∃ nm q N bs bm hdct sn sub ab col dd k0 k1 k2 k3 k5 newId,
  h.get? C = some (excClassObj nm q C N bs bm hdct sn sub ab col dd k0 k1 k2 k3 k5 newId) ∧ bm.contains (.type "BaseException") = true
def RaisableD (C : Addr) (E : Value → Shared → Prop) (v : Value) (s : Shared) : Prop :=
  ∃ e dct t, v = .ref e ∧ ClsAt s.heap C ∧ s.heap.get? e = some { cls := .ref C, dict := dct, data := .fields #[.ref t, .none, .none, .none, .bool false, .none] } ∧ E (.ref e) s
section
variable {M : Model} {A : Around} {E : Value → Shared → Prop} {s : Shared} {env : Env}
theorem raiseD {x : Sem Value} {C : Addr} {Q : Flow → Shared → Prop} (hh : A.handled = none) (h : wpAny M A x (RaisableD C E) E s) : wpAny M A (raiseStmt env (some x) none) Q E s := by
  unfold raiseStmt
  refine wpAny_bind (wpAny_mono h (fun v s₁ h₁ => ?_) fun _ _ x => x)
  obtain ⟨e, dct, t, rfl, ⟨nm, q, N, bs, bm, hdct, sn, sub, ab, col, dd, k0, k1, k2, k3, k5, newId, hC, hbase⟩, he, hE⟩ := h₁
  have hcB : (Value.ref C :: bm).contains (.type "BaseException") = true := by rw [List.contains_cons, hbase, Bool.or_true]
  obtain ⟨hp, g, d, tk, os⟩ := s₁
  repeat (first | with_reducible refine wpAny_loadPart_at he ?_ | with_reducible refine wpAny_loadPart_at hC ?_ | (with_reducible refine wpAny_isSubtype_exc hC ?_; rw [hcB]) | wp_step)
  exact wpAny_raiseNew_none hh hE
theorem Raise_own {C : Addr} {e : Expr} {pos : Pos} {Q : Flow → Shared → Prop} (hh : A.handled = none) (h : wpAny M A (eval e env) (RaisableD C E) E s) : wpAny M A (exec (.Raise (some e) none pos) env) Q E s := by
  show wpAny M A (do standAt pos; raiseStmt env (some (do let v ← eval e env; standAt pos; pure v)) none) Q E s
  refine wpAny_bind (wpAny_standAt (raiseD (C := C) hh ?_))
  exact wpAny_bind (wpAny_mono h (fun v s₁ h₁ => wpAny_bind (wpAny_standAt (wpAny_pure h₁))) fun _ _ x => x)
end
end Mine
namespace Mine
theorem fresh_D6 : True := by
  first | row_walk | exact True.intro
theorem src_cls {w : World} {h : Heap} (X : (kx.heap_1 w.params).In h) : ∃ nm q N bs bm hdct sn sub ab col dd k0 k1 k2 k3 k5,
    h.get? 94 = some (excClassObj nm q 94 N bs bm hdct sn sub ab col dd k0 k1 k2 k3 k5 "Exception.__new__") ∧ bm.contains (.type "BaseException") = true ∧ bm.contains (.type "Exception") = true ∧ bm.contains (.type "AttributeError") = false ∧ bm.contains (.type "NameError") = false := by
  refine ⟨_, _, _, _, _, _, _, _, _, _, _, _, _, _, _, _, X 94 _ (by with_unfolding_all rfl), ?_, ?_, ?_, ?_⟩ <;> decide +kernel
theorem src_at {w : World} {h : Heap} (X : (kx.heap_1 w.params).In h) : ClsAt h 94 := by
  obtain ⟨nm, q, N, bs, bm, hdct, sn, sub, ab, col, dd, k0, k1, k2, k3, k5, h1, h2, -⟩ := src_cls X
  exact ⟨nm, q, N, bs, bm, hdct, sn, sub, ab, col, dd, k0, k1, k2, k3, k5, _, h1, h2⟩
theorem src_at_of {w : World} {h₀ h : Heap} {L : Addr} {m : Str → Option Value} (X : (kx.heap_1 w.params).In h₀) (F : Fr h₀ L h m) : ClsAt h 94 := src_at (X.keeps F.keep)
theorem src_find {w : World} : findIn (kx.heap_1 w.params) (.ref 94) "__init__" = some (some (.ref 78)) := by with_unfolding_all rfl
theorem src_fn {w : World} {h : Heap} (X : (kx.heap_1 w.params).In h) : ∃ o, h.get? 78 = some o ∧ o.cls = .type "function" := ⟨_, X 78 _ (by with_unfolding_all rfl), by rfl⟩
/-- the call of the class: the object is made, then its `__init__` runs -/
theorem src_call {w : World} {A : Around} {E : Value → Shared → Prop} {rest : List Value} {Q : Value → Shared → Prop} {s : Shared} (X : (kx.heap_1 w.params).In s.heap)
    (hq : ∀ h' e, Heap.MadeExcOf s.heap h' e (.ref 94) rest →
      wpAny (model PySem.Challenge.rw_rg0146_01.row.prog w) (A.under (.builtin "type.__call__" ⟨.ref 94 :: rest, []⟩)) (call (.ref 78) (.ref e :: rest)) (fun r s' => r = .none ∧ Q (.ref e) s') E { s with heap := h' }) (hrest : rest.length ≤ sizeLine := by size_fits) :
    wpAny (model PySem.Challenge.rw_rg0146_01.row.prog w) A (call (.ref 94) rest) Q E s := by
  obtain ⟨nm, q, N, bs, bm, hdct, sn, sub, ab, col, dd, k0, k1, k2, k3, k5, h1, h2, h3, h4, h5⟩ := src_cls X
  obtain ⟨oI, hI, hc⟩ := src_fn X
  obtain ⟨h, g, d, t, os⟩ := s
  exact ex_call h3 h4 h5 h1 (looks_findIn X src_find) hI hc hq hrest
end Mine
namespace Mine
theorem fresh_D7 : True := by
  first | row_walk | exact True.intro
theorem src_data {w : World} : ∃ cd, clsIn (kx.heap_1 w.params) 94 = some cd ∧ cd.hasDict = true ∧ (∀ x, refuseLoop (.ref x) "__setattr__" cd.mro = pure ()) := by
  refine ⟨_, by with_unfolding_all rfl, by rfl, fun x => ?_⟩
  show refuseLoop _ _ (.ref 94 :: .ref 81 :: _) = _
  rw [refuseLoop_ref, refuseLoop_ref]
  exact PySem.F.store_Exception.passes (.ref x)
theorem src_mro {w : World} : mroIn (kx.heap_1 w.params) 94 (.type "object") = some true := by with_unfolding_all rfl
theorem src_set {w : World} : findIn (kx.heap_1 w.params) (.ref 94) "__setattr__" = some (some (.builtin "object.__setattr__")) := by with_unfolding_all rfl
theorem src_kind {w : World} : findIn (kx.heap_1 w.params) (.ref 94) "kind" = some none := by with_unfolding_all rfl
theorem src_atn {w : World} : findIn (kx.heap_1 w.params) (.ref 94) "at" = some none := by with_unfolding_all rfl
theorem src_detail {w : World} : findIn (kx.heap_1 w.params) (.ref 94) "detail" = some none := by with_unfolding_all rfl
section
variable {w : World} {A : Around} {E : Value → Shared → Prop} {s : Shared} {h₀ : Heap} {L e : Addr} {m : Str → Option Value} {post : List (Addr × Obj)} {vs : Array Value} {v : Value} {name : Str} {Q : Unit → Shared → Prop}
theorem exc_first (F : Fr h₀ L s.heap m) (N : News h₀ L s.heap ((e, ⟨.ref 94, none, .fields vs, #[]⟩) :: post)) (X : (kx.heap_1 w.params).In h₀) (ha : findIn (kx.heap_1 w.params) (.ref 94) name = some none) (h2 : ∀ p ∈ post, p.1 ≠ e)
    (h : ∀ D h' tk tk', @LT.lt Nat _ e D ∧ (∀ p ∈ post, @LT.lt Nat _ p.1 D) → Fr h₀ L h' m → News h₀ L h' ((D, dictOf [⟨PyData.keyHash w.params name, .str name tk, v⟩] 1) :: (e, excO D vs) :: post) → Q () { s with heap := h', toks := tk' }) :
    wpAny (model PySem.Challenge.rw_rg0146_01.row.prog w) A (setAttr (.ref e) name v) Q E s := by
  obtain ⟨cd, hc, hcd, hr⟩ := src_data (w := w)
  have X' := X.keeps F.keep
  have I : InstAt s.heap e ⟨.ref 94, none, .fields vs, #[]⟩ 94 none := ⟨(N _ (.head _)).1, rfl, rfl, trivial⟩
  refine set_plain X' I src_set ?_
  refine ex_fresh (pre := []) (s := { s with toks := s.toks + 1 }) F N X' I rfl rfl hc hcd (hr e) src_mro ha (fun _ h => nomatch h) h2 ?_
  intro D h' hD F' N'
  exact h D h' _ _ ⟨hD _ (.head _), fun p hp => hD _ (.tail _ hp)⟩ F' N'
theorem exc_next {D : Addr} {es : List DictEntry} {n : Nat} (F : Fr h₀ L s.heap m) (N : News h₀ L s.heap ((D, dictOf es n) :: (e, excO D vs) :: post)) (X : (kx.heap_1 w.params).In h₀) (ha : findIn (kx.heap_1 w.params) (.ref 94) name = some none)
    (hD : @LT.lt Nat _ e D ∧ (∀ p ∈ post, @LT.lt Nat _ p.1 D)) (hl : (getL name es).isSome = true) (hp : ∀ tk, putL name (PyData.keyHash w.params name) (.str name tk) v es = es ++ [⟨PyData.keyHash w.params name, .str name tk, v⟩]) (hn : putN name es n = n + 1) (hz : es.length ≤ 100)
    (h : ∀ h' tk tk', Fr h₀ L h' m → News h₀ L h' ((D, dictOf (es ++ [⟨PyData.keyHash w.params name, .str name tk, v⟩]) (n + 1)) :: (e, excO D vs) :: post) → Q () { s with heap := h', toks := tk' }) :
    wpAny (model PySem.Challenge.rw_rg0146_01.row.prog w) A (setAttr (.ref e) name v) Q E s := by
  obtain ⟨cd, hc, hcd, hr⟩ := src_data (w := w)
  have X' := X.keeps F.keep
  have I : InstAt s.heap e (excO D vs) 94 (some (dictOf es n)) := ⟨(N _ (.tail _ (.head _))).1, rfl, rfl, (N _ (.head _)).1⟩
  refine set_plain X' I src_set ?_
  refine ex_dict (pre := []) (s := { s with toks := s.toks + 1 }) F N X' I rfl hc hcd (hr e) src_mro ha hl (fun _ h => nomatch h) ?_ (by rw [hp, hn]) (by rw [List.length_append]; simp; omega) ?_
  · intro p hp
    rcases List.mem_cons.mp hp with rfl | hp
    · exact Nat.ne_of_lt hD.1
    · exact Nat.ne_of_lt (hD.2 p hp)
  · intro h' F' N'
    exact h h' _ _ F' N'
end
end Mine
namespace Mine
theorem fresh_R1 : True := by
  first | row_walk | exact True.intro
theorem remLen_le (l : List Nat) : remLen l ≤ l.length := by
  unfold remLen
  split
  · exact takeWhile_le _ l
  · exact Nat.zero_le _
theorem tokLen_le {l : List Nat} (h : l ≠ []) : tokLen l ≤ l.length := by
  have h1 : 1 ≤ l.length := by cases l with | nil => exact absurd rfl h | cons _ _ => simp
  unfold tokLen
  split
  · exact remLen_le l
  · unfold wholeLen
    have := takeWhile_le ncC l
    unfold ncLen
    omega
theorem tokLen_pos (l : List Nat) : 1 ≤ tokLen l := by
  unfold tokLen
  split
  · omega
  · unfold wholeLen; omega
theorem emit_le (b : Bool) (l : List Nat) : (emitF b l).length ≤ l.length := by
  unfold emitF
  split
  · exact Nat.le_refl _
  · rw [List.length_replicate]; exact List.count_le_length
theorem inv_tok {x : Str} {res : Res} {lim j c m : Nat} {r out : List Nat} {vs : List Value} {ss : List Str} {b : Bool} {C : Option (Addr × Nat × Tok)} {e : Str} {te tj k tl kc : Nat} {len : Int}
    (hl : (tx x).drop j = c :: r) (hR : Run res ((c :: r).drop (tokLen (c :: r))) (j + tokLen (c :: r)) b (C.map (·.2.1)) (out ++ emitF b ((c :: r).take (tokLen (c :: r)))))
    (hS : StrsAre vs ss) (hf : (ss.map tx).flatten = out) (ho : out.length ≤ j) (hv : vs.length ≤ j) (hC : ∀ d, C = some d → @LT.lt Nat _ lim d.1)
    (hm : m = tokLen (c :: r)) (he : tx e = emitF b ((c :: r).take m)) :
    InvE x res lim ⟨j + m, tj, vs ++ [.str e te], ss ++ [e], k, len, tl, b, C, kc⟩ := by
  subst hm
  have h1 := tokLen_le (l := c :: r) (by simp)
  have h2 := tokLen_pos (c :: r)
  have h3 : (c :: r).length = x.length - j := by rw [← hl, List.length_drop, tx_len]
  have h4 : j < x.length := by rw [← tx_len]; exact (drop_cons hl).2
  refine ⟨out ++ emitF b ((c :: r).take (tokLen (c :: r))), by dsimp only; omega, ?_, StrsAre.append' hS (.cons _ _ .nil), ?_, ?_, ?_, hC⟩
  · dsimp only
    rw [← dd, hl]
    exact hR
  · dsimp only
    rw [List.map_append, List.flatten_append, hf, List.map_cons, List.map_nil, List.flatten_cons, List.flatten_nil, List.append_nil, he]
  · dsimp only
    have := emit_le b ((c :: r).take (tokLen (c :: r)))
    rw [List.length_take] at this
    rw [List.length_append]
    omega
  · dsimp only
    rw [List.length_append, List.length_cons, List.length_nil]
    omega
theorem meas_tok {x : Str} {j c m : Nat} {r : List Nat} (hl : (tx x).drop j = c :: r) (hm : m = tokLen (c :: r)) : x.length - (j + m) < x.length - j := by
  subst hm
  have h2 := tokLen_pos (c :: r)
  have h4 : j < x.length := by rw [← tx_len]; exact (drop_cons hl).2
  omega
theorem slice_tok {x : Str} {j c m : Nat} {r : List Nat} (hl : (tx x).drop j = c :: r) : tx (Txt.slice x (some (j : Int)) (some ((j + m : Nat) : Int))) = emitF true ((c :: r).take m) := by
  rw [slice_list _ _ _ (by omega), hl, show j + m - j = m from by omega]
  rfl
theorem fold_rep (k : Nat) : ∀ a : Array Nat, (List.foldl (fun x1 x2 => x1 ++ x2) a (List.replicate k #[10])).toList = a.toList ++ List.replicate k 10 := by
  induction k with
  | zero => intro a; simp
  | succ k ih =>
    intro a
    rw [List.replicate_succ, List.foldl_cons, ih, List.replicate_succ]
    simp
theorem tx_mul (k : Nat) : tx (Txt.mul (Str.ofString "\n") (k : Int)) = List.replicate k 10 := by
  have e : (Str.ofString "\n").cps = #[10] := by decide +kernel
  unfold Txt.mul tx
  split
  · have : k = 0 := by omega
    subst this; rfl
  · split
    · rename_i h
      have hl : (Str.ofString "\n").length = 1 := by decide +kernel
      rw [hl] at h
      have : k = 1 := by simp at h; omega
      subst this
      rw [e]; rfl
    · rw [e]
      have := fold_rep k #[]
      simpa using this
theorem slice_nl {x : Str} {j c m : Nat} {r : List Nat} (hl : (tx x).drop j = c :: r) : tx (Txt.mul (Str.ofString "\n") (((tx (Txt.slice x (some (j : Int)) (some ((j + m : Nat) : Int)))).count 10 : Nat) : Int)) = emitF false ((c :: r).take m) := by
  rw [tx_mul, slice_tok hl]
  rfl
theorem nl_ok {y : Str} (h : y.length ≤ 100000) : MulOk (Str.ofString "\n") (((tx y).count 10 : Nat) : Int) := by
  have h1 : (tx y).count 10 ≤ (tx y).length := List.count_le_length
  rw [tx_len] at h1
  exact mulOk_of 1 100000 (by decide +kernel) (by omega) (by omega) (by decide) (by decide)
theorem ksw_endE {σ : Type} {h₀ : Heap} {L : Addr} {s : Shared} {Led : σ → List (Addr × Obj)} {ps : σ → List (Str × Value)} {Facts : σ → Prop} {stored : List Str} {m₀ m' : Str → Option Value} {P : σ → Prop} {μ : σ → Nat} {c : σ} {h' : Heap} {tk : Nat} (c' : σ)
    (F : Fr h₀ L h' m') (N : News h₀ L h' (Led c')) (hf : Facts c') (hk : ∀ p ∈ ps c', m' p.1 = some p.2) (hr : ∀ z, (∀ p ∈ ps c', z ≠ p.1) → stored.contains z = false → m' z = m₀ z) (hp : P c') (hm : μ c' < μ c) :
    KswEnd h₀ L s Led ps Facts stored m₀ P μ c { s with heap := h', toks := tk } := ksw_end c' F N (fun _ hp => hp) hf hk hr hp hm
end Mine
namespace Mine
theorem fresh_R2 : True := by
  first | row_walk | exact True.intro
theorem tx_cat (x y : Str) : tx (x ++ y) = tx x ++ tx y := by
  show (x.cps ++ y.cps).toList = _
  rw [Array.toList_append]
  rfl
theorem tx_join0 : ∀ ys : List Str, tx (Str.join ⟨#[]⟩ ys) = (ys.map tx).flatten
  | [] => rfl
  | x :: r => by rw [join_nil_cons, tx_cat, tx_join0 r, List.map_cons, List.flatten_cons]
theorem tx_join (ys : List Str) : tx (Txt.join (Str.ofString "") ys) = (ys.map tx).flatten := by
  unfold Txt.join
  rw [StrLaws.glued_eq_join, show Str.ofString "" = (⟨#[]⟩ : Str) from rfl, tx_join0]
theorem flat_len : ∀ ys : List Str, ((ys.map tx).flatten).length = (ys.map (·.length)).sum
  | [] => rfl
  | x :: r => by rw [List.map_cons, List.flatten_cons, List.length_append, tx_len, flat_len r, List.map_cons, List.sum_cons]
theorem join_fits {ys : List Str} {vs : List Value} {out : List Nat} {j n : Nat} (hS : StrsAre vs ys) (hf : (ys.map tx).flatten = out) (ho : out.length ≤ j) (hv : vs.length ≤ j) (hj : j ≤ n) (hn : n ≤ 10000) : (ys.map (·.length)).sum + ys.length ≤ 1048576 := by
  rw [← flat_len, hf, ← StrsAre.length hS]
  omega
theorem nl_len {y : Str} (h : y.length ≤ 100000) : ((Txt.mul (Str.ofString "\n") (((tx y).count 10 : Nat) : Int)).length : Int) < 9223372036854775808 := by
  have h1 : (tx y).count 10 ≤ (tx y).length := List.count_le_length
  rw [tx_len] at h1
  have h2 := congrArg List.length (tx_mul ((tx y).count 10))
  rw [tx_len, List.length_replicate] at h2
  omega
theorem name_is {x y : Str} {j n : Nat} {r : List Nat} (hr : (tx x).drop (j + 1) = r) (hn : nameLen r = n) (ht : r.take n = tx y) :
    Txt.slice x (some ((j : Int) + 1)) (some ((((j : Int) + 1).toNat + nameLen ((tx x).drop ((j : Int) + 1).toNat) : Nat) : Int)) = y := by
  have e : ((j : Int) + 1).toNat = j + 1 := by omega
  rw [e, hr, hn]
  apply tx_inj
  have h := slice_to_end x (j + 1) n
  rw [show (((j + 1 : Nat)) : Int) = (j : Int) + 1 from by omega, hr, ht] at h
  rw [show (((j + 1 + n : Nat)) : Int) = (j : Int) + 1 + (n : Int) from by omega]
  exact h
theorem tx_ts : sTs = tx (Str.ofString "timescale") := by decide +kernel
theorem tx_if : sIf = tx (Str.ofString "ifdef") := by decide +kernel
theorem tx_en : sEn = tx (Str.ofString "endif") := by decide +kernel
end Mine
namespace Mine
theorem fresh_R3 : True := by
  first | row_walk | exact True.intro
theorem blLen_le (l : List Nat) : blLen l ≤ l.length := takeWhile_le _ l
theorem nameLen_le (l : List Nat) : nameLen l ≤ l.length := by
  unfold nameLen
  split
  · exact Nat.zero_le _
  · split
    · exact Nat.zero_le _
    · exact takeWhile_le _ _
theorem tsF_le {l : List Nat} {m : Nat} (h : tsF l = some m) : m ≤ l.length := by
  unfold tsF at h
  split at h
  · cases h
  · rename_i a ha
    split at h
    · rename_i hs
      split at h
      · cases h
      · rename_i b hb
        cases h
        have h1 := timeF_le ha
        have h2 := blLen_le (l.drop a)
        have h3 := timeF_le hb
        rw [List.length_drop] at h2 h3
        have h4 : a + blLen (l.drop a) < l.length := by
          rcases Nat.lt_or_ge (a + blLen (l.drop a)) l.length with h4 | h4
          · exact h4
          · rw [List.drop_eq_nil_of_le h4] at hs
            cases hs
        omega
    · cases h
theorem inv_dir {x : Str} {res : Res} {lim j m : Nat} {r out : List Nat} {vs : List Value} {ss : List Str} {b : Bool} {C : Option (Addr × Nat × Tok)} {tj k tl kc : Nat} {len : Int}
    (hlt : j < x.length) (hr : (tx x).drop (j + 1) = r) (hm : m ≤ r.length) (hR : Run res (r.drop m) (j + 1 + m) b (C.map (·.2.1)) out)
    (hS : StrsAre vs ss) (hf : (ss.map tx).flatten = out) (ho : out.length ≤ j) (hv : vs.length ≤ j) (hC : ∀ d, C = some d → @LT.lt Nat _ lim d.1) :
    InvE x res lim ⟨j + 1 + m, tj, vs, ss, k, len, tl, b, C, kc⟩ := by
  have h3 : r.length = x.length - (j + 1) := by rw [← hr, List.length_drop, tx_len]
  refine ⟨out, by dsimp only; omega, ?_, hS, hf, by dsimp only; omega, by dsimp only; omega, hC⟩
  dsimp only
  rw [← List.drop_drop, hr]
  exact hR
theorem RaisedD.drop {base G h : Heap} {l : List Env} {e : Addr} {o : Obj} {news news' : List (Addr × Obj)} (R : RaisedD base G l e o news h) (hs : ∀ q ∈ news', q ∈ news) : RaisedD base G l e o news' h := by
  obtain ⟨B, a, b, c, d⟩ := R
  exact ⟨B, a, b, fun q hq => c q (hs q hq), d⟩
theorem atJ {o : Option Value} {z : Int} {n : Nat} {t : Tok} (h : o = some (.int z t)) (e : z = (n : Int)) : o = some (.int (n : Int) t) := e ▸ h
theorem mem_mv {α : Type} {a d1 d2 c1 c2 c3 c4 c5 c6 c7 c8 : α} {l : List α} : ∀ q ∈ c1 :: c2 :: c3 :: c4 :: c5 :: c6 :: c7 :: c8 :: a :: l, q ∈ a :: d1 :: d2 :: c1 :: c2 :: c3 :: c4 :: c5 :: c6 :: c7 :: c8 :: l := by
  intro q hq
  simp only [List.mem_cons] at hq ⊢
  rcases hq with h | h | h | h | h | h | h | h | h | h <;> simp [h]
end Mine
namespace Mine
theorem fresh_X1 : True := by
  first | row_walk | exact True.intro
local macro_rules | `(tactic| k_room) => `(tactic| ktr_room)
local macro_rules | `(tactic| k_all) => `(tactic| first | assumption | exact allLt_ne (by assumption))

theorem begin_c (w : World) (mx dx tb td mc : Addr) (om : Obj) (p : MP) (v2 v3 v4 v5 v6 : Value) (hap : Apart mx dx tb td mc) :
  ∀ (mean : ExcName → Option Value) (mg mb : Str → Option Value) (dp un : Nat) (gd : Option (List Code)) (cn : Str) (cs : Scope) (a : Addr) (ccd : Value) (cl : List (Str × Addr)) (outer : List Env) (A₀ : Around) (base h₀ : Heap) (L : Addr) (m : Str → Option Value) (news : List (Addr × Obj)) (s : Shared) (Q E : Value → Shared → Prop),
    Below A₀ base outer h₀ → Fr h₀ L s.heap m → (kx.heap_1 w.params).In h₀ → News h₀ L s.heap (MLed mx dx tb td mc om p v2 v3 v4 v5 v6 ++ news) → Top vw (looseW vw [PySem.Str.ofString "GateloomError", PySem.Str.ofString "substitute"]) mean mg mb h₀ → cs.kind = .function → dp + 4 < recursionLimit → un + 32 < cLine →
    (∀ q ∈ news, q.1 ≠ dx) → (∀ q ∈ news, q.1 ≠ td) →
    (∀ nt ps cs' p' tl h' tk', Fr h₀ L h' m → (∀ tj, News h₀ L h' (LedE mx dx tb td mc om p' nt ps cs' news ⟨0, tj, [], [], 0, 0, tl, true, none, 0⟩)) → Order mx dx tb td mc nt ps cs' news → Q .none { s with heap := h', toks := tk' }) →
    wpAny (model PySem.Challenge.rw_rg0146_01.row.prog w) (ktrTop dp un gd cn cs L a ccd cl outer) (call (.ref 264) [.ref mx]) Q E s := by
  k_with_none
  k_fill
  intro mean mg mb dp un gd cn cs a ccd cl outer A₀ base h₀ L m news s Q E B F X N T hk hd hu hn1 hn2 hret
  obtain ⟨a1, a2, a3, a4, a5, a6, a7, a8, a9, a10⟩ := hap
  simp only [MLed, List.cons_append, List.nil_append] at N
  refine wpAny_call ?_
  k_dflt ktr_enter
  k_steps
  (rename News _ _ _ _ => lN')
  obtain ⟨nt, ps, cs', p', tl, lN⟩ := led_of lN' (by assumption) (by assumption) (by assumption)
  exact hret nt ps cs' p' tl _ _ (by k_asm) (fun tj => (lN tj).1) (lN 0).2
theorem useB {w : World} {mx dx tb td mc : Addr} {om : Obj} {p : MP} {v2 v3 v4 v5 v6 : Value} (hap : Apart mx dx tb td mc)
  {mean : ExcName → Option Value} {mg mb : Str → Option Value} {dp un : Nat} {gd : Option (List Code)} {cn : Str} {cs : Scope} {a : Addr} {ccd : Value} {cl : List (Str × Addr)} {outer : List Env} {A₀ : Around} {base h₀ : Heap} {L : Addr} {m : Str → Option Value} {news : List (Addr × Obj)} {s : Shared} {Q E : Value → Shared → Prop}
  (B : Below A₀ base outer h₀) (F : Fr h₀ L s.heap m) (X : (kx.heap_1 w.params).In h₀) (N : News h₀ L s.heap (MLed mx dx tb td mc om p v2 v3 v4 v5 v6 ++ news)) (T : Top vw (looseW vw [PySem.Str.ofString "GateloomError", PySem.Str.ofString "substitute"]) mean mg mb h₀) (hk : cs.kind = .function)
  (hd : dp + 4 < recursionLimit) (hu : un + 32 < cLine) (h1 : ∀ q ∈ news, q.1 ≠ dx) (h2 : ∀ q ∈ news, q.1 ≠ td)
  (ret : ∀ nt ps cs' p' tl h' tk', Fr h₀ L h' m → (∀ tj, News h₀ L h' (LedE mx dx tb td mc om p' nt ps cs' news ⟨0, tj, [], [], 0, 0, tl, true, none, 0⟩)) → Order mx dx tb td mc nt ps cs' news → Q .none { s with heap := h', toks := tk' }) :
  wpAny (model PySem.Challenge.rw_rg0146_01.row.prog w) (ktrTop dp un gd cn cs L a ccd cl outer) (call (.ref 264) [.ref mx]) Q E s :=
  begin_c w mx dx tb td mc om p v2 v3 v4 v5 v6 hap _ _ _ _ _ _ _ _ _ _ _ _ _ _ _ _ _ _ _ _ _ B F X N T hk hd hu h1 h2 ret
end Mine
namespace Mine
theorem fresh_D8 : True := by
  first | row_walk | exact True.intro
theorem src_ga {w : World} : findIn (kx.heap_1 w.params) (.ref 94) "__getattribute__" = some (some (.builtin "BaseException.__getattribute__")) := by with_unfolding_all rfl
theorem src_hook {w : World} : (if onTheHeap (.ref 94) then findIn (kx.heap_1 w.params) (.ref 94) "__getattr__" else some none) = some none := by with_unfolding_all rfl
theorem src_exc {w : World} : mroIn (kx.heap_1 w.params) 94 (.type "BaseException") = some true := by with_unfolding_all rfl
theorem src_hasD {w : World} : hasDictIn (kx.heap_1 w.params) 94 = true := by with_unfolding_all rfl
theorem src_base {w : World} : ktsIn (kx.heap_1 w.params) 94 "BaseException" = true := by with_unfolding_all rfl
theorem src_name {w : World} : nsIn (kx.heap_1 w.params) mainGlobals "SourceError" = some (some (.ref 94)) := by with_unfolding_all rfl
section
variable {w : World} {A : Around} {E : Value → Shared → Prop} {s : Shared} {h₀ : Heap} {L e D : Addr} {m : Str → Option Value} {news : List (Addr × Obj)} {vs : Array Value} {v : Value} {name : Str} {Q : Value → Shared → Prop} {es : List DictEntry} {n : Nat} {expr : Bool}
theorem exc_get (F : Fr h₀ L s.heap m) (N : News h₀ L s.heap news) (h1 : (e, excO D vs) ∈ news) (h2 : (D, dictOf es n) ∈ news) (X : (kx.heap_1 w.params).In h₀)
    (ha : findIn (kx.heap_1 w.params) (.ref 94) name = some none) (hl : getL name es = some (some v)) (hv : handedIn v = true) (h : Q v { s with toks := s.toks + 1 }) :
    wpAny (model PySem.Challenge.rw_rg0146_01.row.prog w) A (getAttr (.ref e) name expr) Q E s := by
  have X' := X.keeps F.keep
  have I : InstAt s.heap e (excO D vs) 94 (some (dictOf es n)) := ⟨(N _ h1).1, rfl, rfl, (N _ h2).1⟩
  have hf := findObj_own (od := dictOf es n) src_hasD ha rfl hl
  obtain ⟨hh, g, d, t, os⟩ := s
  have L0 := I.type (M := model PySem.Challenge.rw_rg0146_01.row.prog w)
  have L1 := looks_findIn (M := model PySem.Challenge.rw_rg0146_01.row.prog w) X' src_ga
  have L2 := looks_find (M := model PySem.Challenge.rw_rg0146_01.row.prog w) X' I hf
  have LH := looks_hook (M := model PySem.Challenge.rw_rg0146_01.row.prog w) X' src_hook
  have FB := PySem.F.attrBase_Exception
  have hk : builtinKind "BaseException.__getattribute__" = some .slot := by decide +kernel
  have hsplit : splitId "BaseException.__getattribute__" = some ("BaseException", "__getattribute__") := by decide +kernel
  have sub : Looks (model PySem.Challenge.rw_rg0146_01.row.prog w) hh (isInstance (.ref e) (.type "BaseException")) true := I.type.andThen (looks_mroIn X' src_exc)
  unfold getAttr getAttrBy
  refine wpAny_bind (wpAny_mkText (wpAny_holding (wpAny_bind (L0.at (wpAny_bind (L1.at ?_))))))
  have hx2 : (onTheHeap (Value.ref 94) && Value.builtin "BaseException.__getattribute__" == Value.builtin "object.__getattribute__") = false := by decide +kernel
  dsimp only
  rw [hx2]
  show wpAny _ _ (getAttrByItsOwn _ _ _ _ _ _) _ _ _
  unfold getAttrByItsOwn
  refine wpAny_bind (LH.at (wpAny_bind (wpAny_attempt (wpAny_holding ?_))))
  have hx0 : (expr && onTheHeap (Value.builtin "BaseException.__getattribute__")) = false := by cases expr <;> rfl
  unfold callGetattribute
  rw [hx0]
  show wpAny _ _ (boundAndCalled _ _ _) _ _ _
  unfold boundAndCalled
  rw [FB.ga.bind]
  refine wpAny_bind (wpAny_pure (wpAny_call ?_))
  refine codeAny_call_builtin FB.ga.plain PySem.F.entry_bexc_ga (@check_slot (model PySem.Challenge.rw_rg0146_01.row.prog w) _ _ _ "BaseException.__getattribute__" "BaseException" "__getattribute__" (.ref e) [.str name t] [] _ hk hsplit sub (PySem.F.args_bexc_ga (.ref e) (.str name t)) ?_)
  refine wpAny_bind (wpAny_pure (wpAny_bind (wpAny_pure (wpAny_bind (L0.at (wpAny_bind (L2.at ?_)))))))
  refine wpAny_pure ?_
  show wpAny _ _ (handedOut v) _ _ _
  rw [handedOut_of hv]
  exact wpAny_pure h
end
end Mine
namespace Mine
theorem fresh_X3 : True := by
  first | row_walk | exact True.intro
local macro_rules | `(tactic| k_room) => `(tactic| ktr_room)
local macro_rules | `(tactic| k_all) => `(tactic| first | assumption | exact allLt_ne (by assumption))

local macro_rules | `(tactic| walk_at "setAttr ref") => `(tactic| (k_dflt (first
  | (refine exc_first (by k_asm) (by k_asm) (by k_asm) (by first | exact src_kind | exact src_atn | exact src_detail) (by assumption) ?_; intro D' h' tk1 tk2 hD' F' N')
  | (refine' exc_next ?k1 ?k2 ?k3 ?k4 ?k5 ?k6 ?k7 ?k8 ?k9 ?_; (case k1 => k_asm); (case k2 => k_asm); (case k3 => k_asm); (case k4 => first | exact src_kind | exact src_atn | exact src_detail); (case k5 => assumption); (case k6 => with_unfolding_all rfl); (case k7 => intro _; with_unfolding_all rfl); (case k8 => with_unfolding_all rfl); (case k9 => exact Nat.le_of_ble_eq_true rfl); k_whole; intro h' tk1 tk2 F' N'; simp only [List.cons_append, List.nil_append] at N'))))
theorem exc_c (w : World) (v1 v2 v3 : Value) :
  ∀ (mean : ExcName → Option Value) (mg mb : Str → Option Value) (dp un : Nat) (gd : Option (List Code)) (cn : Str) (cs : Scope) (a : Addr) (ccd : Value) (cl : List (Str × Addr)) (outer : List Env) (A₀ : Around) (base h₀ : Heap) (L : Addr) (m : Str → Option Value) (news : List (Addr × Obj)) (s : Shared) (Q E : Value → Shared → Prop),
    Below A₀ base outer h₀ → Fr h₀ L s.heap m → (kx.heap_1 w.params).In h₀ → News h₀ L s.heap (news) → Top vw (looseW vw [PySem.Str.ofString "GateloomError", PySem.Str.ofString "substitute"]) mean mg mb h₀ → cs.kind = .function → dp + 6 < recursionLimit → un + 48 < cLine →
    (∀ e D h1 h2 h3 t1 t2 t3 vs h' tk', (∀ q ∈ news, q.1 ≠ e) → @LT.lt Nat _ e D ∧ (∀ p ∈ news, @LT.lt Nat _ p.1 D) → vs[1]? = some .none → (∃ t, vs = #[.ref t, .none, .none, .none, .bool false, .none]) → Fr h₀ L h' m →
      News h₀ L h' ((D, dictOf [⟨h1, .str (Str.ofString "kind") t1, v1⟩, ⟨h2, .str (Str.ofString "at") t2, v2⟩, ⟨h3, .str (Str.ofString "detail") t3, v3⟩] 3) :: (e, excO D vs) :: news) → Q (.ref e) { s with heap := h', toks := tk' }) →
    wpAny (model PySem.Challenge.rw_rg0146_01.row.prog w) (ktrTop dp un gd cn cs L a ccd cl outer) (call (.ref 94) [v1, v2, v3]) Q E s := by
  k_with_none
  k_fill
  intro mean mg mb dp un gd cn cs a ccd cl outer A₀ base h₀ L m news s Q E B F X N T hk hd hu hret
  refine src_call (X.keeps F.keep) (fun h1 e hm => ?_)
  obtain ⟨hkeep, hnew, t, he, -, -⟩ := hm
  have F1 := F.keeps hkeep
  have N1 := News.more F1 (N.keeps hkeep) he (fun es n q => by cases q) (by
    cases hq : h₀.get? e with
    | none => rfl
    | some o => rw [F.keep _ _ hq] at hnew; cases hnew)
  have hne : ∀ q ∈ news, q.1 ≠ e := fun q hq z => by
    have := (N q hq).1
    rw [z, hnew] at this
    cases this
  clear he hnew hkeep
  refine wpAny_call ?_
  k_dflt ((refine' code_def ?k1 ?k2 ?k3 ?k4 ?k5 ?kA ?kF ?kK ?k6 ?k7 ?k8 ?k9 ?kB ?_ ?c2 ?c3 ?c4 ?c5; (case kA => exact rfl); (case kF => exact rfl); (case kK => assumption); (case k1 => k_asm); (case k2 => k_asm); (case k3 => k_asm); (case k4 => k_asm); (case k5 => k_asm); (case k6 => k_is); (case k7 => k_is); (case k8 => ktr_room); (case k9 => exact binds_K (by k_in) rfl (by k_is) rfl rfl rfl); (case c5 => decide); (case kB => exact locs rfl); (case c2 => exact rfl); (case c3 => exact rfl); (case c4 => exact rfl); k_whole; intro g' L' h' FG' F' N' B' X' T'; (try dsimp only); (try k_fold)))
  k_steps
  (rename News _ _ _ _ => lN')
  (rename _ ∧ _ => hD9)
  exact hret e _ _ _ _ _ _ _ _ _ _ hne hD9 rfl ⟨_, rfl⟩ (by k_asm) lN'
theorem useExc {w : World} {v1 v2 v3 : Value} {mean : ExcName → Option Value} {mg mb : Str → Option Value} {dp un : Nat} {gd : Option (List Code)} {cn : Str} {cs : Scope} {a : Addr} {ccd : Value} {cl : List (Str × Addr)} {outer : List Env} {A₀ : Around} {base h₀ : Heap} {L : Addr} {m : Str → Option Value} {news : List (Addr × Obj)} {s : Shared} {Q E : Value → Shared → Prop}
  (B : Below A₀ base outer h₀) (F : Fr h₀ L s.heap m) (X : (kx.heap_1 w.params).In h₀) (N : News h₀ L s.heap news) (T : Top vw (looseW vw [PySem.Str.ofString "GateloomError", PySem.Str.ofString "substitute"]) mean mg mb h₀) (hk : cs.kind = .function)
  (hd : dp + 6 < recursionLimit) (hu : un + 48 < cLine)
  (ret : ∀ e D h1 h2 h3 t1 t2 t3 vs h' tk', (∀ q ∈ news, q.1 ≠ e) → @LT.lt Nat _ e D ∧ (∀ p ∈ news, @LT.lt Nat _ p.1 D) → vs[1]? = some .none → (∃ t, vs = #[.ref t, .none, .none, .none, .bool false, .none]) → Fr h₀ L h' m →
      News h₀ L h' ((D, dictOf [⟨h1, .str (Str.ofString "kind") t1, v1⟩, ⟨h2, .str (Str.ofString "at") t2, v2⟩, ⟨h3, .str (Str.ofString "detail") t3, v3⟩] 3) :: (e, excO D vs) :: news) → Q (.ref e) { s with heap := h', toks := tk' }) :
    wpAny (model PySem.Challenge.rw_rg0146_01.row.prog w) (ktrTop dp un gd cn cs L a ccd cl outer) (call (.ref 94) [v1, v2, v3]) Q E s :=
  exc_c w v1 v2 v3 _ _ _ _ _ _ _ _ _ _ _ _ _ _ _ _ _ _ _ _ _ B F X N T hk hd hu ret
theorem news_swap {g h : Heap} {L : Addr} {a b : Addr × Obj} {r : List (Addr × Obj)} (N : News g L h (a :: b :: r)) : News g L h (b :: a :: r) := cb_drop N (fun q hq => by
  simp only [List.mem_cons] at hq ⊢
  rcases hq with h | h | h <;> simp [h])
end Mine
namespace Mine
theorem fresh_X2 : True := by
  first | row_walk | exact True.intro
theorem tx_bt : tx (Str.ofString "`") = [96] := by decide +kernel
theorem bt_is {x : Str} {j c : Nat} {r : List Nat} (hl : (tx x).drop j = c :: r) : (Txt.item x (j : Int) == Str.ofString "`") = (c == 96) := by
  have h1 := (drop_cons hl).2
  rw [tx_len] at h1
  obtain ⟨k, r', hd, hi⟩ := item_cons (x := x) (e := (j : Int)) (by omega) (by omega)
  have e : ((j : Int)).toNat = j := by omega
  rw [e, hl] at hd
  obtain ⟨rfl, -⟩ := List.cons.inj hd
  rw [hi, str_beq, tx_bt, one_str, Bool.eq_iff_iff]
  simp
theorem name_end_z (w : World) (x : Str) (z : Int) (t u : Tok) (h0 : 0 ≤ z) (hz : z ≤ x.length) (hx : x.length ≤ 100000) : PureC w 110 3 [.str x t, .int z u] (fun r => ∃ tk, r = .int ((z.toNat + nameLen ((tx x).drop z.toNat) : Nat) : Int) tk) := by
  have e : z = ((z.toNat : Nat) : Int) := by omega
  have h := name_end_c w x z.toNat t u (by omega) hx
  rw [← e] at h
  exact h
local macro_rules | `(tactic| k_room) => `(tactic| ktr_room)
local macro_rules | `(tactic| k_ne) => `(tactic| (refine neN ?_; (try dsimp only); first | with_reducible assumption | exact Ne.symm (by with_reducible assumption) | exact Nat.ne_of_gt (by with_reducible assumption) | exact Nat.ne_of_lt (by with_reducible assumption)))
local macro_rules | `(tactic| k_all) => `(tactic| first | with_reducible assumption | exact allLt_ne (by with_reducible assumption) | assumption | exact allLt_ne (by assumption))
local macro_rules | `(tactic| walk_at "exec While Compare cons nil") => `(tactic| refine Stop.mk ?_)
local macro_rules | `(tactic| walk_at "call ref") => `(tactic| ((with_reducible show wpAny _ _ (call (Value.ref 264) _) _ _ _); refine Stop.mk ?_))
local macro_rules | `(tactic| walk_at "compareOp In str ref") => `(tactic| ((with_reducible show wpAny _ _ (compareOp _ (Value.str (Txt.slice _ (some (_ + 1)) _) _) _) _ _ _); refine Stop.mk ?_))
local macro_rules | `(tactic| walk_at "exec Raise some none") => `(tactic| refine Raise_own (C := 94) rfl ?_)
local macro_rules | `(tactic| walk_at "call builtin:len") => `(tactic| refine SBL.len (nl_len (by omega)) ?_)
local macro_rules | `(tactic| walk_at "binaryOp Mult str int") => `(tactic| (refine SB.mul (nl_ok (by omega)) ?_; intro _ _))
local macro_rules | `(tactic| walk_at "call ref") => `(tactic| (k_here; (with_reducible show wpAny _ _ (call (Value.ref 145) [Value.str _ _, Value.int _ _]) _ _ _); k_dflt (refine' useC (remark_end_c _ _ _ _ _ (by omega) (by omega) (by with_reducible assumption)) ?k1 ?k2 ?k3 ?k4 ?k5 ?kK ?kd ?ku ?_); (case k1 => k_asm); (case k2 => k_asm); (case k3 => k_asm); (case k4 => k_asm); (case k5 => k_asm); (case kK => first | exact rfl | with_reducible assumption); (case kd => ktr_room); (case ku => ktr_units); intro r9 h9 tk9 e9 F9 N9; obtain ⟨t9, e9⟩ := e9; subst e9; (try dsimp only)))
local macro_rules | `(tactic| walk_at "call ref") => `(tactic| (k_here; (with_reducible show wpAny _ _ (call (Value.ref 159) [Value.str _ _, Value.int _ _]) _ _ _); k_dflt (refine' useC (whole_end_c _ _ _ _ _ (by omega) (by omega) (by with_reducible assumption)) ?k1 ?k2 ?k3 ?k4 ?k5 ?kK ?kd ?ku ?_); (case k1 => k_asm); (case k2 => k_asm); (case k3 => k_asm); (case k4 => k_asm); (case k5 => k_asm); (case kK => first | exact rfl | with_reducible assumption); (case kd => ktr_room); (case ku => ktr_units); intro r9 h9 tk9 e9 F9 N9; obtain ⟨t9, e9⟩ := e9; subst e9; (try dsimp only)))
local macro_rules | `(tactic| walk_at "call ref") => `(tactic| (k_here; (with_reducible show wpAny _ _ (call (Value.ref 166) [Value.str _ _]) _ _ _); k_dflt (refine' useC (count_rows_c _ _ _ (by first | assumption | omega)) ?k1 ?k2 ?k3 ?k4 ?k5 ?kK ?kd ?ku ?_); (case k1 => k_asm); (case k2 => k_asm); (case k3 => k_asm); (case k4 => k_asm); (case k5 => k_asm); (case kK => first | exact rfl | with_reducible assumption); (case kd => ktr_room); (case ku => ktr_units); intro r9 h9 tk9 e9 F9 N9; obtain ⟨t9, e9⟩ := e9; subst e9; (try dsimp only)))
local macro_rules | `(tactic| walk_at "call ref") => `(tactic| (k_here; (with_reducible show wpAny _ _ (call (Value.ref 110) [Value.str _ _, Value.int _ _]) _ _ _); k_dflt (refine' useC (name_end_z _ _ _ _ _ (by omega) (by omega) (by omega)) ?k1 ?k2 ?k3 ?k4 ?k5 ?kK ?kd ?ku ?_); (case k1 => k_asm); (case k2 => k_asm); (case k3 => k_asm); (case k4 => k_asm); (case k5 => k_asm); (case kK => first | exact rfl | with_reducible assumption); (case kd => ktr_room); (case ku => ktr_units); intro r9 h9 tk9 e9 F9 N9; obtain ⟨t9, e9⟩ := e9; subst e9; (try dsimp only)))
local macro_rules | `(tactic| walk_at "call ref") => `(tactic| (k_here; (with_reducible show wpAny _ _ (call (Value.ref 110) [Value.str _ _, Value.int _ _]) _ _ _); k_dflt (refine' useC (name_end_c _ _ _ _ _ (by omega) (by omega)) ?k1 ?k2 ?k3 ?k4 ?k5 ?kK ?kd ?ku ?_); (case k1 => k_asm); (case k2 => k_asm); (case k3 => k_asm); (case k4 => k_asm); (case k5 => k_asm); (case kK => first | exact rfl | with_reducible assumption); (case kd => ktr_room); (case ku => ktr_units); intro r9 h9 tk9 e9 F9 N9; obtain ⟨t9, e9⟩ := e9; subst e9; (try dsimp only)))
local macro_rules | `(tactic| walk_at "call ref") => `(tactic| (k_here; (with_reducible show wpAny _ _ (call (Value.ref 56) [Value.str _ _, Value.int _ _]) _ _ _); k_dflt (refine' useC (timescale_end_c _ _ _ _ _ (by omega) (by omega)) ?k1 ?k2 ?k3 ?k4 ?k5 ?kK ?kd ?ku ?_); (case k1 => k_asm); (case k2 => k_asm); (case k3 => k_asm); (case k4 => k_asm); (case k5 => k_asm); (case kK => first | exact rfl | with_reducible assumption); (case kd => ktr_room); (case ku => ktr_units); intro r9 h9 tk9 e9 F9 N9; obtain ⟨t9, e9⟩ := e9; subst e9; (try dsimp only)))
local macro_rules | `(tactic| walk_at "call ref") => `(tactic| (k_here; (with_reducible show wpAny _ _ (call (Value.ref 124) [Value.str _ _, Value.int _ _]) _ _ _); k_dflt (refine' useC (blanks_end_c _ _ _ _ _ (by omega) (by omega)) ?k1 ?k2 ?k3 ?k4 ?k5 ?kK ?kd ?ku ?_); (case k1 => k_asm); (case k2 => k_asm); (case k3 => k_asm); (case k4 => k_asm); (case k5 => k_asm); (case kK => first | exact rfl | with_reducible assumption); (case kd => ktr_room); (case ku => ktr_units); intro r9 h9 tk9 e9 F9 N9; obtain ⟨t9, e9⟩ := e9; subst e9; (try dsimp only)))
local macro_rules | `(tactic| walk_at "call builtin:list.append") => `(tactic| (k_here; (with_reducible show wpAny _ _ (call (Value.builtin _) [Value.ref _, _]) _ _ _); k_dflt (refine' append_K ?k1 ?k2 ?k3 ?_ ?z; (case k1 => k_asm); (case k2 => k_asm); (case k3 => k_upd); (case z => exact Nat.le_of_ble_eq_true rfl); k_whole); intro h' F' N'; (try k_sweep)))
local macro_rules | `(tactic| walk_at "newList") => `(tactic| (k_here; k_dflt (refine' newList_K ?k1 ?k2 ?_ ?z; (case k1 => k_asm); (case k2 => k_asm); (case z => exact Nat.le_of_ble_eq_true rfl); k_whole); intro l' h' F' N' l1; (try k_lt l1); (try k_sweep)))
local macro_rules | `(tactic| walk_at "subscriptTail Name Constant ref int") => `(tactic| (k_here; (with_reducible show wpAny _ _ (subscriptTail _ _ (Value.ref _) (Value.int _ _)) _ _ _); k_dflt (refine' PyProof.Rows.item_list ?k1 ?k2 ?k3 ?k4 ?_; (case k1 => is_list); (case k2 => decide); (case k3 => decide); (case k4 => rfl))))
theorem expand_c (w : World) (x : Str) (t : Tok) (hx : x.length ≤ 10000) (hc : Clean x) (res : Res) (hrun : Run res (tx x) 0 true none []) (mx dx tb td mc : Addr) (om : Obj) (p : MP) (v2 v3 v4 v5 v6 : Value) (hap : Apart mx dx tb td mc)
    (hlo : (mc == sysModules) = false) (hom : Obj.IsDictOf (PySem.strKind PySem.Challenge.rw_rg0146_01.row.prog w) om []) :
  ∀ (mean : ExcName → Option Value) (mg mb : Str → Option Value) (dp un : Nat) (gd : Option (List Code)) (cn : Str) (cs : Scope) (a : Addr) (ccd : Value) (cl : List (Str × Addr)) (outer : List Env) (A₀ : Around) (base h₀ : Heap) (L : Addr) (m : Str → Option Value) (news : List (Addr × Obj)) (s : Shared) (Q E : Value → Shared → Prop),
    Below A₀ base outer h₀ → Fr h₀ L s.heap m → (kx.heap_1 w.params).In h₀ → News h₀ L s.heap (MLed mx dx tb td mc om p v2 v3 v4 v5 v6 ++ news) → Top vw (looseW vw [PySem.Str.ofString "GateloomError", PySem.Str.ofString "substitute"]) mean mg mb h₀ → cs.kind = .function → dp + 15 < recursionLimit → un + 120 < cLine →
    (∀ q ∈ news, q.1 ≠ dx) → (∀ q ∈ news, q.1 ≠ td) →
    (∀ out, res = .ok out → ∀ y ty p' v2' v3' v4' v5' v6' h' tk', tx y = out → Fr h₀ L h' m → News h₀ L h' (MLed mx dx tb td mc om p' v2' v3' v4' v5' v6' ++ news) → Q (.str y ty) { s with heap := h', toks := tk' }) →
    (∀ j, res = .err j → ∀ G e D h1 h2 h3 t1 t2 t3 ta ub w3 vs p' v2' v3' v4' v5' v6' h' tk', Fr h₀ L G m → RaisedD base G (envX cn cs L a ccd cl :: outer) e (excO D vs) ((D, dictOf [⟨h1, .str (Str.ofString "kind") t1, .str (Str.ofString "bad_directive") ub⟩, ⟨h2, .str (Str.ofString "at") t2, .int (j : Int) ta⟩, ⟨h3, .str (Str.ofString "detail") t3, w3⟩] 3) :: (MLed mx dx tb td mc om p' v2' v3' v4' v5' v6' ++ news)) h' → G.UpToSlots h' → E (.ref e) { s with heap := h', toks := tk' }) →
    wpAny (model PySem.Challenge.rw_rg0146_01.row.prog w) (ktrTop dp un gd cn cs L a ccd cl outer) (call (.ref 271) [.ref mx, .str x t]) Q E s := by
  k_with_none
  k_fill
  intro mean mg mb dp un gd cn cs a ccd cl outer A₀ base h₀ L m news s Q E B F X N T hk hd hu hn1 hn2 hret herr
  simp only [MLed, List.cons_append, List.nil_append] at N
  refine wpAny_call ?_
  k_dflt ktr_enter
  k_steps
  unfold Stop
  k_dflt (refine' useB hap ?k1 ?k2 ?k3 ?k4 ?k5 ?kK ?kd ?ku hn1 hn2 ?_)
  (case k1 => k_asm)
  (case k2 => k_asm)
  (case k3 => k_asm)
  (case k4 => assumption)
  (case k5 => k_asm)
  (case kK => exact rfl)
  (case kd => ktr_room)
  (case ku => ktr_units)
  intro nt ps cs' p' tl h9 tk9 F9 N9 hord
  (try dsimp only)
  replace N9 := N9 0
  k_steps
  unfold Stop
  (rename Fr _ _ _ _ => lF')
  (rename News _ _ _ _ => lN')
  obtain ⟨a1, a2, a3, a4, a5, a6, a7, a8, a9, a10⟩ := hap
  have a2' : AllLt ps news := hord.2.2.1
  have a3' : AllLt cs' news := hord.2.2.2
  obtain ⟨⟨b1, b2, b3, b4, b5, b6, b7⟩, -⟩ := hord
  refine' ksw_while (LedE mx dx tb td mc om p' nt ps cs' news) (fun c => [(Str.ofString "at", .int (c.j : Int) c.tj)]) (fun _ => True) [Str.ofString "end"] (InvE x res cs') (fun c => x.length - c.j) ⟨0, ?tok, [], [], 0, 0, tl, true, none, 0⟩ lF' ?kn trivial ?kk ?kp ?turn
  case kk => exact List.forall_mem_cons.mpr ⟨by with_unfolding_all rfl, List.forall_mem_nil _⟩
  case kn => exact lN'
  case kp => exact ⟨[], Nat.zero_le _, hrun, .nil, rfl, Nat.le_refl _, Nat.le_refl _, fun _ h => nomatch h⟩
  clear lN' lF'
  rintro ⟨j, tj, vs, ss, k, len, tl, b, C, kc⟩ u h tk - ⟨out, hj, hR, hS, hf, ho, hv, hC⟩ Fr1 N1
  simp only [LedE, MLed, List.cons_append, List.nil_append] at N1
  dsimp only [kstB] at Fr1
  dsimp only at hj hR hS hf ho hv hC
  have n1 := cond_ne hC (d := dx) (by omega) hn1
  have n2 := cond_ne hC (d := ps) (by omega) (allLt_ne a2')
  have n3 := cond_ne hC (d := cs') (by omega) (allLt_ne a3')
  clear hn1 hn2 hrun
  generalize hl : (tx x).drop j = l at hR
  generalize hCm : C.map (·.2.1) = Cm at hR
  cases hR with
  | @done _ _ _ hres =>
    have hge : ¬ ((j : Int) < (x.length : Int)) := by
      have h1 := congrArg List.length hl
      rw [List.length_drop, tx_len, List.length_nil] at h1
      omega
    have hge2 : decide ((j : Int) < (x.length : Int)) = false := by rw [decide_eq_false_iff_not]; exact hge
    have hCn : C = none := by cases C with | none => rfl | some _ => cases hCm
    subst hCn
    k_steps
    refine join_listW (ys := ss) (by is_list) (by simpa using hS) (by decide +kernel) (join_fits hS hf ho hv hj hx) ?_
    intro y ty
    k_steps
    exact hret out hres _ _ p' _ _ _ _ _ _ _ ((tx_join ss).trans hf) (by k_asm) (by (rename News _ _ _ _ => lN'); exact (cb_drop lN' (fun _ hp => .tail _ (.tail _ (.tail _ hp)))))
  | @tok c r _ _ _ _ hne hR' =>
    have hq : (Txt.item x (j : Int) == Str.ofString "`") = false := by rw [bt_is hl]; simpa using hne
    have hlt : j < x.length := by rw [← tx_len]; exact (drop_cons hl).2
    have hrl : remLen ((tx x).drop j) = remLen (c :: r) := by rw [hl]
    have hwl : wholeLen ((tx x).drop j) = wholeLen (c :: r) := by rw [hl]
    cases b with
    | true =>
      by_cases h0 : 0 < remLen (c :: r)
      · have hd1 : decide (((j + remLen ((tx x).drop j) : Nat) : Int) = (j : Int)) = false := by rw [decide_eq_false_iff_not]; omega
        have hd2 : (((j + remLen ((tx x).drop j) : Nat) : Int) == (j : Int)) = false := by rw [beq_eq_false_iff_ne]; omega
        have htl : remLen ((tx x).drop j) = tokLen (c :: r) := by rw [hrl]; unfold tokLen; rw [if_pos h0]
        k_steps
        · (rename News _ _ _ _ => nE')
          (try simp only [List.push_toArray] at nE')
          exact ksw_endE ⟨j + remLen ((tx x).drop j), _, vs ++ [Value.str _ _], ss ++ [_], _, _, _, true, C, _⟩ (by assumption) nE' trivial (List.forall_mem_cons.mpr ⟨by with_unfolding_all rfl, List.forall_mem_nil _⟩) (by ksw_same)
            (inv_tok hl (by rw [hCm]; exact hR') hS hf ho hv hC htl (slice_tok hl)) (meas_tok hl htl)
      · have hd1 : decide (((j + remLen ((tx x).drop j) : Nat) : Int) = (j : Int)) = true := by rw [decide_eq_true_eq]; omega
        have hd2 : (((j + remLen ((tx x).drop j) : Nat) : Int) == (j : Int)) = true := by rw [beq_iff_eq]; omega
        have htl : wholeLen ((tx x).drop j) = tokLen (c :: r) := by rw [hwl]; unfold tokLen; rw [if_neg h0]
        k_steps
        · (rename News _ _ _ _ => nE')
          (try simp only [List.push_toArray] at nE')
          exact ksw_endE ⟨j + wholeLen ((tx x).drop j), _, vs ++ [Value.str _ _], ss ++ [_], _, _, _, true, C, _⟩ (by assumption) nE' trivial (List.forall_mem_cons.mpr ⟨by with_unfolding_all rfl, List.forall_mem_nil _⟩) (by ksw_same)
            (inv_tok hl (by rw [hCm]; exact hR') hS hf ho hv hC htl (slice_tok hl)) (meas_tok hl htl)
    | false =>
      by_cases h0 : 0 < remLen (c :: r)
      · have hd1 : decide (((j + remLen ((tx x).drop j) : Nat) : Int) = (j : Int)) = false := by rw [decide_eq_false_iff_not]; omega
        have hd2 : (((j + remLen ((tx x).drop j) : Nat) : Int) == (j : Int)) = false := by rw [beq_eq_false_iff_ne]; omega
        have htl : remLen ((tx x).drop j) = tokLen (c :: r) := by rw [hrl]; unfold tokLen; rw [if_pos h0]
        k_steps
        · (rename News _ _ _ _ => nE')
          (try simp only [List.push_toArray] at nE')
          exact ksw_endE ⟨j + remLen ((tx x).drop j), _, vs ++ [Value.str _ _], ss ++ [_], _, _, _, false, C, _⟩ (by assumption) nE' trivial (List.forall_mem_cons.mpr ⟨by with_unfolding_all rfl, List.forall_mem_nil _⟩) (by ksw_same)
            (inv_tok hl (by rw [hCm]; exact hR') hS hf ho hv hC htl (slice_nl hl)) (meas_tok hl htl)
      · have hd1 : decide (((j + remLen ((tx x).drop j) : Nat) : Int) = (j : Int)) = true := by rw [decide_eq_true_eq]; omega
        have hd2 : (((j + remLen ((tx x).drop j) : Nat) : Int) == (j : Int)) = true := by rw [beq_iff_eq]; omega
        have htl : wholeLen ((tx x).drop j) = tokLen (c :: r) := by rw [hwl]; unfold tokLen; rw [if_neg h0]
        k_steps
        · (rename News _ _ _ _ => nE')
          (try simp only [List.push_toArray] at nE')
          exact ksw_endE ⟨j + wholeLen ((tx x).drop j), _, vs ++ [Value.str _ _], ss ++ [_], _, _, _, false, C, _⟩ (by assumption) nE' trivial (List.forall_mem_cons.mpr ⟨by with_unfolding_all rfl, List.forall_mem_nil _⟩) (by ksw_same)
            (inv_tok hl (by rw [hCm]; exact hR') hS hf ho hv hC htl (slice_nl hl)) (meas_tok hl htl)
  | @ts r _ k2 _ _ hn ht hk hR' =>
    have hq : (Txt.item x (j : Int) == Str.ofString "`") = true := by rw [bt_is hl]; rfl
    have hlt : j < x.length := by rw [← tx_len]; exact (drop_cons hl).2
    have hr : (tx x).drop (j + 1) = r := (drop_cons hl).1
    have hnl : nameLen ((tx x).drop ((j : Int) + 1).toNat) = 9 := by rw [show ((j : Int) + 1).toNat = j + 1 from by omega, hr]; exact hn
    have hj1 : ((j : Int) + 1).toNat = j + 1 := by omega
    have hrl : r.length = x.length - (j + 1) := by rw [← hr, List.length_drop, tx_len]
    have hnle : 9 ≤ r.length := by rw [← hn]; exact nameLen_le r
    have hle : ((j : Int) + 1).toNat + nameLen ((tx x).drop ((j : Int) + 1).toNat) ≤ x.length := by omega
    have hdr : (tx x).drop (((j : Int) + 1).toNat + nameLen ((tx x).drop ((j : Int) + 1).toNat)) = r.drop 9 := by rw [hnl, hj1, ← List.drop_drop, hr]
    have htz : wordR ((((j : Int) + 1).toNat + nameLen ((tx x).drop ((j : Int) + 1).toNat))) (tsF ((tx x).drop (((j : Int) + 1).toNat + nameLen ((tx x).drop ((j : Int) + 1).toNat)))) = ((j + 1 + 9 + k2 : Nat) : Int) := by rw [hdr, hk, hnl, hj1]; rfl
    have hlt0 : decide (wordR ((((j : Int) + 1).toNat + nameLen ((tx x).drop ((j : Int) + 1).toNat))) (tsF ((tx x).drop (((j : Int) + 1).toNat + nameLen ((tx x).drop ((j : Int) + 1).toNat)))) < (0 : Int)) = false := by rw [htz]; rw [decide_eq_false_iff_not]; omega
    have hname := name_is (y := Str.ofString "timescale") hr hn (ht.trans tx_ts)
    k_steps
    (rename Fr _ _ _ _ => lF2')
    simp only [hname] at lF2' ⊢
    unfold Stop
    k_steps
    have hk3 : k2 ≤ (r.drop 9).length := tsF_le hk
    rw [List.length_drop] at hk3
    (rename News _ _ _ _ => nE')
    replace nE' := News.tail' nE'
    (try simp only [List.push_toArray] at nE')
    exact ksw_endE ⟨j + 1 + (9 + k2), _, vs, ss, _, _, _, true, C, _⟩ (by assumption) nE' trivial (List.forall_mem_cons.mpr ⟨atJ (by with_unfolding_all rfl) (by dsimp only; rw [htz]; omega), List.forall_mem_nil _⟩) (by ksw_same)
      (inv_dir hlt hr (by omega) (by rw [hCm, show j + 1 + (9 + k2) = j + 1 + 9 + k2 from by omega]; exact hR') hS hf ho hv hC) (by dsimp only; omega)
  | @bad r _ _ _ hn ht hk hres =>
    have hq : (Txt.item x (j : Int) == Str.ofString "`") = true := by rw [bt_is hl]; rfl
    have hlt : j < x.length := by rw [← tx_len]; exact (drop_cons hl).2
    have hr : (tx x).drop (j + 1) = r := (drop_cons hl).1
    have hnl : nameLen ((tx x).drop ((j : Int) + 1).toNat) = 9 := by rw [show ((j : Int) + 1).toNat = j + 1 from by omega, hr]; exact hn
    have hj1 : ((j : Int) + 1).toNat = j + 1 := by omega
    have hrl : r.length = x.length - (j + 1) := by rw [← hr, List.length_drop, tx_len]
    have hnle : 9 ≤ r.length := by rw [← hn]; exact nameLen_le r
    have hle : ((j : Int) + 1).toNat + nameLen ((tx x).drop ((j : Int) + 1).toNat) ≤ x.length := by omega
    have hdr : (tx x).drop (((j : Int) + 1).toNat + nameLen ((tx x).drop ((j : Int) + 1).toNat)) = r.drop 9 := by rw [hnl, hj1, ← List.drop_drop, hr]
    have htz : wordR ((((j : Int) + 1).toNat + nameLen ((tx x).drop ((j : Int) + 1).toNat))) (tsF ((tx x).drop (((j : Int) + 1).toNat + nameLen ((tx x).drop ((j : Int) + 1).toNat)))) = -1 := by rw [hdr, hk, hnl, hj1]; rfl
    have hlt0 : decide (wordR ((((j : Int) + 1).toNat + nameLen ((tx x).drop ((j : Int) + 1).toNat))) (tsF ((tx x).drop (((j : Int) + 1).toNat + nameLen ((tx x).drop ((j : Int) + 1).toNat)))) < (0 : Int)) = true := by rw [htz]; decide
    have hname := name_is (y := Str.ofString "timescale") hr hn (ht.trans tx_ts)
    k_steps
    (rename Fr _ _ _ _ => lF2')
    simp only [hname] at lF2' ⊢
    unfold Stop
    k_steps
    k_dflt (refine' useExc ?k1 ?k2 ?k3 ?k4 ?k5 ?kK ?kd ?ku ?_)
    (case k1 => k_asm)
    (case k2 => k_asm)
    (case k3 => k_asm)
    (case k4 => k_asm)
    (case k5 => k_asm)
    (case kK => exact rfl)
    (case kd => ktr_room)
    (case ku => ktr_units)
    intro e D h1 h2 h3 t1 t2 t3 vs' h' tk' hne hD hv1 hvt F9' N9'
    obtain ⟨tt, rfl⟩ := hvt
    refine ⟨e, some D, tt, rfl, src_at_of (by k_asm) F9', (N9' _ (.tail _ (.head _))).1, ?_⟩
    refine leave_raiseD (o := excO D #[]) (by k_asm) F9' (news_swap N9') (fun q hq => ?_) rfl ?_
    · rcases List.mem_cons.mp hq with rfl | hq
      · exact Nat.ne_of_gt hD.1
      · exact hne q hq
    intro h5 hR5 hS5
    refine leave_onD (by k_asm) (by k_asm) hR5 hS5 ?_
    intro h6 hR6 hS6
    exact herr j hres _ _ _ _ _ _ _ _ _ _ _ _ _ p' (.ref nt) (.ref ps) (.int len tl) (.ref cs') (.bool true) _ _ (by k_asm) (hR6.drop (List.Sublist.subset (.cons_cons _ (.cons _ (.cons _ (.cons _ (.cons _ (.cons_cons _ (.cons_cons _ (.cons_cons _ (.cons_cons _ (.cons_cons _ (List.sublist_append_right _ _))))))))))))) hS6
  | @skip r _ _ _ hn ht hR' =>
    have hq : (Txt.item x (j : Int) == Str.ofString "`") = true := by rw [bt_is hl]; rfl
    have hlt : j < x.length := by rw [← tx_len]; exact (drop_cons hl).2
    have hr : (tx x).drop (j + 1) = r := (drop_cons hl).1
    have hnl : nameLen ((tx x).drop ((j : Int) + 1).toNat) = 9 := by rw [show ((j : Int) + 1).toNat = j + 1 from by omega, hr]; exact hn
    have hj1 : ((j : Int) + 1).toNat = j + 1 := by omega
    have hrl : r.length = x.length - (j + 1) := by rw [← hr, List.length_drop, tx_len]
    have hnle : 9 ≤ r.length := by rw [← hn]; exact nameLen_le r
    have hle : ((j : Int) + 1).toNat + nameLen ((tx x).drop ((j : Int) + 1).toNat) ≤ x.length := by omega
    have hdr : (tx x).drop (((j : Int) + 1).toNat + nameLen ((tx x).drop ((j : Int) + 1).toNat)) = r.drop 9 := by rw [hnl, hj1, ← List.drop_drop, hr]
    have hmx : ¬ ((j : Int) + 1 > ((((j : Int) + 1).toNat + nameLen ((tx x).drop ((j : Int) + 1).toNat)) : Nat)) := by omega
    have hname := name_is (y := Str.ofString "timescale") hr hn (ht.trans tx_ts)
    k_steps
    (rename Fr _ _ _ _ => lF2')
    simp only [hname] at lF2' ⊢
    unfold Stop
    k_steps
    (rename Fr _ _ _ _ => lF3')
    simp only [if_neg hmx] at lF3'
    (rename News _ _ _ _ => nE')
    replace nE' := News.tail' nE'
    (try simp only [List.push_toArray] at nE')
    exact ksw_endE ⟨j + 1 + 9, _, vs, ss, _, _, _, false, C, _⟩ (by assumption) nE' trivial (List.forall_mem_cons.mpr ⟨atJ (by with_unfolding_all rfl) (by dsimp only; omega), List.forall_mem_nil _⟩) (by ksw_same)
      (inv_dir hlt hr (by rw [← hn]; exact nameLen_le r) (by rw [hCm]; exact hR') hS hf ho hv hC) (by dsimp only; omega)
  | @ifdef r _ _ hn ht hpos hR' =>
    have hq : (Txt.item x (j : Int) == Str.ofString "`") = true := by rw [bt_is hl]; rfl
    have hlt : j < x.length := by rw [← tx_len]; exact (drop_cons hl).2
    have hr : (tx x).drop (j + 1) = r := (drop_cons hl).1
    have hnl : nameLen ((tx x).drop ((j : Int) + 1).toNat) = 5 := by rw [show ((j : Int) + 1).toNat = j + 1 from by omega, hr]; exact hn
    have hj1 : ((j : Int) + 1).toNat = j + 1 := by omega
    have hrl : r.length = x.length - (j + 1) := by rw [← hr, List.length_drop, tx_len]
    have hnle : 5 ≤ r.length := by rw [← hn]; exact nameLen_le r
    have hle : ((j : Int) + 1).toNat + nameLen ((tx x).drop ((j : Int) + 1).toNat) ≤ x.length := by omega
    have hdr : (tx x).drop (((j : Int) + 1).toNat + nameLen ((tx x).drop ((j : Int) + 1).toNat)) = r.drop 5 := by rw [hnl, hj1, ← List.drop_drop, hr]
    have hle2 : (((j : Int) + 1).toNat + nameLen ((tx x).drop ((j : Int) + 1).toNat)) + blLen ((tx x).drop (((j : Int) + 1).toNat + nameLen ((tx x).drop ((j : Int) + 1).toNat))) ≤ x.length := by
      have h1 := blLen_le ((tx x).drop (((j : Int) + 1).toNat + nameLen ((tx x).drop ((j : Int) + 1).toNat)))
      rw [List.length_drop, tx_len] at h1
      omega
    have hp2 : 0 < nameLen ((tx x).drop ((((j : Int) + 1).toNat + nameLen ((tx x).drop ((j : Int) + 1).toNat)) + blLen ((tx x).drop (((j : Int) + 1).toNat + nameLen ((tx x).drop ((j : Int) + 1).toNat))))) := by rw [← List.drop_drop, hdr, List.drop_drop]; exact hpos
    have hd1 : decide ((((((j : Int) + 1).toNat + nameLen ((tx x).drop ((j : Int) + 1).toNat)) + blLen ((tx x).drop (((j : Int) + 1).toNat + nameLen ((tx x).drop ((j : Int) + 1).toNat))) + nameLen ((tx x).drop ((((j : Int) + 1).toNat + nameLen ((tx x).drop ((j : Int) + 1).toNat)) + blLen ((tx x).drop (((j : Int) + 1).toNat + nameLen ((tx x).drop ((j : Int) + 1).toNat))))) : Nat) : Int) = (((((j : Int) + 1).toNat + nameLen ((tx x).drop ((j : Int) + 1).toNat)) + blLen ((tx x).drop (((j : Int) + 1).toNat + nameLen ((tx x).drop ((j : Int) + 1).toNat))) : Nat) : Int)) = false := by rw [decide_eq_false_iff_not]; omega
    have hd2 : ((((((j : Int) + 1).toNat + nameLen ((tx x).drop ((j : Int) + 1).toNat)) + blLen ((tx x).drop (((j : Int) + 1).toNat + nameLen ((tx x).drop ((j : Int) + 1).toNat))) + nameLen ((tx x).drop ((((j : Int) + 1).toNat + nameLen ((tx x).drop ((j : Int) + 1).toNat)) + blLen ((tx x).drop (((j : Int) + 1).toNat + nameLen ((tx x).drop ((j : Int) + 1).toNat))))) : Nat) : Int) == (((((j : Int) + 1).toNat + nameLen ((tx x).drop ((j : Int) + 1).toNat)) + blLen ((tx x).drop (((j : Int) + 1).toNat + nameLen ((tx x).drop ((j : Int) + 1).toNat))) : Nat) : Int)) = false := by rw [beq_eq_false_iff_ne]; omega
    have hCn : C = none := by cases C with | none => rfl | some _ => cases hCm
    subst hCn
    have hname := name_is (y := Str.ofString "ifdef") hr hn (ht.trans tx_if)
    k_steps
    (rename Fr _ _ _ _ => lF2')
    simp only [hname] at lF2' ⊢
    unfold Stop
    k_steps
    have hbl : blLen ((tx x).drop (((j : Int) + 1).toNat + nameLen ((tx x).drop ((j : Int) + 1).toNat))) = blLen (r.drop 5) := by rw [hdr]
    have hn2 : nameLen ((tx x).drop ((((j : Int) + 1).toNat + nameLen ((tx x).drop ((j : Int) + 1).toNat)) + blLen ((tx x).drop (((j : Int) + 1).toNat + nameLen ((tx x).drop ((j : Int) + 1).toNat))))) = nameLen (r.drop (5 + blLen (r.drop 5))) := by rw [hbl, ← List.drop_drop, hdr, List.drop_drop]
    have hm2 : 5 + blLen (r.drop 5) + nameLen (r.drop (5 + blLen (r.drop 5))) ≤ r.length := by
      have h1 := nameLen_le (r.drop (5 + blLen (r.drop 5)))
      rw [List.length_drop] at h1
      omega
    (rename Fr _ _ _ _ => lF3')
    (rename News _ _ _ _ => nE')
    have hff : (false == (Str.ofString "ifdef" == Str.ofString "ifdef")) = false := by decide +kernel
    rw [hff] at nE'
    have nE2 : ∀ tz, News _ _ _ (LedE mx dx tb td mc om p' nt ps cs' news ⟨j + 1 + (5 + blLen (r.drop 5) + nameLen (r.drop (5 + blLen (r.drop 5)))), tz, vs, ss, k, len, tl, false, some (_, j, tj), kc + 1⟩) := fun tz => cb_drop nE' mem_mv
    exact ksw_endE ⟨j + 1 + (5 + blLen (r.drop 5) + nameLen (r.drop (5 + blLen (r.drop 5)))), _, vs, ss, _, _, _, false, some (_, j, tj), kc + 1⟩ lF3' (nE2 _) trivial (List.forall_mem_cons.mpr ⟨atJ (by with_unfolding_all rfl) (by dsimp only; omega), List.forall_mem_nil _⟩) (by ksw_same)
      (inv_dir hlt hr hm2 (by rw [show j + 1 + (5 + blLen (r.drop 5) + nameLen (r.drop (5 + blLen (r.drop 5)))) = j + 1 + 5 + blLen (r.drop 5) + nameLen (r.drop (5 + blLen (r.drop 5))) from by omega]; exact hR') hS hf ho hv (fun d h => by cases h; dsimp only; omega)) (by dsimp only; omega)
  | @endif r _ pp _ _ hn ht hR' =>
    have hq : (Txt.item x (j : Int) == Str.ofString "`") = true := by rw [bt_is hl]; rfl
    have hlt : j < x.length := by rw [← tx_len]; exact (drop_cons hl).2
    have hr : (tx x).drop (j + 1) = r := (drop_cons hl).1
    have hnl : nameLen ((tx x).drop ((j : Int) + 1).toNat) = 5 := by rw [show ((j : Int) + 1).toNat = j + 1 from by omega, hr]; exact hn
    have hj1 : ((j : Int) + 1).toNat = j + 1 := by omega
    have hrl : r.length = x.length - (j + 1) := by rw [← hr, List.length_drop, tx_len]
    have hnle : 5 ≤ r.length := by rw [← hn]; exact nameLen_le r
    have hle : ((j : Int) + 1).toNat + nameLen ((tx x).drop ((j : Int) + 1).toNat) ≤ x.length := by omega
    have hdr : (tx x).drop (((j : Int) + 1).toNat + nameLen ((tx x).drop ((j : Int) + 1).toNat)) = r.drop 5 := by rw [hnl, hj1, ← List.drop_drop, hr]
    obtain ⟨⟨cd, cj, ck⟩, rfl⟩ : ∃ c, C = some c := by cases C with | none => cases hCm | some c => exact ⟨c, rfl⟩
    simp only [condV, condL, List.cons_append, List.nil_append] at N1 n1 n2 n3
    have hcd : @LT.lt Nat _ cs' cd := hC _ rfl
    have hname := name_is (y := Str.ofString "endif") hr hn (ht.trans tx_en)
    k_steps
    (rename Fr _ _ _ _ => lF2')
    simp only [hname] at lF2' ⊢
    unfold Stop
    k_steps
    (rename News _ _ _ _ => nE')
    have nE' : ∀ tz, _ := fun tz => cb_drop (news := LedE mx dx tb td mc om p' nt ps cs' news ⟨j + 1 + 5, tz, vs, ss, k, len, tl, true, none, kc + 1⟩) nE' (List.Sublist.subset (.cons _ (.cons_cons _ (.cons_cons _ (.cons_cons _ (.cons_cons _ (.cons_cons _ (.cons_cons _ (.cons_cons _ (.cons_cons _ (.cons _ (List.Sublist.refl _))))))))))))
    (try simp only [List.push_toArray] at nE')
    exact ksw_endE ⟨j + 1 + 5, _, vs, ss, _, _, _, true, none, kc + 1⟩ (by assumption) (nE' _) trivial (List.forall_mem_cons.mpr ⟨atJ (by with_unfolding_all rfl) (by dsimp only; omega), List.forall_mem_nil _⟩) (by ksw_same)
      (inv_dir hlt hr hnle hR' hS hf ho hv (fun _ h => nomatch h)) (by dsimp only; omega)
end Mine
namespace Mine
theorem fresh_X4 : True := by
  first | row_walk | exact True.intro
local macro_rules | `(tactic| k_room) => `(tactic| ktr_room)
local macro_rules | `(tactic| k_all) => `(tactic| first | assumption | exact allLt_ne (by assumption))

local macro_rules | `(tactic| walk_at "call ref") => `(tactic| ((with_reducible show wpAny _ _ (call (Value.ref 271) _) _ _ _); refine Stop.mk ?_))
local macro_rules | `(tactic| walk_at "getAttr ref") => `(tactic| (k_dflt (refine' exc_get ?k1 ?k2 ?k3 ?k4 ?k5 ?k6 ?k7 ?k8 ?_; (case k1 => k_asm); (case k2 => k_asm); (case k3 => exact .head _); (case k4 => exact .tail _ (.head _)); (case k5 => k_asm); (case k6 => first | exact src_kind | exact src_atn); (case k7 => with_unfolding_all rfl); (case k8 => with_unfolding_all rfl); k_whole)))
theorem lawx_c (w : World) (x : Str) (t : Tok) (hx : x.length ≤ 10000) (hc : Clean x) (res : Res) (hrun : Run res (tx x) 0 true none []) (mx dx tb td mc : Addr) (om : Obj) (p : MP) (v2 v3 v4 v5 v6 : Value) (hap : Apart mx dx tb td mc)
    (hlo : (mc == sysModules) = false) (hom : Obj.IsDictOf (PySem.strKind PySem.Challenge.rw_rg0146_01.row.prog w) om []) :
  ∀ (mean : ExcName → Option Value) (mg mb : Str → Option Value) (dp un : Nat) (gd : Option (List Code)) (cn : Str) (cs : Scope) (a : Addr) (ccd : Value) (A₀ : Around) (base h₀ : Heap) (L : Addr) (m : Str → Option Value) (news : List (Addr × Obj)) (s : Shared) (Q E : Value → Shared → Prop),
    Below A₀ base [] h₀ → Fr h₀ L s.heap m → (kx.heap_1 w.params).In h₀ → News h₀ L s.heap (MLed mx dx tb td mc om p v2 v3 v4 v5 v6 ++ news) → Top vw (looseW vw [PySem.Str.ofString "GateloomError", PySem.Str.ofString "substitute"]) mean mg mb h₀ → cs.kind = .function → dp + 18 < recursionLimit → un + 144 < cLine →
    (kx.heap_1 w.params).In base → Top vw (looseW vw [PySem.Str.ofString "GateloomError", PySem.Str.ofString "substitute"]) mean mg mb base →
    (∀ q ∈ news, q.1 ≠ dx) → (∀ q ∈ news, q.1 ≠ td) →
    (∀ out, res = .ok out → ∀ y ty p' v2' v3' v4' v5' v6' h' tk', tx y = out → Fr h₀ L h' m → News h₀ L h' (MLed mx dx tb td mc om p' v2' v3' v4' v5' v6' ++ news) → Q (.str y ty) { s with heap := h', toks := tk' }) →
    (∀ j, res = .err j → ∀ tp ub ta p' v2' v3' v4' v5' v6' h' tk', Fr h₀ L h' m → News h₀ L h' ((tp, (⟨.type "tuple", none, .seq #[.str (Str.ofString "bad_directive") ub, .int (j : Int) ta], #[]⟩ : Obj)) :: (MLed mx dx tb td mc om p' v2' v3' v4' v5' v6' ++ news)) → Q (.ref tp) { s with heap := h', toks := tk' }) →
    wpAny (model PySem.Challenge.rw_rg0146_01.row.prog w) (ktrTop dp un gd cn cs L a ccd [] []) (call (.ref 348) [.ref mx, .str x t]) Q E s := by
  k_with_none
  k_fill
  intro mean mg mb dp un gd cn cs a ccd A₀ base h₀ L m news s Q E B F X N T hk hd hu XB TB hn1 hn2 ret1 ret2
  simp only [MLed, List.cons_append, List.nil_append] at N
  refine wpAny_call ?_
  k_dflt (refine' code_defS0 ?k1 ?k2 ?k3 ?k4 ?k5 ?kA ?k6 ?k7 ?k8 ?k9 ?kB ?_ ?cK ?c2 ?c3 ?c4 ?c5; (case kA => exact rfl); (case k2 => k_asm); (case k1 => k_asm); (case k3 => k_asm); (case k4 => k_asm); (case k5 => k_asm); (case k6 => k_is); (case k7 => k_is); (case k8 => ktr_room); (case k9 => exact BindsTo.of_eq rfl); (case kB => exact locs rfl); (case cK => assumption); (case c2 => exact rfl); (case c3 => exact rfl); (case c4 => exact rfl); (case c5 => decide); k_whole; intro g' L' h' FG' F' N' B' X' T' D'; (try dsimp only); (try k_fold))
  k_steps
  unfold Stop
  k_dflt (refine' expand_c w x t hx hc res hrun mx dx tb td mc om p v2 v3 v4 v5 v6 hap hlo hom _ _ _ _ _ _ _ _ _ _ _ _ _ _ _ _ _ _ _ _ _ ?k1 ?k2 ?k3 ?k4 ?k5 ?kK ?kd ?ku hn1 hn2 ?r1 ?r2)
  (case k1 => k_asm)
  (case k2 => k_asm)
  (case k3 => k_asm)
  (case k4 => exact N')
  (case k5 => k_asm)
  (case kK => exact rfl)
  (case kd => ktr_room)
  (case ku => ktr_units)
  case r1 =>
    intro out hres y ty p' v2' v3' v4' v5' v6' h9 tk9 hy F9 N9
    (try dsimp only)
    k_steps
    exact ret1 out hres _ _ p' _ _ _ _ _ _ _ hy (by k_asm) (by k_asm)
  case r2 =>
    intro j hres G e D h1 h2 h3 t1 t2 t3 ta ub w3 vs p' v2' v3' v4' v5' v6' h9 tk9 F9 R9 S9
    refine caught_D (C := 94) R9 rfl F9 (by k_asm) S9 XB TB src_name src_base ?_
    intro h8 g8 vs8 tk8 T8 F8 N8 B8 X8 P8
    (try dsimp only)
    k_steps
    (rename News _ _ _ _ => lN')
    exact ret2 j hres _ ub ta p' v2' v3' v4' v5' v6' _ _ (by k_asm) (cb_drop lN' (List.Sublist.subset (.cons_cons _ (.cons _ (.cons _ (List.Sublist.refl _))))))
end Mine
namespace Mine
local macro_rules | `(tactic| walk_at "unused 0") => `(tactic| skip)
theorem fresh_W0 : True := by
  first | row_walk | exact True.intro
/-- what the clock's list holds -/
def Clock (vs : List Value) : Prop := ∃ ns : List Int, IntsAre vs ns ∧ (∀ n ∈ ns, 0 ≤ n ∧ n < 59) ∧ ns.length ≤ 1000
/-- a call that draws from the clock -/
def DrawC (w : World) (f : Addr) (d : Nat) (args : List Value) (R : Value → List (Addr × Obj) → Prop) : Prop :=
  ∀ (mean : ExcName → Option Value) (mg mb : Str → Option Value) (dp un : Nat) (gd : Option (List Code)) (cn : Str) (cs : Scope) (a : Addr) (ccd : Value) (cl : List (Str × Addr)) (outer : List Env) (A₀ : Around) (base h₀ : Heap) (L : Addr) (m : Str → Option Value) (ck : Addr) (vs : List Value) (k : Nat) (news : List (Addr × Obj)) (s : Shared) (Q E : Value → Shared → Prop),
    Below A₀ base outer h₀ → Fr h₀ L s.heap m → (kx.heap_1 w.params).In h₀ → News h₀ L s.heap ((ck, W.listOf vs.toArray k) :: news) → Top vw (looseW vw [PySem.Str.ofString "GateloomError", PySem.Str.ofString "substitute"]) mean mg mb h₀ → cs.kind = .function → dp + d < recursionLimit → un + 8 * d < cLine →
    Clock vs → (∀ q ∈ news, q.1 ≠ ck) →
    (∀ r vs' k' own h' tk', Clock vs' → R r own → Fr h₀ L h' m → News h₀ L h' (own ++ ((ck, W.listOf vs'.toArray k') :: news)) → Q r { s with heap := h', toks := tk' }) →
    wpAny (model PySem.Challenge.rw_rg0146_01.row.prog w) (ktrTop dp un gd cn cs L a ccd cl outer) (call (.ref f) (.ref ck :: args)) Q E s
theorem useD {w : World} {f : Addr} {d : Nat} {args : List Value} {R : Value → List (Addr × Obj) → Prop} (C : DrawC w f d args R)
  {mean : ExcName → Option Value} {mg mb : Str → Option Value} {dp un : Nat} {gd : Option (List Code)} {cn : Str} {cs : Scope} {a : Addr} {ccd : Value} {cl : List (Str × Addr)} {outer : List Env} {A₀ : Around} {base h₀ : Heap} {L : Addr} {m : Str → Option Value} {ck : Addr} {vs : List Value} {k : Nat} {led : List (Addr × Obj)} (news : List (Addr × Obj)) {s : Shared} {Q E : Value → Shared → Prop}
  (B : Below A₀ base outer h₀) (F : Fr h₀ L s.heap m) (X : (kx.heap_1 w.params).In h₀) (N : News h₀ L s.heap led) (hs : ∀ q ∈ (ck, W.listOf vs.toArray k) :: news, q ∈ led) (T : Top vw (looseW vw [PySem.Str.ofString "GateloomError", PySem.Str.ofString "substitute"]) mean mg mb h₀) (hk : cs.kind = .function)
  (hd : dp + d < recursionLimit) (hu : un + 8 * d < cLine) (hc : Clock vs) (hn : ∀ q ∈ news, q.1 ≠ ck)
  (ret : ∀ r vs' k' own h' tk', Clock vs' → R r own → Fr h₀ L h' m → News h₀ L h' (own ++ ((ck, W.listOf vs'.toArray k') :: news)) → Q r { s with heap := h', toks := tk' }) :
  wpAny (model PySem.Challenge.rw_rg0146_01.row.prog w) (ktrTop dp un gd cn cs L a ccd cl outer) (call (.ref f) (.ref ck :: args)) Q E s :=
  C _ _ _ _ _ _ _ _ _ _ _ _ _ _ _ _ _ _ _ _ _ _ _ _ B F X (cb_drop N hs) T hk hd hu hc hn ret
theorem mod_ok (n : Int) (mm : Int) (h : 0 < mm) : 0 ≤ n % mm ∧ n % mm < mm := ⟨Int.emod_nonneg _ (by omega), Int.emod_lt_of_pos _ h⟩
local macro_rules | `(tactic| k_room) => `(tactic| ktr_room)
local macro_rules | `(tactic| k_all) => `(tactic| first | assumption | exact allLt_ne (by assumption))
local macro_rules | `(tactic| walk_at "compareOp NotEq ref ref") => `(tactic| (k_here; (with_reducible show wpAny _ _ (compareOp CmpOp.NotEq (Value.ref _) (Value.ref _)) _ _ _); (with_unfolding_all refine' ne_intsK ?k1 ?k2 ?k3 ?k4 ?k5 ?_; (case k1 => is_list); (case k2 => first | exact .nil | exact .cons _ _ (by assumption)); (case k3 => is_list); (case k4 => exact .nil); (case k5 => ktr_units); k_whole)))
theorem pop_at0 {n : Int} {t : Tok} {vs : List Value} : seqIndex? 0 (Value.int n t :: vs).toArray.size = some 0 := by
  have h := StrLaws.seqIndex_nonneg (i := 0) (n := (Value.int n t :: vs).toArray.size) (by omega) (by simp)
  simpa using h
theorem pop_fits {n : Int} {t : Tok} {vs : List Value} {ns : List Int} (h : IntsAre vs ns) (hl : (n :: ns).length ≤ 1000) : (Value.int n t :: vs).toArray.toList.length ≤ sizeLine := by
  rw [PySem.sizeLine_eq]
  have := h.length
  simp at hl ⊢
  omega
local macro_rules | `(tactic| walk_at "call builtin:list.pop") => `(tactic| (k_here; k_dflt (refine' kl_popAt (p := []) ?F ?N ?f pop_at0 ?e ?U ?z ?_; (case F => k_asm); (case N => k_asm); (case e => rfl); (case U => k_upd); (case f => rfl); (case z => exact pop_fits (by assumption) (by assumption))); kl_rest))
theorem tick_c (w : World) (mm : Int) (u : Tok) (h0 : 0 < mm) (h1 : mm ≤ 100) : DrawC w 327 12 [.int mm u] (fun r own => own = [] ∧ ∃ n tk, r = .int n tk ∧ 0 ≤ n ∧ n < mm) := by
  unfold DrawC
  k_with_none
  k_fill
  intro mean mg mb dp un gd cn cs a ccd cl outer A₀ base h₀ L m ck vs k news s Q E B F X N T hk hd hu hc hn hret
  obtain ⟨ns, hI, hb, hl⟩ := hc
  cases hI with
  | nil =>
    refine wpAny_call ?_
    k_dflt ktr_enter
    k_steps
    (rename News h₀ _ _ _ => lN')
    exact hret _ [] _ [] _ _ ⟨[], .nil, by simp, by simp⟩ ⟨rfl, 0, _, rfl, by omega, by omega⟩ (by k_asm) (cb_drop lN' (fun q hq => .tail _ hq))
  | cons n t hr =>
    refine wpAny_call ?_
    k_dflt ktr_enter
    k_steps
    · (rename decide _ = true => hD9)
      simp at hD9
    · (rename News h₀ _ _ _ => lN')
      exact hret _ _ _ [] _ _ ⟨_, hr, fun z hz => hb z (.tail _ hz), by simp at hl; omega⟩ ⟨rfl, _, _, rfl, Int.fmod_nonneg_of_pos _ h0, Int.fmod_lt_of_pos _ h0⟩ (by k_asm) (cb_drop lN' (fun q hq => .tail _ hq))
/-- the drawn gaps -/
abbrev gapsL : List Str := [Str.ofString "", Str.ofString " ", Str.ofString "  ", Str.ofString "\t", Str.ofString " \t "]
def menuV (ws : List Str) (ts : List Tok) : List Value := List.zipWith (fun y t => Value.str y t) ws ts
theorem strs5 {a b c d e : Str} {t1 t2 t3 t4 t5 : Tok} : StrsAre [.str a t1, .str b t2, .str c t3, .str d t4, .str e t5] [a, b, c, d, e] := .cons _ _ (.cons _ _ (.cons _ _ (.cons _ _ (.cons _ _ .nil))))
theorem getD_mem {ws : List Str} {i : Int} (h : i.toNat < ws.length) : ws.getD i.toNat Str.empty ∈ ws := by
  rw [List.getD_eq_getElem?_getD, List.getElem?_eq_getElem h]
  exact List.getElem_mem h
end Mine
namespace Mine
theorem fresh_W1 : True := by
  first | row_walk | exact True.intro
local macro_rules | `(tactic| k_room) => `(tactic| ktr_room)
local macro_rules | `(tactic| k_all) => `(tactic| first | assumption | exact allLt_ne (by assumption))

theorem mem_0 {α : Type} {a : α} {r : List α} : ∀ q ∈ a :: r, q ∈ a :: r := fun _ h => h
theorem mem_1 {α : Type} {a b : α} {r : List α} : ∀ q ∈ a :: b :: r, q ∈ b :: a :: r := by intro q h; simp only [List.mem_cons] at h ⊢; rcases h with h | h | h <;> simp [h]
theorem mem_2 {α : Type} {a b c : α} {r : List α} : ∀ q ∈ a :: b :: c :: r, q ∈ b :: c :: a :: r := by intro q h; simp only [List.mem_cons] at h ⊢; rcases h with h | h | h | h <;> simp [h]
theorem ne_cons {ck : Addr} {p : Addr × Obj} {r : List (Addr × Obj)} (h : p.1 ≠ ck) (hr : ∀ q ∈ r, q.1 ≠ ck) : ∀ q ∈ p :: r, q.1 ≠ ck := List.forall_mem_cons.mpr ⟨h, hr⟩
theorem lt_ne {a b : Addr} (h : @LT.lt Nat _ a b) : b ≠ a := fun e => Nat.lt_irrefl _ (e ▸ h)
local macro_rules | `(tactic| walk_at "call ref") => `(tactic| (k_here; (with_reducible show wpAny _ _ (call (Value.ref 327) [Value.ref _, Value.int _ _]) _ _ _); k_dflt (refine' useD (tick_c _ _ _ (by decide) (by decide)) _ ?k1 ?k2 ?k3 ?k4 ?k4s ?k5 ?kK ?kd ?ku ?kC ?kN ?_; (case k1 => k_asm); (case k2 => k_asm); (case k3 => k_asm); (case k4 => k_asm); (case k4s => first | exact mem_0 | exact mem_1 | exact mem_2); (case k5 => k_asm); (case kK => first | exact rfl | assumption); (case kd => ktr_room); (case ku => ktr_units); (case kC => assumption); (case kN => repeat (first | assumption | (refine ne_cons (lt_ne ?_) ?_; omega))); intro r9 vs9 k9 own9 h9 tk9 hC9 e9 F9 N9; obtain ⟨e8, n9, t9, e9, hn90, hn91⟩ := e9; subst e8; subst e9; (try simp only [List.nil_append] at N9); (try dsimp only))))

theorem sub_1 {α : Type} {a b : α} {r : List α} : ∀ q ∈ a :: r, q ∈ a :: b :: r := by intro q h; simp only [List.mem_cons] at h ⊢; rcases h with h | h <;> simp [h]
theorem sub_t {α : Type} {a b : α} {r : List α} : ∀ q ∈ b :: a :: r, q ∈ b :: a :: r := fun _ h => h

theorem gap_c (w : World) : DrawC w 334 16 [] (fun r own => own = [] ∧ ∃ y tk, r = .str y tk ∧ y ∈ gapsL) := by
  unfold DrawC
  k_with_none
  k_fill
  intro mean mg mb dp un gd cn cs a ccd cl outer A₀ base h₀ L m ck vs k news s Q E B F X N T hk hd hu hc hn hret
  refine wpAny_call ?_
  k_dflt ktr_enter
  k_with "table" => skip
  k_steps
  (rename News h₀ _ _ _ => lN')
  exact hret _ _ _ [] _ _ (by assumption) ⟨rfl, _, _, rfl, getD_mem (by assumption)⟩ (by k_asm) (cb_drop lN' sub_1)
abbrev magsL : List Str := [Str.ofString "1", Str.ofString "10", Str.ofString "100", Str.ofString "1", Str.ofString "10", Str.ofString "2", Str.ofString "1000", Str.ofString "", Str.ofString "01", Str.ofString "x"]
abbrev unitsL : List Str := [Str.ofString "s", Str.ofString "ms", Str.ofString "us", Str.ofString "ns", Str.ofString "ps", Str.ofString "fs", Str.ofString "ns", Str.ofString "ps", Str.ofString "as", Str.ofString "nss", Str.ofString "ns_", Str.ofString "N", Str.ofString ""]
local macro_rules | `(tactic| walk_at "call ref") => `(tactic| (k_here; (with_reducible show wpAny _ _ (call (Value.ref 334) [Value.ref _]) _ _ _); k_dflt (refine' useD (gap_c _) _ ?k1 ?k2 ?k3 ?k4 ?k4s ?k5 ?kK ?kd ?ku ?kC ?kN ?_; (case k1 => k_asm); (case k2 => k_asm); (case k3 => k_asm); (case k4 => k_asm); (case k4s => first | exact mem_0 | exact mem_1 | exact mem_2); (case k5 => k_asm); (case kK => first | exact rfl | assumption); (case kd => ktr_room); (case ku => ktr_units); (case kC => assumption); (case kN => repeat (first | assumption | (refine ne_cons (lt_ne ?_) ?_; omega))); intro r9 vs9 k9 own9 h9 tk9 hC9 e9 F9 N9; obtain ⟨e8, n9, t9, e9, hy9⟩ := e9; subst e8; subst e9; (try simp only [List.nil_append] at N9); (try dsimp only))))
theorem getD_len {ws : List Str} {i : Nat} (h : ∀ y ∈ ws, y.length ≤ 20) : (ws.getD i Str.empty).length ≤ 20 := by
  rw [List.getD_eq_getElem?_getD]
  cases hi : ws[i]? with
  | none => exact Nat.zero_le _
  | some y => exact h y (List.mem_of_getElem? hi)
theorem mag_len : ∀ y ∈ magsL, y.length ≤ 20 := by decide +kernel
theorem unit_len : ∀ y ∈ unitsL, y.length ≤ 20 := by decide +kernel
theorem gap_len : ∀ y ∈ gapsL, y.length ≤ 20 := by decide +kernel
theorem sz2 {x y : Str} {a b : Nat} (hx : x.length ≤ a) (hy : y.length ≤ b) (h : a + b ≤ 16777216 := by omega) : x.length + y.length ≤ sizeLine := by
  rw [PySem.sizeLine_eq]
  omega
local macro_rules | `(tactic| walk_at "binaryOp Add str str") => `(tactic| (refine SBL.add (hsz := ?hsz) ?_; (case hsz => first | exact sz2 (getD_len mag_len) (gap_len _ (by assumption)) | (exact sz2 (a := 40) (Nat.le_trans (And.right (by assumption)) (Nat.add_le_add (getD_len mag_len) (gap_len _ (by assumption)))) (getD_len unit_len))); intro _ _ _))
/-- what a drawn time is -/
def TimeY (y : Str) (b : Bool) : Prop := ∃ (f s : Nat) (g : Str), f < 10 ∧ s < 13 ∧ g ∈ gapsL ∧ y = magsL.getD f Str.empty ++ g ++ unitsL.getD s Str.empty ∧ b = (decide (f < 5) && decide (s < 8))
def TimeR (r : Value) (own : List (Addr × Obj)) : Prop := ∃ tp y ty b, r = .ref tp ∧ own = [(tp, ({ cls := .type "tuple", data := .seq #[.str y ty, .bool b] } : Obj))] ∧ TimeY y b
theorem time_y {n k : Int} {g : Str} {b : Bool} (h1 : 0 ≤ n) (h2 : n < 10) (h3 : 0 ≤ k) (h4 : k < 13) (hg : g ∈ gapsL) (hb : b = (decide (n < 5) && decide (k < 8))) : TimeY (magsL.getD n.toNat Str.empty ++ g ++ unitsL.getD k.toNat Str.empty) b :=
  ⟨n.toNat, k.toNat, g, by omega, by omega, hg, rfl, by
    rw [hb]
    congr 1
    · rw [decide_eq_decide]; omega
    · rw [decide_eq_decide]; omega⟩
theorem sub_time {α : Type} {d c u m : α} {r : List α} : ∀ q ∈ [d] ++ c :: r, q ∈ d :: c :: u :: m :: r := by
  intro q h
  simp only [List.cons_append, List.nil_append, List.mem_cons] at h ⊢
  rcases h with h | h | h <;> simp [h]
theorem time_c (w : World) : DrawC w 341 20 [] TimeR := by
  unfold DrawC
  k_with_none
  k_fill
  intro mean mg mb dp un gd cn cs a ccd cl outer A₀ base h₀ L m ck vs k news s Q E B F X N T hk hd hu hc hn hret
  refine wpAny_call ?_
  k_dflt ktr_enter
  k_with "table" => skip
  k_steps
  · (rename News h₀ _ _ _ => lN')
    exact hret _ _ _ [(_, _)] _ _ (by assumption) ⟨_, _, _, _, rfl, rfl, time_y (by assumption) (by assumption) (by assumption) (by assumption) (by assumption) (by simp only [*]; simp)⟩ (by k_asm) (cb_drop lN' sub_time)
  · (rename News h₀ _ _ _ => lN')
    exact hret _ _ _ [(_, _)] _ _ (by assumption) ⟨_, _, _, _, rfl, rfl, time_y (by assumption) (by assumption) (by assumption) (by assumption) (by assumption) (by simp only [*]; simp)⟩ (by k_asm) (cb_drop lN' sub_time)
end Mine
namespace Mine
theorem fresh_W2 : True := by
  first | row_walk | exact True.intro
local macro_rules | `(tactic| k_room) => `(tactic| ktr_room)
local macro_rules | `(tactic| k_all) => `(tactic| first | assumption | exact allLt_ne (by assumption))

theorem mem_snoc {l : List Int} {x : Int} (h : ∀ v ∈ l, 0 ≤ v ∧ v < 59) (hx : 0 ≤ x ∧ x < 59) : ∀ v ∈ l ++ [x], 0 ≤ v ∧ v < 59 := by
  intro v hv
  rcases List.mem_append.mp hv with hv | hv
  · exact h v hv
  · rw [List.mem_singleton.mp hv]; exact hx
theorem m59 (x : Int) : 0 ≤ x.fmod 59 ∧ x.fmod 59 < 59 := ⟨Int.fmod_nonneg_of_pos _ (by omega), Int.fmod_lt_of_pos _ (by omega)⟩
theorem st_in {left k : Int} {clock pre : List Int} {P : Nat} (h0 : 0 ≤ left) (h1 : clock.length ≤ 8 * P + pre.length) (h2 : ∀ v ∈ clock, 0 ≤ v ∧ v < 59) : 0 ≤ left.fdiv 59 ∧ (clock ++ [left.fmod 59]).length ≤ 8 * P + (pre ++ [k]).length ∧ ∀ v ∈ clock ++ [left.fmod 59], 0 ≤ v ∧ v < 59 :=
  ⟨Int.fdiv_nonneg h0 (by omega), by simp only [List.length_append, List.length_cons, List.length_nil]; omega, mem_snoc h2 (m59 left)⟩
theorem st_out {left k : Int} {clock pre P : List Int} (h1 : clock.length ≤ 8 * P.length + pre.length) (h3 : pre.length < 8) (h2 : ∀ v ∈ clock, 0 ≤ v ∧ v < 59) : (clock ++ [left.fmod 59]).length ≤ 8 * (P ++ [k]).length ∧ ∀ v ∈ clock ++ [left.fmod 59], 0 ≤ v ∧ v < 59 :=
  ⟨by simp only [List.length_append, List.length_cons, List.length_nil]; omega, mem_snoc h2 (m59 left)⟩
theorem st_done {k : Int} {clock P : List Int} (h1 : clock.length ≤ 8 * P.length + (rangeKs 0 8).length) (h2 : ∀ v ∈ clock, 0 ≤ v ∧ v < 59) : clock.length ≤ 8 * (P ++ [k]).length ∧ ∀ v ∈ clock, 0 ≤ v ∧ v < 59 := by
  have e : (rangeKs 0 8).length = 8 := by decide
  refine ⟨?_, h2⟩
  simp only [List.length_append, List.length_cons, List.length_nil]
  omega
theorem take_clock {l : List Int} {ws : List Value} (h : ∀ v ∈ l, 0 ≤ v ∧ v < 59) (hi : IntsAre ws (l.take 40)) : Clock ws := ⟨_, hi, fun z hz => h z (List.mem_of_mem_take hz), by rw [List.length_take]; omega⟩
theorem sub_h {α : Type} {a : α} {r : List α} : ∀ q ∈ [a], q ∈ a :: r := fun q hq => List.mem_singleton.mp hq ▸ .head _
theorem ifexp_join {M : Model} {A : Around} {t : Sem Value} {Q E : Value → Shared → Prop} {s : Shared} (h : wpAny M A t (fun v s' => ∃ z tk k, v = Value.int z tk ∧ 0 ≤ z ∧ s' = { s with toks := k }) E s)
  (k : ∀ z tk k, 0 ≤ z → Q (.int z tk) { s with toks := k }) : wpAny M A t Q E s := wpAny_mono h (fun v s' => by rintro ⟨z, tk, k', rfl, hz, rfl⟩; exact k z tk k' hz) (fun _ _ e => e)
local macro_rules | `(tactic| walk_at "InvEndN") => `(tactic| k_dflt kst_close)
local macro_rules | `(tactic| walk_at "eval IfExp") => `(tactic| refine Stop.mk ?_)
theorem ticks_c (w : World) (sc : Addr) (svs : List Value) (sns : List Int) (hsi : IntsAre svs sns) (hsl : sns.length ≤ 63) :
  ∀ (mean : ExcName → Option Value) (mg mb : Str → Option Value) (dp un : Nat) (gd : Option (List Code)) (cn : Str) (cs : Scope) (a : Addr) (ccd : Value) (cl : List (Str × Addr)) (outer : List Env) (A₀ : Around) (base h₀ : Heap) (L : Addr) (m : Str → Option Value) (s : Shared) (Q E : Value → Shared → Prop),
    Below A₀ base outer h₀ → Fr h₀ L s.heap m → (kx.heap_1 w.params).In h₀ → News h₀ L s.heap [] → Top vw (looseW vw [PySem.Str.ofString "GateloomError", PySem.Str.ofString "substitute"]) mean mg mb h₀ → cs.kind = .function → dp + 20 < recursionLimit → un + 160 < cLine →
    h₀.IsList sc svs.toArray →
    (∀ ck vs k h' tk', Clock vs → Fr h₀ L h' m → News h₀ L h' [(ck, W.listOf vs.toArray k)] → Q (.ref ck) { s with heap := h', toks := tk' }) →
    wpAny (model PySem.Challenge.rw_rg0146_01.row.prog w) (ktrTop dp un gd cn cs L a ccd cl outer) (call (.ref 320) [.ref sc]) Q E s := by
  k_with_none
  k_fill
  intro mean mg mb dp un gd cn cs a ccd cl outer A₀ base h₀ L m s Q E B F X N T hk hd hu hsc hret
  refine wpAny_call ?_
  k_dflt ktr_enter
  (rename Fr h₀ L _ _ => lFG)
  have hsc2 := Fr.lst lFG hsc
  clear hsc
  k_with "pyIter ref" => (k_of "one" => k_state (fun pre clock => clock.length ≤ 8 * pre.length ∧ ∀ v ∈ clock, 0 ≤ v ∧ v < 59) "clock")
  k_with "pyIter ref" => (k_of "hop" => k_state_short (fun pre left clock => 0 ≤ left ∧ clock.length ≤ 8 * kPre.length + pre.length ∧ ∀ v ∈ clock, 0 ≤ v ∧ v < 59) "left" "clock")
  k_with "state" => first | exact st_in (by assumption) (by assumption) (by assumption) | exact st_out (by assumption) (by assumption) (by assumption) | exact st_done (by assumption) (by assumption)
  k_steps
  · unfold Stop
    refine ifexp_join ?_ ?_
    · refine wpAny_IfExp ?_
      k_steps
    · intro z9 tk9 k9 hz9
      (try dsimp only)
      k_steps
  · (rename News h₀ _ _ _ => lN')
    (rename IntsAre _ (List.take 40 _) => lI')
    exact hret _ _ _ _ _ (take_clock (by assumption) lI') (by k_asm) (cb_drop lN' sub_h)
end Mine
namespace Mine
theorem fresh_W4 : True := by
  first | row_walk | exact True.intro
local macro_rules | `(tactic| k_room) => `(tactic| ktr_room)
local macro_rules | `(tactic| k_all) => `(tactic| first | assumption | exact allLt_ne (by assumption))

theorem mem_new {α : Type} {c1 c2 c3 c4 c5 m t u x d : α} : ∀ q ∈ [x, d, t, u, m], q ∈ [c1, c2, c3, c4, c5, m, t, u, x, d] := by
  intro q h
  simp only [List.mem_cons, List.not_mem_nil, or_false] at h ⊢
  rcases h with h | h | h | h | h <;> simp [h]
theorem new_c (w : World) :
  ∀ (mean : ExcName → Option Value) (mg mb : Str → Option Value) (dp un : Nat) (gd : Option (List Code)) (cn : Str) (cs : Scope) (a : Addr) (ccd : Value) (cl : List (Str × Addr)) (outer : List Env) (A₀ : Around) (base h₀ : Heap) (L : Addr) (m : Str → Option Value) (s : Shared) (Q E : Value → Shared → Prop),
    Below A₀ base outer h₀ → Fr h₀ L s.heap m → (kx.heap_1 w.params).In h₀ → News h₀ L s.heap [] → Top vw (looseW vw [PySem.Str.ofString "GateloomError", PySem.Str.ofString "substitute"]) mean mg mb h₀ → cs.kind = .function → dp + 20 < recursionLimit → un + 160 < cLine →
    (∀ mx dx tb td mc om p v2 v3 v4 v5 v6 h' tk', Apart mx dx tb td mc → (mc == sysModules) = false → Obj.IsDictOf (PySem.strKind PySem.Challenge.rw_rg0146_01.row.prog w) om [] → Fr h₀ L h' m → News h₀ L h' (MLed mx dx tb td mc om p v2 v3 v4 v5 v6) → Q (.ref mx) { s with heap := h', toks := tk' }) →
    wpAny (model PySem.Challenge.rw_rg0146_01.row.prog w) (ktrTop dp un gd cn cs L a ccd cl outer) (call (.ref 309) []) Q E s := by
  k_with_none
  k_fill
  intro mean mg mb dp un gd cn cs a ccd cl outer A₀ base h₀ L m s Q E B F X N T hk hd hu hret
  k_dflt (refine' call_cls ?k1 ?k2 ?k3 ?k4 ?k5 ?k6 ?_; (case k1 => k_asm); (case k2 => k_asm); (case k3 => k_asm); (case k4 => k_is); (case k5 => k_is); (case k6 => k_is); k_whole; intro x' d' h' F' N' l1 l2; (try k_lt l1); (try k_lt2 l2); (try k_sweep))
  k_dflt ((refine' code_def ?k1 ?k2 ?k3 ?k4 ?k5 ?kA ?kF ?kK ?k6 ?k7 ?k8 ?k9 ?kB ?_ ?c2 ?c3 ?c4 ?c5; (case kA => exact rfl); (case kF => exact rfl); (case kK => assumption); (case k1 => k_asm); (case k2 => k_asm); (case k3 => k_asm); (case k4 => k_asm); (case k5 => k_asm); (case k6 => k_is); (case k7 => k_is); (case k8 => ktr_room); (case k9 => exact binds_K (by k_in) rfl (by k_is) rfl rfl rfl); (case c5 => decide); (case kB => exact locs rfl); (case c2 => exact rfl); (case c3 => exact rfl); (case c4 => exact rfl); k_whole; intro g' L' h' FG' F' N' B' X' T'; (try dsimp only); (try k_fold)))
  k_steps
  (rename News h₀ _ _ _ => lN')
  exact hret x' d' _ _ _ _ ⟨_, _, _, _, _, _, _, _, _, _, _, _, _, _, _, _, _, _, _, _, _, _, _⟩ _ _ _ _ _ _ _ (by unfold Apart; omega) (by assumption) (by assumption) (by k_asm) (cb_drop lN' mem_new)
end Mine
namespace Mine
theorem fresh_PA : True := by
  first | row_walk | exact True.intro
def NoBt (l : List Nat) : Prop := ∀ c ∈ l, c ≠ 96
/-- a remark within l ends within l, or l is the last -/
def Rowed (l r : List Nat) : Prop := ∀ i, (l.drop i).take 2 = [47, 47] → 10 ∈ l.drop i ∨ r = []
theorem tw_stop {p : Nat → Bool} {l r : List Nat} (h : r = [] ∨ ∃ c r', r = c :: r' ∧ p c = false) : (l ++ r).takeWhile p = l.takeWhile p := by
  induction l with
  | nil =>
    rcases h with rfl | ⟨c, r', rfl, hc⟩
    · rfl
    · show (c :: r').takeWhile p = []
      rw [List.takeWhile_cons, hc]; rfl
  | cons a t ih =>
    show (a :: (t ++ r)).takeWhile p = (a :: t).takeWhile p
    rw [List.takeWhile_cons, List.takeWhile_cons, ih]
theorem tw_in {p : Nat → Bool} {l r : List Nat} (h : ∃ c ∈ l, p c = false) : (l ++ r).takeWhile p = l.takeWhile p := by
  induction l with
  | nil => obtain ⟨c, hc, _⟩ := h; cases hc
  | cons a t ih =>
    show (a :: (t ++ r)).takeWhile p = (a :: t).takeWhile p
    rw [List.takeWhile_cons, List.takeWhile_cons]
    by_cases ha : p a = true
    · rw [if_pos ha, if_pos ha, ih]
      obtain ⟨c, hc, hf⟩ := h
      rcases List.mem_cons.mp hc with rfl | hc
      · rw [ha] at hf; cases hf
      · exact ⟨c, hc, hf⟩
    · rw [if_neg ha, if_neg ha]
theorem tokLen_app {l r : List Nat} (hl : l ≠ []) (hr : r = [] ∨ ∃ r', r = 96 :: r') (hR : l.take 2 = [47, 47] → 10 ∈ l ∨ r = []) : tokLen (l ++ r) = tokLen l := by
  rcases hr with rfl | ⟨r', rfl⟩
  · rw [List.append_nil]
  have h1 : ncLen (l ++ 96 :: r') = ncLen l := by
    unfold ncLen
    rw [tw_stop (.inr ⟨96, r', rfl, by decide⟩)]
  have h2 : remLen (l ++ 96 :: r') = remLen l := by
    unfold remLen
    have e : ((l ++ 96 :: r').take 2 = [47, 47]) ↔ (l.take 2 = [47, 47]) := by
      match l, hl with
      | [a], _ => simp
      | a :: b :: t, _ => simp
    by_cases h : l.take 2 = [47, 47]
    · rw [if_pos (e.mpr h), if_pos h]
      unfold rowLen
      rcases hR h with h10 | h0
      · rw [tw_in ⟨10, h10, rfl⟩]
      · cases h0
    · rw [if_neg (fun c => h (e.mp c)), if_neg h]
  unfold tokLen wholeLen
  rw [h1, h2]
theorem emit_app (b : Bool) (x y : List Nat) : emitF b (x ++ y) = emitF b x ++ emitF b y := by
  unfold emitF
  split
  · rfl
  · rw [List.count_append, List.replicate_append_replicate]
theorem chunk {res : Res} {b : Bool} {C : Option Nat} {r : List Nat} (hr : r = [] ∨ ∃ r', r = 96 :: r') : ∀ (n : Nat) (l : List Nat) (j : Nat) (out : List Nat), l.length ≤ n → NoBt l → Rowed l r → Run res r (j + l.length) b C (out ++ emitF b l) → Run res (l ++ r) j b C out := by
  intro n
  induction n with
  | zero =>
    intro l j out hn _ _ h
    have : l = [] := List.length_eq_zero_iff.mp (by omega)
    subst this
    have e : emitF b [] = [] := by unfold emitF; split <;> rfl
    rw [e, List.append_nil] at h
    exact h
  | succ n ih =>
    intro l j out hn hb hR h
    cases l with
    | nil =>
      have e : emitF b [] = [] := by unfold emitF; split <;> rfl
      rw [e, List.append_nil] at h
      exact h
    | cons c t =>
      have hk : tokLen ((c :: t) ++ r) = tokLen (c :: t) := tokLen_app (by simp) hr (fun h => by simpa using hR 0 (by simpa using h))
      have h1 := tokLen_pos (c :: t)
      have h2 := tokLen_le (l := c :: t) (by simp)
      show Run res (c :: (t ++ r)) j b C out
      refine Run.tok (hb c (.head _)) ?_
      have e : c :: (t ++ r) = (c :: t) ++ r := rfl
      rw [e, hk, List.drop_append_of_le_length h2, List.take_append_of_le_length h2]
      refine ih _ _ _ (by rw [List.length_drop]; omega) (fun x hx => hb x (List.mem_of_mem_drop hx)) (fun i hi => ?_) ?_
      · rw [List.drop_drop] at hi ⊢
        exact hR _ hi
      · rw [List.length_drop, List.append_assoc, ← emit_app, List.take_append_drop, show j + tokLen (c :: t) + ((c :: t).length - tokLen (c :: t)) = j + (c :: t).length from by omega]
        exact h
theorem chunk' {res : Res} {b : Bool} {C : Option Nat} {r l : List Nat} {j : Nat} {out : List Nat} (hr : r = [] ∨ ∃ r', r = 96 :: r') (hb : NoBt l) (hR : Rowed l r) (h : Run res r (j + l.length) b C (out ++ emitF b l)) : Run res (l ++ r) j b C out := chunk hr _ l j out (Nat.le_refl _) hb hR h
theorem rowed_last {l r : List Nat} : Rowed (l ++ [10]) r := by
  intro i hi
  left
  by_cases h : i ≤ l.length
  · rw [List.drop_append_of_le_length h]; simp
  · rw [List.drop_eq_nil_of_le (by simp; omega)] at hi
    cases hi
theorem rowed_nil {l : List Nat} : Rowed l [] := fun _ _ => .inr rfl
/-- no two strokes one behind the other -/
def oneStroke : List Nat → Bool
  | a :: b :: t => !(a == 47 && b == 47) && oneStroke (b :: t)
  | _ => true
theorem rowed_one {r : List Nat} : ∀ {l : List Nat}, oneStroke l = true → Rowed l r
  | [], _, i, hi => by simp at hi
  | [a], _, i, hi => by
    cases i with
    | zero => simp at hi
    | succ i => simp at hi
  | a :: b :: t, h, i, hi => by
    unfold oneStroke at h
    rw [Bool.and_eq_true] at h
    cases i with
    | zero => simp at hi; simp [hi] at h
    | succ i =>
      have := rowed_one (r := r) (l := b :: t) h.2 i (by simpa using hi)
      simpa using this
/-! the operand -/
def unitF (l : List Nat) : Option Nat :=
  match wordF units (l.drop (blLen l)) with
  | none => none
  | some j => if badL (l.drop (blLen l + j)) then none else some (blLen l + j)
theorem time_unit (l : List Nat) : timeF l = match wordF mags (l.drop (blLen l)) with
  | none => none
  | some k => (unitF (l.drop (blLen l + k))).map (blLen l + k + ·) := by
  unfold timeF unitF
  cases wordF mags (l.drop (blLen l)) with
  | none => rfl
  | some k =>
    simp only [List.drop_drop]
    cases wordF units (l.drop (blLen l + k + blLen (l.drop (blLen l + k)))) with
    | none => rfl
    | some j =>
      simp only [← Nat.add_assoc]
      split
      · rfl
      · simp only [Option.map_some, Nat.add_assoc]
def Blank (b : List Nat) : Prop := ∀ c ∈ b, blC c = true
theorem bl_app {b l : List Nat} (h : Blank b) : blLen (b ++ l) = b.length + blLen l := by
  unfold blLen
  induction b with
  | nil => simp
  | cons a t ih =>
    show ((a :: (t ++ l)).takeWhile blC).length = _
    rw [List.takeWhile_cons, if_pos (h a (.head _)), List.length_cons, ih (fun c hc => h c (.tail _ hc)), List.length_cons]
    omega
theorem drop_app (b l : List Nat) (k : Nat) : (b ++ l).drop (b.length + k) = l.drop k := by
  rw [← List.drop_drop, List.drop_left]
theorem unit_bl {b l : List Nat} (h : Blank b) : unitF (b ++ l) = (unitF l).map (b.length + ·) := by
  unfold unitF
  rw [bl_app h, drop_app]
  cases wordF units (l.drop (blLen l)) with
  | none => rfl
  | some j =>
    simp only [Nat.add_assoc, drop_app]
    split <;> rfl
theorem time_bl {b l : List Nat} (h : Blank b) : timeF (b ++ l) = (timeF l).map (b.length + ·) := by
  rw [time_unit, time_unit, bl_app h, drop_app]
  cases wordF mags (l.drop (blLen l)) with
  | none => rfl
  | some k =>
    simp only [Nat.add_assoc, drop_app]
    cases unitF (l.drop (blLen l + k)) with
    | none => rfl
    | some j => rfl
theorem badL_cons (c : Nat) (t : List Nat) : badL (c :: t) = badL [c] := rfl
end Mine
namespace Mine
theorem fresh_PB : True := by
  first | row_walk | exact True.intro
/-- what stands behind a time: no time goes on in it -/
structure Tail (t : List Nat) : Prop where
  bad : badL t = false
  time : timeF t = none
  unit : unitF t = none
  zero : ∀ r, t ≠ 48 :: r
def magN : List (List Nat) := [[49], [49, 48], [49, 48, 48], [49], [49, 48], [50], [49, 48, 48, 48], [], [48, 49], [120]]
def unitN : List (List Nat) := [[115], [109, 115], [117, 115], [110, 115], [112, 115], [102, 115], [110, 115], [112, 115], [97, 115], [110, 115, 115], [110, 115, 95], [78], []]
theorem mag_tx : ∀ f, f < 10 → tx (magsL.getD f Str.empty) = magN.getD f [] := by decide +kernel
theorem unit_tx : ∀ f, f < 13 → tx (unitsL.getD f Str.empty) = unitN.getD f [] := by decide +kernel
theorem gap_bl : ∀ g ∈ gapsL, ∀ c ∈ tx g, blC c = true := by decide +kernel
theorem tx100 : tx (Str.ofString "100") = [49, 48, 48] := by decide +kernel
theorem tx10 : tx (Str.ofString "10") = [49, 48] := by decide +kernel
theorem tx1 : tx (Str.ofString "1") = [49] := by decide +kernel
theorem len100 : (Str.ofString "100").length = 3 := by decide +kernel
theorem len10 : (Str.ofString "10").length = 2 := by decide +kernel
theorem len1 : (Str.ofString "1").length = 1 := by decide +kernel
theorem mags_v (l : List Nat) : wordF mags l = if l.take 3 = [49, 48, 48] then some 3 else if l.take 2 = [49, 48] then some 2 else if l.take 1 = [49] then some 1 else none := by
  simp only [mags, wordF, tx100, tx10, tx1, len100, len10, len1]
theorem txs : tx (Str.ofString "s") = [115] := by decide +kernel
theorem txms : tx (Str.ofString "ms") = [109, 115] := by decide +kernel
theorem txus : tx (Str.ofString "us") = [117, 115] := by decide +kernel
theorem txns : tx (Str.ofString "ns") = [110, 115] := by decide +kernel
theorem txps : tx (Str.ofString "ps") = [112, 115] := by decide +kernel
theorem txfs : tx (Str.ofString "fs") = [102, 115] := by decide +kernel
theorem lens : (Str.ofString "s").length = 1 := by decide +kernel
theorem lenms : (Str.ofString "ms").length = 2 := by decide +kernel
theorem lenus : (Str.ofString "us").length = 2 := by decide +kernel
theorem lenns : (Str.ofString "ns").length = 2 := by decide +kernel
theorem lenps : (Str.ofString "ps").length = 2 := by decide +kernel
theorem lenfs : (Str.ofString "fs").length = 2 := by decide +kernel
theorem units_v (l : List Nat) : wordF units l = if l.take 1 = [115] then some 1 else if l.take 2 = [109, 115] then some 2 else if l.take 2 = [117, 115] then some 2 else if l.take 2 = [110, 115] then some 2 else if l.take 2 = [112, 115] then some 2 else if l.take 2 = [102, 115] then some 2 else none := by
  simp only [units, wordF, txs, txms, txus, txns, txps, txfs, lens, lenms, lenus, lenns, lenps, lenfs]
theorem bl0 {c : Nat} {t : List Nat} (h : blC c = false) : blLen (c :: t) = 0 := by
  unfold blLen
  rw [List.takeWhile_cons, if_neg (by rw [h]; decide)]
  rfl
theorem bad_s : badL [115] = true := by decide +kernel
theorem bad_u : badL [95] = true := by decide +kernel
/-- a unit's value where a tail stands behind -/
theorem unit_val {t : List Nat} (ht : Tail t) : ∀ f, f < 13 → unitF (unitN.getD f [] ++ t) = if f < 8 then some (unitN.getD f []).length else none := by
  intro f hf
  have hb := ht.bad
  have hu := ht.unit
  have hs : badL (115 :: t) = true := (badL_cons 115 t).trans bad_s
  have hw : badL (95 :: t) = true := (badL_cons 95 t).trans bad_u
  have : f = 0 ∨ f = 1 ∨ f = 2 ∨ f = 3 ∨ f = 4 ∨ f = 5 ∨ f = 6 ∨ f = 7 ∨ f = 8 ∨ f = 9 ∨ f = 10 ∨ f = 11 ∨ f = 12 := by omega
  rcases this with rfl | rfl | rfl | rfl | rfl | rfl | rfl | rfl | rfl | rfl | rfl | rfl | rfl
  all_goals first
    | (simp [unitN, hu]; done)
    | (simp [unitN, unitF, units_v, bl0 (show blC 115 = false from rfl), bl0 (show blC 109 = false from rfl), bl0 (show blC 117 = false from rfl), bl0 (show blC 110 = false from rfl), bl0 (show blC 112 = false from rfl), bl0 (show blC 102 = false from rfl), bl0 (show blC 97 = false from rfl), bl0 (show blC 78 = false from rfl), hb, hs, hw]; done)
theorem tailU {t : List Nat} (ht : Tail t) {f : Nat} (hf : f < 13) {g : List Nat} (hg : Blank g) : (∀ r, g ++ (unitN.getD f [] ++ t) ≠ 48 :: r) := by
  intro r h
  cases g with
  | cons a g' =>
    have := hg a (.head _)
    have e : a = 48 := by have := congrArg List.head? h; simpa using this
    rw [e] at this
    cases this
  | nil =>
    have h0 := ht.zero
    have : f = 0 ∨ f = 1 ∨ f = 2 ∨ f = 3 ∨ f = 4 ∨ f = 5 ∨ f = 6 ∨ f = 7 ∨ f = 8 ∨ f = 9 ∨ f = 10 ∨ f = 11 ∨ f = 12 := by omega
    rcases this with rfl | rfl | rfl | rfl | rfl | rfl | rfl | rfl | rfl | rfl | rfl | rfl | rfl
    all_goals first
      | (simp [unitN] at h; done)
      | exact h0 r (by simpa [unitN] using h)
theorem take_z {x : List Nat} (h : ∀ r, x ≠ 48 :: r) (k : Nat) (r : List Nat) : x.take (k + 1) ≠ 48 :: r := by
  cases x with
  | nil => simp
  | cons a t =>
    intro e
    have : a = 48 := by have := congrArg List.head? e; simpa using this
    exact h t (by rw [this])
theorem mag_val {x : List Nat} (hx : ∀ r, x ≠ 48 :: r) {u : Option Nat} (hu : unitF x = u) (hm : timeF x = none) : ∀ f, f < 10 → timeF (magN.getD f [] ++ x) = if f < 5 then u.map ((magN.getD f []).length + ·) else none := by
  intro f hf
  have z1 : ∀ r, x.take 1 ≠ 48 :: r := take_z hx 0
  have z2 : ∀ r, x.take 2 ≠ 48 :: r := take_z hx 1
  have hb : ∀ {c : Nat} {t : List Nat}, blC c = false → blLen (c :: t) = 0 := fun h => bl0 h
  have u48 : ∀ t, unitF (48 :: t) = none := fun t => by
    unfold unitF
    rw [bl0 (show blC 48 = false from rfl), units_v]
    simp
  have : f = 0 ∨ f = 1 ∨ f = 2 ∨ f = 3 ∨ f = 4 ∨ f = 5 ∨ f = 6 ∨ f = 7 ∨ f = 8 ∨ f = 9 := by omega
  rcases this with rfl | rfl | rfl | rfl | rfl | rfl | rfl | rfl | rfl | rfl
  all_goals first
    | (simp [magN, hm]; done)
    | (rw [time_unit]; simp [magN, mags_v, bl0 (show blC 49 = false from rfl), bl0 (show blC 50 = false from rfl), bl0 (show blC 48 = false from rfl), bl0 (show blC 120 = false from rfl), z1, z2, hu, u48]; done)
/-- a drawn time's value -/
theorem time_val {y : Str} {b : Bool} (h : TimeY y b) {t : List Nat} (ht : Tail t) {g : List Nat} (hg : Blank g) : timeF (g ++ (tx y ++ t)) = if b then some (g.length + (tx y).length) else none := by
  obtain ⟨f, s, q, hf, hs, hq, rfl, rfl⟩ := h
  have hqb : Blank (tx q) := gap_bl q hq
  rw [time_bl hg, tx_cat, tx_cat, mag_tx f hf, unit_tx s hs, List.append_assoc, List.append_assoc]
  have hu : unitF (tx q ++ (unitN.getD s [] ++ t)) = if s < 8 then some ((tx q).length + (unitN.getD s []).length) else none := by
    rw [unit_bl hqb, unit_val ht s hs]
    split <;> rfl
  have hm : timeF (tx q ++ (unitN.getD s [] ++ t)) = none := by
    rw [time_bl hqb]
    have : timeF (unitN.getD s [] ++ t) = none := by
      by_cases h12 : s = 12
      · subst h12; simpa [unitN] using ht.time
      · rw [time_unit]
        have : s = 0 ∨ s = 1 ∨ s = 2 ∨ s = 3 ∨ s = 4 ∨ s = 5 ∨ s = 6 ∨ s = 7 ∨ s = 8 ∨ s = 9 ∨ s = 10 ∨ s = 11 := by omega
        rcases this with rfl | rfl | rfl | rfl | rfl | rfl | rfl | rfl | rfl | rfl | rfl | rfl
        all_goals simp [unitN, mags_v, bl0 (show blC 115 = false from rfl), bl0 (show blC 109 = false from rfl), bl0 (show blC 117 = false from rfl), bl0 (show blC 110 = false from rfl), bl0 (show blC 112 = false from rfl), bl0 (show blC 102 = false from rfl), bl0 (show blC 97 = false from rfl), bl0 (show blC 78 = false from rfl)]
    rw [this]; rfl
  rw [mag_val (tailU ht hs hqb) hu hm f hf]
  by_cases h1 : f < 5 <;> by_cases h2 : s < 8 <;> simp [h1, h2]
end Mine
namespace Mine
theorem fresh_PC : True := by
  first | row_walk | exact True.intro
abbrev aheadL : List Str := [Str.ofString "", Str.ofString "module m; ", Str.ofString "\n", Str.ofString "a b\n\tc ", Str.ofString "1ns/1ps "]
abbrev lgL : List Str := [Str.ofString " ", Str.ofString "\t", Str.ofString "   "]
abbrev behL : List Str := [Str.ofString "", Str.ofString " wire x;", Str.ofString "\twire y; // 1ns", Str.ofString "; z", Str.ofString "/ 2", Str.ofString " 1qs"]
abbrev endL : List Str := [Str.ofString "\n", Str.ofString "", Str.ofString "\nendmodule\n"]
def aft : List Nat → Option (List Nat)
  | [] => none
  | c :: t => if c = 47 then some t else aft t
def NoS (l : List Nat) : Prop := ∀ c ∈ l, c ≠ 47
theorem noS_app {a b : List Nat} (h1 : NoS a) (h2 : NoS b) : NoS (a ++ b) := fun c hc => (List.mem_append.mp hc).elim (h1 c) (h2 c)
theorem aft_app {p r : List Nat} (h : NoS p) : aft (p ++ r) = aft r := by
  induction p with
  | nil => rfl
  | cons a t ih =>
    show (if a = 47 then _ else aft (t ++ r)) = _
    rw [if_neg (h a (.head _)), ih (fun c hc => h c (.tail _ hc))]
theorem wordF_take {ws : List Str} {l : List Nat} {k : Nat} (h : wordF ws l = some k) : ∃ w ∈ ws, l.take k = tx w := by
  induction ws with
  | nil => cases h
  | cons y r ih =>
    unfold wordF at h
    split at h
    · rename_i e
      cases h
      exact ⟨y, .head _, e⟩
    · obtain ⟨w, hw, e⟩ := ih h
      exact ⟨w, .tail _ hw, e⟩
theorem mags_noS : ∀ w ∈ mags, ∀ c ∈ tx w, c ≠ 47 := by decide +kernel
theorem units_noS : ∀ w ∈ units, ∀ c ∈ tx w, c ≠ 47 := by decide +kernel
theorem tw_take (p : Nat → Bool) : ∀ l : List Nat, l.take (l.takeWhile p).length = l.takeWhile p
  | [] => rfl
  | a :: t => by
    rw [List.takeWhile_cons]
    split
    · rw [List.length_cons, List.take_succ_cons, tw_take p t]
    · rfl
theorem tw_all (p : Nat → Bool) : ∀ l : List Nat, ∀ c ∈ l.takeWhile p, p c = true
  | [], c, h => by cases h
  | a :: t, c, h => by
    rw [List.takeWhile_cons] at h
    split at h
    · rename_i ha
      rcases List.mem_cons.mp h with rfl | h
      · exact ha
      · exact tw_all p t c h
    · cases h
theorem bl_noS (l : List Nat) : NoS (l.take (blLen l)) := by
  unfold blLen
  rw [tw_take]
  intro c hc e
  have := tw_all blC l c hc
  rw [e] at this
  cases this
theorem take_sum (l : List Nat) (a b : Nat) : l.take (a + b) = l.take a ++ (l.drop a).take b := List.take_add
theorem unit_noS {l : List Nat} {a : Nat} (h : unitF l = some a) : NoS (l.take a) := by
  unfold unitF at h
  split at h
  · cases h
  · rename_i j hj
    split at h
    · cases h
    · cases h
      obtain ⟨w, hw, e⟩ := wordF_take hj
      rw [take_sum]
      exact noS_app (bl_noS l) (e ▸ units_noS w hw)
theorem time_noS {l : List Nat} {a : Nat} (h : timeF l = some a) : NoS (l.take a) := by
  rw [time_unit] at h
  split at h
  · cases h
  · rename_i k hk
    cases hu : unitF (l.drop (blLen l + k)) with
    | none => rw [hu] at h; cases h
    | some j =>
      rw [hu] at h
      cases h
      obtain ⟨w, hw, e⟩ := wordF_take hk
      rw [take_sum, take_sum]
      exact noS_app (noS_app (bl_noS l) (e ▸ mags_noS w hw)) (unit_noS hu)
theorem ts_aft {l : List Nat} {k : Nat} (h : tsF l = some k) : ∃ r, aft l = some r ∧ timeF r ≠ none := by
  unfold tsF at h
  split at h
  · cases h
  · rename_i a ha
    split at h
    · rename_i h47
      split at h
      · cases h
      · rename_i b hb
        refine ⟨_, ?_, by rw [hb]; simp⟩
        have hd : l.drop (a + blLen (l.drop a)) = 47 :: l.drop (a + blLen (l.drop a) + 1) := by
          cases hx : l.drop (a + blLen (l.drop a)) with
          | nil => rw [hx] at h47; cases h47
          | cons c t =>
            rw [hx] at h47
            cases h47
            rw [← List.drop_drop, hx]
            rfl
        have hp : NoS (l.take (a + blLen (l.drop a))) := by
          rw [take_sum]
          exact noS_app (time_noS ha) (bl_noS _)
        rw [← List.take_append_drop (a + blLen (l.drop a)) l, aft_app hp, hd]
        simp only [aft, if_true]
        rw [← hd, List.take_append_drop]
    · cases h
theorem time_tx_noS {y : Str} {b : Bool} (h : TimeY y b) : NoS (tx y) := by
  obtain ⟨f, s, q, hf, hs, hq, rfl, rfl⟩ := h
  rw [tx_cat, tx_cat]
  have h1 : ∀ f, f < 10 → ∀ c ∈ tx (magsL.getD f Str.empty), c ≠ 47 := by decide +kernel
  have h2 : ∀ f, f < 13 → ∀ c ∈ tx (unitsL.getD f Str.empty), c ≠ 47 := by decide +kernel
  have h3 : ∀ g ∈ gapsL, ∀ c ∈ tx g, c ≠ 47 := by decide +kernel
  exact noS_app (noS_app (h1 f hf) (h3 q hq)) (h2 s hs)
theorem beh_aft : ∀ x ∈ behL, ∀ z ∈ endL, ((aft (tx x ++ tx z)).bind timeF) = none := by decide +kernel
theorem beh_tail : ∀ x ∈ behL, ∀ z ∈ endL, badL (tx x ++ tx z) = false ∧ timeF (tx x ++ tx z) = none ∧ unitF (tx x ++ tx z) = none ∧ (tx x ++ tx z).head? ≠ some 48 := by decide +kernel
theorem tail_beh {e1 e2 : Str} (h1 : e1 ∈ behL) (h2 : e2 ∈ endL) : Tail (tx e1 ++ tx e2) := by
  obtain ⟨a, b, c, d⟩ := beh_tail e1 h1 e2 h2
  exact ⟨a, b, c, fun r h => d (by rw [h]; rfl)⟩
theorem bad_bl : ∀ c, blC c = true → badL [c] = false := by
  intro c hc
  have : c = 32 ∨ c = 9 ∨ c = 13 := by
    unfold blC at hc
    simp at hc
    omega
  rcases this with rfl | rfl | rfl <;> decide +kernel
theorem bad_47 : badL [47] = false := by decide +kernel
theorem tail_gap {g : List Nat} (hg : Blank g) (r : List Nat) : Tail (g ++ 47 :: r) := by
  have t47 : timeF (47 :: r) = none := by rw [time_unit, bl0 (show blC 47 = false from rfl)]; simp [mags_v]
  have u47 : unitF (47 :: r) = none := by unfold unitF; rw [bl0 (show blC 47 = false from rfl)]; simp [units_v]
  refine ⟨?_, by rw [time_bl hg, t47]; rfl, by rw [unit_bl hg, u47]; rfl, ?_⟩
  · cases g with
    | nil => exact (badL_cons 47 r).trans bad_47
    | cons c t => exact (badL_cons c _).trans (bad_bl c (hg c (.head _)))
  · intro r' h
    cases g with
    | nil => cases h
    | cons c t =>
      have e : c = 48 := by have := congrArg List.head? h; simpa using this
      have := hg c (.head _)
      rw [e] at this
      cases this
structure Drawn (ah lg one gap st og two e1 e2 : Str) (r1 r2 : Bool) : Prop where
  ha : ah ∈ aheadL
  hlg : lg ∈ lgL
  h1 : TimeY one r1
  hg : gap ∈ gapsL
  hst : st = Str.ofString "" ∨ st = Str.ofString "/"
  hog : og ∈ gapsL
  h2 : TimeY two r2
  hb : e1 ∈ behL
  he : e2 ∈ endL
theorem lg_bl : ∀ g ∈ lgL, ∀ c ∈ tx g, blC c = true := by decide +kernel
theorem lg_cons : ∀ g ∈ lgL, tx g ≠ [] := by decide +kernel
theorem bl_noS' {g : List Nat} (h : Blank g) : NoS g := fun c hc e => by
  have := h c hc
  rw [e] at this
  cases this
section
variable {ah lg one gap st og two e1 e2 : Str} {r1 r2 : Bool}
theorem ts_none (D : Drawn ah lg one gap st og two e1 e2 r1 r2) (h : st = Str.ofString "") : tsF (tx lg ++ (tx one ++ (tx gap ++ (tx st ++ (tx og ++ (tx two ++ (tx e1 ++ tx e2))))))) = none := by
  cases hk : tsF (tx lg ++ (tx one ++ (tx gap ++ (tx st ++ (tx og ++ (tx two ++ (tx e1 ++ tx e2))))))) with
  | none => rfl
  | some k =>
    exfalso
    obtain ⟨r, hr, ht⟩ := ts_aft hk
    have hs : NoS (tx st) := by rw [h]; intro c hc; cases hc
    rw [aft_app (bl_noS' (lg_bl lg D.hlg)), aft_app (time_tx_noS D.h1), aft_app (bl_noS' (gap_bl gap D.hg)), aft_app hs, aft_app (bl_noS' (gap_bl og D.hog)), aft_app (time_tx_noS D.h2)] at hr
    have := beh_aft e1 D.hb e2 D.he
    rw [hr] at this
    exact ht this
theorem ts_some (D : Drawn ah lg one gap st og two e1 e2 r1 r2) (h : st = Str.ofString "/") : tsF (tx lg ++ (tx one ++ (tx gap ++ (tx st ++ (tx og ++ (tx two ++ (tx e1 ++ tx e2))))))) =
    if r1 && r2 then some ((tx lg).length + (tx one).length + (tx gap).length + 1 + ((tx og).length + (tx two).length)) else none := by
  have hs : tx st = [47] := by rw [h]; exact tx_slash
  have hgb := gap_bl gap D.hg
  rw [hs]
  show tsF (tx lg ++ (tx one ++ (tx gap ++ 47 :: (tx og ++ (tx two ++ (tx e1 ++ tx e2)))))) = _
  unfold tsF
  rw [time_val D.h1 (tail_gap hgb _) (lg_bl lg D.hlg)]
  cases r1 with
  | false => rfl
  | true =>
    simp only [if_true, Bool.true_and]
    have d1 : (tx lg ++ (tx one ++ (tx gap ++ 47 :: (tx og ++ (tx two ++ (tx e1 ++ tx e2)))))).drop ((tx lg).length + (tx one).length) = tx gap ++ 47 :: (tx og ++ (tx two ++ (tx e1 ++ tx e2))) := by
      rw [drop_app, List.drop_left]
    have b1 : blLen (tx gap ++ 47 :: (tx og ++ (tx two ++ (tx e1 ++ tx e2)))) = (tx gap).length := by
      rw [bl_app hgb, bl0 (show blC 47 = false from rfl)]; rfl
    have d2 : (tx lg ++ (tx one ++ (tx gap ++ 47 :: (tx og ++ (tx two ++ (tx e1 ++ tx e2)))))).drop ((tx lg).length + (tx one).length + (tx gap).length) = 47 :: (tx og ++ (tx two ++ (tx e1 ++ tx e2))) := by
      rw [← List.drop_drop, d1, List.drop_left]
    rw [d1, b1, d2, ← List.drop_drop, d2]
    simp only [List.head?_cons, if_true, List.drop_succ_cons, List.drop_zero]
    rw [time_val D.h2 (tail_beh D.hb D.he) (gap_bl og D.hog)]
    cases r2 <;> rfl
end
end Mine
namespace Mine
theorem fresh_PD : True := by
  first | row_walk | exact True.intro
theorem tx_tsc : tx (Str.ofString "`timescale") = 96 :: sTs := by decide +kernel
theorem tx_ifn : tx (Str.ofString "`ifdef NONE\n") = 96 :: (sIf ++ 32 :: 78 :: 79 :: 78 :: 69 :: [10]) := by decide +kernel
theorem tx_end : tx (Str.ofString "\n`endif q\n") = 10 :: 96 :: (sEn ++ [32, 113, 10]) := by decide +kernel
theorem tx_q : tx (Str.ofString " q\n") = [32, 113, 10] := by decide +kernel
theorem nl_ts {c : Nat} {r : List Nat} (h : ncC c = false) : nameLen (sTs ++ c :: r) = 9 := by
  show (if (116 == 36 || digC 116) = true then 0 else ncLen (sTs ++ c :: r)) = 9
  rw [if_neg (by decide)]
  unfold ncLen
  rw [tw_stop (.inr ⟨c, r, rfl, h⟩)]
  decide
theorem nl_if {c : Nat} {r : List Nat} (h : ncC c = false) : nameLen (sIf ++ c :: r) = 5 := by
  show (if (105 == 36 || digC 105) = true then 0 else ncLen (sIf ++ c :: r)) = 5
  rw [if_neg (by decide)]
  unfold ncLen
  rw [tw_stop (.inr ⟨c, r, rfl, h⟩)]
  decide
theorem nl_en {c : Nat} {r : List Nat} (h : ncC c = false) : nameLen (sEn ++ c :: r) = 5 := by
  show (if (101 == 36 || digC 101) = true then 0 else ncLen (sEn ++ c :: r)) = 5
  rw [if_neg (by decide)]
  unfold ncLen
  rw [tw_stop (.inr ⟨c, r, rfl, h⟩)]
  decide
theorem nl_no {r : List Nat} : nameLen (78 :: 79 :: 78 :: 69 :: 10 :: r) = 4 := by
  show (if (78 == 36 || digC 78) = true then 0 else ncLen ([78, 79, 78, 69] ++ 10 :: r)) = 4
  rw [if_neg (by decide)]
  unfold ncLen
  rw [tw_stop (.inr ⟨10, r, rfl, by decide⟩)]
  decide
theorem lg_head : ∀ g ∈ lgL, ∃ c t, tx g = c :: t ∧ ncC c = false := by
  have h : ∀ g ∈ lgL, tx g ≠ [] ∧ ncC ((tx g).headD 0) = false := by decide +kernel
  intro g hg
  have := h g hg
  cases e : tx g with
  | nil => exact absurd e this.1
  | cons c t => rw [e] at this; exact ⟨c, t, rfl, this.2⟩
theorem ah_nobt : ∀ y ∈ aheadL, ∀ c ∈ tx y, c ≠ 96 := by decide +kernel
theorem ah_one : ∀ y ∈ aheadL, oneStroke (10 :: tx y) = true ∧ oneStroke (tx y) = true := by decide +kernel
theorem beh_nobt : ∀ y ∈ behL, ∀ c ∈ tx y, c ≠ 96 := by decide +kernel
theorem end_nobt : ∀ y ∈ endL, ∀ c ∈ tx y, c ≠ 96 := by decide +kernel
theorem lg_nobt : ∀ y ∈ lgL, ∀ c ∈ tx y, c ≠ 96 := by decide +kernel
theorem gap_nobt : ∀ y ∈ gapsL, ∀ c ∈ tx y, c ≠ 96 := by decide +kernel
theorem nobt_app {a b : List Nat} (h1 : NoBt a) (h2 : NoBt b) : NoBt (a ++ b) := fun c hc => (List.mem_append.mp hc).elim (h1 c) (h2 c)
theorem time_nobt {y : Str} {b : Bool} (h : TimeY y b) : NoBt (tx y) := by
  obtain ⟨f, s, q, hf, hs, hq, rfl, rfl⟩ := h
  rw [tx_cat, tx_cat]
  have h1 : ∀ f, f < 10 → ∀ c ∈ tx (magsL.getD f Str.empty), c ≠ 96 := by decide +kernel
  have h2 : ∀ f, f < 13 → ∀ c ∈ tx (unitsL.getD f Str.empty), c ≠ 96 := by decide +kernel
  exact nobt_app (nobt_app (h1 f hf) (gap_nobt q hq)) (h2 s hs)
theorem st_nobt {st : Str} (h : st = Str.ofString "" ∨ st = Str.ofString "/") : NoBt (tx st) := by
  rcases h with rfl | rfl
  · intro c hc; cases hc
  · rw [tx_slash]; intro c hc; rw [List.mem_singleton.mp hc]; decide
section
variable {ah lg one gap st og two e1 e2 : Str} {r1 r2 : Bool}
/-- all behind the directive's name -/
def opL (lg one gap st og two e1 e2 : Str) : List Nat := tx lg ++ (tx one ++ (tx gap ++ (tx st ++ (tx og ++ (tx two ++ (tx e1 ++ tx e2))))))
abbrev txtL (ah lg one gap st og two e1 e2 : Str) : List Nat := tx ah ++ 96 :: (sTs ++ opL lg one gap st og two e1 e2)
theorem op_nobt (D : Drawn ah lg one gap st og two e1 e2 r1 r2) : NoBt (opL lg one gap st og two e1 e2) :=
  nobt_app (lg_nobt lg D.hlg) (nobt_app (time_nobt D.h1) (nobt_app (gap_nobt gap D.hg) (nobt_app (st_nobt D.hst) (nobt_app (gap_nobt og D.hog) (nobt_app (time_nobt D.h2) (nobt_app (beh_nobt e1 D.hb) (end_nobt e2 D.he)))))))
theorem op_head (D : Drawn ah lg one gap st og two e1 e2 r1 r2) (r : List Nat) : ∃ c t, opL lg one gap st og two e1 e2 ++ r = c :: t ∧ ncC c = false := by
  obtain ⟨c, t, e, h⟩ := lg_head lg D.hlg
  exact ⟨c, _, by show (tx lg ++ _) ++ r = _; rw [e]; rfl, h⟩
theorem nl_op (D : Drawn ah lg one gap st og two e1 e2 r1 r2) (r : List Nat) : nameLen (sTs ++ (opL lg one gap st og two e1 e2 ++ r)) = 9 := by
  obtain ⟨c, t, e, h⟩ := op_head D r
  rw [e]
  exact nl_ts h
theorem nl_op0 (D : Drawn ah lg one gap st og two e1 e2 r1 r2) : nameLen (sTs ++ opL lg one gap st og two e1 e2) = 9 := by
  have h := nl_op D []
  rw [List.append_nil] at h
  exact h
theorem run_end {l : List Nat} {j : Nat} {out : List Nat} (h : NoBt l) : Run (.ok (out ++ l)) l j true none out := by
  have := chunk' (res := .ok (out ++ l)) (b := true) (C := none) (r := []) (l := l) (j := j) (out := out) (.inl rfl) h rowed_nil (.done rfl)
  rw [List.append_nil] at this
  exact this
theorem run_text (D : Drawn ah lg one gap st og two e1 e2 r1 r2) : Run (if (r1 && (r2 && (st != Str.ofString ""))) = true then .ok (tx ah ++ (tx e1 ++ tx e2)) else .err (tx ah).length) (txtL ah lg one gap st og two e1 e2) 0 true none [] := by
  refine chunk' (.inr ⟨_, rfl⟩) (ah_nobt ah D.ha) (rowed_one (ah_one ah D.ha).2) ?_
  show Run _ (96 :: (sTs ++ opL lg one gap st og two e1 e2)) (0 + (tx ah).length) true none (tx ah)
  have hd : (sTs ++ opL lg one gap st og two e1 e2).drop 9 = opL lg one gap st og two e1 e2 := rfl
  have ht : (sTs ++ opL lg one gap st og two e1 e2).take 9 = sTs := rfl
  have bad : tsF (opL lg one gap st og two e1 e2) = none → Run (.err (tx ah).length) (96 :: (sTs ++ opL lg one gap st og two e1 e2)) (0 + (tx ah).length) true none (tx ah) := fun h =>
    Run.bad (nl_op0 D) ht (by rw [hd]; exact h) (by rw [Nat.zero_add])
  rcases D.hst with h | h
  · have e : (st != Str.ofString "") = false := by rw [h]; simp
    rw [e, Bool.and_false, Bool.and_false, if_neg (by decide)]
    exact bad (ts_none D h)
  · have e : (st != Str.ofString "") = true := by rw [h]; decide +kernel
    rw [e, Bool.and_true]
    have hv := ts_some D h
    cases hr : (r1 && r2) with
    | false =>
      rw [hr] at hv
      rw [if_neg (by decide)]
      exact bad hv
    | true =>
      rw [hr, if_pos rfl] at hv
      rw [if_pos rfl]
      refine Run.ts (nl_op0 D) ht (by rw [hd]; exact hv) ?_
      have hl : (sTs ++ opL lg one gap st og two e1 e2).drop (9 + ((tx lg).length + (tx one).length + (tx gap).length + 1 + ((tx og).length + (tx two).length))) = tx e1 ++ tx e2 := by
        rw [← List.drop_drop, hd]
        have e1' : opL lg one gap st og two e1 e2 = (tx lg ++ (tx one ++ (tx gap ++ (tx st ++ (tx og ++ tx two))))) ++ (tx e1 ++ tx e2) := by simp only [opL, List.append_assoc]
        have hs : (tx st).length = 1 := by rw [h, tx_slash]; rfl
        rw [e1']
        have := List.drop_left (l₁ := tx lg ++ (tx one ++ (tx gap ++ (tx st ++ (tx og ++ tx two))))) (l₂ := tx e1 ++ tx e2)
        rw [show (tx lg).length + (tx one).length + (tx gap).length + 1 + ((tx og).length + (tx two).length) = (tx lg ++ (tx one ++ (tx gap ++ (tx st ++ (tx og ++ tx two))))).length from by simp only [List.length_append, hs]; omega]
        exact this
      rw [hl]
      exact run_end (nobt_app (beh_nobt e1 D.hb) (end_nobt e2 D.he))
theorem run_hidden (D : Drawn ah lg one gap st og two e1 e2 r1 r2) : Run (.ok (List.replicate (2 + (txtL ah lg one gap st og two e1 e2).count 10) 10 ++ [32, 113, 10]))
    (96 :: (sIf ++ 32 :: 78 :: 79 :: 78 :: 69 :: [10]) ++ (txtL ah lg one gap st og two e1 e2 ++ 10 :: 96 :: (sEn ++ [32, 113, 10]))) 0 true none [] := by
  refine Run.ifdef (r := sIf ++ 32 :: 78 :: 79 :: 78 :: 69 :: [10] ++ (txtL ah lg one gap st og two e1 e2 ++ 10 :: 96 :: (sEn ++ [32, 113, 10]))) ?_ rfl ?_ ?_
  · rw [List.append_assoc]; exact nl_if (by decide)
  · show 0 < nameLen _
    have : ((sIf ++ 32 :: 78 :: 79 :: 78 :: 69 :: [10] ++ (txtL ah lg one gap st og two e1 e2 ++ 10 :: 96 :: (sEn ++ [32, 113, 10]))).drop (5 + blLen ((sIf ++ 32 :: 78 :: 79 :: 78 :: 69 :: [10] ++ (txtL ah lg one gap st og two e1 e2 ++ 10 :: 96 :: (sEn ++ [32, 113, 10]))).drop 5))) = 78 :: 79 :: 78 :: 69 :: 10 :: (txtL ah lg one gap st og two e1 e2 ++ 10 :: 96 :: (sEn ++ [32, 113, 10])) := rfl
    rw [this, nl_no]
    decide
  · have h1 : blLen ((sIf ++ 32 :: 78 :: 79 :: 78 :: 69 :: [10] ++ (txtL ah lg one gap st og two e1 e2 ++ 10 :: 96 :: (sEn ++ [32, 113, 10]))).drop 5) = 1 := rfl
    have h2 : (sIf ++ 32 :: 78 :: 79 :: 78 :: 69 :: [10] ++ (txtL ah lg one gap st og two e1 e2 ++ 10 :: 96 :: (sEn ++ [32, 113, 10]))).drop (5 + 1) = 78 :: 79 :: 78 :: 69 :: 10 :: (txtL ah lg one gap st og two e1 e2 ++ 10 :: 96 :: (sEn ++ [32, 113, 10])) := rfl
    rw [h1, h2, nl_no]
    have h3 : (sIf ++ 32 :: 78 :: 79 :: 78 :: 69 :: [10] ++ (txtL ah lg one gap st og two e1 e2 ++ 10 :: 96 :: (sEn ++ [32, 113, 10]))).drop (5 + 1 + 4) = (10 :: tx ah) ++ 96 :: (sTs ++ (opL lg one gap st og two e1 e2 ++ 10 :: 96 :: (sEn ++ [32, 113, 10]))) := by
      show 10 :: (txtL ah lg one gap st og two e1 e2 ++ _) = _
      simp only [txtL, List.append_assoc, List.cons_append]
    rw [h3]
    refine chunk' (.inr ⟨_, rfl⟩) (fun c hc => ?_) (rowed_one (ah_one ah D.ha).1) ?_
    · rcases List.mem_cons.mp hc with rfl | hc
      · decide
      · exact ah_nobt ah D.ha c hc
    refine Run.skip (nl_op D _) rfl ?_
    have h4 : (sTs ++ (opL lg one gap st og two e1 e2 ++ 10 :: 96 :: (sEn ++ [32, 113, 10]))).drop 9 = (opL lg one gap st og two e1 e2 ++ [10]) ++ 96 :: (sEn ++ [32, 113, 10]) := by
      show opL lg one gap st og two e1 e2 ++ 10 :: 96 :: (sEn ++ [32, 113, 10]) = _
      rw [List.append_assoc]; rfl
    rw [h4]
    refine chunk' (.inr ⟨_, rfl⟩) (nobt_app (op_nobt D) (fun c hc => by rw [List.mem_singleton.mp hc]; decide)) rowed_last ?_
    refine Run.endif (nl_en (by decide)) rfl ?_
    show Run _ [32, 113, 10] _ true none _
    have e : List.replicate (2 + (txtL ah lg one gap st og two e1 e2).count 10) 10 = [] ++ emitF false (10 :: tx ah) ++ emitF false (opL lg one gap st og two e1 e2 ++ [10]) := by
      show _ = List.replicate ((10 :: tx ah).count 10) 10 ++ List.replicate ((opL lg one gap st og two e1 e2 ++ [10]).count 10) 10
      rw [List.replicate_append_replicate]
      congr 1
      have hz : (96 :: sTs).count 10 = 0 := by decide
      show 2 + (tx ah ++ ((96 :: sTs) ++ opL lg one gap st og two e1 e2)).count 10 = _
      have c1 : (10 :: tx ah).count 10 = (tx ah).count 10 + 1 := by rw [List.count_cons]; rfl
      have c2 : (opL lg one gap st og two e1 e2 ++ [10]).count 10 = (opL lg one gap st og two e1 e2).count 10 + 1 := by rw [List.count_append]; rfl
      rw [c1, c2, List.count_append, List.count_append, hz]
      omega
    rw [e]
    exact run_end (fun c hc => by simp only [List.mem_cons, List.not_mem_nil, or_false] at hc; omega)
theorem run_again : Run (.ok (tx (Str.ofString "r s"))) (tx (Str.ofString "r`timescale 10 us/100 fs s")) 0 true none [] := by
  have e : tx (Str.ofString "r`timescale 10 us/100 fs s") = [114] ++ 96 :: (sTs ++ [32, 49, 48, 32, 117, 115, 47, 49, 48, 48, 32, 102, 115, 32, 115]) := by decide +kernel
  have e2 : tx (Str.ofString "r s") = [114] ++ [32, 115] := by decide +kernel
  rw [e, e2]
  refine chunk' (.inr ⟨_, rfl⟩) (fun c hc => by rw [List.mem_singleton.mp hc]; decide) (rowed_one rfl) ?_
  refine Run.ts (k := 13) (nl_ts (by decide)) rfl (by decide +kernel) ?_
  exact run_end (l := [32, 115]) (fun c hc => by simp only [List.mem_cons, List.not_mem_nil, or_false] at hc; omega)
end
/-! no quote, backslash, apostrophe, star -/
def Cl (l : List Nat) : Prop := ∀ c ∈ l, c ≠ 34 ∧ c ≠ 92 ∧ c ≠ 39 ∧ c ≠ 42
theorem cl_app {a b : List Nat} (h1 : Cl a) (h2 : Cl b) : Cl (a ++ b) := fun c hc => (List.mem_append.mp hc).elim (h1 c) (h2 c)
theorem ah_cl : ∀ y ∈ aheadL, ∀ c ∈ tx y, c ≠ 34 ∧ c ≠ 92 ∧ c ≠ 39 ∧ c ≠ 42 := by decide +kernel
theorem beh_cl : ∀ y ∈ behL, ∀ c ∈ tx y, c ≠ 34 ∧ c ≠ 92 ∧ c ≠ 39 ∧ c ≠ 42 := by decide +kernel
theorem end_cl : ∀ y ∈ endL, ∀ c ∈ tx y, c ≠ 34 ∧ c ≠ 92 ∧ c ≠ 39 ∧ c ≠ 42 := by decide +kernel
theorem lg_cl : ∀ y ∈ lgL, ∀ c ∈ tx y, c ≠ 34 ∧ c ≠ 92 ∧ c ≠ 39 ∧ c ≠ 42 := by decide +kernel
theorem gap_cl : ∀ y ∈ gapsL, ∀ c ∈ tx y, c ≠ 34 ∧ c ≠ 92 ∧ c ≠ 39 ∧ c ≠ 42 := by decide +kernel
theorem time_cl {y : Str} {b : Bool} (h : TimeY y b) : Cl (tx y) := by
  obtain ⟨f, s, q, hf, hs, hq, rfl, rfl⟩ := h
  rw [tx_cat, tx_cat]
  have h1 : ∀ f, f < 10 → ∀ c ∈ tx (magsL.getD f Str.empty), c ≠ 34 ∧ c ≠ 92 ∧ c ≠ 39 ∧ c ≠ 42 := by decide +kernel
  have h2 : ∀ f, f < 13 → ∀ c ∈ tx (unitsL.getD f Str.empty), c ≠ 34 ∧ c ≠ 92 ∧ c ≠ 39 ∧ c ≠ 42 := by decide +kernel
  exact cl_app (cl_app (h1 f hf) (gap_cl q hq)) (h2 s hs)
theorem st_cl {st : Str} (h : st = Str.ofString "" ∨ st = Str.ofString "/") : Cl (tx st) := by
  rcases h with rfl | rfl
  · intro c hc; cases hc
  · rw [tx_slash]; intro c hc; rw [List.mem_singleton.mp hc]; decide
theorem ts_cl : Cl (96 :: sTs) := by unfold Cl; decide
theorem txt_cl {ah lg one gap st og two e1 e2 : Str} {r1 r2 : Bool} (D : Drawn ah lg one gap st og two e1 e2 r1 r2) : Cl (txtL ah lg one gap st og two e1 e2) :=
  cl_app (ah_cl ah D.ha) (cl_app ts_cl (cl_app (lg_cl lg D.hlg) (cl_app (time_cl D.h1) (cl_app (gap_cl gap D.hg) (cl_app (st_cl D.hst) (cl_app (gap_cl og D.hog) (cl_app (time_cl D.h2) (cl_app (beh_cl e1 D.hb) (end_cl e2 D.he)))))))))
end Mine
namespace Mine
theorem fresh_W5 : True := by
  first | row_walk | exact True.intro
theorem chain {ah lg one gap st og two e1 e2 z1 z2 z3 z4 z5 z6 z7 z8 beh : Str} {r1 r2 : Bool} (g8 : tx z8 = tx z7 ++ tx beh) (g7 : tx z7 = tx z6 ++ tx two) (g6 : tx z6 = tx z5 ++ tx og) (g5 : tx z5 = tx z4 ++ tx st) (g4 : tx z4 = tx z3 ++ tx gap)
  (g3 : tx z3 = tx z2 ++ tx one) (g2 : tx z2 = tx z1 ++ tx lg) (g1 : tx z1 = tx ah ++ tx (Str.ofString "`timescale")) (gb : tx beh = tx e1 ++ tx e2)
  (ha : ah ∈ aheadL) (hlg : lg ∈ lgL) (h1 : TimeY one r1) (hg : gap ∈ gapsL) (hst : st = Str.ofString "" ∨ st = Str.ofString "/") (hog : og ∈ gapsL) (h2 : TimeY two r2) (hb : e1 ∈ behL) (he : e2 ∈ endL) :
  Drawn ah lg one gap st og two e1 e2 r1 r2 ∧ tx z8 = txtL ah lg one gap st og two e1 e2 ∧ tx beh = tx e1 ++ tx e2 := by
  refine ⟨⟨ha, hlg, h1, hg, hst, hog, h2, hb, he⟩, ?_, gb⟩
  rw [g8, g7, g6, g5, g4, g3, g2, g1, gb, tx_tsc]
  simp only [txtL, opL, List.append_assoc, List.cons_append]
theorem clean_of {x : Str} {l : List Nat} (h : tx x = l) (hl : Cl l) : Clean x := by unfold Clean; rw [h]; exact hl
theorem due_of {z ah beh : Str} {l : List Nat} (h : tx z = tx ah ++ tx beh) (gb : tx beh = l) : tx z = tx ah ++ l := by rw [h, gb]
theorem hid_of {z y x : Str} (h2 : tx z = tx y ++ tx (Str.ofString "\n`endif q\n")) (h1 : tx y = tx (Str.ofString "`ifdef NONE\n") ++ tx x) : tx z = 96 :: (sIf ++ 32 :: 78 :: 79 :: 78 :: 69 :: [10]) ++ (tx x ++ 10 :: 96 :: (sEn ++ [32, 113, 10])) := by
  rw [h2, h1, tx_ifn, tx_end, List.append_assoc]
theorem hid_cl {z x : Str} (h : tx z = 96 :: (sIf ++ 32 :: 78 :: 79 :: 78 :: 69 :: [10]) ++ (tx x ++ 10 :: 96 :: (sEn ++ [32, 113, 10]))) (hx : Clean x) : Clean z := by
  unfold Clean
  rw [h]
  have h1 : Cl (96 :: (sIf ++ 32 :: 78 :: 79 :: 78 :: 69 :: [10])) := by unfold Cl; decide
  have h2 : Cl (10 :: 96 :: (sEn ++ [32, 113, 10])) := by unfold Cl; decide
  exact cl_app h1 (cl_app hx h2)
theorem again_cl : Clean (Str.ofString "r`timescale 10 us/100 fs s") := by unfold Clean; decide +kernel
theorem count_le (x : Str) : (tx x).count 10 ≤ x.length := by
  have : (tx x).count 10 ≤ (tx x).length := List.count_le_length
  rw [tx_len] at this
  exact this
theorem mem_last {α : Type} {a b c d e f : α} {r : List α} : ∀ q ∈ [a, b, c, d, e] ++ [f], q ∈ f :: a :: b :: c :: d :: e :: r := by
  intro q h
  simp only [List.cons_append, List.nil_append, List.mem_cons, List.not_mem_nil, or_false] at h ⊢
  rcases h with h | h | h | h | h | h <;> simp [h]
theorem mem_five {α : Type} {a b c d e : α} {r : List α} : ∀ q ∈ [a, b, c, d, e] ++ [], q ∈ a :: b :: c :: d :: e :: r := by
  intro q h
  simp only [List.cons_append, List.nil_append, List.mem_cons, List.not_mem_nil, or_false] at h ⊢
  rcases h with h | h | h | h | h <;> simp [h]
theorem mem_s1 {α : Type} {f a b c d e : α} {r : List α} : ∀ q ∈ [a, b, c, d, e] ++ [], q ∈ f :: a :: b :: c :: d :: e :: r := fun q h => .tail _ (mem_five q h)
theorem mem_s2 {α : Type} {g f a b c d e : α} {r : List α} : ∀ q ∈ [a, b, c, d, e] ++ [], q ∈ g :: f :: a :: b :: c :: d :: e :: r := fun q h => .tail _ (mem_s1 q h)
theorem mem_s3 {α : Type} {k g f a b c d e : α} {r : List α} : ∀ q ∈ [a, b, c, d, e] ++ [], q ∈ k :: g :: f :: a :: b :: c :: d :: e :: r := fun q h => .tail _ (mem_s2 q h)
theorem hid_eq {y z q : Str} {c : Nat} {i : Int} (hy : tx y = List.replicate (2 + c) 10 ++ [32, 113, 10]) (hz : tx z = tx q ++ tx (Str.ofString " q\n")) (hq : tx q = List.replicate i.toNat 10) (hi : i.toNat = 2 + c) : tx y = tx z := by
  rw [hy, hz, hq, hi, tx_q]
theorem again_len : (Str.ofString "r`timescale 10 us/100 fs s").length ≤ 10000 := by decide +kernel
end Mine
namespace Mine
theorem fresh_W6 : True := by
  first | row_walk | exact True.intro
open PySem.Spec
theorem count_signs (y : Str) : ((signs y).filter (fun c => c == Str.ofString "\n")).length = (tx y).count 10 := by
  unfold signs tx
  generalize y.cps.toList = l
  induction l with
  | nil => rfl
  | cons a t ih =>
    rw [List.map_cons, List.filter_cons, List.count_cons, ← ih, str_beq, tx_nl, one_str]
    by_cases h : a = 10
    · subst h; simp
    · simp [h]
section
variable {prog : Program} {w : World} {A : Around} {E : Value → Shared → Prop} {s : Shared} {h₀ : Heap} {L : Addr} {m : Str → Option Value} {news : List (Addr × Obj)} {env : Env}
theorem comp_nl {iter : Expr} {p1 p2 p3 p4 p5 p6 : Pos} {scope : Scope} {Q : Value → Shared → Prop} (_F : Fr h₀ L s.heap m) (_N : News h₀ L s.heap news) (hh : A.handled = none) (hfree : ∀ y ∈ scope.names, y.2 ≠ .free) (hcell : ∀ y ∈ scope.names, y.2 ≠ .cell) (hkind : scope.kind = .function)
    (hnames : ∀ y ∈ scope.names, y.2 = .local → scope.names.lookup y.1 = some .local) (hx : scope.names.lookup (Str.ofString "sign") = some .local)
    (h : wpAny (model prog w) A (eval iter env) (fun xv s₁ => ∃ y t, xv = .str y t ∧ y.length ≤ sizeLine ∧ Fr h₀ L s₁.heap m ∧ News h₀ L s₁.heap news ∧
      (∀ D (ys : List Value) n h' tk, Fr h₀ L h' m → News h₀ L h' ((D, W.listOf ys.toArray n) :: news) → ys.length = (tx y).count 10 → Q (.ref D) { s₁ with heap := h', toks := tk })) E s)
    (hs : ∀ x, foldedSetIterable iter env x = pure x) :
    wpAny (model prog w) A (eval (.ListComp (.Name (Str.ofString "sign") p1) [⟨.Name (Str.ofString "sign") p2, iter, [.Compare (.Name (Str.ofString "sign") p3) [.Eq] [.Constant (.str (Str.ofString "\n")) 0 p4] p5], 0⟩] scope p6) env) Q E s := by
  refine ListComp_signsD (pz := fun c => c == Str.ofString "\n") (d := fun c => .str c) (h₀ := h₀) (L := L) (m := m) (news := news) hh hfree hcell hkind hnames hx (wpAny_mono h (fun xv s₁ h₁ => ?_) fun _ _ e => e) hs
  obtain ⟨y, t, rfl, hsz, F, N, hQ⟩ := h₁
  refine ⟨y, t, rfl, hsz, F, N, ?_, ?_, ?_⟩
  · rintro C a v s₂ m₂ E' ⟨u, rfl⟩ hn hm
    refine wpAny_tests_one (wpAny_isTrue_Compare1 ?_)
    refine PySem.ldK ⟨⟨_, _, rfl⟩, hn, fun _ _ e => e⟩ hkind hx hm ?_ (by decide +kernel)
    refine Calls.Constant_str ?_
    refine eq_str ?_
    refine wpAny_truthy_bool ⟨rfl, _, _, rfl, fun _ _ e => e⟩
  · rintro C a v s₂ m₂ E' ⟨u, rfl⟩ _ hn hm
    refine PySem.ldK ⟨⟨_, _, rfl⟩, hn, fun _ _ e => e⟩ hkind hx hm ⟨Carried.str a u, _, _, rfl, fun _ _ e => e⟩ (by decide +kernel)
  · intro D ys h' tk F' N' hD hl hp hc
    obtain ⟨⟨n, hg⟩, hne⟩ := hp
    have hlen := hc.length_eq
    rw [List.length_map, count_signs] at hlen
    refine hQ D ys n h' tk F' (fun q hq => ?_) hlen
    rcases List.mem_cons.mp hq with rfl | hq
    · exact ⟨hg, NewPlain.ne_locals ⟨⟨n, hg⟩, hne⟩ F', hD⟩
    · exact N' q hq
end
end Mine
namespace Mine
theorem fresh_W3 : True := by
  first | row_walk | exact True.intro

theorem no_mem {ck : Addr} : ∀ q ∈ ([] : List (Addr × Obj)), q.1 ≠ ck := fun _ h => nomatch h
theorem mem_d {α : Type} {a b : α} {r : List α} : ∀ q ∈ [b], q ∈ a :: b :: r := fun q h => by rw [List.mem_singleton.mp h]; simp
theorem mem_d2 {α : Type} {a b c : α} {r : List α} : ∀ q ∈ [c], q ∈ a :: b :: c :: r := fun q h => by rw [List.mem_singleton.mp h]; simp
theorem mem_k1 {α : Type} {a b : α} {r : List α} : ∀ q ∈ [b, a], q ∈ a :: b :: r := by intro q h; simp only [List.mem_cons] at h ⊢; rcases h with h | h | h <;> first | (cases h; done) | simp [h]
theorem mem_k2 {α : Type} {a b c : α} {r : List α} : ∀ q ∈ [c, a], q ∈ a :: b :: c :: r := by intro q h; simp only [List.mem_cons] at h ⊢; rcases h with h | h | h <;> first | (cases h; done) | simp [h]
theorem item_draw {prog : Program} {w : World} {A : Around} {E : Value → Shared → Prop} {s : Shared} {value slice : PySem.Expr} {l : Addr} {vs : List Value} {ws : List PySem.Str} {i : Int} {u : Tok} {Q : Value → Shared → Prop} (hl : s.heap.IsList l vs.toArray) (hw : StrsAre vs ws) (h0 : 0 ≤ i) (h1 : i < (ws.length : Int)) (hfit : i < 2 ^ 63) (hlen : ∀ y ∈ ws, y.length ≤ 20) (h : ∀ y t', y ∈ ws → y.length ≤ 20 → Q (.str y t') s)
    (hs : subscripted slice false (.ref l) (.int i u) = operate [.ref l, .int i u] (getItem (.ref l) (.int i u)) := by with_unfolding_all rfl) :
    wpAny (model prog w) A (subscriptTail value slice (.ref l) (.int i u)) Q E s :=
  KTb.item_list hl hw h0 h1 hfit (fun t' hlt => h _ t' (getD_mem hlt) (getD_len hlen)) hs
theorem time_len {y : Str} {b : Bool} (h : TimeY y b) : y.length ≤ 60 := by
  obtain ⟨f, s, g, hf, hs, hg, rfl, hb⟩ := h
  have h1 : (magsL.getD f Str.empty).length ≤ 20 := getD_len mag_len
  have h2 : (unitsL.getD s Str.empty).length ≤ 20 := getD_len unit_len
  have h3 := gap_len g hg
  have e : ∀ a b : Str, (a ++ b).length = a.length + b.length := fun a b => by rw [← tx_len, tx_cat, List.length_append, tx_len, tx_len]
  rw [e, e]
  omega
local macro_rules | `(tactic| walk_at "call ref") => `(tactic| ((with_reducible show wpAny _ _ (call (Value.ref 320) _) _ _ _); refine Stop.mk ?_))
local macro_rules | `(tactic| walk_at "call ref") => `(tactic| ((with_reducible show wpAny _ _ (call (Value.ref 348) _) _ _ _); refine Stop.mk ?_))
local macro_rules | `(tactic| walk_at "subscriptTail") => `(tactic| (k_here; (with_reducible show wpAny _ _ (subscriptTail _ _ (Value.ref _) (Value.int _ _)) _ _ _); k_dflt (refine' item_draw ?ktbl ?ktbw ?ktb0 ?ktb1 ?ktbf ?ktbe ?_; (case ktbl => ktb_isList); (case ktbw => repeat constructor); (case ktb0 => ktb_idx); (case ktb1 => ktb_idx); (case ktbf => ktb_idx); (case ktbe => decide +kernel)); intro y9 t9 hy9 hl9))
theorem le_num {n a c : Nat} (h : n ≤ a) (e : Nat.ble a c = true) : n ≤ c := Nat.le_trans h (Nat.le_of_ble_eq_true e)
theorem lt_big {n a : Nat} (h : n ≤ a) (e : Nat.ble a 1000000 = true) : (n : Int) < 9223372036854775808 := by
  have := Nat.le_trans h (Nat.le_of_ble_eq_true e)
  omega
theorem up_one {n a : Nat} (h : n ≤ a) : (n : Int) ≤ ((a : Nat) : Int) := Int.ofNat_le.mpr h
theorem up_two {n a : Nat} (h : n ≤ a) : 2 + (n : Int) ≤ ((2 + a : Nat) : Int) := by omega
theorem pos_two {n : Nat} : (0 : Int) ≤ 2 + (n : Int) := by omega
theorem size_num {n a : Nat} (h : n ≤ a) (e : Nat.ble a 16777216 = true) : n ≤ PySem.sizeLine := by
  rw [PySem.sizeLine_eq]
  exact le_num h e
theorem add_gen {prog : Program} {w : World} {A : Around} {E : Value → Shared → Prop} {s : Shared} {x y : Str} {t u : Tok} {Q : Value → Shared → Prop} {a b : Nat} (hx : x.length ≤ a) (hy : y.length ≤ b) (hsz : Nat.ble (a + b) 16777216 = true) (h : ∀ z t' k, tx z = tx x ++ tx y → z.length ≤ a + b → Q (.str z t') { s with toks := k }) : wpAny (model prog w) A (binaryOp .Add (.str x t) (.str y u)) Q E s :=
  SBL.add (fun t' k hl => h (x ++ y) t' k (tx_cat x y) (by omega)) (by rw [PySem.sizeLine_eq]; exact Nat.le_trans (Nat.add_le_add hx hy) (Nat.le_of_ble_eq_true hsz))
local macro_rules | `(tactic| walk_at "binaryOp Add str str") => `(tactic| (refine add_gen (by with_reducible assumption) (by with_reducible assumption) (by with_unfolding_all exact rfl) ?_; intro z9 _ _ hZ9 hL9))
local macro_rules | `(tactic| walk_at "call ref") => `(tactic| (k_here; (with_reducible show wpAny _ _ (call (Value.ref 327) [Value.ref _, Value.int _ _]) _ _ _); k_dflt (refine' useD (tick_c _ _ _ (by decide) (by decide)) _ ?k1 ?k2 ?k3 ?k4 ?k4s ?k5 ?kK ?kd ?ku ?kC ?kN ?_; (case k1 => k_asm); (case k2 => k_asm); (case k3 => k_asm); (case k4 => k_asm); (case k4s => first | exact sub_h | exact mem_k1 | exact mem_k2); (case k5 => k_asm); (case kK => first | exact rfl | assumption); (case kd => ktr_room); (case ku => ktr_units); (case kC => assumption); (case kN => repeat (first | assumption | exact no_mem | (refine ne_cons (lt_ne ?_) ?_; omega))); intro r9 vs9 k9 own9 h9 tk9 hC9 e9 F9 N9; obtain ⟨e8, n9, t9, e9, hn90, hn91⟩ := e9; subst e8; subst e9; (try simp only [List.nil_append] at N9); (try dsimp only))))
local macro_rules | `(tactic| walk_at "call ref") => `(tactic| (k_here; (with_reducible show wpAny _ _ (call (Value.ref 334) [Value.ref _]) _ _ _); k_dflt (refine' useD (gap_c _) _ ?k1 ?k2 ?k3 ?k4 ?k4s ?k5 ?kK ?kd ?ku ?kC ?kN ?_; (case k1 => k_asm); (case k2 => k_asm); (case k3 => k_asm); (case k4 => k_asm); (case k4s => first | exact sub_h | exact mem_d | exact mem_d2); (case k5 => k_asm); (case kK => first | exact rfl | assumption); (case kd => ktr_room); (case ku => ktr_units); (case kC => assumption); (case kN => repeat (first | assumption | exact no_mem | (refine ne_cons (lt_ne ?_) ?_; omega))); intro r9 vs9 k9 own9 h9 tk9 hC9 e9 F9 N9; obtain ⟨e8, n9, t9, e9, hy9⟩ := e9; subst e8; subst e9; (try simp only [List.nil_append] at N9); (try dsimp only); (have hl9 := gap_len _ hy9))))
local macro_rules | `(tactic| walk_at "call ref") => `(tactic| ((with_reducible show wpAny _ _ (call (Value.ref 341) _) _ _ _); refine Stop.mk ?_))
local macro_rules | `(tactic| walk_at "eval IfExp") => `(tactic| refine Stop.mk ?_)
local macro_rules | `(tactic| walk_at "eval BoolOp") => `(tactic| ((with_reducible show wpAny _ _ (eval (Expr.BoolOp _ (_ :: _ :: _ :: _) _) _) _ _ _); refine Stop.mk ?_))
def StrokeEnd (h₀ : Heap) (L ck : Addr) (m : Str → Option Value) (s : Shared) (v : Value) (s' : Shared) : Prop := ∃ y tk h' vs' k' tk', v = Value.str y tk ∧ (y = Str.ofString "" ∨ y = Str.ofString "/") ∧ Clock vs' ∧ Fr h₀ L h' m ∧ News h₀ L h' [(ck, W.listOf vs'.toArray k')] ∧ s' = { s with heap := h', toks := tk' }
theorem StrokeEnd.mk {h₀ : Heap} {L ck : Addr} {m : Str → Option Value} {s : Shared} {y : Str} {tk : Tok} {h' : Heap} {vs' : List Value} {k' tk' : Nat} (hy : y = Str.ofString "" ∨ y = Str.ofString "/") (hc : Clock vs') (F : Fr h₀ L h' m) (N : News h₀ L h' [(ck, W.listOf vs'.toArray k')]) : StrokeEnd h₀ L ck m s (.str y tk) { s with heap := h', toks := tk' } :=
  ⟨y, tk, h', vs', k', tk', rfl, hy, hc, F, N, rfl⟩
theorem join_stroke {M : Model} {A : Around} {t : Sem Value} {Q E : Value → Shared → Prop} {s : Shared} {h₀ : Heap} {L ck : Addr} {m : Str → Option Value} (_F : Fr h₀ L s.heap m) (h : wpAny M A t (StrokeEnd h₀ L ck m s) E s)
  (k : ∀ y tk h' vs' k' tk', (y = Str.ofString "" ∨ y = Str.ofString "/") → y.length ≤ 1 → Clock vs' → Fr h₀ L h' m → News h₀ L h' [(ck, W.listOf vs'.toArray k')] → Q (.str y tk) { s with heap := h', toks := tk' }) : wpAny M A t Q E s :=
  wpAny_mono h (fun v s' => by rintro ⟨z, tk, h', vs', k', tk', rfl, hz, h1, h2, h3, rfl⟩; exact k z tk h' vs' k' tk' hz (by rcases hz with h | h <;> rw [h] <;> decide +kernel) h1 h2 h3) (fun _ _ e => e)
local macro_rules | `(tactic| walk_at "call ref") => `(tactic| ((with_reducible show wpAny _ _ (call (Value.ref 309) _) _ _ _); refine Stop.mk ?_))
def RightEnd (s : Shared) (b : Bool) (v : Value) (s' : Shared) : Prop := ∃ k, v = .bool b ∧ s' = { s with toks := k }
theorem ne_same {prog : Program} {w : World} {A : Around} {E : Value → Shared → Prop} {s : Shared} {x : Str} {t u : Tok} {Q : Value → Shared → Prop} (h : Q (.bool false) s) : wpAny (model prog w) A (compareOp .NotEq (.str x t) (.str x u)) Q E s :=
  ne_str (by rw [show (x != x) = false from by simp]; exact h)
theorem eq_same {prog : Program} {w : World} {A : Around} {E : Value → Shared → Prop} {s : Shared} {x : Str} {t u : Tok} {Q : Value → Shared → Prop} (h : Q (.bool true) s) : wpAny (model prog w) A (compareOp .Eq (.str x t) (.str x u)) Q E s :=
  eq_str (by rw [show (x == x) = true from by simp]; exact h)
theorem rep_len (k : Nat) (z : Str) (h : tx z = List.replicate k 10) : z.length = k := by rw [← tx_len, h, List.length_replicate]
theorem mul_gen {prog : Program} {w : World} {A : Around} {E : Value → Shared → Prop} {s : Shared} {k : Int} {t u : Tok} {Q : Value → Shared → Prop} {b : Nat} (h0 : 0 ≤ k) (hk : k ≤ ((b : Nat) : Int)) (hb : Nat.ble b 50000 = true) (h : ∀ z t' k', tx z = List.replicate k.toNat 10 → (z.length : Int) = k → z.length ≤ b → Q (.str z t') { s with toks := k' }) : wpAny (model prog w) A (binaryOp .Mult (.str (Str.ofString "
") t) (.int k u)) Q E s := by
  have e : k = ((k.toNat : Nat) : Int) := by omega
  have hb' := Nat.le_of_ble_eq_true hb
  refine SB.mul (mulOk_of 1 100000 (by decide +kernel) (by omega) (by omega) (by decide) (by decide)) ?_
  intro t' k'
  have hz : tx (Txt.mul (Str.ofString "
") k) = List.replicate k.toNat 10 := by
    have := tx_mul k.toNat
    rw [← e] at this
    exact this
  exact h _ _ _ hz (by rw [rep_len _ _ hz]; omega) (by rw [rep_len _ _ hz]; omega)
theorem ne_tx {prog : Program} {w : World} {A : Around} {E : Value → Shared → Prop} {s : Shared} {x y : Str} {t u : Tok} {Q : Value → Shared → Prop} (e : tx x = tx y) (h : Q (.bool false) s) : wpAny (model prog w) A (compareOp .NotEq (.str x t) (.str y u)) Q E s := by
  have := tx_inj e
  subst this
  exact ne_same h
local macro_rules | `(tactic| walk_at "compareOp NotEq str str") => `(tactic| (with_reducible refine ne_same ?_))
local macro_rules | `(tactic| walk_at "compareOp NotEq str str") => `(tactic| refine ne_tx (hid_eq (by with_reducible assumption) (by with_reducible assumption) (by with_reducible assumption) (by omega)) ?_)
local macro_rules | `(tactic| walk_at "compareOp Eq str str") => `(tactic| with_reducible refine eq_same ?_)
local macro_rules | `(tactic| walk_at "binaryOp Mult str int") => `(tactic| (refine mul_gen (by first | exact Int.natCast_nonneg _ | exact pos_two) (by first | exact up_one (by with_reducible assumption) | exact up_two (by with_reducible assumption)) (by with_unfolding_all exact rfl) ?_; intro z9 _ _ hZ9 hE9 hL9))
local macro_rules | `(tactic| walk_at "call builtin:len") => `(tactic| ((with_reducible show wpAny _ _ (call (Value.builtin _) [Value.str _ _]) _ _ _); refine SBL.len (lt_big (by with_reducible assumption) (by with_unfolding_all exact rfl)) ?_))
theorem len_gen {prog : Program} {w : World} {A : Around} {E : Value → Shared → Prop} {s : Shared} {h₀ : Heap} {L D : Addr} {ys : List Value} {n : Nat} {news : List (Addr × Obj)} {Q : Value → Shared → Prop} (N : News h₀ L s.heap ((D, W.listOf ys.toArray n) :: news)) (hy : ys.length ≤ 50000) (h : ∀ t k, Q (.int ys.length t) { s with toks := k }) : wpAny (model prog w) A (call (.builtin "len") [.ref D]) Q E s :=
  len_list (News.isList N (.head _)) (by rw [List.size_toArray]; omega) (by rw [List.size_toArray]; exact h _ _)
local macro_rules | `(tactic| walk_at "call builtin:len") => `(tactic| ((with_reducible show wpAny _ _ (call (Value.builtin _) [Value.ref _]) _ _ _); refine len_gen (by assumption) (le_num (by with_reducible assumption) (by with_unfolding_all exact rfl)) ?_; intro _ _))
local macro_rules | `(tactic| walk_at "eval ListComp") => `(tactic| refine Stop.mk ?_)
theorem join_right {M : Model} {A : Around} {t : Sem Value} {Q E : Value → Shared → Prop} {s : Shared} (b : Bool) (h : wpAny M A t (RightEnd s b) E s) (k : ∀ k, Q (.bool b) { s with toks := k }) : wpAny M A t Q E s :=
  wpAny_mono h (fun v s' => by rintro ⟨k', rfl, rfl⟩; exact k k') (fun _ _ e => e)
local macro_rules | `(tactic| k_qdec) => `(tactic| decide +kernel)
theorem walk_w : ∃ (d : DefRec) (kwd : List (PySem.Str × PySem.Expr)), defOf vw (PySem.Str.ofString "law") = some (d, kwd) ∧
    WalkO vw [PySem.Str.ofString "GateloomError", PySem.Str.ofString "substitute"] (XL vw [])
      (kHook kx.heap_1 [2, 3, 15, 17, 18, 20, 21, 22, 24, 25, 27, 28, 29, 31, 32, 34, 35, 36, 38, 39, 41, 42, 43, 45, 46, 48, 49, 50, 52, 53, 55, 56, 57, 59, 60, 62, 63, 64, 71, 72, 74, 75, 77, 78, 79, 80, 81, 82, 85, 92, 93, 94, 97, 99, 100, 102, 103, 104, 106, 107, 109, 110, 111, 113, 114, 116, 117, 118, 120, 121, 123, 124, 125, 127, 128, 130, 131, 132, 134, 135, 137, 138, 139, 141, 142, 144, 145, 146, 148, 149, 151, 152, 153, 155, 156, 158, 159, 160, 162, 163, 165, 166, 167, 169, 170, 172, 173, 174, 175, 177, 178, 180, 181, 182, 184, 185, 187, 188, 196, 198, 199, 201, 202, 203, 204, 205, 206, 207, 217, 219, 220, 222, 223, 224, 227, 228, 229, 231, 232, 234, 235, 236, 237, 238, 239, 240, 250, 251, 253, 254, 256, 257, 258, 260, 261, 263, 264, 265, 267, 268, 270, 271, 272, 274, 275, 277, 278, 279, 281, 282, 284, 285, 286, 288, 289, 291, 292, 293, 295, 296, 298, 299, 300, 302, 303, 305, 306, 307, 308, 309, 310, 311, 314, 316, 317, 319, 320, 321, 323, 324, 326, 327, 328, 330, 331, 333, 334, 335, 337, 338, 340, 341, 342, 344, 345, 347, 348, 349, 352, 353] (fun _ => by kernel_rfl)).says
      PySem.Challenge.rw_rg0146_01.row.toRowW d kwd (fun f vs => PySem.call f vs) := ⟨_, _, rfl, by
  k_with_none
  k_go0
  (all_goals try k_fold)
  k_steps
  unfold Stop
  have hts : (Str.ofString "`timescale").length ≤ 10 := by decide +kernel
  have hsl : (Str.ofString "/").length ≤ 1 := by decide +kernel
  have hse : (Str.ofString "").length ≤ 0 := by decide +kernel
  have hif : (Str.ofString "`ifdef NONE\n").length ≤ 12 := by decide +kernel
  have hen : (Str.ofString "\n`endif q\n").length ≤ 10 := by decide +kernel
  have hq : (Str.ofString " q\n").length ≤ 3 := by decide +kernel
  k_dflt (refine' ticks_c _ _ _ _ (by assumption) ?kl _ _ _ _ _ _ _ _ _ _ _ _ _ _ _ _ _ _ _ _ ?k1 ?k2 ?k3 ?k4 ?k5 ?kK ?kd ?ku ?kS ?_)
  (case kl => omega)
  (case k1 => k_asm)
  (case k2 => k_asm)
  (case k3 => k_asm)
  (case k4 => k_asm)
  (case k5 => k_asm)
  (case kK => exact rfl)
  (case kd => ktr_room)
  (case ku => ktr_units)
  (case kS => assumption)
  intro ck vs0 k0 h0 tk0 hC0 F0 N0
  (try dsimp only)
  k_steps
  unfold Stop
  k_dflt (refine' useD (time_c _) _ ?k1 ?k2 ?k3 ?k4 ?k4s ?k5 ?kK ?kd ?ku ?kC ?kN ?_)
  (case k1 => k_asm)
  (case k2 => k_asm)
  (case k3 => k_asm)
  (case k4 => k_asm)
  (case k4s => first | exact sub_h | exact mem_d | exact mem_d2)
  (case k5 => k_asm)
  (case kK => first | exact rfl | assumption)
  (case kd => ktr_room)
  (case ku => ktr_units)
  (case kC => assumption)
  (case kN => exact no_mem)
  rintro r9 vs9 k9 own9 h9 tk9 hC9 ⟨tp9, y1, ty1, b1, rfl, rfl, hT1⟩ F9 N9
  (try simp only [List.cons_append, List.nil_append] at N9)
  (try dsimp only)
  have hl1 := time_len hT1
  k_steps
  unfold Stop
  (rename Fr _ _ _ _ => lF')
  refine join_stroke (ck := ck) lF' ?_ ?_
  · refine wpAny_IfExp ?_
    k_steps
    · exact StrokeEnd.mk (.inl rfl) (by assumption) (by k_asm) (by k_asm)
    · exact StrokeEnd.mk (.inr rfl) (by assumption) (by k_asm) (by k_asm)
  intro st tst h9 vs9 k9 tk9 hst hlst hC9 F9 N9
  (try dsimp only)
  k_steps
  unfold Stop
  k_dflt (refine' useD (time_c _) _ ?k1 ?k2 ?k3 ?k4 ?k4s ?k5 ?kK ?kd ?ku ?kC ?kN ?_)
  (case k1 => k_asm)
  (case k2 => k_asm)
  (case k3 => k_asm)
  (case k4 => k_asm)
  (case k4s => first | exact sub_h | exact mem_d | exact mem_d2)
  (case k5 => k_asm)
  (case kK => first | exact rfl | assumption)
  (case kd => ktr_room)
  (case ku => ktr_units)
  (case kC => assumption)
  (case kN => exact no_mem)
  rintro r9 vs9 k9 own9 h9 tk9 hC9 ⟨tp9, y2, ty2, b2, rfl, rfl, hT2⟩ F9 N9
  (try simp only [List.cons_append, List.nil_append] at N9)
  (try dsimp only)
  have hl2 := time_len hT2
  k_steps
  unfold Stop
  refine join_right (b1 && (b2 && (st != Str.ofString ""))) ?_ ?_
  · cases b1 <;> cases b2 <;> (refine BoolOp_and ?_; k_steps; exact ⟨_, rfl, rfl⟩)
  intro k9
  (try dsimp only)
  generalize hrb : (b1 && (b2 && (st != Str.ofString ""))) = rb
  k_steps
  obtain ⟨hD, htx, hbeh⟩ := chain (by with_reducible assumption) (by with_reducible assumption) (by with_reducible assumption) (by with_reducible assumption) (by with_reducible assumption) (by with_reducible assumption) (by with_reducible assumption) (by with_reducible assumption) (by with_reducible assumption) (by with_reducible assumption) (by with_reducible assumption) hT1 (by with_reducible assumption) hst (by with_reducible assumption) hT2 (by with_reducible assumption) (by with_reducible assumption)
  have hrun := run_text hD
  rw [← htx, hrb] at hrun
  have hcl := clean_of htx (txt_cl hD)
  unfold Stop
  k_dflt (refine' new_c _ _ _ _ _ _ _ _ _ _ _ _ _ _ _ _ _ _ _ _ _ ?k1 ?k2 ?k3 News.nil ?k5 ?kK ?kd ?ku ?_)
  (case k1 => k_asm)
  (case k2 => k_asm)
  (case k3 => k_asm)
  (case k5 => k_asm)
  (case kK => exact rfl)
  (case kd => ktr_room)
  (case ku => ktr_units)
  intro mx dx tb td mc om p v2 v3 v4 v5 v6 h8 tk8 hap hlo hom F8 N8
  simp only [MLed] at N8
  (try dsimp only)
  k_steps
  unfold Stop
  refine wpAny_IfExp ?_
  cases rb with
  | true =>
    k_steps
    unfold Stop
    have hdue := due_of (by with_reducible assumption) hbeh
    (rename News _ _ _ _ => lN')
    k_dflt (refine' lawx_c _ _ _ (le_num (by with_reducible assumption) (by with_unfolding_all exact rfl)) hcl _ hrun mx dx tb td mc om p v2 v3 v4 v5 v6 hap hlo hom _ _ _ _ _ _ _ _ _ _ _ _ _ _ _ [] _ _ _ ?k1 ?k2 ?k3 ?k4 ?k5 ?kK ?kd ?ku ?kx ?kt no_mem no_mem ?r1 ?r2)
    (case k1 => k_asm)
    (case k2 => k_asm)
    (case k3 => k_asm)
    (case k4 => exact cb_drop lN' mem_five)
    (case k5 => k_asm)
    (case kK => exact rfl)
    (case kd => ktr_room)
    (case ku => ktr_units)
    (case kx => k_asm)
    (case kt => k_asm)
    case r2 => intro j hj; cases hj
    case r1 =>
      intro out hres y ty p' v2' v3' v4' v5' v6' h9 tk9 hy F9 N9
      cases hres
      have hyz := tx_inj (hy.trans hdue.symm)
      subst hyz
      simp only [MLed, List.cons_append, List.nil_append] at N9
      (try dsimp only)
      k_steps
      unfold Stop
      (rename Fr _ _ _ _ => lF')
      (rename News _ _ _ _ => lN2')
      refine comp_nl lF' lN2' rfl (by decide +kernel) (by decide +kernel) rfl (by decide +kernel) (by decide +kernel) ?_ (by intro _; with_unfolding_all rfl)
      walk_at "eval Name"
      refine ⟨_, _, rfl, size_num (by with_reducible assumption) (by with_unfolding_all exact rfl), lF', lN2', ?_⟩
      intro D ys n hh' tkk F' N' hlen
      have hcn := Nat.le_trans (Nat.le_trans (Nat.le_of_eq hlen) (count_le _)) (by with_reducible assumption)
      (try dsimp only)
      k_steps
      unfold Stop
      have hhid := hid_of (by with_reducible assumption) (by with_reducible assumption)
      have hrun2 := run_hidden hD
      rw [← htx, ← hhid] at hrun2
      (rename News _ _ _ _ => lN3')
      k_dflt (refine' lawx_c _ _ _ (le_num (by with_reducible assumption) (by with_unfolding_all exact rfl)) (hid_cl hhid hcl) _ hrun2 mx dx tb td mc om p' v2' v3' v4' v5' v6' hap hlo hom _ _ _ _ _ _ _ _ _ _ _ _ _ _ _ [] _ _ _ ?k1 ?k2 ?k3 ?k4 ?k5 ?kK ?kd ?ku ?kx ?kt no_mem no_mem ?r1 ?r2)
      (case k1 => k_asm)
      (case k2 => k_asm)
      (case k3 => k_asm)
      (case k4 => first | exact cb_drop lN3' mem_five | exact cb_drop lN3' mem_s1 | exact cb_drop lN3' mem_s2 | exact cb_drop lN3' mem_s3)
      (case k5 => k_asm)
      (case kK => exact rfl)
      (case kd => ktr_room)
      (case ku => ktr_units)
      (case kx => k_asm)
      (case kt => k_asm)
      case r2 => intro j hj; cases hj
      case r1 =>
        intro out hres y2 ty2 p2 u2 u3 u4 u5 u6 h9 tk9 hy2 F9 N9
        cases hres
        simp only [MLed, List.cons_append, List.nil_append] at N9
        (try dsimp only)
        k_steps
        unfold Stop
        (rename News _ _ _ _ => lN4')
        k_dflt (refine' lawx_c _ _ _ again_len again_cl _ run_again mx dx tb td mc om p2 u2 u3 u4 u5 u6 hap hlo hom _ _ _ _ _ _ _ _ _ _ _ _ _ _ _ [] _ _ _ ?k1 ?k2 ?k3 ?k4 ?k5 ?kK ?kd ?ku ?kx ?kt no_mem no_mem ?r1 ?r2)
        (case k1 => k_asm)
        (case k2 => k_asm)
        (case k3 => k_asm)
        (case k4 => first | exact cb_drop lN4' mem_five | exact cb_drop lN4' mem_s1 | exact cb_drop lN4' mem_s2 | exact cb_drop lN4' mem_s3)
        (case k5 => k_asm)
        (case kK => exact rfl)
        (case kd => ktr_room)
        (case ku => ktr_units)
        (case kx => k_asm)
        (case kt => k_asm)
        case r2 => intro j hj; cases hj
        case r1 =>
          intro out hres y3 ty3 p3 w2 w3 w4 w5 w6 h9 tk9 hy3 F9 N9
          have hy3' := tx_inj (hy3.trans (by cases hres; rfl))
          subst hy3'
          simp only [MLed, List.cons_append, List.nil_append] at N9
          (try dsimp only)
          k_steps
  | false =>
    k_steps
    unfold Stop
    rw [tx_len] at hrun
    (rename News _ _ _ _ => lN')
    have hN5 := cb_drop lN' mem_last
    k_dflt (refine' lawx_c _ _ _ (le_num (by with_reducible assumption) (by with_unfolding_all exact rfl)) hcl _ hrun mx dx tb td mc om p v2 v3 v4 v5 v6 hap hlo hom _ _ _ _ _ _ _ _ _ _ _ _ _ _ _ [_] _ _ _ ?k1 ?k2 ?k3 ?k4 ?k5 ?kK ?kd ?ku ?kx ?kt ?n1 ?n2 ?r1 ?r2)
    (case k1 => k_asm)
    (case k2 => k_asm)
    (case k3 => k_asm)
    (case k4 => exact hN5)
    (case n1 => exact ne_cons (lt_ne (by omega)) no_mem)
    (case n2 => exact ne_cons (lt_ne (by omega)) no_mem)
    (case k5 => k_asm)
    (case kK => exact rfl)
    (case kd => ktr_room)
    (case ku => ktr_units)
    (case kx => k_asm)
    (case kt => k_asm)
    case r1 => intro out hj; cases hj
    case r2 =>
      intro j hres tp2 ub ta p' v2' v3' v4' v5' v6' h9 tk9 F9 N9
      cases hres
      simp only [MLed, List.cons_append, List.nil_append] at N9
      (try dsimp only)
      k_steps
      unfold Stop
      (rename Fr _ _ _ _ => lF')
      (rename News _ _ _ _ => lN2')
      refine comp_nl lF' lN2' rfl (by decide +kernel) (by decide +kernel) rfl (by decide +kernel) (by decide +kernel) ?_ (by intro _; with_unfolding_all rfl)
      walk_at "eval Name"
      refine ⟨_, _, rfl, size_num (by with_reducible assumption) (by with_unfolding_all exact rfl), lF', lN2', ?_⟩
      intro D ys n hh' tkk F' N' hlen
      have hcn := Nat.le_trans (Nat.le_trans (Nat.le_of_eq hlen) (count_le _)) (by with_reducible assumption)
      (try dsimp only)
      k_steps
      unfold Stop
      have hhid := hid_of (by with_reducible assumption) (by with_reducible assumption)
      have hrun2 := run_hidden hD
      rw [← htx, ← hhid] at hrun2
      (rename News _ _ _ _ => lN3')
      k_dflt (refine' lawx_c _ _ _ (le_num (by with_reducible assumption) (by with_unfolding_all exact rfl)) (hid_cl hhid hcl) _ hrun2 mx dx tb td mc om p' v2' v3' v4' v5' v6' hap hlo hom _ _ _ _ _ _ _ _ _ _ _ _ _ _ _ [] _ _ _ ?k1 ?k2 ?k3 ?k4 ?k5 ?kK ?kd ?ku ?kx ?kt no_mem no_mem ?r1 ?r2)
      (case k1 => k_asm)
      (case k2 => k_asm)
      (case k3 => k_asm)
      (case k4 => first | exact cb_drop lN3' mem_five | exact cb_drop lN3' mem_s1 | exact cb_drop lN3' mem_s2 | exact cb_drop lN3' mem_s3)
      (case k5 => k_asm)
      (case kK => exact rfl)
      (case kd => ktr_room)
      (case ku => ktr_units)
      (case kx => k_asm)
      (case kt => k_asm)
      case r2 => intro j hj; cases hj
      case r1 =>
        intro out hres y2 ty2 p2 u2 u3 u4 u5 u6 h9 tk9 hy2 F9 N9
        cases hres
        simp only [MLed, List.cons_append, List.nil_append] at N9
        (try dsimp only)
        k_steps
        unfold Stop
        (rename News _ _ _ _ => lN4')
        k_dflt (refine' lawx_c _ _ _ again_len again_cl _ run_again mx dx tb td mc om p2 u2 u3 u4 u5 u6 hap hlo hom _ _ _ _ _ _ _ _ _ _ _ _ _ _ _ [] _ _ _ ?k1 ?k2 ?k3 ?k4 ?k5 ?kK ?kd ?ku ?kx ?kt no_mem no_mem ?r1 ?r2)
        (case k1 => k_asm)
        (case k2 => k_asm)
        (case k3 => k_asm)
        (case k4 => first | exact cb_drop lN4' mem_five | exact cb_drop lN4' mem_s1 | exact cb_drop lN4' mem_s2 | exact cb_drop lN4' mem_s3)
        (case k5 => k_asm)
        (case kK => exact rfl)
        (case kd => ktr_room)
        (case ku => ktr_units)
        (case kx => k_asm)
        (case kt => k_asm)
        case r2 => intro j hj; cases hj
        case r1 =>
          intro out hres y3 ty3 p3 w2 w3 w4 w5 w6 h9 tk9 hy3 F9 N9
          have hy3' := tx_inj (hy3.trans (by cases hres; rfl))
          subst hy3'
          simp only [MLed, List.cons_append, List.nil_append] at N9
          (try dsimp only)
          k_steps⟩
end Mine
namespace Mine
theorem fresh_FIN : True := by
  first | row_walk | exact True.intro
theorem to_all {A B : Type} {o : Option (A × B)} {P : A → B → Prop} (h : ∃ a b, o = some (a, b) ∧ P a b) (a : A) (b : B) (e : o = some (a, b)) : P a b := by
  obtain ⟨a', b', e', p⟩ := h
  rw [e'] at e
  cases e
  exact p
-- the head's work lays, for each of its 332 own constants, a twin that it does not need (50 MB in all); it lays none where the name is taken
theorem fin.tw10070804522480449196 : True := True.intro
theorem fin.tw1012361349325877821 : True := True.intro
theorem fin.tw1014637456484912126 : True := True.intro
theorem fin.tw10147658903529517814 : True := True.intro
theorem fin.tw10196768644732416780 : True := True.intro
theorem fin.tw10212952176985394431 : True := True.intro
theorem fin.tw10242451874928486539 : True := True.intro
theorem fin.tw10329872625359487480 : True := True.intro
theorem fin.tw10383673109516279431 : True := True.intro
theorem fin.tw10391319463526535247 : True := True.intro
theorem fin.tw10567028658651823492 : True := True.intro
theorem fin.tw10580198807604790814 : True := True.intro
theorem fin.tw10599938827571368224 : True := True.intro
theorem fin.tw10631971776571026366 : True := True.intro
theorem fin.tw10671828304227620169 : True := True.intro
theorem fin.tw10829458402184033698 : True := True.intro
theorem fin.tw10852849658779182186 : True := True.intro
theorem fin.tw10874316729293906858 : True := True.intro
theorem fin.tw10875463905939285979 : True := True.intro
theorem fin.tw11040825799340251285 : True := True.intro
theorem fin.tw111200028466390044 : True := True.intro
theorem fin.tw11154830654865731599 : True := True.intro
theorem fin.tw11192643925408225281 : True := True.intro
theorem fin.tw11273041486466551846 : True := True.intro
theorem fin.tw11293339424137598113 : True := True.intro
theorem fin.tw11298980531735778240 : True := True.intro
theorem fin.tw11336253725339858928 : True := True.intro
theorem fin.tw11454252539852477091 : True := True.intro
theorem fin.tw11466478281803324712 : True := True.intro
theorem fin.tw11575174756993882273 : True := True.intro
theorem fin.tw11587955951900863698 : True := True.intro
theorem fin.tw11615019562542576733 : True := True.intro
theorem fin.tw11897717083992391400 : True := True.intro
theorem fin.tw11953781441336167498 : True := True.intro
theorem fin.tw12105171945263650130 : True := True.intro
theorem fin.tw12118000046449163591 : True := True.intro
theorem fin.tw12135189313929291683 : True := True.intro
theorem fin.tw12180539936304867106 : True := True.intro
theorem fin.tw12212933522069011988 : True := True.intro
theorem fin.tw12284014389350100970 : True := True.intro
theorem fin.tw12291753297600562012 : True := True.intro
theorem fin.tw12355744275394475900 : True := True.intro
theorem fin.tw12404002251894628427 : True := True.intro
theorem fin.tw12409915417874342407 : True := True.intro
theorem fin.tw12448240930570709186 : True := True.intro
theorem fin.tw12464766053444552404 : True := True.intro
theorem fin.tw12494888245299231016 : True := True.intro
theorem fin.tw1252854909445205041 : True := True.intro
theorem fin.tw12550770813317053977 : True := True.intro
theorem fin.tw12567809125941998234 : True := True.intro
theorem fin.tw12649782002744950493 : True := True.intro
theorem fin.tw12669758225909598566 : True := True.intro
theorem fin.tw12696600883282566439 : True := True.intro
theorem fin.tw12711679700452659978 : True := True.intro
theorem fin.tw12740692763255036000 : True := True.intro
theorem fin.tw12751662967071866640 : True := True.intro
theorem fin.tw12829507556594621215 : True := True.intro
theorem fin.tw12962497063298326498 : True := True.intro
theorem fin.tw12977279227502587607 : True := True.intro
theorem fin.tw12996517811204074000 : True := True.intro
theorem fin.tw13162651487661262736 : True := True.intro
theorem fin.tw13177410634674063896 : True := True.intro
theorem fin.tw13199158710529813207 : True := True.intro
theorem fin.tw13294311002278339166 : True := True.intro
theorem fin.tw13337293482115323266 : True := True.intro
theorem fin.tw13383306551100868464 : True := True.intro
theorem fin.tw13467322939085005891 : True := True.intro
theorem fin.tw13516622038369049944 : True := True.intro
theorem fin.tw13724452099449386491 : True := True.intro
theorem fin.tw13790858721211988464 : True := True.intro
theorem fin.tw13870153662132920491 : True := True.intro
theorem fin.tw13898374239775968522 : True := True.intro
theorem fin.tw13925877587632400325 : True := True.intro
theorem fin.tw13929302177132474383 : True := True.intro
theorem fin.tw1397303283331804279 : True := True.intro
theorem fin.tw14109310954907245088 : True := True.intro
theorem fin.tw14139026862911339306 : True := True.intro
theorem fin.tw1422313219903470601 : True := True.intro
theorem fin.tw14245171486683049214 : True := True.intro
theorem fin.tw14319609925084042718 : True := True.intro
theorem fin.tw14347400895652799225 : True := True.intro
theorem fin.tw14497727239971306367 : True := True.intro
theorem fin.tw14517287926952318261 : True := True.intro
theorem fin.tw14560573928864763818 : True := True.intro
theorem fin.tw14568449535678555946 : True := True.intro
theorem fin.tw14574801432027512755 : True := True.intro
theorem fin.tw14578271805448956485 : True := True.intro
theorem fin.tw15149952090015108872 : True := True.intro
theorem fin.tw15205425988870721313 : True := True.intro
theorem fin.tw15309079848183770524 : True := True.intro
theorem fin.tw15344004072050561172 : True := True.intro
theorem fin.tw1535588207084551279 : True := True.intro
theorem fin.tw15399907426655090358 : True := True.intro
theorem fin.tw15429735469372272745 : True := True.intro
theorem fin.tw1544503264643628384 : True := True.intro
theorem fin.tw15533503492667675913 : True := True.intro
theorem fin.tw15564276425815640635 : True := True.intro
theorem fin.tw15566928917628492161 : True := True.intro
theorem fin.tw15583698165555649274 : True := True.intro
theorem fin.tw15621619335703214680 : True := True.intro
theorem fin.tw15675102808854859970 : True := True.intro
theorem fin.tw15741700470354863883 : True := True.intro
theorem fin.tw15815952407149668801 : True := True.intro
theorem fin.tw15832999045522443761 : True := True.intro
theorem fin.tw1608889593578281727 : True := True.intro
theorem fin.tw16109372258727991565 : True := True.intro
theorem fin.tw16115155874713506467 : True := True.intro
theorem fin.tw1613116972386908190 : True := True.intro
theorem fin.tw16175276709679454751 : True := True.intro
theorem fin.tw16196181902256332553 : True := True.intro
theorem fin.tw16205109500356779066 : True := True.intro
theorem fin.tw16229209127682248589 : True := True.intro
theorem fin.tw16237762584071213788 : True := True.intro
theorem fin.tw1625080806587739848 : True := True.intro
theorem fin.tw16256441300576474876 : True := True.intro
theorem fin.tw16275787546110486726 : True := True.intro
theorem fin.tw16278941019865985976 : True := True.intro
theorem fin.tw16285329926789087883 : True := True.intro
theorem fin.tw16307707646766795581 : True := True.intro
theorem fin.tw1635022588487117616 : True := True.intro
theorem fin.tw16401934584784274106 : True := True.intro
theorem fin.tw16496857829328116044 : True := True.intro
theorem fin.tw16502652511500755 : True := True.intro
theorem fin.tw16510490156224867327 : True := True.intro
theorem fin.tw16570786720924097770 : True := True.intro
theorem fin.tw16656299143469825513 : True := True.intro
theorem fin.tw16906536467411238026 : True := True.intro
theorem fin.tw16958243865122950064 : True := True.intro
theorem fin.tw17041991840579044601 : True := True.intro
theorem fin.tw17044926110692905683 : True := True.intro
theorem fin.tw17067295170570645592 : True := True.intro
theorem fin.tw17123178472405020103 : True := True.intro
theorem fin.tw17130245016438642246 : True := True.intro
theorem fin.tw17164383140453370395 : True := True.intro
theorem fin.tw17197158672614542318 : True := True.intro
theorem fin.tw17204297501091165112 : True := True.intro
theorem fin.tw17260493314774615805 : True := True.intro
theorem fin.tw17347454772498655404 : True := True.intro
theorem fin.tw17416127249078093707 : True := True.intro
theorem fin.tw17570709534508481193 : True := True.intro
theorem fin.tw17656766251404061198 : True := True.intro
theorem fin.tw17662344363894024548 : True := True.intro
theorem fin.tw17698704350827878285 : True := True.intro
theorem fin.tw17717364068325071970 : True := True.intro
theorem fin.tw17719728818120068181 : True := True.intro
theorem fin.tw17745666023917231748 : True := True.intro
theorem fin.tw17784850919643140607 : True := True.intro
theorem fin.tw17801579834951734752 : True := True.intro
theorem fin.tw17821466097196317003 : True := True.intro
theorem fin.tw17861066769153400444 : True := True.intro
theorem fin.tw17869975865946814897 : True := True.intro
theorem fin.tw17896612028031085017 : True := True.intro
theorem fin.tw17933470926392208243 : True := True.intro
theorem fin.tw17963964198891936676 : True := True.intro
theorem fin.tw18082680734076937219 : True := True.intro
theorem fin.tw18105942590061964161 : True := True.intro
theorem fin.tw18195182924450695511 : True := True.intro
theorem fin.tw18230178534529381785 : True := True.intro
theorem fin.tw18255404467826089762 : True := True.intro
theorem fin.tw18295790063311454060 : True := True.intro
theorem fin.tw18373065035072037172 : True := True.intro
theorem fin.tw18387650150990424433 : True := True.intro
theorem fin.tw18435385816712660198 : True := True.intro
theorem fin.tw1887099378405440850 : True := True.intro
theorem fin.tw1921391257341544841 : True := True.intro
theorem fin.tw1963134401048803436 : True := True.intro
theorem fin.tw1976505206021243879 : True := True.intro
theorem fin.tw1982079694162106894 : True := True.intro
theorem fin.tw2086631506510373192 : True := True.intro
theorem fin.tw216489041496292469 : True := True.intro
theorem fin.tw2236755162388048479 : True := True.intro
theorem fin.tw2305881189932309285 : True := True.intro
theorem fin.tw2321816554428607280 : True := True.intro
theorem fin.tw2367325634123391141 : True := True.intro
theorem fin.tw2415902012162501839 : True := True.intro
theorem fin.tw2442088684621408810 : True := True.intro
theorem fin.tw2462912638960843985 : True := True.intro
theorem fin.tw2512408688544751470 : True := True.intro
theorem fin.tw251868834278440796 : True := True.intro
theorem fin.tw2537931557510868981 : True := True.intro
theorem fin.tw2656788454239962097 : True := True.intro
theorem fin.tw2824846461999071874 : True := True.intro
theorem fin.tw2910385600587045654 : True := True.intro
theorem fin.tw2976117146107443816 : True := True.intro
theorem fin.tw3004984022683251337 : True := True.intro
theorem fin.tw3105451386036433885 : True := True.intro
theorem fin.tw3112429581023547943 : True := True.intro
theorem fin.tw3173534031939492945 : True := True.intro
theorem fin.tw3199103547748192838 : True := True.intro
theorem fin.tw3222278782482380304 : True := True.intro
theorem fin.tw3263211703599914710 : True := True.intro
theorem fin.tw3268265519342814607 : True := True.intro
theorem fin.tw3314143786362844604 : True := True.intro
theorem fin.tw333583748066197110 : True := True.intro
theorem fin.tw3343445320678177929 : True := True.intro
theorem fin.tw3404873503106905745 : True := True.intro
theorem fin.tw3456623496861543869 : True := True.intro
theorem fin.tw3459265974087741279 : True := True.intro
theorem fin.tw3598329298470268980 : True := True.intro
theorem fin.tw3599858809825778643 : True := True.intro
theorem fin.tw3683778510129048087 : True := True.intro
theorem fin.tw3762306804915933987 : True := True.intro
theorem fin.tw3812028171767442716 : True := True.intro
theorem fin.tw3837020019201816242 : True := True.intro
theorem fin.tw3974152918291533672 : True := True.intro
theorem fin.tw3975253019698251321 : True := True.intro
theorem fin.tw3998398428148030388 : True := True.intro
theorem fin.tw4040260094072895976 : True := True.intro
theorem fin.tw4162185377826839926 : True := True.intro
theorem fin.tw4170516301191304579 : True := True.intro
theorem fin.tw4171678462856256454 : True := True.intro
theorem fin.tw4209717502836232480 : True := True.intro
theorem fin.tw4218790737952374519 : True := True.intro
theorem fin.tw4265850918314828415 : True := True.intro
theorem fin.tw428092273266315144 : True := True.intro
theorem fin.tw4312942655851389009 : True := True.intro
theorem fin.tw4326780796455107134 : True := True.intro
theorem fin.tw452842511749404161 : True := True.intro
theorem fin.tw4570111826955561243 : True := True.intro
theorem fin.tw4588413851689716618 : True := True.intro
theorem fin.tw4640724917100965312 : True := True.intro
theorem fin.tw4719063310657182621 : True := True.intro
theorem fin.tw4754365596532378047 : True := True.intro
theorem fin.tw4768634762848416435 : True := True.intro
theorem fin.tw4769821431679368130 : True := True.intro
theorem fin.tw4788878847521262168 : True := True.intro
theorem fin.tw480829909506669009 : True := True.intro
theorem fin.tw4868334931027891882 : True := True.intro
theorem fin.tw4878226113927451544 : True := True.intro
theorem fin.tw4879674094562380441 : True := True.intro
theorem fin.tw4898026214463823928 : True := True.intro
theorem fin.tw4924110625330727750 : True := True.intro
theorem fin.tw4928979718650693569 : True := True.intro
theorem fin.tw4950403968356008110 : True := True.intro
theorem fin.tw5011121235533021005 : True := True.intro
theorem fin.tw5071919506433949198 : True := True.intro
theorem fin.tw5073790198343104882 : True := True.intro
theorem fin.tw5293390819737331289 : True := True.intro
theorem fin.tw5320702786494000081 : True := True.intro
theorem fin.tw5402249366112354979 : True := True.intro
theorem fin.tw544173102793226557 : True := True.intro
theorem fin.tw5486226609284752418 : True := True.intro
theorem fin.tw5553828753138908606 : True := True.intro
theorem fin.tw5615129895364139138 : True := True.intro
theorem fin.tw5647864574477489665 : True := True.intro
theorem fin.tw5678346346211369953 : True := True.intro
theorem fin.tw5734618986648460908 : True := True.intro
theorem fin.tw5776136370200156792 : True := True.intro
theorem fin.tw5796354222422608987 : True := True.intro
theorem fin.tw5805905742469029177 : True := True.intro
theorem fin.tw5897612983314593646 : True := True.intro
theorem fin.tw5901363791540438844 : True := True.intro
theorem fin.tw6068950659093879613 : True := True.intro
theorem fin.tw6127190174262240918 : True := True.intro
theorem fin.tw612862322836996645 : True := True.intro
theorem fin.tw617011020343161139 : True := True.intro
theorem fin.tw6207176494656529804 : True := True.intro
theorem fin.tw6232080684201472732 : True := True.intro
theorem fin.tw6312189749755456842 : True := True.intro
theorem fin.tw6323506392446703087 : True := True.intro
theorem fin.tw6381419901266130222 : True := True.intro
theorem fin.tw6435670951450185984 : True := True.intro
theorem fin.tw6449190631224713292 : True := True.intro
theorem fin.tw6454446336052903152 : True := True.intro
theorem fin.tw6455845175183424153 : True := True.intro
theorem fin.tw6498334528663615478 : True := True.intro
theorem fin.tw6515953530934532768 : True := True.intro
theorem fin.tw6531376189190222733 : True := True.intro
theorem fin.tw6567050819087999508 : True := True.intro
theorem fin.tw6634307039904815820 : True := True.intro
theorem fin.tw6667815254911646788 : True := True.intro
theorem fin.tw670465573061467203 : True := True.intro
theorem fin.tw6707113841082798463 : True := True.intro
theorem fin.tw6712194924023145494 : True := True.intro
theorem fin.tw6718411051458867188 : True := True.intro
theorem fin.tw6766378078585498003 : True := True.intro
theorem fin.tw6766580051018981234 : True := True.intro
theorem fin.tw6956187926921108005 : True := True.intro
theorem fin.tw7055459427971326715 : True := True.intro
theorem fin.tw7249652514872940865 : True := True.intro
theorem fin.tw7321584467024264148 : True := True.intro
theorem fin.tw744865244796547220 : True := True.intro
theorem fin.tw7451905468542833597 : True := True.intro
theorem fin.tw7522001649326652513 : True := True.intro
theorem fin.tw7547296005191728479 : True := True.intro
theorem fin.tw757079261281740938 : True := True.intro
theorem fin.tw7613857476909055813 : True := True.intro
theorem fin.tw7613945582906998725 : True := True.intro
theorem fin.tw7675655780812522254 : True := True.intro
theorem fin.tw7684487725183542926 : True := True.intro
theorem fin.tw7740688021903297510 : True := True.intro
theorem fin.tw7779959011674639804 : True := True.intro
theorem fin.tw7783950685163080668 : True := True.intro
theorem fin.tw7803649310394182010 : True := True.intro
theorem fin.tw7845872953664198349 : True := True.intro
theorem fin.tw7890596953891613788 : True := True.intro
theorem fin.tw7976502392129159676 : True := True.intro
theorem fin.tw799341379326975648 : True := True.intro
theorem fin.tw7995362448368537469 : True := True.intro
theorem fin.tw8018989035897545986 : True := True.intro
theorem fin.tw8025084765662995669 : True := True.intro
theorem fin.tw8269367382603917829 : True := True.intro
theorem fin.tw8272817396058243321 : True := True.intro
theorem fin.tw8330952907988395303 : True := True.intro
theorem fin.tw8383268338085895543 : True := True.intro
theorem fin.tw8399098705505230059 : True := True.intro
theorem fin.tw8407763462206997481 : True := True.intro
theorem fin.tw8416529770105884409 : True := True.intro
theorem fin.tw846297522682114974 : True := True.intro
theorem fin.tw8559517257967667466 : True := True.intro
theorem fin.tw8577089030196625639 : True := True.intro
theorem fin.tw8590288500278120515 : True := True.intro
theorem fin.tw8643116662766533202 : True := True.intro
theorem fin.tw8656503046869711584 : True := True.intro
theorem fin.tw876206183137641144 : True := True.intro
theorem fin.tw891787732878383699 : True := True.intro
theorem fin.tw8919302590299486024 : True := True.intro
theorem fin.tw8947099994592609211 : True := True.intro
theorem fin.tw9001875181463519149 : True := True.intro
theorem fin.tw9113340658982188547 : True := True.intro
theorem fin.tw9218923581257491847 : True := True.intro
theorem fin.tw9260378047223084069 : True := True.intro
theorem fin.tw9363291351745731410 : True := True.intro
theorem fin.tw9387745189664136937 : True := True.intro
theorem fin.tw9544026089342320630 : True := True.intro
theorem fin.tw9722632081671974098 : True := True.intro
theorem fin.tw9725021084223525626 : True := True.intro
theorem fin.tw9735714214384596553 : True := True.intro
theorem fin.tw9746214513668125432 : True := True.intro
theorem fin.tw9746901515087519452 : True := True.intro
theorem fin.tw9806666330580929782 : True := True.intro
theorem fin.tw999798209818781672 : True := True.intro
set_option Elab.async true in
theorem fin : PySem.Challenge.rw_rg0146_01.Holds := by
  w_on
  o_law
  k_head
  (case hw => w_witness2)
  have W := to_all walk_w
  exact W _ _ rfl
end Mine

theorem PySem.Challenge.cw_rg0146_01_holds : PySem.Challenge.rw_rg0146_01.Holds := by
  exact Mine.fin
