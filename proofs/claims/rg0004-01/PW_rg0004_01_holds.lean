import PyProof.Rows.All
import Wide.All
import OpenK.AllK
import Wide.FinOn
import PySem.Challenge.RW_rg0004_01
open PySem PySem.W PyProof.Rows
set_option Elab.async false
namespace Rg
set_option maxRecDepth 100000 in
set_option synthInstance.maxSize 1 in
set_option maxHeartbeats 8000000 in
open_top hd for PySem.Challenge.rw_rg0004_01
end Rg

namespace Rg
open PySem.Spec PySem.Calls
/-- what a call by value says: it gives what Out says, the caller's frame and ledger as they stood but for what is laid on top -/
abbrev Tel (w : World) (D U : Nat) (f : Addr) (vs : List Value) (pre : Prop) (news : List (Addr × Obj)) (Out : Value → List (Addr × Obj) → Prop) : Prop :=
  ∀ (mean : ExcName → Option Value) (mg mb : Str → Option Value) (dp un : Nat) (gd : Option (List Code)) (cn : Str) (cs : Scope) (a : Addr) (ccd : Value) (cl : List (Str × Addr)) (outer : List Env) (A₀ : Around) (base h₀ : Heap) (L : Addr) (m : Str → Option Value) (s : Shared) (Q E : Value → Shared → Prop),
    Below A₀ base outer h₀ → Fr h₀ L s.heap m → (Rg.hd.heap_39 w.params).In h₀ → News h₀ L s.heap news → Top Rg.hd.view_39 (looseW Rg.hd.view_39 []) mean mg mb h₀ → cs.kind = .function →
    pre → dp + D < recursionLimit → un + U < cLine → (∀ v tl h' tk', Fr h₀ L h' m → News h₀ L h' (tl ++ news) → Out v tl → Q v { s with heap := h', toks := tk' }) →
    wpAny (model PySem.Challenge.rw_rg0004_01.row.prog w) (ktrTop dp un gd cn cs L a ccd cl outer) (call (.ref f) vs) Q E s
noncomputable def OutS (y : PySem.Str) (v : Value) (tl : List (Addr × Obj)) : Prop := tl = [] ∧ ∃ t, v = .str y t
noncomputable def OutI (y : Int) (v : Value) (tl : List (Addr × Obj)) : Prop := tl = [] ∧ ∃ t, v = .int y t
noncomputable def OutB (y : Bool) (v : Value) (tl : List (Addr × Obj)) : Prop := tl = [] ∧ v = .bool y
theorem outS {x y : PySem.Str} {t : Tok} (h : x = y) : OutS y (.str x t) [] := ⟨rfl, t, by rw [h]⟩
theorem outI {x y : Int} {t : Tok} (h : x = y) : OutI y (.int x t) [] := ⟨rfl, t, by rw [h]⟩
theorem outB {x y : Bool} (h : x = y) : OutB y (.bool x) [] := ⟨rfl, by rw [h]⟩
end Rg

namespace Rg
open PySem.Spec PySem.Calls
set_option maxRecDepth 100000
noncomputable def lowC (c : Nat) : Nat := if 65 ≤ c ∧ c ≤ 90 then c + 32 else c
theorem lt_A (c : Nat) : [c] < (PySem.Str.ofString "A").cps.toList ↔ c < 65 := by
  rw [show (PySem.Str.ofString "A").cps.toList = [65] from by decide]
  simp [List.cons_lt_cons_iff]
theorem lt_Z (c : Nat) : (PySem.Str.ofString "Z").cps.toList < [c] ↔ 90 < c := by
  rw [show (PySem.Str.ofString "Z").cps.toList = [90] from by decide]
  simp [List.cons_lt_cons_iff]
set_option maxHeartbeats 4000000 in
theorem small_spec (w : World) (c : Nat) (hc : c < 128) (t : Tok) (news : List (Addr × Obj)) : Tel w 1 8 88 [.str ⟨#[c]⟩ t] True news (OutS ⟨#[lowC c]⟩) := by
  unfold Tel
  k_fill
  k_with_none
  intro mean mg mb dp un gd cn cs a ccd cl outer A₀ base h₀ L m s Q E B F X N T hk hp hd hu hret
  refine wpAny_call ?_
  k_dflt cell_enter
  k_steps
  all_goals (refine hret _ [] _ _ (by assumption) (by assumption) (outS ?_); (simp only [lt_A, lt_Z, lowC] at *))
  · rw [if_neg]; omega
  · rw [if_neg]; omega
  · rw [if_pos (show 65 ≤ c ∧ c ≤ 90 by omega)]; congr
end Rg

namespace Rg
open PySem.Spec PySem.Calls
set_option maxRecDepth 100000
/-- to use what a call says -/
theorem tel_use {w : World} {D U : Nat} {f : Addr} {vs : List Value} {pre : Prop} {news : List (Addr × Obj)} {Out : Value → List (Addr × Obj) → Prop}
    {mean : ExcName → Option Value} {mg mb : Str → Option Value} {dp un : Nat} {gd : Option (List Code)} {cn : Str} {cs : Scope} {a : Addr} {ccd : Value} {cl : List (Str × Addr)} {outer : List Env} {A₀ : Around} {base h₀ : Heap} {L : Addr} {m : Str → Option Value} {s : Shared} {Q E : Value → Shared → Prop}
    (C : Tel w D U f vs pre news Out) (B : Below A₀ base outer h₀) (F : Fr h₀ L s.heap m) (X : (Rg.hd.heap_39 w.params).In h₀) (N : News h₀ L s.heap news) (T : Top Rg.hd.view_39 (looseW Rg.hd.view_39 []) mean mg mb h₀) (hk : cs.kind = .function)
    (hp : pre) (hd : dp + D < recursionLimit) (hu : un + U < cLine) (ret : ∀ v tl h' tk', Fr h₀ L h' m → News h₀ L h' (tl ++ news) → Out v tl → Q v { s with heap := h', toks := tk' }) :
    wpAny (model PySem.Challenge.rw_rg0004_01.row.prog w) (ktrTop dp un gd cn cs L a ccd cl outer) (call (.ref f) vs) Q E s :=
  C mean mg mb dp un gd cn cs a ccd cl outer A₀ base h₀ L m s Q E B F X N T hk hp hd hu ret
noncomputable def chr (x : PySem.Str) (e : Int) : Nat := (Txt.charAt x e).getD 0
theorem item_chr (x : PySem.Str) (e : Int) : Txt.item x e = ⟨#[chr x e]⟩ := rfl
theorem chr_ok {x : PySem.Str} (hc : ∀ c ∈ x.cps.toList, c < 128 ∧ c ≠ 95) (e : Int) : chr x e < 128 ∧ chr x e ≠ 95 := by
  unfold chr Txt.charAt
  cases seqIndex? e x.length with
  | none => exact (by decide : (0 : Nat) < 128 ∧ (0 : Nat) ≠ 95)
  | some i =>
    show (x.cps[i]?.getD 0) < 128 ∧ (x.cps[i]?.getD 0) ≠ 95
    cases h : x.cps[i]? with
    | none => exact (by decide : (0 : Nat) < 128 ∧ (0 : Nat) ≠ 95)
    | some c => exact hc c (by rw [← Array.getElem?_toList] at h; exact List.mem_of_getElem? h)
theorem drop_chr {x : PySem.Str} {e : Int} (h0 : 0 ≤ e) (h1 : e < x.length) : x.cps.toList.drop e.toNat = chr x e :: x.cps.toList.drop (e + 1).toNat := by
  have hl : e.toNat < x.cps.toList.length := by simp only [PySem.Str.length, Array.length_toList] at h1 ⊢; omega
  rw [List.drop_eq_getElem_cons hl, show (e + 1).toNat = e.toNat + 1 by omega]
  congr 1
  unfold chr Txt.charAt
  have hs : seqIndex? e x.length = some e.toNat := by
    unfold seqIndex?
    have : ¬ e < 0 := by omega
    simp [this]
    omega
  rw [hs]
  have : x.cps[e.toNat]? = some (x.cps.toList[e.toNat]) := by
    rw [← Array.getElem?_toList, List.getElem?_eq_getElem hl]
  simp only [Option.bind_some, this, Option.getD_some]
noncomputable def worth (c : Nat) : Int := if 48 ≤ c ∧ c ≤ 57 then (c : Int) - 48 else if 97 ≤ lowC c ∧ lowC c ≤ 102 then (lowC c : Int) - 87 else -1
theorem worth_le (c : Nat) : -1 ≤ worth c ∧ worth c ≤ 15 := by
  unfold worth
  split
  · omega
  · split <;> omega
theorem find_worth {c : Nat} (h : c < 128) : Txt.find (PySem.Str.ofString "0123456789abcdef") ⟨#[lowC c]⟩ = worth c :=
  (by decide +kernel : ∀ c, c < 128 → Txt.find (PySem.Str.ofString "0123456789abcdef") ⟨#[lowC c]⟩ = worth c) c h
section
variable {prog : Program} {w : World} {A : Around} {E : Value → Shared → Prop} {s : Shared} {t u : Tok} {Q : Value → Shared → Prop}
theorem cmp_us {x : PySem.Str} {e : Int} (hc : ∀ c ∈ x.cps.toList, c < 128 ∧ c ≠ 95) (h : Q (.bool false) s) : wpAny (model prog w) A (compareOp .Eq (.str (Txt.item x e) t) (.str (PySem.Str.ofString "_") u)) Q E s := by
  refine PyProof.Rows.eq_str ?_
  have hn : (Txt.item x e == PySem.Str.ofString "_") = false := by
    rw [item_chr, beq_eq_false_iff_ne]
    intro q
    have q2 : (⟨#[chr x e]⟩ : PySem.Str).cps.toList = [95] := by rw [q]; decide
    have q3 : chr x e = 95 := by simpa using q2
    exact (chr_ok hc e).2 q3
  rw [hn]; exact h
theorem find_fig {c : Nat} (hc : c < 128) (h : -1 ≤ worth c → worth c ≤ 15 → Q (.int (worth c) s.toks) { s with toks := s.toks + 1 }) :
    wpAny (model prog w) A (call (.builtin "str.find") [.str (PySem.Str.ofString "0123456789abcdef") t, .str ⟨#[lowC c]⟩ u]) Q E s := by
  refine SC.find ?_
  rw [find_worth hc]; exact h (worth_le c).1 (worth_le c).2
end
noncomputable def scan (b : Int) : List Nat → Int → Int × Nat
  | [], n => (n, 0)
  | c :: r, n => if worth c < 0 ∨ b ≤ worth c then (n, 0) else ((scan b r ((if 0 > n then 0 else n) * b + worth c)).1, (scan b r ((if 0 > n then 0 else n) * b + worth c)).2 + 1)
theorem scan_ge {b : Int} (hb : 1 ≤ b) : ∀ (l : List Nat) (n : Int), n ≤ (scan b l n).1
  | [], n => Int.le_refl _
  | c :: r, n => by
    unfold scan
    split
    · exact Int.le_refl _
    · rename_i h
      refine Int.le_trans ?_ (scan_ge hb r _)
      have h1 : (if 0 > n then 0 else n) * 1 ≤ (if 0 > n then 0 else n) * b := Int.mul_le_mul_of_nonneg_left hb (by split <;> omega)
      split at h1 <;> split <;> omega
noncomputable def FigAt (x : PySem.Str) (b N T n e : Int) : Prop := (scan b (x.cps.toList.drop e.toNat) n).1 = N ∧ e + (scan b (x.cps.toList.drop e.toNat) n).2 = T
theorem fig_start {x : PySem.Str} {a b N T : Int} (hb : 2 ≤ b) (hax : a ≤ x.length) (hN : (scan b (x.cps.toList.drop a.toNat) (-1)).1 = N) (hT : a + (scan b (x.cps.toList.drop a.toNat) (-1)).2 = T) :
    a ≤ a ∧ a ≤ x.length ∧ -1 ≤ (-1 : Int) ∧ -1 ≤ N ∧ FigAt x b N T (-1) a :=
  ⟨Int.le_refl _, hax, by decide, by rw [← hN]; exact scan_ge (by omega) _ _, hN, hT⟩
theorem fig_stop_end {x : PySem.Str} {b N T n e : Int} (h : FigAt x b N T n e) (he : ¬ e < x.length) : n = N ∧ e = T := by
  unfold FigAt at h
  rw [List.drop_eq_nil_of_le (by simp only [PySem.Str.length, Array.length_toList] at he ⊢; omega)] at h
  unfold scan at h
  simpa using h
theorem fig_stop_brk {x : PySem.Str} {b N T n e : Int} (h : FigAt x b N T n e) (h0 : 0 ≤ e) (he : e < x.length) (hw : worth (chr x e) < 0 ∨ b ≤ worth (chr x e)) : n = N ∧ e = T := by
  unfold FigAt at h
  rw [drop_chr h0 he] at h
  unfold scan at h
  rw [if_pos hw] at h
  simpa using h
theorem fig_step {x : PySem.Str} {b N T n e : Int} (hb : 2 ≤ b) (h : FigAt x b N T n e) (h0 : 0 ≤ e) (he : e < x.length) (hw : ¬ worth (chr x e) < 0) (hw' : ¬ b ≤ worth (chr x e)) : (if 0 > n then 0 else n) * b + worth (chr x e) ≤ N ∧ FigAt x b N T ((if 0 > n then 0 else n) * b + worth (chr x e)) (e + 1) := by
  unfold FigAt at h ⊢
  rw [drop_chr h0 he] at h
  unfold scan at h
  rw [if_neg (by omega)] at h
  refine ⟨?_, h.1, by have := h.2; push_cast at this ⊢; omega⟩
  rw [← h.1]
  exact scan_ge (by omega) _ _
theorem fig_turn {x : PySem.Str} {a b N T n e : Int} (hb : 2 ≤ b) (h0 : 0 ≤ a) (h : FigAt x b N T n e) (hae : a ≤ e) (he : e < x.length) (hw : ¬ worth (chr x e) < 0) (hw' : ¬ b ≤ worth (chr x e)) :
    a ≤ e + 1 ∧ e + 1 ≤ x.length ∧ -1 ≤ (if 0 > n then 0 else n) * b + worth (chr x e) ∧ (if 0 > n then 0 else n) * b + worth (chr x e) ≤ N ∧ FigAt x b N T ((if 0 > n then 0 else n) * b + worth (chr x e)) (e + 1) := by
  have hh := fig_step hb h (by omega) he hw hw'
  have h1 : 0 ≤ (if 0 > n then 0 else n) * b := Int.mul_nonneg (by split <;> omega) (by omega)
  exact ⟨by omega, by omega, by omega, hh.1, hh.2⟩
noncomputable def OutP (x y : Int) (v : Value) (tl : List (Addr × Obj)) : Prop := ∃ (d : Addr) (t u : Tok) (k : Nat), v = .ref d ∧ tl = [(d, ({ cls := .type "tuple", data := .seq #[.int x t, .int y u] k } : Obj))]
theorem outP {n e N T : Int} (h : n = N ∧ e = T) {d : Addr} {t u : Tok} {k : Nat} : OutP N T (.ref d) [(d, ({ cls := .type "tuple", data := .seq #[.int n t, .int e u] k } : Obj))] := by
  obtain ⟨rfl, rfl⟩ := h
  exact ⟨d, t, u, k, rfl, rfl⟩
set_option maxHeartbeats 4000000 in
theorem figures_spec (w : World) (x : PySem.Str) (hx : x.length ≤ 300) (hc : ∀ c ∈ x.cps.toList, c < 128 ∧ c ≠ 95) (a b : Int) (ha : 0 ≤ a) (hax : a ≤ x.length) (hb : 2 ≤ b) (hb' : b ≤ 16)
    (N : Int) (T : Int) (hN : (scan b (x.cps.toList.drop a.toNat) (-1)).1 = N) (hN' : N < 1000000000) (hT : a + (scan b (x.cps.toList.drop a.toNat) (-1)).2 = T) (t u v : Tok) (news : List (Addr × Obj)) :
    Tel w 2 40 95 [.str x t, .int a u, .int b v] True news (OutP N T) := by
  unfold Tel
  k_fill
  k_with_none
  intro mean mg mb dp un gd cn cs a0 ccd cl outer A₀ base h₀ L m s Q E B F X News0 Top0 hk hp hd hu hret
  refine wpAny_call ?_
  k_dflt cell_enter
  k_with "tel" => ((case k1 => k_asm); (case k2 => k_asm); (case k3 => k_asm); (case k4 => k_asm); (case k5 => k_asm); (case kK => first | exact rfl | assumption); (case kp => first | trivial | assumption | omega); (case kd => ktr_room); (case ku => ktr_units); intro v9 tl9 h9 tk9 F9 N9 O9)
  k_with "call ref" => k_dflt (refine' tel_use (small_spec _ _ (chr_ok hc _).1 _ _) ?k1 ?k2 ?k3 ?k4 ?k5 ?kK ?kp ?kd ?ku ?_; k_extra "tel"; obtain ⟨rfl, t9, rfl⟩ := O9; (dsimp only [List.nil_append] at N9); (try dsimp only); (try k_fold))
  k_with "compareOp Eq str str" => (with_reducible refine cmp_us hc ?_)
  k_with "call builtin:str.find" => (k_dflt (refine find_fig (chr_ok hc _).1 ?_); intro w1 w2)
  k_with "state" => exact fig_turn hb ha (by assumption) (by assumption) (by assumption) (by assumption) (by assumption)
  k_with "state" => exact fig_start hb hax hN hT
  k_with "exec While Compare cons nil" => k_while (fun _ n e => a ≤ e ∧ e ≤ x.length ∧ -1 ≤ n ∧ n ≤ N ∧ FigAt x b N T n e) (fun _ n e => (x.length - e).toNat) "number" "end"
  k_steps
  all_goals refine hret _ [_] _ _ (by assumption) (by assumption) (outP ?_)
  all_goals first
    | exact fig_stop_end (by assumption) (by assumption)
    | exact fig_stop_brk (by assumption) (by omega) (by assumption) (.inl (by assumption))
    | exact fig_stop_brk (by assumption) (by omega) (by assumption) (.inr (by assumption))
    | skip
end Rg

namespace Rg
open PySem.Spec PySem.Calls
open PySem.Builtin.Str (strSliceIndices)
set_option maxRecDepth 100000
theorem slice_one {x : PySem.Str} {a : Int} (h0 : 0 ≤ a) (h1 : a < x.length) : Txt.slice x (some a) (some (a + 1)) = ⟨#[chr x a]⟩ := by
  have hl : a + 1 ≤ x.cps.toList.length := by simp only [PySem.Str.length, Array.length_toList] at h1 ⊢; omega
  rw [beq_iff_eq.mp (slice_closes (x := x) (i := a) (j := a + 1) ⟨h0, by omega, hl⟩), drop_chr h0 h1, show (a + 1 - a).toNat = 1 by omega]
  rfl
theorem indices_past {n : Nat} {i j : Int} (h : (n : Int) ≤ i) (h2 : i ≤ j) : strSliceIndices (some i) (some j) 1 n = strSliceIndices (some (n : Int)) none 1 n := by
  have h0 : ¬ i < 0 := by omega
  have h0' : ¬ j < 0 := by omega
  have h1 : ¬ ((n : Int) < 0) := by omega
  have h3 : (n : Int) ≤ j := by omega
  have h4 : max 0 (n : Int) = n := by omega
  simp only [strSliceIndices, h0, h0', h1, if_false, Int.min_eq_right h, Int.min_eq_right h3, Int.min_self, show ((1 : Int) > 0) = True from eq_true (by decide), if_true, h4]
theorem slice_past {x : PySem.Str} {a : Int} (h : (x.length : Int) ≤ a) : Txt.slice x (some a) (some (a + 1)) = ⟨#[]⟩ := by
  have e2 : Txt.slice x (some a) (some (a + 1)) = Txt.slice x (some (x.length : Int)) none := by
    unfold Txt.slice
    rw [indices_past h (by omega)]
  rw [e2, slice_beyond (Int.le_refl _)]
  rfl
section
variable {prog : Program} {w : World} {A : Around} {E : Value → Shared → Prop} {s : Shared} {t u : Tok} {Q : Value → Shared → Prop} {x y : PySem.Str} {b : Bool}
theorem ne_val (e : (x != y) = b) (h : Q (.bool b) s) : wpAny (model prog w) A (compareOp .NotEq (.str x t) (.str y u)) Q E s := ne_str (by rw [e]; exact h)
theorem eq_val (e : (x == y) = b) (h : Q (.bool b) s) : wpAny (model prog w) A (compareOp .Eq (.str x t) (.str y u)) Q E s := PyProof.Rows.eq_str (by rw [e]; exact h)
end
theorem one_ne {c d : Nat} (h : c ≠ d) : ((⟨#[c]⟩ : PySem.Str) == ⟨#[d]⟩) = false := by
  rw [beq_eq_false_iff_ne]; intro q; injection q with q; exact h (by simpa using q)
theorem str_beq {x y x' y' : PySem.Str} {b : Bool} (hx : x = x') (hy : y = y') (h : (x' == y') = b) : (x == y) = b := by rw [hx, hy]; exact h
theorem str_bne {x y x' y' : PySem.Str} {b : Bool} (hx : x = x') (hy : y = y') (h : (x' == y') = !b) : (x != y) = b := by rw [hx, hy, bne, h, Bool.not_not]
theorem tx_e : PySem.Str.ofString "e" = ⟨#[101]⟩ := by decide
theorem tx_plus : PySem.Str.ofString "+" = ⟨#[43]⟩ := by decide
theorem tx_minus : PySem.Str.ofString "-" = ⟨#[45]⟩ := by decide
theorem tx_hash : PySem.Str.ofString "#" = ⟨#[35]⟩ := by decide
theorem one_nil {d : Nat} : ((⟨#[]⟩ : PySem.Str) == ⟨#[d]⟩) = false := by
  rw [beq_eq_false_iff_ne]; intro q; injection q with q; simp at q
set_option maxHeartbeats 4000000 in
theorem small0_spec (w : World) (t : Tok) (news : List (Addr × Obj)) : Tel w 1 8 88 [.str ⟨#[]⟩ t] True news (OutS ⟨#[]⟩) := by
  unfold Tel
  k_fill
  k_with_none
  intro mean mg mb dp un gd cn cs a ccd cl outer A₀ base h₀ L m s Q E B F X N T hk hp hd hu hret
  refine wpAny_call ?_
  k_dflt cell_enter
  k_steps
  all_goals (refine hret _ [] _ _ (by assumption) (by assumption) (outS ?_))
  all_goals rfl
theorem small_at {w : World} {y : PySem.Str} {c : Nat} (e : y = ⟨#[c]⟩) (hc : c < 128) (t : Tok) (news : List (Addr × Obj)) : Tel w 1 8 88 [.str y t] True news (OutS ⟨#[lowC c]⟩) := by
  subst e; exact small_spec w c hc t news
theorem small_nil {w : World} {y : PySem.Str} (e : y = ⟨#[]⟩) (t : Tok) (news : List (Addr × Obj)) : Tel w 1 8 88 [.str y t] True news (OutS ⟨#[]⟩) := by
  subst e; exact small0_spec w t news
set_option maxHeartbeats 4000000 in
theorem expoA_spec (w : World) (x : PySem.Str) (hx : x.length ≤ 300) (hc : ∀ c ∈ x.cps.toList, c < 128 ∧ c ≠ 95) (a : Int) (ha : 0 ≤ a) (hax : a = x.length)
    (t u : Tok) (news : List (Addr × Obj)) :
    Tel w 3 60 102 [.str x t, .int a u] True news (OutP 0 a) := by
  unfold Tel
  k_fill
  k_with_none
  intro mean mg mb dp un gd cn cs a0 ccd cl outer A₀ base h₀ L m s Q E B F X News0 Top0 hk hp hd hu hret
  refine wpAny_call ?_
  k_dflt cell_enter
  k_with "tel" => ((case k1 => k_asm); (case k2 => k_asm); (case k3 => k_asm); (case k4 => k_asm); (case k5 => k_asm); (case kK => first | exact rfl | assumption); (case kp => first | trivial | assumption | omega); (case kd => ktr_room); (case ku => ktr_units); intro v9 tl9 h9 tk9 F9 N9 O9)
  k_with "call ref" => k_dflt (refine' tel_use (small_nil (slice_past (by omega)) _ _) ?k1 ?k2 ?k3 ?k4 ?k5 ?kK ?kp ?kd ?ku ?_; k_extra "tel"; obtain ⟨rfl, t9, rfl⟩ := O9; (dsimp only [List.nil_append] at N9); (try dsimp only); (try k_fold))
  k_with "compareOp NotEq str str" => k_dflt (refine ne_val (str_bne rfl tx_e (b := true) one_nil) ?_)
  k_steps
  all_goals exact hret _ [_] _ _ (by assumption) (by assumption) (outP ⟨rfl, rfl⟩)
theorem nd1 {h₀ h : Heap} {L : Addr} {a b : Addr × Obj} {l : List (Addr × Obj)} (N : News h₀ L h (a :: b :: l)) : News h₀ L h ([a] ++ l) := fun p hp => N p (by simp only [List.cons_append, List.nil_append, List.mem_cons] at hp ⊢; rcases hp with h | h; exact .inl h; exact .inr (.inr h))
theorem nd2 {h₀ h : Heap} {L : Addr} {a b c : Addr × Obj} {l : List (Addr × Obj)} (N : News h₀ L h (a :: b :: c :: l)) : News h₀ L h ([a] ++ l) := nd1 (nd1 N)
theorem nd3 {h₀ h : Heap} {L : Addr} {a b c d : Addr × Obj} {l : List (Addr × Obj)} (N : News h₀ L h (a :: b :: c :: d :: l)) : News h₀ L h ([a] ++ l) := nd1 (nd2 N)
theorem drop_last {x : PySem.Str} {a : Int} (h0 : 0 ≤ a) (h : a + 1 = x.length) : x.cps.toList.drop a.toNat = [chr x a] := by
  rw [drop_chr h0 (by omega), List.drop_eq_nil_of_le (by simp only [PySem.Str.length, Array.length_toList] at h ⊢; omega)]
theorem scan_one {c : Nat} {k : Nat} (hk : k ≤ 9) (hc : c = 48 + k) : scan 10 [c] (-1) = ((k : Int), 1) := by
  have e : worth c = k := by
    unfold worth
    rw [if_pos (by omega)]; omega
  unfold scan
  rw [e, if_neg (by omega)]
  unfold scan
  simp
set_option maxHeartbeats 4000000 in
theorem expoB_spec (w : World) (x : PySem.Str) (hx : x.length ≤ 300) (hc : ∀ c ∈ x.cps.toList, c < 128 ∧ c ≠ 95) (a : Int) (ha : 0 ≤ a) (hax : a + 2 = x.length) (he : lowC (chr x a) = 101) (k : Nat) (hk9 : k ≤ 9) (hk1 : chr x (a + 1) = 48 + k)
    (t u : Tok) (news : List (Addr × Obj)) :
    Tel w 3 60 102 [.str x t, .int a u] True news (OutP k (a + 2)) := by
  have hd1 := drop_last (x := x) (a := a + 1) (by omega) (by omega)
  have hs1 : (scan 10 (x.cps.toList.drop (a + 1).toNat) (-1)).1 = (k : Int) := by rw [hd1, scan_one hk9 hk1]
  have hs2 : (a + 1) + (scan 10 (x.cps.toList.drop (a + 1).toNat) (-1)).2 = a + 2 := by rw [hd1, scan_one hk9 hk1]; show a + 1 + 1 = a + 2; omega
  unfold Tel
  k_fill
  k_with_none
  intro mean mg mb dp un gd cn cs a0 ccd cl outer A₀ base h₀ L m s Q E B F X News0 Top0 hk hp hd hu hret
  refine wpAny_call ?_
  k_dflt cell_enter
  k_with "tel" => ((case k1 => k_asm); (case k2 => k_asm); (case k3 => k_asm); (case k4 => k_asm); (case k5 => k_asm); (case kK => first | exact rfl | assumption); (case kp => first | trivial | assumption | omega); (case kd => ktr_room); (case ku => ktr_units); intro v9 tl9 h9 tk9 F9 N9 O9)
  k_with "call ref" => k_dflt (refine' tel_use (small_at (slice_one (by omega) (by omega)) (chr_ok hc _).1 _ _) ?k1 ?k2 ?k3 ?k4 ?k5 ?kK ?kp ?kd ?ku ?_; k_extra "tel"; obtain ⟨rfl, t9, rfl⟩ := O9; (dsimp only [List.nil_append] at N9); (try dsimp only); (try k_fold))
  k_with "call ref" => k_dflt (refine' tel_use (figures_spec w x hx hc (a + 1) 10 (by omega) (by omega) (by omega) (by omega) k (a + 2) hs1 (by omega) hs2 _ _ _ _) ?k1 ?k2 ?k3 ?k4 ?k5 ?kK ?kp ?kd ?ku ?_; k_extra "tel"; obtain ⟨d9, t9, u9, k9, rfl, rfl⟩ := O9; (dsimp only [List.nil_append, List.cons_append] at N9); (try dsimp only); (try k_fold))
  k_with "compareOp NotEq str str" => k_dflt (refine ne_val (str_bne (x' := ⟨#[101]⟩) (by rw [he]) tx_e (b := false) (by simp)) ?_)
  k_with "compareOp Eq str str" => k_dflt (refine eq_val (str_beq (slice_one (by omega) (by omega)) tx_plus (b := false) (one_ne (by omega))) ?_)
  k_steps
  · exfalso; omega
  · exact hret _ [_] _ _ (by assumption) (nd1 (by assumption)) (outP ⟨rfl, rfl⟩)
end Rg

namespace Rg
open PySem.Spec PySem.Calls
set_option maxRecDepth 100000
noncomputable def Expo (x : PySem.Str) (e p : Int) : Prop := 0 ≤ e ∧ ((e = x.length ∧ p = 0) ∨ (e + 2 = x.length ∧ lowC (chr x e) = 101 ∧ ∃ k : Nat, k ≤ 1 ∧ chr x (e + 1) = 48 + k ∧ p = k))
theorem expo_spec (w : World) (x : PySem.Str) (hx : x.length ≤ 300) (hc : ∀ c ∈ x.cps.toList, c < 128 ∧ c ≠ 95) (e p : Int) (h : Expo x e p) (t u : Tok) (news : List (Addr × Obj)) :
    Tel w 3 60 102 [.str x t, .int e u] True news (OutP p x.length) := by
  obtain ⟨h0, ⟨h1, rfl⟩ | ⟨h1, h2, k, h3, h4, rfl⟩⟩ := h
  · rw [← h1]; exact expoA_spec w x hx hc e h0 h1 t u news
  · rw [← h1]; exact expoB_spec w x hx hc e h0 h1 h2 k (by omega) h4 t u news
theorem Expo.bnd {x : PySem.Str} {e p : Int} (h : Expo x e p) : 0 ≤ e ∧ e ≤ x.length ∧ 0 ≤ p ∧ p ≤ 1 := by
  obtain ⟨h0, ⟨h1, rfl⟩ | ⟨h1, h2, k, h3, h4, rfl⟩⟩ := h <;> omega
theorem lowC_hash {c : Nat} (h : lowC c = 101) : c ≠ 35 := by
  intro q; subst q; revert h; decide
theorem Expo.nohash {x : PySem.Str} {e p : Int} (h : Expo x e p) : (Txt.slice x (some e) (some (e + 1)) == PySem.Str.ofString "#") = false := by
  obtain ⟨h0, ⟨h1, rfl⟩ | ⟨h1, h2, k, h3, h4, rfl⟩⟩ := h
  · exact str_beq (slice_past (by omega)) tx_hash one_nil
  · exact str_beq (slice_one (by omega) (by omega)) tx_hash (one_ne (lowC_hash h2))
theorem pow_bnd {b p : Int} (h0 : 0 ≤ b) (h1 : b ≤ 16) (hp : 0 ≤ p ∧ p ≤ 1) : 0 ≤ b ^ p.toNat ∧ b ^ p.toNat ≤ 16 := by
  rcases (by omega : p = 0 ∨ p = 1) with rfl | rfl
  · simp
  · rw [show (1 : Int).toNat = 1 from rfl, Int.pow_succ, Int.pow_zero, Int.one_mul]; exact ⟨h0, h1⟩
noncomputable def LitA (x : PySem.Str) (a n p : Int) : Prop := 0 ≤ a ∧ a < x.length ∧ ∃ e, (scan 10 (x.cps.toList.drop a.toNat) (-1)).1 = n ∧ a + (scan 10 (x.cps.toList.drop a.toNat) (-1)).2 = e ∧ 0 ≤ n ∧ n < 1000000000 ∧ Expo x e p
set_option maxHeartbeats 4000000 in
theorem litA_spec (w : World) (x : PySem.Str) (hx : x.length ≤ 300) (hc : ∀ c ∈ x.cps.toList, c < 128 ∧ c ≠ 95) (a n p : Int) (h : LitA x a n p)
    (t u : Tok) (news : List (Addr × Obj)) :
    Tel w 4 90 109 [.str x t, .int a u] True news (OutP (n * 10 ^ p.toNat) x.length) := by
  obtain ⟨ha, hax, e, hs1, hs2, hn0, hn1, he⟩ := h
  have heb := he.bnd
  have hpb := pow_bnd (b := 10) (by decide) (by decide) heb.2.2
  unfold Tel
  k_fill
  k_with_none
  intro mean mg mb dp un gd cn cs a0 ccd cl outer A₀ base h₀ L m s Q E B F X News0 Top0 hk hp hd hu hret
  refine wpAny_call ?_
  k_dflt cell_enter
  k_with "tel" => ((case k1 => k_asm); (case k2 => k_asm); (case k3 => k_asm); (case k4 => k_asm); (case k5 => k_asm); (case kK => first | exact rfl | assumption); (case kp => first | trivial | assumption | omega); (case kd => ktr_room); (case ku => ktr_units); intro v9 tl9 h9 tk9 F9 N9 O9)
  k_with "call ref" => k_dflt (refine' tel_use (expo_spec w x hx hc e p he _ _ _) ?k1 ?k2 ?k3 ?k4 ?k5 ?kK ?kp ?kd ?ku ?_; k_extra "tel"; obtain ⟨d9, t9, u9, k9, rfl, rfl⟩ := O9; (dsimp only [List.nil_append, List.cons_append] at N9); (try dsimp only); (try k_fold))
  k_with "call ref" => k_dflt (refine' tel_use (figures_spec w x hx hc a 10 (by omega) (by omega) (by omega) (by omega) n e hs1 (by omega) hs2 _ _ _ _) ?k1 ?k2 ?k3 ?k4 ?k5 ?kK ?kp ?kd ?ku ?_; k_extra "tel"; obtain ⟨d9, t9, u9, k9, rfl, rfl⟩ := O9; (dsimp only [List.nil_append, List.cons_append] at N9); (try dsimp only); (try k_fold))
  k_with "compareOp Eq str str" => k_dflt (refine eq_val he.nohash ?_)
  k_steps
  · exact hret _ [_] _ _ (by assumption) (nd2 (by assumption)) (outP ⟨rfl, rfl⟩)
noncomputable def LitB (x : PySem.Str) (a b n p : Int) : Prop := 0 ≤ a ∧ 2 ≤ b ∧ b ≤ 16 ∧ ∃ e e2, (scan 10 (x.cps.toList.drop a.toNat) (-1)).1 = b ∧ a + (scan 10 (x.cps.toList.drop a.toNat) (-1)).2 = e ∧ e < x.length ∧ chr x e = 35 ∧
  (scan b (x.cps.toList.drop (e + 1).toNat) (-1)).1 = n ∧ (e + 1) + (scan b (x.cps.toList.drop (e + 1).toNat) (-1)).2 = e2 ∧ e + 1 < e2 ∧ e2 < x.length ∧ chr x e2 = 35 ∧ 0 ≤ n ∧ n < 1000000000 ∧ Expo x (e2 + 1) p
set_option maxHeartbeats 4000000 in
theorem litB_spec (w : World) (x : PySem.Str) (hx : x.length ≤ 300) (hc : ∀ c ∈ x.cps.toList, c < 128 ∧ c ≠ 95) (a b n p : Int) (h : LitB x a b n p)
    (t u : Tok) (news : List (Addr × Obj)) :
    Tel w 4 90 109 [.str x t, .int a u] True news (OutP (n * b ^ p.toNat) x.length) := by
  obtain ⟨ha, hb, hb', e, e2, hs1, hs2, hex, hch, hs3, hs4, hee, hex2, hch2, hn0, hn1, he⟩ := h
  have heb := he.bnd
  have hpb := pow_bnd (b := b) (by omega) (by omega) heb.2.2
  have hae : a ≤ e := by omega
  unfold Tel
  k_fill
  k_with_none
  intro mean mg mb dp un gd cn cs a0 ccd cl outer A₀ base h₀ L m s Q E B F X News0 Top0 hk hp hd hu hret
  refine wpAny_call ?_
  k_dflt cell_enter
  k_with "tel" => ((case k1 => k_asm); (case k2 => k_asm); (case k3 => k_asm); (case k4 => k_asm); (case k5 => k_asm); (case kK => first | exact rfl | assumption); (case kp => first | trivial | assumption | omega); (case kd => ktr_room); (case ku => ktr_units); intro v9 tl9 h9 tk9 F9 N9 O9)
  k_with "call ref" => k_dflt (refine' tel_use (expo_spec w x hx hc (e2 + 1) p he _ _ _) ?k1 ?k2 ?k3 ?k4 ?k5 ?kK ?kp ?kd ?ku ?_; k_extra "tel"; obtain ⟨d9, t9, u9, k9, rfl, rfl⟩ := O9; (dsimp only [List.nil_append, List.cons_append] at N9); (try dsimp only); (try k_fold))
  k_with "call ref" => k_dflt (refine' tel_use (figures_spec w x hx hc (e + 1) b (by omega) (by omega) (by omega) (by omega) n e2 hs3 (by omega) hs4 _ _ _ _) ?k1 ?k2 ?k3 ?k4 ?k5 ?kK ?kp ?kd ?ku ?_; k_extra "tel"; obtain ⟨d9, t9, u9, k9, rfl, rfl⟩ := O9; (dsimp only [List.nil_append, List.cons_append] at N9); (try dsimp only); (try k_fold))
  k_with "call ref" => k_dflt (refine' tel_use (figures_spec w x hx hc a 10 (by omega) (by omega) (by omega) (by omega) b e hs1 (by omega) hs2 _ _ _ _) ?k1 ?k2 ?k3 ?k4 ?k5 ?kK ?kp ?kd ?ku ?_; k_extra "tel"; obtain ⟨d9, t9, u9, k9, rfl, rfl⟩ := O9; (dsimp only [List.nil_append, List.cons_append] at N9); (try dsimp only); (try k_fold))
  k_with "compareOp Eq str str" => k_dflt (refine eq_val (str_beq (slice_one (by omega) (by omega)) tx_hash (b := true) (by rw [hch]; exact beq_self_eq_true _)) ?_)
  k_with "compareOp NotEq str str" => k_dflt (refine ne_val (str_bne (slice_one (by omega) (by omega)) tx_hash (b := false) (by rw [hch2]; exact beq_self_eq_true _)) ?_)
  k_steps
  · exfalso; omega
  · exact hret _ [_] _ _ (by assumption) (nd3 (by assumption)) (outP ⟨rfl, rfl⟩)
end Rg

namespace Rg
open PySem.Spec PySem.Calls
set_option maxRecDepth 100000
noncomputable def Lit (x : PySem.Str) (a R : Int) : Prop := (∃ n p, LitA x a n p ∧ R = n * 10 ^ p.toNat) ∨ (∃ b n p, LitB x a b n p ∧ R = n * b ^ p.toNat)
theorem lit_spec (w : World) (x : PySem.Str) (hx : x.length ≤ 300) (hc : ∀ c ∈ x.cps.toList, c < 128 ∧ c ≠ 95) (a R : Int) (h : Lit x a R) (t u : Tok) (news : List (Addr × Obj)) :
    Tel w 4 90 109 [.str x t, .int a u] True news (OutP R x.length) := by
  obtain ⟨n, p, h, rfl⟩ | ⟨b, n, p, h, rfl⟩ := h
  · exact litA_spec w x hx hc a n p h t u news
  · exact litB_spec w x hx hc a b n p h t u news
theorem mul_bnd {n q : Int} (h0 : 0 ≤ n) (h1 : n < 1000000000) (hq : 0 ≤ q ∧ q ≤ 16) : 0 ≤ n * q ∧ n * q ≤ 16000000000 := by
  have h2 : 0 ≤ n * q := Int.mul_nonneg h0 hq.1
  have h3 : n * q ≤ n * 16 := Int.mul_le_mul_of_nonneg_left hq.2 h0
  omega
theorem Lit.bnd {x : PySem.Str} {a R : Int} (h : Lit x a R) : 0 ≤ a ∧ a < x.length ∧ 0 ≤ R ∧ R ≤ 16000000000 := by
  obtain ⟨n, p, h, rfl⟩ | ⟨b, n, p, h, rfl⟩ := h
  · obtain ⟨h0, h1, e, _, _, h2, h3, h4⟩ := h
    have := mul_bnd h2 h3 (pow_bnd (b := 10) (by decide) (by decide) h4.bnd.2.2)
    exact ⟨h0, h1, this.1, this.2⟩
  · obtain ⟨h0, hb, hb', e, e2, _, h5, h6, _, _, _, _, _, _, h2, h3, h4⟩ := h
    have := mul_bnd h2 h3 (pow_bnd (b := b) (by omega) hb' h4.bnd.2.2)
    exact ⟨h0, by omega, this.1, this.2⟩
theorem slice_head {x : PySem.Str} (h1 : 0 < x.length) : Txt.slice x none (some 1) = ⟨#[chr x 0]⟩ := by
  have hl : (1 : Int) ≤ x.cps.toList.length := by simp only [PySem.Str.length, Array.length_toList] at h1 ⊢; omega
  rw [beq_iff_eq.mp (slice_closes_to (x := x) (j := 1) ⟨by omega, hl⟩), drop_chr (x := x) (e := 0) (by omega) (by omega)]
  rfl
noncomputable def OutN (y : Int) (v : Value) (tl : List (Addr × Obj)) : Prop := ∃ (d : Addr) (u : Tok) (k : Nat), v = .ref d ∧ tl = [(d, ({ cls := .type "tuple", data := .seq #[.bool true, .int y u] k } : Obj))]
theorem outN {b : Bool} {n N : Int} (hb : b = true) (h : n = N) {d : Addr} {u : Tok} {k : Nat} : OutN N (.ref d) [(d, ({ cls := .type "tuple", data := .seq #[.bool b, .int n u] k } : Obj))] := by
  subst h
  subst hb
  exact ⟨d, u, k, rfl, rfl⟩
set_option maxHeartbeats 4000000 in
theorem numM_spec (w : World) (x : PySem.Str) (hx : x.length ≤ 300) (hc : ∀ c ∈ x.cps.toList, c < 128 ∧ c ≠ 95) (R : Int) (h0 : chr x 0 = 45) (h : Lit x 1 R) (t : Tok) (news : List (Addr × Obj)) :
    Tel w 5 110 116 [.str x t] True news (OutN (-R) ) := by
  have hb := h.bnd
  unfold Tel
  k_fill
  k_with_none
  intro mean mg mb dp un gd cn cs a0 ccd cl outer A₀ base h₀ L m s Q E B F X News0 Top0 hk hp hd hu hret
  refine wpAny_call ?_
  k_dflt cell_enter
  k_with "tel" => ((case k1 => k_asm); (case k2 => k_asm); (case k3 => k_asm); (case k4 => k_asm); (case k5 => k_asm); (case kK => first | exact rfl | assumption); (case kp => first | trivial | assumption | omega); (case kd => ktr_room); (case ku => ktr_units); intro v9 tl9 h9 tk9 F9 N9 O9)
  k_with "call ref" => k_dflt (refine' tel_use (lit_spec w x hx hc _ R h _ _ _) ?k1 ?k2 ?k3 ?k4 ?k5 ?kK ?kp ?kd ?ku ?_; k_extra "tel"; obtain ⟨d9, t9, u9, k9, rfl, rfl⟩ := O9; (dsimp only [List.nil_append, List.cons_append] at N9); (try dsimp only); (try k_fold))
  k_with "compareOp Eq str str" => k_dflt (refine eq_val (str_beq (slice_head (by omega)) tx_minus (b := true) (by rw [h0]; exact beq_self_eq_true _)) ?_)
  k_with "compareOp Eq str str" => k_dflt (refine eq_val (str_beq (item_chr x 0) tx_minus (b := true) (by rw [h0]; exact beq_self_eq_true _)) ?_)
  k_steps
  · exact hret _ [_] _ _ (by assumption) (nd1 (by assumption)) (outN (by exact beq_self_eq_true _) (by omega))
set_option maxHeartbeats 4000000 in
theorem numP_spec (w : World) (x : PySem.Str) (hx : x.length ≤ 300) (hc : ∀ c ∈ x.cps.toList, c < 128 ∧ c ≠ 95) (R : Int) (h0 : chr x 0 = 43) (h : Lit x 1 R) (t : Tok) (news : List (Addr × Obj)) :
    Tel w 5 110 116 [.str x t] True news (OutN (R) ) := by
  have hb := h.bnd
  unfold Tel
  k_fill
  k_with_none
  intro mean mg mb dp un gd cn cs a0 ccd cl outer A₀ base h₀ L m s Q E B F X News0 Top0 hk hp hd hu hret
  refine wpAny_call ?_
  k_dflt cell_enter
  k_with "tel" => ((case k1 => k_asm); (case k2 => k_asm); (case k3 => k_asm); (case k4 => k_asm); (case k5 => k_asm); (case kK => first | exact rfl | assumption); (case kp => first | trivial | assumption | omega); (case kd => ktr_room); (case ku => ktr_units); intro v9 tl9 h9 tk9 F9 N9 O9)
  k_with "call ref" => k_dflt (refine' tel_use (lit_spec w x hx hc _ R h _ _ _) ?k1 ?k2 ?k3 ?k4 ?k5 ?kK ?kp ?kd ?ku ?_; k_extra "tel"; obtain ⟨d9, t9, u9, k9, rfl, rfl⟩ := O9; (dsimp only [List.nil_append, List.cons_append] at N9); (try dsimp only); (try k_fold))
  k_with "compareOp Eq str str" => k_dflt (refine eq_val (str_beq (slice_head (by omega)) tx_minus (b := false) (one_ne (by omega))) ?_)
  k_with "compareOp Eq str str" => k_dflt (refine eq_val (str_beq (slice_head (by omega)) tx_plus (b := true) (by rw [h0]; exact beq_self_eq_true _)) ?_)
  k_with "compareOp Eq str str" => k_dflt (refine eq_val (str_beq (item_chr x 0) tx_minus (b := false) (one_ne (by omega))) ?_)
  k_steps
  · exact hret _ [_] _ _ (by assumption) (nd1 (by assumption)) (outN (by exact beq_self_eq_true _) (by omega))
set_option maxHeartbeats 4000000 in
theorem numO_spec (w : World) (x : PySem.Str) (hx : x.length ≤ 300) (hc : ∀ c ∈ x.cps.toList, c < 128 ∧ c ≠ 95) (R : Int) (h0 : chr x 0 ≠ 43 ∧ chr x 0 ≠ 45) (h : Lit x 0 R) (t : Tok) (news : List (Addr × Obj)) :
    Tel w 5 110 116 [.str x t] True news (OutN (R) ) := by
  have hb := h.bnd
  unfold Tel
  k_fill
  k_with_none
  intro mean mg mb dp un gd cn cs a0 ccd cl outer A₀ base h₀ L m s Q E B F X News0 Top0 hk hp hd hu hret
  refine wpAny_call ?_
  k_dflt cell_enter
  k_with "tel" => ((case k1 => k_asm); (case k2 => k_asm); (case k3 => k_asm); (case k4 => k_asm); (case k5 => k_asm); (case kK => first | exact rfl | assumption); (case kp => first | trivial | assumption | omega); (case kd => ktr_room); (case ku => ktr_units); intro v9 tl9 h9 tk9 F9 N9 O9)
  k_with "call ref" => k_dflt (refine' tel_use (lit_spec w x hx hc _ R h _ _ _) ?k1 ?k2 ?k3 ?k4 ?k5 ?kK ?kp ?kd ?ku ?_; k_extra "tel"; obtain ⟨d9, t9, u9, k9, rfl, rfl⟩ := O9; (dsimp only [List.nil_append, List.cons_append] at N9); (try dsimp only); (try k_fold))
  k_with "compareOp Eq str str" => k_dflt (refine eq_val (str_beq (slice_head (by omega)) tx_minus (b := false) (one_ne (by omega))) ?_)
  k_with "compareOp Eq str str" => k_dflt (refine eq_val (str_beq (slice_head (by omega)) tx_plus (b := false) (one_ne (by omega))) ?_)
  k_steps
  · exact hret _ [_] _ _ (by assumption) (nd1 (by assumption)) (outN (by exact beq_self_eq_true _) (by omega))
end Rg

namespace Rg
open PySem.Spec PySem.Calls
set_option maxRecDepth 100000
noncomputable def WellIs (w : World) (o : Obj) (l : Addr) (k : Int) (tk : Tok) : Prop := o.IsDictOf (PySem.strKind PySem.Challenge.rw_rg0004_01.row.prog w) [(PySem.Str.ofString "of", Value.ref l), (PySem.Str.ofString "at", Value.int k tk)]
theorem stored_at {a b c : Value} : stored [(PySem.Str.ofString "of", a), (PySem.Str.ofString "at", b)] (PySem.Str.ofString "at") c = [(PySem.Str.ofString "of", a), (PySem.Str.ofString "at", c)] := rfl
theorem updF_mem {d : Addr} {o o' : Obj} {l : List (Addr × Obj)} {g : Obj → List (Addr × Obj)} (U : UpdF d o l g) : (d, o') ∈ g o' := by
  obtain ⟨pre, post, _, h, _, _⟩ := U.split
  rw [h o']; exact List.mem_append_right _ (.head _)
theorem updF_mem0 {d : Addr} {o : Obj} {l : List (Addr × Obj)} {g : Obj → List (Addr × Obj)} (U : UpdF d o l g) : (d, o) ∈ l := by
  obtain ⟨pre, post, h, _, _, _⟩ := U.split
  rw [h]; exact List.mem_append_right _ (.head _)
theorem updF_keep {d : Addr} {o o' : Obj} {l : List (Addr × Obj)} {g : Obj → List (Addr × Obj)} (U : UpdF d o l g) {p : Addr × Obj} (hp : p ∈ l) (hne : p.1 ≠ d) : p ∈ g o' := by
  obtain ⟨pre, post, h, hg, _, _⟩ := U.split
  rw [hg o']
  rw [h] at hp
  rcases List.mem_append.mp hp with q | q
  · exact List.mem_append_left _ q
  · rcases List.mem_cons.mp q with rfl | q
    · exact absurd rfl hne
    · exact List.mem_append_right _ (.tail _ q)
set_option maxHeartbeats 4000000 in
theorem dip_spec (w : World) {W l : Addr} {o : Obj} {news : List (Addr × Obj)} {g : Obj → List (Addr × Obj)} {vs : List Value} {ns : List Int} {n : Nat} {k many : Int} {tk tm : Tok} (U : UpdF W o news g) (hl : (l, (PySem.W.listOf vs.toArray n : Obj)) ∈ news) (hne : l ≠ W) (hi : IntsAre vs ns) (hlen : ns.length ≤ 20)
    (hd : WellIs w o l k tk) (hk0 : 0 ≤ k) (hk1 : k ≤ 100) (hm0 : 0 < many) (hm1 : many ≤ 20000)
    (mean : ExcName → Option Value) (mg mb : Str → Option Value) (dp un : Nat) (gd : Option (List Code)) (cn : Str) (cs : Scope) (a : Addr) (ccd : Value) (cl : List (Str × Addr)) (outer : List Env) (A₀ : Around) (base h₀ : Heap) (L : Addr) (m : Str → Option Value) (s : Shared) (Q E : Value → Shared → Prop) :
    Below A₀ base outer h₀ → Fr h₀ L s.heap m → (Rg.hd.heap_39 w.params).In h₀ → News h₀ L s.heap news → Top Rg.hd.view_39 (looseW Rg.hd.view_39 []) mean mg mb h₀ → cs.kind = .function →
    dp + 2 < recursionLimit → un + 30 < cLine → (∀ v t o' t' h' tk', 0 ≤ v → v < many → WellIs w o' l (k + 1) t' → Fr h₀ L h' m → News h₀ L h' (g o') → Q (.int v t) { s with heap := h', toks := tk' }) →
    wpAny (model PySem.Challenge.rw_rg0004_01.row.prog w) (ktrTop dp un gd cn cs L a ccd cl outer) (call (.ref 175) [.ref W, .int many tm]) Q E s := by
  k_fill
  k_with_none
  intro B F X News0 Top0 hk hd' hu hret
  have hmW := updF_mem0 U
  unfold WellIs at hd hret
  refine wpAny_call ?_
  k_dflt cell_enter
  k_with "getItem ref str" => k_dflt (refine kdt_getItem (knd := PySem.strKind _ _) (by k_asm) hmW hd (strKind_is _ _ _ _) (by rfl) ?_)
  k_with "setItem ref str" => k_dflt (refine' kda_set (knd := PySem.strKind _ _) ?F ?N U hd (strKind_is _ _ _ _) ?z ?_; (case F => k_asm); (case N => k_asm); (case z => rw [sizeLine_eq]; exact Nat.le_of_ble_eq_true (by with_unfolding_all rfl)); intro h9 o9 F9 N9 hd9; have hm9 := updF_mem (o' := o9) U; have hl9 := News.isList N9 (updF_keep (o' := o9) U hl hne); rw [stored_at] at hd9)
  k_with "subscriptTail" => k_dflt (refine kda_item (knd := PySem.strKind _ _) (by k_asm) hm9 hd9 (strKind_is _ _ _ _) (by rfl) ?_)
  k_steps
  · exact hret _ _ o9 _ _ _ (Int.fmod_nonneg_of_pos _ hm0) (Int.fmod_lt_of_pos _ hm0) hd9 (by assumption) (by assumption)
  · exact hret _ _ o9 _ _ _ (Int.le_refl _) hm0 hd9 (by assumption) (by assumption)
end Rg

namespace Rg
open PySem.Spec PySem.Calls
set_option maxRecDepth 100000
noncomputable def up (d : Nat) : Nat := if d < 10 then 48 + d else 55 + d
noncomputable def digs (b n : Nat) : List Nat := if h : n = 0 ∨ b < 2 then [] else digs b (n / b) ++ [up (n % b)]
termination_by n
decreasing_by exact Nat.div_lt_self (by omega) (by omega)
noncomputable def full (b n : Nat) : List Nat := if n = 0 then [48] else digs b n
theorem digs_len {b : Nat} (hb : 2 ≤ b) : ∀ (k n : Nat), n < 2 ^ k → (digs b n).length ≤ k
  | 0, n, h => by
    have : n = 0 := by simpa using h
    subst this
    rw [digs]; simp
  | k + 1, n, h => by
    rw [digs]
    split
    · simp
    · rw [List.length_append, List.length_singleton]
      have h2 : n / b ≤ n / 2 := Nat.div_le_div_left hb (by decide)
      have h3 : n < 2 ^ k * 2 := by rw [← Nat.pow_succ]; exact h
      have h4 : n / 2 < 2 ^ k := by omega
      have := digs_len hb k (n / b) (by omega)
      omega
theorem full_len {b n : Nat} (hb : 2 ≤ b) (hn : n ≤ 40000) : (full b n).length ≤ 16 := by
  unfold full
  split
  · simp
  · exact digs_len hb 16 n (by omega)
theorem up_chr {d : Nat} (h : d < 16) : chr (PySem.Str.ofString "0123456789ABCDEF") (d : Int) = up d :=
  (by decide +kernel : ∀ d : Nat, d < 16 → chr (PySem.Str.ofString "0123456789ABCDEF") (d : Int) = up d) d h
noncomputable def FInv (b n0 : Int) (x : PySem.Str) (n : Int) : Prop := (x.cps.toList = [] ∧ n = n0) ∨ (x.cps.toList ≠ [] ∧ digs b.toNat n.toNat ++ x.cps.toList = full b.toNat n0.toNat)
theorem finv_len {b n0 n : Int} {x : PySem.Str} (hb : 2 ≤ b) (hn : n0 ≤ 40000) (h : FInv b n0 x n) : x.length ≤ 16 := by
  have hx : x.length = x.cps.toList.length := by simp [PySem.Str.length]
  rcases h with ⟨h, _⟩ | ⟨_, h⟩
  · rw [hx, h]; decide
  · have := full_len (b := b.toNat) (n := n0.toNat) (by omega) (by omega)
    rw [← h, List.length_append] at this
    omega
theorem finv_step {b n0 n : Int} {x : PySem.Str} (hb : 2 ≤ b) (hb' : b ≤ 16) (h0 : 0 ≤ n) (h : FInv b n0 x n) (ht : 0 < n ∨ x.cps.toList = []) :
    FInv b n0 (Txt.item (PySem.Str.ofString "0123456789ABCDEF") (n.fmod b) ++ x) (n.fdiv b) := by
  have e1 : n.fmod b = ((n.toNat % b.toNat : Nat) : Int) := by
    rw [Int.fmod_eq_emod_of_nonneg _ (by omega)]
    rw [Int.natCast_emod, Int.toNat_of_nonneg h0, Int.toNat_of_nonneg (by omega)]
  have e2 : n.fdiv b = ((n.toNat / b.toNat : Nat) : Int) := by
    rw [Int.fdiv_eq_ediv_of_nonneg _ (by omega)]
    rw [Int.natCast_ediv, Int.toNat_of_nonneg h0, Int.toNat_of_nonneg (by omega)]
  have hlt : n.toNat % b.toNat < 16 := Nat.lt_of_lt_of_le (Nat.mod_lt _ (by omega)) (by omega)
  have e3 : (Txt.item (PySem.Str.ofString "0123456789ABCDEF") (n.fmod b) ++ x).cps.toList = up (n.toNat % b.toNat) :: x.cps.toList := by
    rw [e1, item_chr, up_chr hlt, PySem.Str.cps_append, Array.toList_append]; rfl
  refine .inr ⟨by rw [e3]; exact List.cons_ne_nil _ _, ?_⟩
  rw [e3, e2, Int.toNat_natCast]
  rcases h with ⟨h, rfl⟩ | ⟨h, hh⟩
  · rw [h]
    unfold full
    by_cases hz : n.toNat = 0
    · rw [if_pos hz, hz]
      simp [digs, up]
    · rw [if_neg hz]
      conv => rhs; rw [digs]
      rw [dif_neg (by omega)]
  · have hn : 0 < n := ht.resolve_right h
    rw [← hh]
    conv => rhs; rw [digs]
    rw [dif_neg (by omega), List.append_assoc]; rfl
theorem finv_end {b n0 n : Int} {x : PySem.Str} (h0 : 0 ≤ n) (h : FInv b n0 x n) (h1 : ¬ 0 < n) (h2 : x.cps.toList ≠ []) : x.cps.toList = full b.toNat n0.toNat := by
  rcases h with ⟨h, _⟩ | ⟨_, h⟩
  · exact absurd h h2
  · have : n.toNat = 0 := by omega
    rw [this, digs] at h
    simpa using h
theorem nil_iff {x : PySem.Str} : x.cps.toList = [] ↔ (x == PySem.Str.ofString "") = true := by
  rw [beq_iff_eq]
  constructor
  · intro h
    have : x.cps = #[] := by simpa using h
    cases x; simp only at this; subst this; decide
  · intro h; rw [h]; decide
theorem finv_turn {b n0 n : Int} {x : PySem.Str} (hb : 2 ≤ b) (hb' : b ≤ 16) (h0 : 0 ≤ n) (h1 : n ≤ 40000) (h : FInv b n0 x n) (ht : 0 < n ∨ (x == PySem.Str.ofString "") = true) :
    0 ≤ n.fdiv b ∧ n.fdiv b ≤ 40000 ∧ FInv b n0 (Txt.item (PySem.Str.ofString "0123456789ABCDEF") (n.fmod b) ++ x) (n.fdiv b) := by
  have e : n.fdiv b = n / b := Int.fdiv_eq_ediv_of_nonneg _ (by omega)
  refine ⟨?_, ?_, finv_step hb hb' h0 h (ht.imp id nil_iff.mpr)⟩
  · rw [e]; exact Int.ediv_nonneg h0 (by omega)
  · rw [e]; exact Int.le_trans (Int.ediv_le_self _ h0) h1
theorem finv_less {b n n0 : Int} {x : PySem.Str} (hb : 2 ≤ b) (h0 : 0 ≤ n) (ht : 0 < n ∨ (x == PySem.Str.ofString "") = true) :
    (n.fdiv b).toNat + (if (Txt.item (PySem.Str.ofString "0123456789ABCDEF") (n.fmod b) ++ x).length = 0 then 1 else 0) < n.toNat + (if x.length = 0 then 1 else 0) := by
  have e : n.fdiv b = n / b := Int.fdiv_eq_ediv_of_nonneg _ (by omega)
  have hl : (Txt.item (PySem.Str.ofString "0123456789ABCDEF") (n.fmod b) ++ x).length ≠ 0 := by
    rw [PySem.Str.length_append, item_chr]; show 1 + _ ≠ 0; omega
  rw [if_neg hl, e]
  rcases (by omega : n = 0 ∨ 0 < n) with h | h
  · subst h
    have hx : x.length = 0 := by
      have := nil_iff.mpr (ht.resolve_left (by omega))
      simpa [PySem.Str.length] using this
    rw [hx]; simp
  · have : n / b < n := Int.ediv_lt_self_of_pos_of_ne_one h (by omega)
    omega
set_option maxHeartbeats 4000000 in
theorem lawfig_spec (w : World) (n0 b : Int) (hn0 : 0 ≤ n0) (hn1 : n0 ≤ 40000) (hb : 2 ≤ b) (hb' : b ≤ 16) (t u : Tok) (news : List (Addr × Obj)) :
    Tel w 2 40 182 [.int n0 t, .int b u] True news (OutS ⟨(full b.toNat n0.toNat).toArray⟩) := by
  unfold Tel
  k_fill
  k_with_none
  intro mean mg mb dp un gd cn cs a0 ccd cl outer A₀ base h₀ L m s Q E B F X News0 Top0 hk hp hd hu hret
  refine wpAny_call ?_
  k_dflt cell_enter
  k_with "exec While BoolOp cons nil" => k_while (fun _ x n => 0 ≤ n ∧ n ≤ 40000 ∧ FInv b n0 x n) (fun _ x n => n.toNat + (if x.length = 0 then 1 else 0)) "text" "number"
  have hb0 : 0 < b := by omega
  k_with "subscriptTail" => k_dflt (refine KXi.item (n := 16) (by decide) (by have := Int.fmod_nonneg_of_pos (by assumption) hb0; omega) (by have := Int.fmod_lt_of_pos (by assumption) hb0; omega) (by decide) ?_; intro il)
  k_with "measure" => exact finv_less (n0 := n0) hb (by assumption) (.inl (by assumption))
  k_with "measure" => exact finv_less (n0 := n0) hb (by assumption) (.inr (by assumption))
  k_with "binaryOp Add str str" => k_dflt (have q9 := finv_len hb hn1 (by assumption); refine KOpn.add (by rw [il]; omega) ?_; intro _ _ _)
  k_with "state" => exact ⟨hn0, hn1, .inl ⟨by decide, rfl⟩⟩
  k_with "state" => exact finv_turn hb hb' (by assumption) (by assumption) (by assumption) (.inr (by assumption))
  k_with "state" => exact finv_turn hb hb' (by assumption) (by assumption) (by assumption) (.inl (by assumption))
  k_steps
  · refine hret _ [] _ _ (by assumption) (by assumption) (outS ?_)
    have q := finv_end (by assumption) (by assumption) (by assumption) (fun e => by
      have e2 := nil_iff.mp e
      simp_all)
    exact PySem.Str.ext' (by rw [← q])
end Rg

namespace Rg
open PySem.Spec PySem.Calls
set_option maxRecDepth 100000
theorem pow4 : (10 : Int) ^ Int.toNat 4 = 10000 := by decide
theorem prod_bnd {a b : Int} (h0 : 0 ≤ a) (h1 : a < 3) (h2 : 0 ≤ b) (h3 : b < 20000) : 0 ≤ a * b ∧ a * b ≤ 40000 := by
  have q0 : 0 ≤ a * b := Int.mul_nonneg h0 h2
  have q1 : a * b ≤ 2 * b := Int.mul_le_mul_of_nonneg_right (by omega) h2
  omega
/-- the well's ledger between two turns -/
noncomputable def WLed (dl dw : Addr) (lo : Array Value) : Obj × Int × Tok → List (Addr × Obj) := fun c => [(dl, PySem.W.listOf lo 0), (dw, c.1)]
noncomputable def WFacts (w : World) (dl : Addr) : Obj × Int × Tok → Prop := fun c => WellIs w c.1 dl c.2.1 c.2.2 ∧ 0 ≤ c.2.1
noncomputable def WP : List Int → Obj × Int × Tok → Prop := fun pre c => c.2.1 ≤ 9 * pre.length
abbrev lawNames : List Str := [PySem.Str.ofString "is_ring", PySem.Str.ofString "most", PySem.Str.ofString "bounds", PySem.Str.ofString "t", PySem.Str.ofString "number", PySem.Str.ofString "base", PySem.Str.ofString "text", PySem.Str.ofString "power", PySem.Str.ofString "before", PySem.Str.ofString "behind", PySem.Str.ofString "sign"]
abbrev TurnEnd (w : World) (h₀ : Heap) (L dl dw : Addr) (lo : Array Value) (x : Str) (m₀ : Str → Option Value) (pre : List Int) (own : List (Addr × Obj)) (s₁ : Shared) (Q : Flow → Shared → Prop) : Flow → Shared → Prop :=
  InvPostN h₀ L (KstS (WLed dl dw lo) (fun _ => []) (WFacts w dl) x lawNames m₀ WP pre) own [dl, dw] s₁ Q
section
variable {w : World} {A : Around} {E : Value → Shared → Prop} {s : Shared} {env : Env} {h₀ : Heap} {x : Str} {body : List Stmt} {Q : Flow → Shared → Prop}
theorem well_loop {r : Addr} {t₀ u₀ v₀ : Tok} {m₀ : Str → Option Value} {dl dw : Addr} {lo : Array Value} {o : Obj} {tk0 : Tok}
    (hh : A.handled = none) (hr : IsRange s.heap r 0 2 1 t₀ u₀ v₀) (F : Fr h₀ env.locals s.heap m₀) (N : News h₀ env.locals s.heap [(dl, PySem.W.listOf lo 0), (dw, o)])
    (hd : o.IsDictOf (PySem.strKind PySem.Challenge.rw_rg0004_01.row.prog w) [(PySem.Str.ofString "of", Value.ref dl), (PySem.Str.ofString "at", Value.int 0 tk0)])
    (turn : ∀ (o : Obj) (k : Int) (tk : Tok) (pre : List Int) (j : Int) t (u : Str → Option Value) h tkk own, OwnOff own [dl, dw] → WellIs w o dl k tk → 0 ≤ k → k ≤ 9 * pre.length → pre.length ≤ 1 →
      Fr h₀ env.locals h (fun y => if y = x then some (.int j t) else if lawNames.contains y then u y else m₀ y) → News h₀ env.locals h ([(dl, PySem.W.listOf lo 0), (dw, o)] ++ own) →
      wpAny (model PySem.Challenge.rw_rg0004_01.row.prog w) A (execs body env) (TurnEnd w h₀ env.locals dl dw lo x m₀ (pre ++ [j]) own { s with heap := h, toks := tkk } Q) E { s with heap := h, toks := tkk })
    (done : ∀ (u : Str → Option Value) h tk, Fr h₀ env.locals h (fun y => if y = x then u y else if lawNames.contains y then u y else m₀ y) → News h₀ env.locals h [] → Q .next { s with heap := h, toks := tk }) :
    wpAny (model PySem.Challenge.rw_rg0004_01.row.prog w) A (pyIter (.ref r)) (fun it s₂ => LoopAtV PySem.Challenge.rw_rg0004_01.row.prog w A h₀ env x body Q E it s₂) E s := by
  refine kst_range (n := 2) (WLed dl dw lo) (fun _ => []) (WFacts w dl) lawNames WP (o, 0, tk0) hh hr (by decide) (by decide) F N ⟨hd, Int.le_refl _⟩ (fun _ h => nomatch h) (Int.le_refl _) ?_ ?_
  · rintro ⟨o, k, tk⟩ pre j t u h tkk own _ hp hoff ⟨hw, hk⟩ hP F₁ N₁
    exact turn o k tk pre j t u h tkk own hoff hw hk hP (by omega) F₁ N₁
  · rintro ⟨o, k, tk⟩ u h tk' _ _ F₁ N₁
    exact done u h tk' F₁ (fun _ h => nomatch h)
theorem well_end {dl dw : Addr} {lo : Array Value} {m₀ m' : Str → Option Value} {pre : List Int} {j : Int} {own news' : List (Addr × Obj)} {s₁ : Shared} {h' : Heap} {tk : Nat} {L : Addr} {o : Obj} {k k0 : Int} {tk1 : Tok}
    (F : Fr h₀ L h' m') (N : News h₀ L h' news') (h1 : (dl, (PySem.W.listOf lo 0 : Obj)) ∈ news') (h2 : (dw, o) ∈ news') (ho : ∀ p ∈ own, p ∈ news') (hd : WellIs w o dl k tk1) (hk0 : 0 ≤ k0) (hk : k0 ≤ 9 * pre.length) (hk1 : k0 ≤ k ∧ k ≤ k0 + 9)
    (hr : ∀ z, z ≠ x → lawNames.contains z = false → m' z = m₀ z) :
    InvEndN h₀ L (KstS (WLed dl dw lo) (fun _ => []) (WFacts w dl) x lawNames m₀ WP (pre ++ [j])) own [dl, dw] s₁ { s₁ with heap := h', toks := tk } := by
  refine kst_end (o, k, tk1) F N ?_ ho rfl ⟨hd, by show 0 ≤ k; omega⟩ (fun _ h => nomatch h) (fun z h1 _ h2 => hr z h1 h2) ?_
  · intro p hp
    rcases List.mem_cons.mp hp with rfl | hp
    · exact h1
    · rw [List.mem_singleton.mp hp]; exact h2
  · show k ≤ 9 * ((pre ++ [j]).length : Int)
    rw [List.length_append, List.length_singleton]
    push_cast
    omega
end
end Rg

namespace Rg
open PySem.Spec PySem.Calls
set_option maxRecDepth 100000
noncomputable def NumIn (x : PySem.Str) (mi : Bool) (v : Int) : Prop := (chr x 0 = 45 ∧ mi = true ∧ ∃ R, Lit x 1 R ∧ v = -R) ∨ (chr x 0 = 43 ∧ mi = false ∧ Lit x 1 v) ∨ ((chr x 0 ≠ 43 ∧ chr x 0 ≠ 45) ∧ mi = false ∧ Lit x 0 v)
theorem num_spec (w : World) (x : PySem.Str) (hx : x.length ≤ 300) (hc : ∀ c ∈ x.cps.toList, c < 128 ∧ c ≠ 95) (mi : Bool) (v : Int) (h : NumIn x mi v) (t : Tok) (news : List (Addr × Obj)) :
    Tel w 5 110 116 [.str x t] True news (OutN v) := by
  obtain ⟨h0, _, R, h1, rfl⟩ | ⟨h0, _, h1⟩ | ⟨h0, _, h1⟩ := h
  · exact numM_spec w x hx hc R h0 h1 t news
  · exact numP_spec w x hx hc v h0 h1 t news
  · exact numO_spec w x hx hc v h0 h1 t news
theorem NumIn.bnd {x : PySem.Str} {mi : Bool} {v : Int} (h : NumIn x mi v) : 0 < x.length ∧ -16000000000 ≤ v ∧ v ≤ 16000000000 := by
  obtain ⟨h0, _, R, h1, rfl⟩ | ⟨h0, _, h1⟩ | ⟨h0, _, h1⟩ := h
  · have := h1.bnd; omega
  · have := h1.bnd; omega
  · have := h1.bnd; omega
theorem NumIn.head {x : PySem.Str} {mi : Bool} {v : Int} (h : NumIn x mi v) : (Txt.slice x none (some 1) == PySem.Str.ofString "-") = mi := by
  have hl := h.bnd.1
  refine str_beq (slice_head hl) tx_minus ?_
  obtain ⟨h0, h1, _⟩ | ⟨h0, h1, _⟩ | ⟨h0, h1, _⟩ := h
  · rw [h1, h0]; exact beq_self_eq_true _
  · rw [h1]; exact one_ne (by omega)
  · rw [h1]; exact one_ne h0.2
/-- the type object, as its dict says it -/
structure TyIs (news : List (Addr × Obj)) (tx dx : Addr) (es : List DictEntry) (n : Nat) (kd : PySem.Str) (lo hi : Int) : Prop where
  hx : (tx, (instObj 150 dx : Obj)) ∈ news
  hd : (dx, (dictOf es n : Obj)) ∈ news
  kind : ∃ t, getL (PySem.Str.ofString "kind") es = some (some (.str kd t))
  low : ∃ t, getL (PySem.Str.ofString "low") es = some (some (.int lo t))
  high : ∃ t, getL (PySem.Str.ofString "high") es = some (some (.int hi t))
noncomputable def Res (e : Option Int) (v : Value) : Prop := match e with
  | none => ∃ t, v = .str (PySem.Str.ofString "constraint_error") t
  | some y => ∃ t, v = .int y t
noncomputable def OutR (e : Option Int) (v : Value) (tl : List (Addr × Obj)) : Prop := tl = [] ∧ Res e v
theorem nd0 {h₀ h : Heap} {L : Addr} {a : Addr × Obj} {l : List (Addr × Obj)} (N : News h₀ L h (a :: l)) : News h₀ L h ([] ++ l) := fun p hp => N p (.tail _ hp)
end Rg

namespace Rg
open PySem.Spec PySem.Calls
set_option maxRecDepth 100000
/-- a tree that calls nothing, and whose writes leave every object's dict as it is -/
noncomputable def Tame {α : Type} : Sem α → Prop
  | .pure _ => True
  | .raise _ => True
  | .unsupported _ => True
  | .finish _ => True
  | .rule _ k => ∀ u, Tame (k u)
  | .at _ k => ∀ u, Tame (k u)
  | .load _ _ k => ∀ o, Tame (k o)
  | .update _ _ f k => (∀ o : Obj, (f o).dict = o.dict ∧ (o.isFreed = false → (f o).isFreed = false)) ∧ ∀ u, Tame (k u)
  | .alloc _ k => ∀ a, Tame (k a)
  | .loadIfAlive _ k => ∀ o, Tame (k o)
  | .point _ k => ∀ u, Tame (k u)
  | .fresh k => ∀ t, Tame (k t)
  | .ask k => ∀ x, Tame (k x)
  | .stack k => ∀ x, Tame (k x)
  | _ => False
noncomputable def SameDicts (h h' : Heap) : Prop := ∀ b o, h.get? b = some o → ∃ o', h'.get? b = some o' ∧ o'.dict = o.dict
theorem SameDicts.refl (h : Heap) : SameDicts h h := fun _ o e => ⟨o, e, rfl⟩
theorem SameDicts.trans {a b c : Heap} (x : SameDicts a b) (y : SameDicts b c) : SameDicts a c := fun i o e => by
  obtain ⟨o1, e1, d1⟩ := x i o e
  obtain ⟨o2, e2, d2⟩ := y i o1 e1
  exact ⟨o2, e2, d2.trans d1⟩
theorem SameDicts.update {h : Heap} {a : Addr} {f : Obj → Obj} (hf : ∀ o : Obj, (f o).dict = o.dict ∧ (o.isFreed = false → (f o).isFreed = false)) : SameDicts h (h.update a f) := fun b o e => by
  by_cases q : a = b
  · subst q
    exact ⟨_, Heap.get?_update_self f e ((hf o).2 (Heap.get?_some_iff.mp e).2), (hf o).1⟩
  · exact ⟨o, by rw [Heap.get?_update_other _ _ q]; exact e, rfl⟩
theorem tame_bind {α β : Type} {f : α → Sem β} (hf : ∀ a, Tame (f a)) : ∀ (m : Sem α), Tame m → Tame (m >>= f) := by
  intro m
  show Tame m → Tame (m.bind f)
  induction m with
  | pure a => intro _; exact hf a
  | raise e => intro _; trivial
  | unsupported w => intro _; trivial
  | finish e => intro _; trivial
  | rule _ k ih => intro h u; exact ih u (h u)
  | «at» _ k ih => intro h u; exact ih u (h u)
  | load a _ k ih => intro h u; exact ih u (h u)
  | update a _ g k ih => intro h; exact ⟨h.1, fun u => ih u (h.2 u)⟩
  | alloc o k ih => intro h u; exact ih u (h u)
  | loadIfAlive a k ih => intro h u; exact ih u (h u)
  | point _ k ih => intro h u; exact ih u (h u)
  | fresh k ih => intro h u; exact ih u (h u)
  | ask k ih => intro h u; exact ih u (h u)
  | stack k ih => intro h u; exact ih u (h u)
  | _ => intro ht; exact ht.elim
theorem tame_wp {α : Type} (M : Model) (Γ : PySem.Ctx) (s₀ : Heap) : ∀ (t : Sem α) (_ : Tame t) {Q : α → Pos → Shared → Prop} {E : Value → Pos → Shared → Prop} {p : Pos} {s : Shared},
    SameDicts s₀ s.heap → Sem.wp M Γ t Q E p s → Sem.wp M Γ t (fun a p s' => Q a p s' ∧ SameDicts s₀ s'.heap) (fun e p s' => E e p s' ∧ SameDicts s₀ s'.heap) p s := by
  intro t
  induction t with
  | pure a => intro _ Q E p s k h; exact ⟨h, k⟩
  | raise e => intro _ Q E p s k h; exact ⟨h, k⟩
  | unsupported w => intro _ Q E p s k h; exact h
  | finish e => intro _ Q E p s k h; exact h
  | rule _ k ih => intro ht Q E p s d h; exact ih () (ht ()) d h
  | «at» _ k ih => intro ht Q E p s d h; exact ih () (ht ()) d h
  | load a _ k ih => intro ht Q E p s d h; obtain ⟨o, ho, h⟩ := h; exact ⟨o, ho, ih o (ht o) d h⟩
  | update a _ f k ih => intro ht Q E p s d h; obtain ⟨ha, h⟩ := h; exact ⟨ha, ih () (ht.2 ()) (d.trans (SameDicts.update ht.1)) h⟩
  | alloc o k ih => intro ht Q E p s d h; exact ih _ (ht _) (fun b o' e => by obtain ⟨o1, e1, d1⟩ := d b o' e; exact ⟨o1, Heap.get?_push_of_some _ e1, d1⟩) h
  | loadIfAlive a k ih => intro ht Q E p s d h; exact ih _ (ht _) d h
  | point _ k ih => intro ht Q E p s d h; exact ih () (ht ()) d h
  | fresh k ih => intro ht Q E p s d h; exact ih _ (ht _) d h
  | ask k ih => intro ht Q E p s d h; exact ih _ (ht _) d h
  | stack k ih => intro ht Q E p s d h; exact ih _ (ht _) d h
  | _ => intro ht; exact ht.elim
theorem tame_any {α : Type} {M : Model} {A : Around} {t : Sem α} {Q : α → Shared → Prop} {E : Value → Shared → Prop} {s : Shared} (ht : Tame t) (h : wpAny M A t Q E s) :
    wpAny M A t (fun a s' => Q a s' ∧ SameDicts s.heap s'.heap) (fun e s' => E e s' ∧ SameDicts s.heap s'.heap) s := fun Γ p hΓ => tame_wp M Γ s.heap t ht (SameDicts.refl _) (h Γ p hΓ)
theorem tame_load {a : Addr} {p : Option Value} : Tame (loadPart a p) := fun _ => trivial
theorem tame_load1 {a : Addr} : Tame (load a) := fun _ => trivial
theorem tame_stack : Tame stack := fun _ => trivial
theorem tame_unsup {α : Type} {w : String} : Tame (unsupported w : Sem α) := trivial
theorem tame_pure {α : Type} {a : α} : Tame (pure a : Sem α) := trivial
theorem mapFields_ok (g : Array Value → Array Value) : ∀ o : Obj, (Obj.mapFields g o).dict = o.dict ∧ (o.isFreed = false → (Obj.mapFields g o).isFreed = false) := by
  rintro ⟨c, d, dt, sl⟩
  cases dt <;> exact ⟨rfl, fun h => h⟩
theorem tame_fieldsOf (v : Value) : Tame (fieldsOf v) := by
  unfold fieldsOf
  split
  · refine tame_bind (fun o => ?_) _ tame_load1
    split <;> trivial
  · trivial
theorem tame_field (v : Value) (i : Nat) : Tame (field v i) := by
  unfold field
  refine tame_bind (fun vs => ?_) _ (tame_fieldsOf v)
  split <;> trivial
theorem tame_setField (v : Value) (i : Nat) (x : Value) : Tame (setField v i x) := by
  unfold setField
  split
  · unfold updateField
    refine tame_bind (fun o => ?_) _ tame_load1
    split
    · split
      · exact ⟨mapFields_ok _, fun _ => trivial⟩
      · trivial
    · trivial
  · trivial
theorem tame_setFlight (e : Value) (f : Option Addr) : Tame (setFlight e f) := by
  unfold setFlight
  refine tame_bind (fun tb => ?_) _ (tame_field _ _)
  split
  · exact tame_setField _ _ _
  · trivial
theorem tame_newEntry (a b c d e : Value) (l : List Value) : Tame (EntryCells.newEntry a b c d e l) := by
  unfold EntryCells.newEntry newFields newObj newObjAsIs
  dsimp only
  repeat' (first | split | (refine tame_bind (fun _ => ?_) _ ?_) | trivial | exact fun _ => trivial)
theorem tame_readyFrames : ∀ l : List Env, Tame (readyFrames l)
  | [] => trivial
  | env :: outer => by
    unfold readyFrames
    split
    · refine tame_bind (fun o => ?_) _ tame_load1
      split
      · trivial
      · refine tame_bind (fun i => ?_) _ ?_
        · refine tame_bind (fun b => ?_) _ ?_
          · refine tame_bind (fun _ => tame_readyFrames outer) _ ?_
            exact ⟨fun o => ⟨rfl, fun h => by obtain ⟨c, d, dt, sl⟩ := o; cases dt <;> exact h⟩, fun _ => trivial⟩
          · unfold keptBack
            split
            · split
              · trivial
              · refine tame_bind (fun _ => ?_) _ ?_
                · trivial
                · exact fun _ => trivial
            · trivial
        · unfold behindIsImport
          split
          · trivial
          · split
            · trivial
            · refine tame_bind (fun _ => ?_) _ (tame_field _ _)
              trivial
    · trivial
theorem tame_frameOf (env : Env) : Tame (PySem.frameOf env) := by
  unfold PySem.frameOf frameEnvs
  refine tame_bind (fun es => ?_) _ ?_
  rotate_left
  · intro _; trivial
  refine tame_bind (fun r => ?_) _ ?_
  · split <;> trivial
  · unfold frameObject
    split
    · trivial
    · refine tame_bind (fun _ => ?_) _ (tame_readyFrames _)
      trivial
theorem tame_entryPlace (f : Addr) (b : Bool) : Tame (entryPlaceOf f b) := by
  unfold entryPlaceOf
  refine tame_bind (fun st => ?_) _ ?_
  rotate_left
  · intro _; trivial
  split <;> trivial
theorem tame_noteFrame (e : Value) (env : Env) : Tame (noteFrame e env) := by
  unfold noteFrame
  split
  · refine tame_bind (fun h => ?_) _ (tame_field _ _)
    have last : ∀ f : Addr, Tame (do setField e 1 (← EntryCells.newEntry h (← PySem.frameOf env) .none (rawInt f) .none (← entryPlaceOf f (h != .none)))) := fun f =>
      tame_bind (fun a => tame_bind (fun pl => tame_bind (fun b => tame_setField _ _ _) _ (tame_newEntry _ _ _ _ _ _)) _ (tame_entryPlace _ _)) _ (tame_frameOf env)
    split
    · refine tame_bind (fun x => ?_) _ (tame_field _ _)
      split
      · trivial
      · exact tame_bind (fun _ => last _) _ (tame_setField _ _ _)
    · exact last _
  · trivial
theorem tame_leaving (env : Env) (e : Value) : Tame (leaving env e) := by
  unfold leaving
  exact tame_bind (fun _ => tame_setFlight _ _) _ (tame_noteFrame _ _)
end Rg

namespace Rg
open PySem.Spec PySem.Calls
set_option maxRecDepth 100000
/-- an exception in flight, its dict known -/
noncomputable def RaisedZ (base G : Heap) (l : List Env) (e : Addr) (cls : Value) (t : Addr) (vs : List Value) (dx : Addr) (news : List (Addr × Obj)) (h : Heap) : Prop :=
  RaisedS base G l e cls t vs news h ∧ ∃ o, h.get? e = some o ∧ o.dict = some dx
section
variable {M : Model} {A : Around} {E : Value → Shared → Prop} {s' : Shared} {base g g₂ : Heap} {outer : List Env} {L a e t dx : Addr} {m : Str → Option Value} {name : Str} {scope : Scope} {cd : Value} {Q : Unit → Shared → Prop} {news keep : List (Addr × Obj)}
theorem leave_firstZ {oe : Obj} {vs : Array Value} {args : List Value} {nt : Nat} (K : Below A base outer g) (F : Fr g L s'.heap m) (N : News g L s'.heap news) (he : (e, oe) ∈ news)
    (ht : (t, ({ cls := .type "tuple", data := .seq args.toArray nt } : Obj)) ∈ news) (hk : ∀ p ∈ keep, p ∈ news ∧ p.1 ≠ e ∧ p.1 ≠ t)
    (hdx : oe.dict = some dx) (hd : oe.data = .fields vs) (h1 : vs[1]? = some .none) (h0 : vs[0]? = some (.ref t))
    (hQ : ∀ h', RaisedZ base g outer e oe.cls t args dx keep h' → g.UpToSlots h' → Q () { s' with heap := h' }) (hkd : scope.kind = .function := by rfl) :
    wpAny M (A.deeper (envOf name scope L a cd)) (leaving (envOf name scope L a cd) (.ref e)) Q E s' := by
  have K' := K.push (name := name) (a := a) (cd := cd) F hkd
  have hin : ∀ env ∈ (envOf name scope L a cd :: outer), ∀ b, env.frame = some b → b ∈ (e :: t :: (envOf name scope L a cd :: outer).filterMap (·.frame)) := fun env he b hb => .tail _ (.tail _ (List.mem_filterMap.mpr ⟨env, he, hb⟩))
  have ge : g.get? e = none := (N _ he).2.2
  have gt : g.get? t = none := (N _ ht).2.2
  have gb : ∀ {b : Addr}, g.get? b = none → base.get? b = none := fun q => fresh_of_stays K.stays q
  have st : base.StaysIn (hideAll s'.heap (e :: t :: (envOf name scope L a cd :: outer).filterMap (·.frame))) := fun b o q => hideAll_get _ (K'.stays b o q) fun hm => by
    rcases List.mem_cons.mp hm with z | hm
    · rw [z, gb ge] at q; cases q
    · rcases List.mem_cons.mp hm with z | hm
      · rw [z, gb gt] at q; cases q
      · rw [(K'.frames.mem hm).1] at q; cases q
  have sg : ∀ b o, g.get? b = some o → b ∉ outer.filterMap (·.frame) → (hideAll s'.heap (e :: t :: (envOf name scope L a cd :: outer).filterMap (·.frame))).get? b = some o := fun b o q nm => hideAll_get _ (F.keep b o q) fun hm => by
    rcases List.mem_cons.mp hm with z | hm
    · rw [z, ge] at q; cases q
    · rcases List.mem_cons.mp hm with z | hm
      · rw [z, gt] at q; cases q
      · rcases kts_mem hm with z | z
        · rw [z, kts_self F] at q; cases q
        · exact nm z
  have hl : ∀ q ∈ keep, (hideAll s'.heap (e :: t :: (envOf name scope L a cd :: outer).filterMap (·.frame))).get? q.1 = some q.2 ∧ g.get? q.1 = none ∧ base.get? q.1 = none := fun q hq => by
    obtain ⟨hq, hne, hnt⟩ := hk q hq
    refine ⟨hideAll_get _ (N q hq).1 fun hm => ?_, (N q hq).2.2, gb (N q hq).2.2⟩
    rcases List.mem_cons.mp hm with z | hm
    · exact hne z
    rcases List.mem_cons.mp hm with z | hm
    · exact hnt z
    rcases kts_mem hm with z | z
    · exact (N q hq).2.1 z
    · obtain ⟨o, ho, _⟩ := (K.frames.mem z).2
      rw [(N q hq).2.2] at ho; cases ho
  have hen : (hideAll s'.heap (e :: t :: (envOf name scope L a cd :: outer).filterMap (·.frame))).get? e = none := hideAll_none _ (.head _)
  have htn : (hideAll s'.heap (e :: t :: (envOf name scope L a cd :: outer).filterMap (·.frame))).get? t = none := hideAll_none _ (.tail _ (.head _))
  have main := wpAny_leaving_firstW (M := M) (E := E) (s := s') (Q := fun _ s2 => ∃ h', s2 = { s' with heap := h' } ∧ RaisedS base g outer e oe.cls t args keep h' ∧ g.UpToSlots h') (a0 := .ref t) K'.stack
    (funFrames_hide K'.frames hin) rfl (N _ he).1 (fun b o hb => of_hideAll _ hb) hen hd h1 h0 fun h' hL => by
      obtain ⟨k1, ⟨_, _, k2⟩, k3, k4⟩ := hL
      exact ⟨h', rfl, ⟨⟨_, st, sg, hl, ⟨k1, hen, k2, k3⟩, htn⟩, Heap.TupAt.of_slots ⟨_, _, (N _ ht).1, rfl, rfl⟩ k4⟩, (Heap.UpToSlots.of_keeps F.keep).trans k4⟩
  refine wpAny_mono (tame_any (tame_leaving _ _) main) (fun _ s2 q => ?_) (fun _ _ q => q.1)
  obtain ⟨⟨h', rfl, R, U⟩, D⟩ := q
  obtain ⟨o', e', d'⟩ := D e oe (N _ he).1
  exact hQ h' ⟨R, o', e', d'.trans hdx⟩ U
theorem leave_nextZ {cls : Value} {vs : List Value} (K : Below A base outer g) (F : Fr g L g₂ m) (R : RaisedZ base g₂ (envOf name scope L a cd :: outer) e cls t vs dx news s'.heap) (hsm : g₂.UpToSlots s'.heap)
    (hQ : ∀ h', RaisedZ base g outer e cls t vs dx news h' → g.UpToSlots h' → Q () { s' with heap := h' }) :
    wpAny M (A.deeper (envOf name scope L a cd)) (leaving (envOf name scope L a cd) (.ref e)) Q E s' := by
  obtain ⟨R, o, eo, hdx⟩ := R
  have main := leave_onS (M := M) (E := E) (Q := fun _ s2 => ∃ h', s2 = { s' with heap := h' } ∧ RaisedS base g outer e cls t vs news h' ∧ g.UpToSlots h') K F R hsm fun h' R' _ U => ⟨h', rfl, R', U⟩
  refine wpAny_mono (tame_any (tame_leaving _ _) main) (fun _ s2 q => ?_) (fun _ _ q => q.1)
  obtain ⟨⟨h', rfl, R, U⟩, D⟩ := q
  obtain ⟨o', e', d'⟩ := D e o eo
  exact hQ h' ⟨R, o', e', d'.trans hdx⟩ U
end
/-- what the handler finds: the exception in the ledger, its dict known -/
noncomputable def GotZ (news : List (Addr × Obj)) (e : Addr) (cls : Value) (dx : Addr) : Prop := ∃ (oe : Obj) (ws : Array Value), (e, oe) ∈ news ∧ oe.cls = cls ∧ oe.data = .fields ws ∧ oe.dict = some dx
section
variable {prog : Program} {w : World} {A₀ : Around} {E : Value → Shared → Prop} {s' : Shared} {base g G : Heap} {outer : List Env} {L a e t C dx : Addr} {m : Str → Option Value} {name : Str} {scope : Scope} {cd : Value}
  {vs : List Value} {n : Str} {b₀ : Stmt} {suite : List Stmt} {pos np : Pos} {rest : List ExceptHandler} {Q : Flow → Shared → Prop} {news : List (Addr × Obj)} {KF : Frag}
  {p : Program} {loose : List Str} {mean : ExcName → Option Value} {mg mb : Str → Option Value} {x : Str}
theorem caughtZ (R : RaisedZ base G (envOf name scope L a cd :: outer) e (.ref C) t vs dx news s'.heap) (F : Fr g L G m) (K : Below A₀ base outer g) (hsm : G.UpToSlots s'.heap) (XB : KF.In base) (TB : Top p loose mean mg mb base)
    (ex : nsIn KF mainGlobals x = some (some (.ref C))) (q : ktsIn KF C "BaseException" = true)
    (k : ∀ h' g' oe ws tk, KtsTurn (outer.filterMap (·.frame)) g g' → Fr g' L h' (fun y => if y = n then some (.ref e) else m y) → News g' L h' ((e, oe) :: news) → oe.cls = .ref C → oe.data = .fields ws → oe.dict = some dx → Below A₀ base outer g' → KF.In g' → Top p loose mean mg mb g' →
      wpAny (model prog w) ((A₀.deeper (envOf name scope L a cd)).mark (some (.ref e))) (execs (b₀ :: suite) (envOf name scope L a cd))
        (fun f s₄ => wpAny (model prog w) (A₀.deeper (envOf name scope L a cd)) (do bindName (envOf name scope L a cd) n .none; unbindBehindTheSuite (envOf name scope L a cd) n pos) (fun _ s₅ => Q f s₅) E s₄)
        (AsSuiteRaised (model prog w) ((A₀.deeper (envOf name scope L a cd)).mark (some (.ref e))) (envOf name scope L a cd) n pos (notedBy (model prog w) ((A₀.deeper (envOf name scope L a cd)).mark (some (.ref e))) (envOf name scope L a cd) (cameBackBy (model prog w) (A₀.deeper (envOf name scope L a cd)) (envOf name scope L a cd) E)))
        { s' with heap := h', toks := tk })
    (hk : scope.kind = .function := by rfl) (hlo : (envOf name scope L a cd).kindOf n = some .local := by rfl) (hx : (envOf name scope L a cd).kindOf x = some .globalImplicit := by rfl) (hd : (x == ("__debug__" : Str)) = false := by decide) :
    wpAny (model prog w) (A₀.deeper (envOf name scope L a cd)) (noteFrame (.ref e) (envOf name scope L a cd))
      (fun _ s₂ => wpAny (model prog w) (A₀.deeper (envOf name scope L a cd)) (setFlight (.ref e) none) (fun _ s₃ =>
        wpAny (model prog w) (A₀.deeper (envOf name scope L a cd)) (handleBy (.ref e) (envOf name scope L a cd) (.ExceptHandler (some (.Name x np)) (some n) (b₀ :: suite) pos :: rest)) Q E s₃) E s₂) E s' := by
  obtain ⟨⟨⟨B, hB, hBG, hl, hfl, hnew⟩, htup⟩, o0, e0, d0⟩ := R
  have hL : B.get? L = none := by
    obtain ⟨_, ⟨L', _, hf, hn', _⟩, _⟩ := hfl.2.2.1
    obtain rfl : L = L' := Option.some.inj hf
    exact hn'
  refine wpAny_mono (tame_any (tame_noteFrame _ _) (wpAny_looks_onW (Q := fun _ s2 => ∃ h4, s2 = { s' with heap := h4 } ∧ Heap.HeldW B (envOf name scope L a cd :: outer) e (.ref C) (.ref t) L h4 ∧ s'.heap.UpToSlots h4) (Around.frames_deeper K.stack) rfl hfl fun h4 a4 b4 => ⟨h4, rfl, a4, b4⟩)) (fun _ s2 q4 => ?_) (fun _ _ q4 => q4.1)
  obtain ⟨⟨h4, rfl, hheld4, hsm4⟩, D4⟩ := q4
  obtain ⟨o4, e4, d4⟩ := D4 e o0 e0
  refine wpAny_mono (tame_any (tame_setFlight _ _) (wpAny_landsW (Q := fun _ s2 => ∃ h5, s2 = { s' with heap := h5 } ∧ Heap.FlyingW B (envOf name scope L a cd :: outer) e (.ref C) (.ref t) h5 ∧ h4.UpToSlots h5) hheld4 fun h5 a5 b5 => ⟨h5, rfl, a5, b5⟩)) (fun _ s2 q5 => ?_) (fun _ _ q5 => q5.1)
  obtain ⟨⟨h5, rfl, hheld, hsm5'⟩, D5⟩ := q5
  obtain ⟨o5, e5, d5⟩ := D5 e o4 e4
  have hsm5 := hsm4.trans hsm5'
  obtain ⟨g5, T5, F5, K5⟩ := kts_ground K F hBG hheld.1 (hsm.trans hsm5)
  have X5 : KF.In g5 := XB.keeps K5.stays
  have P5 : TopRead p loose mg mb g5 := topRead_of (TB.keeps K5.stays)
  obtain ⟨ob, hob, hobc⟩ := hheld.there
  refine wpAny_handleBy_cons (codeAny_handlers_test (name_K F5 X5 P5 ex ?_ hk hx hd)) (by intro q; cases q)
  obtain ⟨nm, qn, Nc, bs, bm, hdct, sn, sub, ab, col, dd, k0, k1, k2, k3, k5, nid, hC, hb, _⟩ := kts_cls (X5.keeps F5.keep) q
  refine wpAny_excMatches_sub_self hC hob hobc hb (codeAny_handlers_suite_as ?_)
  refine wpAny_mono (tame_any (tame_setFlight _ _) (lands_againW (Q := fun _ s2 => ∃ h6, s2 = { s' with heap := h6 } ∧ Heap.FlyingW B (envOf name scope L a cd :: outer) e (.ref C) (.ref t) h6 ∧ h5.UpToSlots h6) hheld fun h6 a6 b6 => ⟨h6, rfl, a6, b6⟩)) (fun _ s2 q6 => ?_) (fun _ _ q6 => q6.1)
  obtain ⟨⟨h6, rfl, hfl6, hsm6⟩, D6⟩ := q6
  obtain ⟨o6, e6, d6⟩ := D6 e o5 e5
  obtain ⟨g6, T6, F6, K6⟩ := kts_ground K F hBG hfl6.1 ((hsm.trans hsm5).trans hsm6)
  obtain ⟨oe, ws, hoe, hoec, hoed, hoe0⟩ := hfl6.first
  have ne6 : g6.get? e = none := T6.none_ _ (kts_fresh F hBG hfl6.2.1 fun o ho m => by
    obtain ⟨_, o', ho', hd⟩ := K.frames.mem m
    rw [ho] at ho'
    cases ho'
    obtain ⟨sl, hs⟩ := ((hsm.trans hsm5).trans hsm6) _ _ (F.keep _ _ ho) hd
    rw [hoe] at hs
    cases hs
    exact hd _ hoed)
  have hoedx : oe.dict = some dx := by
    rw [hoe] at e6
    cases e6
    rw [d6, d5, d4, d0]
  have Nl : News g6 L h6 news := fun q hq => ⟨hfl6.1 _ _ (hl q hq).1, (fun z => by have := (hl q hq).1; rw [z, hL] at this; cases this), T6.none_ _ (kts_none F.keep (hl q hq).2.1)⟩
  have N6 : News g6 L h6 ((e, oe) :: news) := News.more F6 Nl hoe (fun es n q => by rw [hoed] at q; cases q) ne6
  refine stN F6 N6 (fun h7 F7 N7 => ?_) hk hlo
  exact k h7 g6 oe ws _ T6 F7 N7 hoec hoed hoedx K6 (XB.keeps K6.stays) (TB.keeps K6.stays)
end
end Rg

namespace Rg
open PySem.Spec PySem.Calls
set_option maxRecDepth 100000
section
variable {prog : Program} {w : World} {A : Around} {R : Result → Shared → Prop} {E : Value → Shared → Prop} {h : Heap} {gs : Array GenState} {d : Drawn} {t : Nat} {os : OsState}
variable {nm q : Str} {C N : Addr} {bs bm bmB : List Value} {hdct : Bool} {sn : List Str} {sub : List Value} {ab : Bool} {col : Option Bool} {dd : Option Addr} {k0 k1 k2 k3 k5 : Option Value} {B newId initId : String}
theorem exc_new (F : ExcBaseFacts B newId initId bmB) (hB : bm.contains (.type B) = true) (hA : bm.contains (.type "AttributeError") = false) (hN : bm.contains (.type "NameError") = false) {rest : List Value}
    (hC : h.get? C = some (excClassObj nm q C N bs bm hdct sn sub ab col dd k0 k1 k2 k3 k5 newId))
    (hq : R (.ok (.ret (.ref (h.objs.size + 1)))) ⟨(h.push { cls := .type "tuple", data := .seq rest.toArray }).push { cls := .ref C, data := .fields #[.ref h.objs.size, .none, .none, .none, .bool false, .none] }, gs, d, t, os⟩)
    (hrest : rest.length ≤ sizeLine := by size_fits) : codeAny (model prog w) A (.builtin newId ⟨.ref C :: rest, []⟩) R ⟨h, gs, d, t, os⟩ := by
  have hends := F.ends
  have c1 : (Value.ref C :: bm).contains (.type B) = true := by rw [List.contains_cons, hB, Bool.or_true]
  have c2 : (Value.ref C :: bm).contains (.type "AttributeError") = false := by rw [List.contains_cons, hA]; rfl
  have c3 : (Value.ref C :: bm).contains (.type "NameError") = false := by rw [List.contains_cons, hN]; rfl
  refine codeAny_builtinAt F.entry ?_
  unfold Builtin.«BaseException.__new__»
  refine PySem.wpAt_bind ?_
  show PySem.wpAt _ _ _ (stack >>= _) _ _ _
  refine PySem.wpAt_bind (PySem.wpAt_stack fun p below => PySem.wpAt_of_wpAny ?_)
  wp_walk
  refine PySem.wpAt_of_wpAny ?_
  rw [F.owner]
  repeat (first | with_reducible refine wpAny_madeHere_exc F.canon hC ?_ | with_reducible refine wpAny_loadPart_at hC ?_ | (with_reducible refine wpAny_isSubtype_exc hC ?_; first | rw [c1] | rw [c2] | rw [c3]) | wp_step)
  show R _ _
  rw [Heap.size_push]
  exact hq
theorem type_call_exc {K : Frag} {fI : Addr} (F : ExcBaseFacts B newId initId bmB) (hB : bm.contains (.type B) = true) (hA : bm.contains (.type "AttributeError") = false) (hN : bm.contains (.type "NameError") = false) (X : K.In h)
    (hi : findIn K (.ref C) "__init__" = some (some (.ref fI))) (hf : typeIn K (.ref fI) = some (.type "function")) {rest : List Value} {Q : Fin → Shared → Prop}
    (hC : h.get? C = some (excClassObj nm q C N bs bm hdct sn sub ab col dd k0 k1 k2 k3 k5 newId))
    (hq : wpAny (model prog w) A (call (.ref fI) (.ref (h.objs.size + 1) :: rest)) (fun r s' => r = .none ∧ Q (.done (.ret (.ref (h.objs.size + 1)))) s') E
      ⟨(h.push { cls := .type "tuple", data := .seq rest.toArray }).push { cls := .ref C, data := .fields #[.ref h.objs.size, .none, .none, .none, .bool false, .none] }, gs, d, t, os⟩)
    (hrest : rest.length ≤ sizeLine := by size_fits) :
    wpAny (model prog w) A (Builtin.«type.__call__» ⟨.ref C :: rest, []⟩) Q E ⟨h, gs, d, t, os⟩ := by
  repeat (first | with_reducible refine wpAny_loadPart_at hC ?_ | with_reducible refine wpAny_madeBy_exc hC ?_ | wp_step)
  refine codeAny_call_builtin_code (Code.quiet_builtin _ F.quiet) (wpAny_check_new_subU F hB .base hC ?_)
  refine exc_new F hB hA hN hC ?_ hrest
  show wpAny _ _ _ _ _ _
  have kp : ∀ b o, h.get? b = some o → ((h.push { cls := .type "tuple", data := .seq rest.toArray }).push { cls := .ref C, data := .fields #[.ref h.objs.size, .none, .none, .none, .bool false, .none] }).get? b = some o := fun b o e => Heap.get?_push_of_some _ (Heap.get?_push_of_some _ e)
  have hC1 := kp _ _ hC
  have X1 := X.keeps kp
  have hget : ((h.push { cls := .type "tuple", data := .seq rest.toArray }).push { cls := .ref C, data := .fields #[.ref h.objs.size, .none, .none, .none, .bool false, .none] }).get? (h.objs.size + 1) = some
      { cls := .ref C, data := .fields #[.ref h.objs.size, .none, .none, .none, .bool false, .none] } := by heap_get
  have hcC : (Value.ref C :: bm).contains (.ref C) = true := by simp
  unfold isInstance
  repeat (first | with_reducible refine wpAny_loadPart_at hget ?_ | (with_reducible refine wpAny_isSubtype_exc hC1 ?_; rw [hcC]) | wp_step)
  show wpAny _ _ (typeLookup (.ref C) _) _ _ _
  refine (looks_findIn X1 hi).here ?_
  refine wpAny_holding (wpAny_bind ((bind_fn X1 _ hf).here ?_))
  refine wpAny_bind (wpAny_mono hq (fun r s' hr => ?_) fun _ _ x => x)
  obtain ⟨rfl, hQ⟩ := hr
  wp_walk
  exact hQ
theorem call_exc {K : Frag} {fI : Addr} (F : ExcBaseFacts B newId initId bmB) (hB : bm.contains (.type B) = true) (hA : bm.contains (.type "AttributeError") = false) (hN : bm.contains (.type "NameError") = false) (X : K.In h)
    (hi : findIn K (.ref C) "__init__" = some (some (.ref fI))) (hf : typeIn K (.ref fI) = some (.type "function")) {rest : List Value} {Q : Value → Shared → Prop}
    (hC : h.get? C = some (excClassObj nm q C N bs bm hdct sn sub ab col dd k0 k1 k2 k3 k5 newId))
    (hq : wpAny (model prog w) (A.under (.builtin "type.__call__" ⟨.ref C :: rest, []⟩)) (call (.ref fI) (.ref (h.objs.size + 1) :: rest)) (fun r s' => r = .none ∧ Q (.ref (h.objs.size + 1)) s') E
      ⟨(h.push { cls := .type "tuple", data := .seq rest.toArray }).push { cls := .ref C, data := .fields #[.ref h.objs.size, .none, .none, .none, .bool false, .none] }, gs, d, t, os⟩)
    (hrest : rest.length ≤ sizeLine := by size_fits) :
    wpAny (model prog w) A (call (.ref C) rest) Q E ⟨h, gs, d, t, os⟩ := by
  have f1 := tc_lookup
  have f2 := tc_bind (.ref C)
  have hT : (⟨h, gs, d, t, os⟩ : Shared).TypeIs (.ref C) "type" := ⟨_, hC, rfl⟩
  refine wpAny_call (codeAny_of_tree ?_)
  show wpAny _ _ (callAny (.ref C) _) _ _ _
  repeat (any_goals (first | assumption | with_reducible refine wpAny_loadPart_at hC ?_ | wp_step))
  refine ⟨rfl, ?_⟩
  refine codeAny_call_builtin_at (Code.quiet_builtin _ (by decide +kernel)) entry_typeCall (wpAny_check_type_call_sub hC (type_call_exc (hrest := hrest) F hB hA hN X hi hf hC ?_))
  exact hq
end
end Rg

namespace Rg
open PySem.Spec PySem.Calls
open PySem.Builtin.ObjectAttr
set_option maxRecDepth 100000
abbrev excObj (t : Addr) (d : Option Addr) : Obj := { cls := .ref 51, dict := d, data := .fields #[.ref t, .none, .none, .none, .bool false, .none] }
abbrev tup1 (v : Value) : Obj := { cls := .type "tuple", data := .seq #[v] }
theorem look_exc {w : World} {h : Heap} (X : (Rg.hd.heap_39 w.params).In h) : Looks (model PySem.Challenge.rw_rg0004_01.row.prog w) h (isSubtype (.ref 51) (.type "Exception")) true := by
  revert X
  k_fill
  k_with_none
  intro X
  refine looks_mroIn X ?_
  k_is
theorem look_obj {w : World} {h : Heap} (X : (Rg.hd.heap_39 w.params).In h) : Looks (model PySem.Challenge.rw_rg0004_01.row.prog w) h (isSubtype (.ref 51) (.type "object")) true := by
  revert X
  k_fill
  k_with_none
  intro X
  refine looks_mroIn X ?_
  k_is
abbrev mro51 : List Value := [.ref 31, .type "Exception", .type "BaseException", .type "object"]
theorem cls51 {w : World} {h : Heap} (_M : model PySem.Challenge.rw_rg0004_01.row.prog w = model PySem.Challenge.rw_rg0004_01.row.prog w) (X : (Rg.hd.heap_39 w.params).In h) : ∃ nm qn N bs sn sub ab col dd k0 k1 k2 k3 k5, h.get? 51 = some (excClassObj nm qn 51 N bs mro51 true sn sub ab col dd k0 k1 k2 k3 k5 "Exception.__new__") := by
  have z := X 51 _ (by k_is)
  exact ⟨_, _, _, _, _, _, _, _, _, _, _, _, _, _, z⟩
section
variable {w : World} {A : Around} {E : Value → Shared → Prop} {s : Shared} {h₀ : Heap} {L e t : Addr} {m : Str → Option Value} {rest : List (Addr × Obj)} {v : Value}
theorem exc_init_K {Q : Value → Shared → Prop} (F : Fr h₀ L s.heap m) (X₀ : (Rg.hd.heap_39 w.params).In h₀) (N : News h₀ L s.heap ((e, excObj t none) :: rest)) (hr : ∀ p ∈ rest, p.1 ≠ e)
    (h : ∀ t' h', Fr h₀ L h' m → News h₀ L h' ((e, excObj t' none) :: (t', tup1 v) :: rest) → (∀ p ∈ rest, p.1 < t') → e < t' → Q .none { s with heap := h' }) :
    wpAny (model PySem.Challenge.rw_rg0004_01.row.prog w) A (call (.builtin "Exception.__init__") [.ref e, v]) Q E s := by
  have FF := PySem.F.excBase_Exception
  have he := (N _ (.head _)).1
  have X := X₀.keeps F.keep
  have hshort := FF.noStar
  obtain ⟨hh, gs, d, tk, os⟩ := s
  have hts : (⟨hh, gs, d, tk, os⟩ : Shared).heap.get? e = some (excObj t none) := he
  refine wpAny_call (codeAny_call_builtin FF.init.plain FF.initEntry ?_)
  simp only [checkBuiltinCall, FF.initKind, FF.initSplit, FF.initRow]
  obtain ⟨nm, qn, Nc, bs, sn, sub, ab, col, dd, k0, k1, k2, k3, k5, hC⟩ := cls51 rfl X
  have hcB : (Value.ref 51 :: mro51).contains (.type "Exception") = true := by decide
  repeat (first | (with_reducible refine wpAny_loadPart_at he ?_) | (with_reducible refine wpAny_loadPart_at hC ?_) | (with_reducible refine wpAny_isSubtype_exc hC ?_; rw [hcB]) | wp_step)
  have lt : ∀ p ∈ (e, excObj t none) :: rest, p.1 < hh.objs.size := fun p hp => Heap.lt_size (N p hp).1
  obtain ⟨U1, U2⟩ := news_upd (pre := [(hh.objs.size, tup1 v)]) (post := rest) (d := e) (o' := excObj hh.objs.size none) (f := Obj.mapFields fun x => x.setIfInBounds 0 (Value.ref hh.objs.size)) (F.push (tup1 v)) (N.push F (tup1 v))
    (fun p hp => by rw [List.mem_singleton.mp hp]; exact Nat.ne_of_gt (lt _ (.head _))) hr rfl rfl
  refine h hh.objs.size _ U1 (fun p hp => U2 p ?_) (fun p hp => lt p (.tail _ hp)) (lt _ (.head _))
  rcases List.mem_cons.mp hp with rfl | hp
  · exact .tail _ (.head _)
  · rcases List.mem_cons.mp hp with rfl | hp
    · exact .head _
    · exact .tail _ (.tail _ hp)
theorem refuse_exc (self : Value) : refuseLoop self "__setattr__" mro51 = pure () := by
  rw [refuseLoop_ref]
  kernel_rfl
/-- a store of a new or an old name in an exception's dict, where the dict stands -/
theorem exc_store {name : Str} {tk : Tok} {dx : Addr} {es es' : List DictEntry} {n n' : Nat} {b : Bool} {Q : Fin → Shared → Prop} (F : Fr h₀ L s.heap m) (N : News h₀ L s.heap ((e, excObj t (some dx)) :: (dx, dictOf es n) :: rest)) (hne : e ≠ dx) (hr : ∀ p ∈ rest, p.1 ≠ dx)
    (hl : (getL name es).isSome = true) (hp : (putL name (PyData.keyHash w.params name) (.str name s.toks) v es, putN name es n) = (es', n')) (hz : es'.length ≤ 1000)
    (h : ∀ h', Fr h₀ L h' m → News h₀ L h' ((e, excObj t (some dx)) :: (dx, dictOf es' n') :: rest) → Q (.done (.ret .none)) { s with heap := h', toks := s.toks + 1 }) :
    wpAny (model PySem.Challenge.rw_rg0004_01.row.prog w) A (storeInDict dx (.str name tk) name v) Q E s := by
  obtain ⟨e1, e2⟩ := Prod.mk.inj hp
  have pn : Obj.putName name (PyData.keyHash w.params name) (.str name s.toks) v (dictOf es n) = dictOf es' n' := by rw [putName_dict, e1, e2]
  have D := (N (dx, dictOf es n) (.tail _ (.head _))).1
  obtain ⟨U1, U2⟩ := news_upd (pre := [(e, excObj t (some dx))]) (post := rest) (d := dx) (o' := dictOf es' n') (f := Obj.putName name (PyData.keyHash w.params name) (.str name s.toks) v) F N
    (fun p hp => by rw [List.mem_singleton.mp hp]; exact hne) hr pn rfl
  have D' := (U2 (dx, dictOf es' n') (.tail _ (.head _))).1
  unfold storeInDict
  refine wpAny_bind (wpAny_pure (wpAny_bind ?_))
  unfold nsSet
  refine wpAny_bind (wpAny_bind (wpAny_askSetting (wpAny_pure (wpAny_bind (wpAny_mkText (wpAny_bind (wpAny_loadPart D ?_)))))))
  dsimp only
  have c : (!es.toArray.any (·.key.isStr name) && es.toArray.any (·.refKey)) = false := by
    rw [← Array.any_toList, ← Array.any_toList]
    unfold getL at hl
    split at hl
    · rename_i en he
      rw [List.any_eq_true.mpr ⟨en, List.mem_of_find?_eq_some he, List.find?_some he⟩]; rfl
    · split at hl
      · cases hl
      · rename_i z; rw [Bool.not_eq_true] at z; rw [z, Bool.and_false]
  rw [aRefKeyMayBeTheName_at, c]
  refine wpAny_updatePart D ?_
  refine wpAny_bind (wpAny_lookBehind D' (pastItsLine_dict (by rw [List.size_toArray, sizeLine_eq]; omega)) ?_)
  exact wpAny_pure (h _ U1 U2)
theorem refuse_exc51 (self : Value) : refuseLoop self "__setattr__" (.ref 51 :: mro51) = pure () := by
  rw [refuseLoop_ref, refuse_exc]
theorem exc_set_open {d : Option Addr} {name : Str} {tk : Tok} {R : Result → Shared → Prop} {led : List (Addr × Obj)} (F : Fr h₀ L s.heap m) (X₀ : (Rg.hd.heap_39 w.params).In h₀) (N : News h₀ L s.heap ((e, excObj t d) :: led)) (ht : findIn (Rg.hd.heap_39 w.params) (.ref 51) name = some none)
    (h : wpAny (model PySem.Challenge.rw_rg0004_01.row.prog w) A.in1 (ownDictForStores (.ref e) >>= fun r => match r with | some dx => storeInDict dx (.str name tk) name v | none => noDictFor (.ref e) (.ref 51) name false)
      (fun fin s' => match fin with | .done f => R (.ok f) s' | .again c' => c'.quiet = true ∧ codeAny (model PySem.Challenge.rw_rg0004_01.row.prog w) A c' R s') (fun e s' => R (.error e) s') s) :
    codeAny (model PySem.Challenge.rw_rg0004_01.row.prog w) A (.call (.builtin "object.__setattr__") ⟨[.ref e, .str name tk, v], []⟩) R s := by
  have SF := PySem.F.store_object
  have X := X₀.keeps F.keep
  have he := (N _ (.head _)).1
  obtain ⟨nm, qn, Nc, bs, sn, sub, ab, col, dd, k0, k1, k2, k3, k5, hC⟩ := cls51 rfl X
  have T : Looks (model PySem.Challenge.rw_rg0004_01.row.prog w) s.heap (typeOf (.ref e)) (.ref 51) := (Looks.ld he).andThen .now
  refine codeAny_call_builtin SF.slot.plain SF.entry (@check_slot (model PySem.Challenge.rw_rg0004_01.row.prog w) _ _ s "object.__setattr__" "object" "__setattr__" (.ref e) [.str name tk, v] [] _ SF.kind SF.split (T.andThen (look_obj X)) (SF.args (.ref e) (.str name tk) v) ?_)
  rw [osa_eq, refuse_eq]
  obtain ⟨hh, gs, dr, tks, os⟩ := s
  refine wpAny_bind (wpAny_bind (T.here (wpAny_bind (wpAny_mroOf_exc hC ?_))))
  rw [refuse_exc51]
  refine wpAny_pure (wpAny_bind (T.here (wpAny_bind ((looks_findIn X ht).here (wpAny_bind ?_)))))
  exact wpAny_pure h
theorem hs51 (X : (Rg.hd.heap_39 w.params).In h₀) : (Rg.hd.heap_39 w.params).In h₀ ∧ findIn (Rg.hd.heap_39 w.params) (.ref 51) "__setattr__" = some (some (.builtin "object.__setattr__")) := ⟨X, by k_is⟩
theorem exc_set2 {dx : Addr} {es es' : List DictEntry} {n n' : Nat} {name : Str} {Q : Unit → Shared → Prop} (F : Fr h₀ L s.heap m) (X₀ : (Rg.hd.heap_39 w.params).In h₀) (N : News h₀ L s.heap ((e, excObj t (some dx)) :: (dx, dictOf es n) :: rest)) (hne : e ≠ dx) (hr : ∀ p ∈ rest, p.1 ≠ dx)
    (ht : findIn (Rg.hd.heap_39 w.params) (.ref 51) name = some none) (hl : (getL name es).isSome = true) (hp : (putL name (PyData.keyHash w.params name) (.str name (s.toks + 1)) v es, putN name es n) = (es', n')) (hz : es'.length ≤ 1000)
    (h : ∀ h', Fr h₀ L h' m → News h₀ L h' ((e, excObj t (some dx)) :: (dx, dictOf es' n') :: rest) → Q () { s with heap := h', toks := s.toks + 2 }) :
    wpAny (model PySem.Challenge.rw_rg0004_01.row.prog w) A (setAttr (.ref e) name v) Q E s := by
  have X := X₀.keeps F.keep
  have he := (N _ (.head _)).1
  have hdx := (N _ (.tail _ (.head _))).1
  obtain ⟨nm, qn, Nc, bs, sn, sub, ab, col, dd, k0, k1, k2, k3, k5, hC⟩ := cls51 rfl X
  refine set_plain X (InstAt.mk (od := some (dictOf es n)) he rfl rfl hdx) (hs51 X₀).2 (exc_set_open (s := { s with toks := s.toks + 1 }) F X₀ N ht ?_)
  obtain ⟨hh, gs, dr, tks, os⟩ := s
  have st := fun (Q' : Fin → Shared → Prop) (E' : Value → Shared → Prop) h9 => exc_store (A := A.in1) (E := E') (s := ⟨hh, gs, dr, tks + 1, os⟩) (tk := tks) (v := v) (Q := Q') (b := true) F N hne hr hl hp hz h9
  unfold ownDictForStores instanceDict classData
  repeat (first | exact st _ _ (fun h' F' N' => h h' F' N') | (with_reducible refine wpAny_loadPart_at he ?_) | (with_reducible refine wpAny_loadPart_at hC ?_) | (with_reducible refine wpAny_load hC ?_) | wp_step)
theorem exc_set1 {name : Str} {Q : Unit → Shared → Prop} (F : Fr h₀ L s.heap m) (X₀ : (Rg.hd.heap_39 w.params).In h₀) (N : News h₀ L s.heap ((e, excObj t none) :: rest)) (hr : ∀ p ∈ rest, p.1 ≠ e)
    (ht : findIn (Rg.hd.heap_39 w.params) (.ref 51) name = some none)
    (h : ∀ dx h', Fr h₀ L h' m → News h₀ L h' ((e, excObj t (some dx)) :: (dx, dictOf [⟨PyData.keyHash w.params name, .str name (s.toks + 1), v⟩] 1) :: rest) → (∀ p ∈ rest, p.1 ≠ dx) → e ≠ dx → Q () { s with heap := h', toks := s.toks + 2 }) :
    wpAny (model PySem.Challenge.rw_rg0004_01.row.prog w) A (setAttr (.ref e) name v) Q E s := by
  have X := X₀.keeps F.keep
  have he := (N _ (.head _)).1
  obtain ⟨nm, qn, Nc, bs, sn, sub, ab, col, dd, k0, k1, k2, k3, k5, hC⟩ := cls51 rfl X
  refine set_plain X (InstAt.mk (od := none) he rfl rfl trivial) (hs51 X₀).2 (exc_set_open (s := { s with toks := s.toks + 1 }) F X₀ N ht ?_)
  obtain ⟨hh, gs, dr, tks, os⟩ := s
  have lt : ∀ p ∈ (e, excObj t none) :: rest, p.1 < hh.objs.size := fun p hp => Heap.lt_size (N p hp).1
  obtain ⟨U1, U2⟩ := news_upd (pre := [(hh.objs.size, dictOf [] 0)]) (post := rest) (d := e) (o' := excObj t (some hh.objs.size)) (f := fun o => { o with dict := some hh.objs.size }) (F.push (dictOf [] 0)) (N.push F (dictOf [] 0))
    (fun p hp => by rw [List.mem_singleton.mp hp]; exact Nat.ne_of_gt (lt _ (.head _))) hr rfl rfl
  have U3 : News h₀ L ((hh.push (dictOf [] 0)).update e fun o => { o with dict := some hh.objs.size }) ((e, excObj t (some hh.objs.size)) :: (hh.objs.size, dictOf [] 0) :: rest) := fun p hp => U2 p (by
    rcases List.mem_cons.mp hp with rfl | hp
    · exact .tail _ (.head _)
    · rcases List.mem_cons.mp hp with rfl | hp
      · exact .head _
      · exact .tail _ (.tail _ hp))
  have hrd : ∀ p ∈ rest, p.1 ≠ hh.objs.size := fun p hp => Nat.ne_of_lt (lt p (.tail _ hp))
  have hed : e ≠ hh.objs.size := Nat.ne_of_lt (lt _ (.head _))
  have st := fun (Q' : Fin → Shared → Prop) (E' : Value → Shared → Prop) h9 => exc_store (A := A.in1) (E := E') (s := ⟨(hh.push (dictOf [] 0)).update e fun o => { o with dict := some hh.objs.size }, gs, dr, tks + 1, os⟩) (name := name) (tk := tks) (v := v) (Q := Q') (b := true) (es' := [⟨PyData.keyHash w.params name, .str name (tks + 1), v⟩]) (n' := 1) U1 U3 hed hrd rfl rfl (by simp) h9
  have he1 : (hh.push (dictOf [] 0)).get? e = some (excObj t none) := Heap.get?_push_of_some _ he
  unfold ownDictForStores instanceDict classData
  repeat (first | exact st _ _ (fun h' F' N' => h _ h' F' N' hrd hed) | (with_reducible refine wpAny_loadPart_at he ?_) | (with_reducible refine wpAny_loadPart_at hC ?_) | (with_reducible refine wpAny_load hC ?_) | wp_step)
end
end Rg

namespace Rg
open PySem.Spec PySem.Calls
set_option maxRecDepth 100000
local macro_rules | `(tactic| walk_at "setAttr ref") => `(tactic| k_extra "my set")
local macro_rules | `(tactic| walk_at "call ref") => `(tactic| k_extra "my call")
local macro_rules | `(tactic| walk_at "call builtin:Exception.__init__") => `(tactic| k_extra "my init")
local macro_rules | `(tactic| walk_at "getMethod type:Exception") => `(tactic| k_extra "my get")
theorem meta_exc : typeOf (.type "Exception") = pure (.type "type") := by kernel_rfl
set_option maxHeartbeats 4000000 in
theorem make51 (w : World) (x : PySem.Str) (tc ti tx : Tok) (news : List (Addr × Obj))
    (mean : ExcName → Option Value) (mg mb : Str → Option Value) (dp un : Nat) (gd : Option (List Code)) (cn : Str) (cs : Scope) (a : Addr) (ccd : Value) (cl : List (Str × Addr)) (outer : List Env) (A₀ : Around) (base h₀ : Heap) (L : Addr) (m : Str → Option Value) (s : Shared) (Q E : Value → Shared → Prop) :
    Below A₀ base outer h₀ → Fr h₀ L s.heap m → (Rg.hd.heap_39 w.params).In h₀ → News h₀ L s.heap news → Top Rg.hd.view_39 (looseW Rg.hd.view_39 []) mean mg mb h₀ → cs.kind = .function →
    dp + 4 < recursionLimit → un + 60 < cLine →
    (∀ e t dx es h' tk', Fr h₀ L h' m → News h₀ L h' ((e, excObj t (some dx)) :: (dx, dictOf es 4) :: (t, tup1 (.str x tx)) :: news) → getL (PySem.Str.ofString "word") es = some (some (.str (PySem.Str.ofString "constraint_error") tc)) → (∀ p ∈ news, p.1 ≠ e ∧ p.1 ≠ t) → e ≠ t → dx ≠ e → dx ≠ t → Q (.ref e) { s with heap := h', toks := tk' }) →
    wpAny (model PySem.Challenge.rw_rg0004_01.row.prog w) (ktrTop dp un gd cn cs L a ccd cl outer) (call (.ref 51) [.str (PySem.Str.ofString "constraint_error") tc, .int 0 ti, .str x tx]) Q E s := by
  k_fill
  k_with_none
  intro B F X News0 Top0 hk hd' hu hret
  have X1 := X.keeps F.keep
  obtain ⟨nm, qn, Nc, bs, sn, sub, ab, col, dd, k0, k1, k2, k3, k5, hC⟩ := cls51 rfl X1
  obtain ⟨hh, gs, dr, tks, os⟩ := s
  have lt : ∀ p ∈ news, p.1 < hh.objs.size := fun p hp => Heap.lt_size (News0 p hp).1
  have F1 := (F.push ({ cls := .type "tuple", data := .seq [Value.str (PySem.Str.ofString "constraint_error") tc, .int 0 ti, .str x tx].toArray } : Obj)).push (excObj hh.objs.size none)
  have N1 := (News0.push F ({ cls := .type "tuple", data := .seq [Value.str (PySem.Str.ofString "constraint_error") tc, .int 0 ti, .str x tx].toArray } : Obj)).push (F.push _) (excObj hh.objs.size none)
  rw [Heap.size_push] at N1
  have N2 : News h₀ L _ ((hh.objs.size + 1, excObj hh.objs.size none) :: news) := fun p hp => N1 p (by
    rcases List.mem_cons.mp hp with rfl | hp
    · exact .head _
    · exact .tail _ (.tail _ hp))
  have hre : ∀ p ∈ news, p.1 ≠ hh.objs.size + 1 := fun p hp => Nat.ne_of_lt (Nat.lt_succ_of_lt (lt p hp))
  refine call_exc (K := Rg.hd.heap_39 w.params) (fI := 48) PySem.F.excBase_Exception (by decide) (by decide) (by decide) X1 (by k_is) (by k_is) hC ?_ (by rw [sizeLine_eq]; exact Nat.le_of_ble_eq_true rfl)
  clear N1 hC lt F X1 News0
  generalize hh.objs.size + 1 = e at *
  generalize hh.objs.size = t0 at *
  generalize (hh.push ({ cls := .type "tuple", data := .seq [Value.str (PySem.Str.ofString "constraint_error") tc, .int 0 ti, .str x tx].toArray } : Obj)).push (excObj t0 none) = hq at *
  k_with "enter" => (refine' wpAny_call (code_def ?k1 ?k2 ?k3 ?k4 ?k5 ?kA ?kF ?kK ?k6 ?k7 ?k8 ?k9 ?kB ?_ ?c2 ?c3 ?c4 ?c5); (case kA => exact rfl); (case kF => exact rfl); (case kK => first | exact rfl | assumption); (case k1 => k_asm); (case k2 => k_asm); (case k3 => k_asm); (case k4 => k_asm); (case k5 => k_asm); (case k6 => k_is); (case k7 => k_is); (case k8 => ktr_room); (case k9 => exact BindsTo.of_eq rfl); (case c5 => decide); (case kB => exact locs rfl); (case c2 => exact rfl); (case c3 => exact rfl); (case c4 => exact rfl); k_whole; intro g9 L9 h9 FG9 F9 N9 B9 X9 T9; (try dsimp only); (try k_lift B9); (try k_fold))
  k_with "my call" => ((with_reducible show wpAny _ _ (PySem.call (Value.ref 28) _) _ _ _); k_dflt (k_extra "enter"))
  k_with "my init" => (k_dflt (refine' exc_init_K ?F ?X ?N ?hr ?_; (case F => k_asm); (case X => k_asm); (case N => k_asm); (case hr => assumption); intro t9 h9 F9 N9 lt9 et9; (try k_fold)))
  k_with "my set" => (k_dflt (refine' exc_set1 ?F ?X ?N ?hr ?ht ?_; (case F => k_asm); (case X => k_asm); (case N => k_asm); (case hr => exact List.forall_mem_cons.mpr ⟨Nat.ne_of_gt et9, hre⟩); (case ht => k_is); intro dx9 h9 F9 N9 hrd9 hed9; (try k_fold)))
  k_with "my set" => (k_dflt (refine' exc_set2 ?F ?X ?N ?hn ?hr ?ht ?hl ?hp ?hz ?_; (case F => k_asm); (case X => k_asm); (case N => k_asm); (case hn => exact hed9); (case hr => exact hrd9); (case ht => k_is); (case hl => k_get); (case hp => k_put); (case hz => exact Nat.le_of_ble_eq_true rfl); intro h9 F9 N9; (try k_fold)))
  k_with "my get" => (refine' method_type ?F ?X ?m (by decide +kernel) ?e ?h ?_; (case F => k_asm); (case X => k_asm); (case m => exact meta_exc); (case e => k_dflt k_is); (case h => k_handed))
  k_dflt (k_extra "enter")
  k_steps
  refine' hret e t9 dx9 ?es _ _ ?kF ?kN ?kg (fun p hp => ⟨hre p hp, Nat.ne_of_lt (lt9 p hp)⟩) (Nat.ne_of_lt et9) (Ne.symm hed9) (fun z => hrd9 _ (.head _) z.symm)
  (case kF => assumption)
  (case kN => assumption)
  (case kg => k_get)
end Rg

namespace Rg
open PySem.Spec PySem.Calls
set_option maxRecDepth 100000
/-- what a raise of the text's own exception asks -/
noncomputable def Flies (w : World) (E : Value → Shared → Prop) (v : Value) (s : Shared) : Prop := ∃ e t d, v = .ref e ∧ s.heap.get? e = some (excObj t d) ∧ (Rg.hd.heap_39 w.params).In s.heap ∧ E (.ref e) s
section
variable {w : World} {A : Around} {E : Value → Shared → Prop} {s : Shared} {env : Env}
theorem raise_stmt51 {x : Sem Value} {Q : Flow → Shared → Prop} (hh : A.handled = none) (h : wpAny (model PySem.Challenge.rw_rg0004_01.row.prog w) A x (Flies w E) E s) :
    wpAny (model PySem.Challenge.rw_rg0004_01.row.prog w) A (raiseStmt env (some x) none) Q E s := by
  have hcB : (Value.ref 51 :: mro51).contains (.type "BaseException") = true := by decide
  unfold raiseStmt
  refine wpAny_bind (wpAny_mono h (fun v s1 h1 => ?_) fun _ _ x => x)
  obtain ⟨e, t, d, rfl, he, X, hE⟩ := h1
  obtain ⟨nm, qn, Nc, bs, sn, sub, ab, col, dd, k0, k1, k2, k3, k5, hC⟩ := cls51 rfl X
  obtain ⟨hp, g, dr, tk, os⟩ := s1
  repeat (first | with_reducible refine wpAny_loadPart_at he ?_ | with_reducible refine wpAny_loadPart_at hC ?_ | (with_reducible refine wpAny_isSubtype_exc hC ?_; rw [hcB]) | wp_step)
  exact wpAny_raiseNew_none hh hE
theorem Raise51 {x : Expr} {pos : Pos} {Q : Flow → Shared → Prop} (hh : A.handled = none) (h : wpAny (model PySem.Challenge.rw_rg0004_01.row.prog w) A (eval x env) (Flies w E) E s) :
    wpAny (model PySem.Challenge.rw_rg0004_01.row.prog w) A (exec (.Raise (some x) none pos) env) Q E s := by
  rw [arm_exec_Raise]
  refine wpAny_bind (wpAny_standAt (raise_stmt51 hh ?_))
  first
    | exact wpAny_bind (wpAny_mono h (fun v s3 h3 => wpAny_bind (wpAny_standAt (wpAny_pure h3))) fun _ _ x => x)
    | exact h
theorem exc_ga_call {e : Addr} {oe : Obj} {es : List DictEntry} {n : Nat} {name : Str} {tk : Tok} {v : Value} {R : Result → Shared → Prop} (X : (Rg.hd.heap_39 w.params).In s.heap) (I : InstAt s.heap e oe 51 (some (dictOf es n)))
    (hf : findObj (Rg.hd.heap_39 w.params) 51 (some (dictOf es n)) name = some (.value v)) (hq : R (.ok (.ret v)) s) :
    codeAny (model PySem.Challenge.rw_rg0004_01.row.prog w) A (.call (.builtin "BaseException.__getattribute__") ⟨[.ref e, .str name tk], []⟩) R s := by
  have hk : builtinKind "BaseException.__getattribute__" = some .slot := by decide +kernel
  have hsplit : splitId "BaseException.__getattribute__" = some ("BaseException", "__getattribute__") := by decide +kernel
  have hcB : (Value.ref 51 :: mro51).contains (.type "BaseException") = true := by decide
  obtain ⟨nm, qn, Nc, bs, sn, sub, ab, col, dd, k0, k1, k2, k3, k5, hC⟩ := cls51 rfl X
  have ha := PySem.F.args_bexc_ga (.ref e) (.str name tk)
  obtain ⟨hh, gs, dr, tks, os⟩ := s
  have hx := I.at_
  have hc := I.cls
  have L0 := I.type (M := model PySem.Challenge.rw_rg0004_01.row.prog w)
  have L1 := looks_find (M := model PySem.Challenge.rw_rg0004_01.row.prog w) X I hf
  refine codeAny_call_builtin PySem.F.attr_Exception.ga.plain PySem.F.entry_bexc_ga ?_
  simp only [checkBuiltinCall, hk, hsplit]
  refine wpAny_bind ?_
  unfold isInstance
  repeat (first | (with_reducible refine L1.here ?_) | (with_reducible refine wpAny_loadPart_at hx ?_; rw [hc]) | (with_reducible refine wpAny_isSubtype_exc hC ?_; rw [hcB]) | wp_step)
  exact hq
/-- an attribute of the exception, read from its dict -/
theorem exc_get {e : Addr} {oe : Obj} {es : List DictEntry} {n : Nat} {name : Str} {expr : Bool} {v : Value} {Q : Value → Shared → Prop} (X : (Rg.hd.heap_39 w.params).In s.heap) (I : InstAt s.heap e oe 51 (some (dictOf es n)))
    (hga : findIn (Rg.hd.heap_39 w.params) (.ref 51) "__getattribute__" = some (some (.builtin "BaseException.__getattribute__"))) (hgn : findIn (Rg.hd.heap_39 w.params) (.ref 51) "__getattr__" = some none)
    (hf : findObj (Rg.hd.heap_39 w.params) 51 (some (dictOf es n)) name = some (.value v)) (hh : handedIn v = true) (hq : Q v { s with toks := s.toks + 1 }) :
    wpAny (model PySem.Challenge.rw_rg0004_01.row.prog w) A (getAttr (.ref e) name expr) Q E s := by
  have f3 := PySem.F.attr_Exception.ga.bind (.ref e)
  have hx0 : (expr && onTheHeap (Value.builtin "BaseException.__getattribute__")) = false := by cases expr <;> rfl
  have hx2 : (Value.builtin "BaseException.__getattribute__" == Value.builtin "object.__getattribute__") = false := by decide +kernel
  have hx1 : (onTheHeap (Value.ref 51) && Value.builtin "BaseException.__getattribute__" == Value.builtin "object.__getattribute__") = false := by rw [hx2]; rfl
  have L0 := I.type (M := model PySem.Challenge.rw_rg0004_01.row.prog w)
  have L2 := looks_findIn (M := model PySem.Challenge.rw_rg0004_01.row.prog w) X hga
  have L3 := looks_findIn (M := model PySem.Challenge.rw_rg0004_01.row.prog w) X hgn
  have hho := handedOut_of hh
  have hx := I.at_
  have hc := I.cls
  obtain ⟨hp, gs, dr, tks, os⟩ := s
  dsimp only at L0 L2 L3 hx X I
  have call1 := fun (A' : Around) (R : Result → Shared → Prop) (q : R (.ok (.ret v)) ⟨hp, gs, dr, tks + 1, os⟩) => exc_ga_call (A := A') (s := ⟨hp, gs, dr, tks + 1, os⟩) (tk := tks) (R := R) X I hf q
  unfold getAttr
  repeat (any_goals (first | assumption | (with_reducible refine L0.here ?_) | (with_reducible refine L2.here ?_) | (with_reducible refine L3.here ?_) | refine call1 _ _ (by dsimp only; rw [hho]; exact wpAny_pure hq) | (with_reducible refine wpAny_loadPart_at hx ?_; rw [hc]) | wp_step))
end
end Rg

namespace Rg
open PySem.Spec PySem.Calls
set_option maxRecDepth 100000
section
variable {M : Model} {A : Around} {E : Value → Shared → Prop} {s' : Shared} {base g : Heap} {outer : List Env} {L a e t dx : Addr} {m : Str → Option Value} {name : Str} {scope : Scope} {cd : Value} {Q : Unit → Shared → Prop} {news : List (Addr × Obj)}
theorem leave_first51 {es : List DictEntry} {n : Nat} {v : Value} (N : News g L s'.heap ((e, excObj t (some dx)) :: (dx, dictOf es n) :: (t, tup1 v) :: news)) (K : Below A base outer g) (F : Fr g L s'.heap m)
    (ne : ∀ p ∈ news, p.1 ≠ e ∧ p.1 ≠ t) (de : dx ≠ e) (dt : dx ≠ t)
    (hQ : ∀ h', RaisedZ base g outer e (.ref 51) t [v] dx ((dx, dictOf es n) :: news) h' → g.UpToSlots h' → Q () { s' with heap := h' }) (hkd : scope.kind = .function := by rfl) :
    wpAny M (A.deeper (envOf name scope L a cd)) (leaving (envOf name scope L a cd) (.ref e)) Q E s' :=
  leave_firstZ K F N (.head _) (.tail _ (.tail _ (.head _))) (fun p hp => by
    rcases List.mem_cons.mp hp with rfl | hp
    · exact ⟨.tail _ (.head _), de, dt⟩
    · exact ⟨.tail _ (.tail _ (.tail _ hp)), ne p hp⟩) rfl rfl rfl rfl hQ hkd
end
section
variable {w : World} {A : Around} {E : Value → Shared → Prop} {s : Shared} {g : Heap} {L e dx : Addr} {m : Str → Option Value} {news : List (Addr × Obj)}
/-- the attribute of a caught exception -/
theorem word_get {oe : Obj} {ws : Array Value} {es : List DictEntry} {n : Nat} {name : Str} {expr : Bool} {v : Value} {attr : Option Value} {Q : Value → Shared → Prop} (N : News g L s.heap ((e, oe) :: (dx, dictOf es n) :: news)) (F : Fr g L s.heap m) (X : (Rg.hd.heap_39 w.params).In g)
    (hc : oe.cls = .ref 51) (hd : oe.data = .fields ws) (hx : oe.dict = some dx)
    (hga : findIn (Rg.hd.heap_39 w.params) (.ref 51) "__getattribute__" = some (some (.builtin "BaseException.__getattribute__"))) (hgn : findIn (Rg.hd.heap_39 w.params) (.ref 51) "__getattr__" = some none)
    (hh : hasDictIn (Rg.hd.heap_39 w.params) 51 = true) (ha : findIn (Rg.hd.heap_39 w.params) (.ref 51) name = some attr) (hn : noGet (Rg.hd.heap_39 w.params) attr = true) (hl : getL name es = some (some v)) (hv : handedIn v = true) (hq : Q v { s with toks := s.toks + 1 }) :
    wpAny (model PySem.Challenge.rw_rg0004_01.row.prog w) A (getAttr (.ref e) name expr) Q E s :=
  exc_get (X.keeps F.keep) ⟨(N _ (.head _)).1, hc, by unfold notCls; rw [hd], by rw [hx]; exact (N _ (.tail _ (.head _))).1⟩ hga hgn (findObj_own hh ha hn (by rw [lookIn_dict, hl])) hv hq
end
end Rg

namespace Rg
open PySem.Spec PySem.Calls
set_option maxRecDepth 100000
local macro_rules | `(tactic| walk_at "getAttr ref") => `(tactic| k_extra "my attr")
local macro_rules | `(tactic| walk_at "call ref") => `(tactic| k_extra "my call")
local macro_rules | `(tactic| walk_at "call builtin:str.strip") => `(tactic| k_extra "my strip")
local macro_rules | `(tactic| walk_at "compareOp Eq str str") => `(tactic| k_extra "my eq")
local macro_rules | `(tactic| walk_at "exec Raise some none") => `(tactic| k_extra "my raise")
local macro_rules | `(tactic| walk_at "leaving ref") => `(tactic| k_extra "my leaving")
local macro_rules | `(tactic| walk_at "noteFrame ref") => `(tactic| k_extra "my caught")
theorem nd_any {h₀ h : Heap} {L : Addr} {l l' : List (Addr × Obj)} (N : News h₀ L h l) (sub : ∀ p ∈ l', p ∈ l) : News h₀ L h l' := fun p hp => N p (sub p hp)
/-- the contract of a def whose caller has nobody behind it -/
abbrev TelC (w : World) (D U : Nat) (f : Addr) (vs : List Value) (news : List (Addr × Obj)) (Out : Value → List (Addr × Obj) → Prop) : Prop :=
  ∀ (mean : ExcName → Option Value) (mg mb : Str → Option Value) (dp un : Nat) (gd : Option (List Code)) (cn : Str) (cs : Scope) (a0 : Addr) (ccd : Value) (A₀ : Around) (h₀ : Heap) (L : Addr) (m : Str → Option Value) (s : Shared) (Q E : Value → Shared → Prop),
    Below A₀ h₀ [] h₀ → Fr h₀ L s.heap m → (Rg.hd.heap_39 w.params).In h₀ → News h₀ L s.heap news → Top Rg.hd.view_39 (looseW Rg.hd.view_39 []) mean mg mb h₀ → cs.kind = .function →
    dp + D < recursionLimit → un + U < cLine → (∀ v tl h' tk', Fr h₀ L h' m → News h₀ L h' (tl ++ news) → Out v tl → Q v { s with heap := h', toks := tk' }) →
    wpAny (model PySem.Challenge.rw_rg0004_01.row.prog w) (ktrTop dp un gd cn cs L a0 ccd [] []) (call (.ref f) vs) Q E s
set_option maxHeartbeats 4000000 in
theorem heardA1 (w : World) (x y : PySem.Str) (hx : x.length ≤ 300) (hy : y.length ≤ 300) (hst : Txt.stripChars y (PySem.Str.ofString " ") = x) (hc : ∀ c ∈ x.cps.toList, c < 128 ∧ c ≠ 95) (mi : Bool) (v : Int) (h : NumIn x mi v)
    (news : List (Addr × Obj)) (tx dx : Addr) (es : List DictEntry) (n : Nat) (lo hi : Int) (T0 : TyIs news tx dx es n (PySem.Str.ofString "int") lo hi) (hlo : lo ≤ v) (hhi : v ≤ hi) (t : Tok) :
    TelC w 12 300 189 [.ref tx, .str y t] news (OutR (some v)) := by
  obtain ⟨hTx, hTd, ⟨tk1, hkd⟩, ⟨tk2, hlw⟩, ⟨tk3, hhg⟩⟩ := T0
  have hnb := h.bnd
  have hnh := h.head
  unfold TelC
  k_fill
  k_with_none
  intro mean mg mb dp un gd cn cs a0 ccd A₀ h₀ L m s Q E B F X News0 Top0 hk hd hu hret
  refine wpAny_call ?_
  k_dflt (refine' code_defS0 ?k1 ?k2 ?k3 ?k4 ?k5 ?kA ?k6 ?k7 ?k8 ?k9 ?kB ?_ ?cK ?c2 ?c3 ?c4 ?c5; (case kA => exact rfl); (case k2 => k_asm); (case k1 => k_asm); (case k3 => k_asm); (case k4 => k_asm); (case k5 => k_asm); (case k6 => k_is); (case k7 => k_is); (case k8 => ktr_room); (case k9 => exact BindsTo.of_eq rfl); (case kB => exact locs rfl); (case cK => assumption); (case c2 => exact rfl); (case c3 => exact rfl); (case c4 => exact rfl); (case c5 => decide); k_whole; intro g1 L1 h1 FG1 F1 N1 B1 X1 T1 D1; (try dsimp only); (try k_lift B1); (try k_fold))
  k_with "enter" => (refine' wpAny_call (code_def ?k1 ?k2 ?k3 ?k4 ?k5 ?kA ?kF ?kK ?k6 ?k7 ?k8 ?k9 ?kB ?_ ?c2 ?c3 ?c4 ?c5); (case kA => exact rfl); (case kF => exact rfl); (case kK => first | exact rfl | assumption); (case k1 => k_asm); (case k2 => k_asm); (case k3 => k_asm); (case k4 => k_asm); (case k5 => k_asm); (case k6 => k_is); (case k7 => k_is); (case k8 => ktr_room); (case k9 => exact BindsTo.of_eq rfl); (case c5 => decide); (case kB => exact locs rfl); (case c2 => exact rfl); (case c3 => exact rfl); (case c4 => exact rfl); k_whole; intro g9 L9 h9 FG9 F9 N9 B9 X9 T9; (try dsimp only); (try k_lift B9); (try k_fold))
  k_with "tel" => ((case k1 => k_asm); (case k2 => k_asm); (case k3 => k_asm); (case k4 => k_asm); (case k5 => k_asm); (case kK => first | exact rfl | assumption); (case kp => first | trivial | assumption | omega); (case kd => ktr_room); (case ku => ktr_units); intro v9 tl9 h9 tk9 F9 N9 O9)
  k_with "my call" => k_dflt (refine' tel_use (num_spec w x hx hc mi v h _ _) ?k1 ?k2 ?k3 ?k4 ?k5 ?kK ?kp ?kd ?ku ?_; k_extra "tel"; obtain ⟨d9, u9, k9, rfl, rfl⟩ := O9; (dsimp only [List.nil_append, List.cons_append] at N9); (try dsimp only); (try k_fold))
  k_with "my call" => ((with_reducible show wpAny _ _ (PySem.call (Value.ref 133) _) _ _ _); k_dflt (k_extra "enter"))
  k_with "my call" => ((with_reducible show wpAny _ _ (PySem.call (Value.ref 74) _) _ _ _); k_dflt (k_extra "enter"))
  k_with "my call" => ((with_reducible show wpAny _ _ (PySem.call (Value.ref 67) _) _ _ _); k_dflt (k_extra "enter"))
  k_with "my call" => ((with_reducible show wpAny _ _ (PySem.call (Value.ref 60) _) _ _ _); k_dflt (k_extra "enter"))
  k_with "my call" => (k_dflt (refine' make51 w _ _ _ _ _ _ _ _ _ _ _ _ _ _ _ _ _ _ _ _ _ _ _ _ _ ?k1 ?k2 ?k3 ?k4 ?k5 ?kK ?kd ?ku ?_; (case k1 => k_asm); (case k2 => k_asm); (case k3 => k_asm); (case k4 => k_asm); (case k5 => k_asm); (case kK => exact rfl); (case kd => ktr_room); (case ku => ktr_units); intro e9 t9 dx9 es9 h9 tk9 F9 N9 hw9 ne9 et9 de9 dt9; (try k_fold)))
  k_with "my leaving" => (k_dflt (refine' leave_first51 N9 ?kK ?kF ne9 de9 dt9 ?_; (case kK => assumption); (case kF => assumption); intro h8 R8 U8; (try dsimp only at R8 U8 ⊢)))
  k_with "my leaving" => (k_dflt (refine' leave_nextZ ?kK ?kF ?kR ?kU ?_; (case kR => assumption); (case kK => assumption); (case kF => assumption); (case kU => assumption); intro h8 R8 U8; (try dsimp only at R8 U8 ⊢)))
  k_with "my caught" => (k_dflt (refine' caughtZ (C := 51) (KF := Rg.hd.heap_39 w.params) ?kR ?kF ?kK ?kU ?kX ?kT ?ke ?kq ?_; (case kR => assumption); (case kF => assumption); (case kK => assumption); (case kU => assumption); (case kX => assumption); (case kT => assumption); (case ke => k_is); (case kq => kts_isx); intro h7 g7 oe7 ws7 tk7 T7 F7 N7 c7 d7 x7 K7 X7 P7; (try k_lift K7); (try k_fold)))
  k_with "my attr" => ((with_reducible show wpAny _ _ (getAttr (Value.ref _) (PySem.Str.ofString "word") _) _ _ _); k_dflt (refine' word_get N7 F7 X7 c7 d7 x7 ?g1 ?g2 ?g3 ?g4 ?g5 hw9 rfl ?_; (case g1 => k_is); (case g2 => k_is); (case g3 => k_is); (case g4 => k_is); (case g5 => k_is)))
  k_with "my raise" => k_dflt (refine Raise51 rfl ?_)
  k_with "my strip" => k_dflt (refine KXw.stripChars hst (by rw [sizeLine_eq]; omega) ?_; intro _ _)
  k_with "my eq" => k_dflt (refine eq_val hnh ?_)
  k_with "my attr" => ((with_reducible show wpAny _ _ (getAttr (Value.ref _) (PySem.Str.ofString "kind") _) _ _ _); k_dflt (refine' get_own ?k1 ?k2 (InstAt.of_news ?k3 ?m1 ?m2) ?g1 ?g2 ?g3 ?g4 hkd rfl ?_; (case k1 => k_asm); (case k2 => k_asm); (case k3 => k_asm); (case m1 => first | exact hTx | exact List.Mem.tail _ hTx | exact List.Mem.tail _ (List.Mem.tail _ hTx)); (case m2 => first | exact hTd | exact List.Mem.tail _ hTd | exact List.Mem.tail _ (List.Mem.tail _ hTd)); (case g1 => k_is); (case g2 => k_is); (case g3 => k_is); (case g4 => k_is)))
  k_with "my attr" => ((with_reducible show wpAny _ _ (getAttr (Value.ref _) (PySem.Str.ofString "low") _) _ _ _); k_dflt (refine' get_own ?k1 ?k2 (InstAt.of_news ?k3 ?m1 ?m2) ?g1 ?g2 ?g3 ?g4 hlw rfl ?_; (case k1 => k_asm); (case k2 => k_asm); (case k3 => k_asm); (case m1 => first | exact hTx | exact List.Mem.tail _ hTx | exact List.Mem.tail _ (List.Mem.tail _ hTx)); (case m2 => first | exact hTd | exact List.Mem.tail _ hTd | exact List.Mem.tail _ (List.Mem.tail _ hTd)); (case g1 => k_is); (case g2 => k_is); (case g3 => k_is); (case g4 => k_is)))
  k_with "my attr" => ((with_reducible show wpAny _ _ (getAttr (Value.ref _) (PySem.Str.ofString "high") _) _ _ _); k_dflt (refine' get_own ?k1 ?k2 (InstAt.of_news ?k3 ?m1 ?m2) ?g1 ?g2 ?g3 ?g4 hhg rfl ?_; (case k1 => k_asm); (case k2 => k_asm); (case k3 => k_asm); (case m1 => first | exact hTx | exact List.Mem.tail _ hTx | exact List.Mem.tail _ (List.Mem.tail _ hTx)); (case m2 => first | exact hTd | exact List.Mem.tail _ hTd | exact List.Mem.tail _ (List.Mem.tail _ hTd)); (case g1 => k_is); (case g2 => k_is); (case g3 => k_is); (case g4 => k_is)))
  k_steps
  refine' hret _ [] _ _ ?kF (nd_any ?kN ?kS) ⟨rfl, _, rfl⟩
  (case kF => k_asm)
  (case kN => k_asm)
  (case kS => intro p hp; repeat (first | exact hp | apply List.Mem.tail))
set_option maxHeartbeats 4000000 in
theorem heardA2 (w : World) (x y : PySem.Str) (hx : x.length ≤ 300) (hy : y.length ≤ 300) (hst : Txt.stripChars y (PySem.Str.ofString " ") = x) (hc : ∀ c ∈ x.cps.toList, c < 128 ∧ c ≠ 95) (v : Int) (h : NumIn x false v)
    (news : List (Addr × Obj)) (tx dx : Addr) (es : List DictEntry) (n : Nat) (lo hi : Int) (T0 : TyIs news tx dx es n (PySem.Str.ofString "mod") lo hi) (hlo : lo ≤ v) (hhi : v ≤ hi) (t : Tok) :
    TelC w 12 300 189 [.ref tx, .str y t] news (OutR (some v)) := by
  obtain ⟨hTx, hTd, ⟨tk1, hkd⟩, ⟨tk2, hlw⟩, ⟨tk3, hhg⟩⟩ := T0
  have hnb := h.bnd
  have hnh := h.head
  unfold TelC
  k_fill
  k_with_none
  intro mean mg mb dp un gd cn cs a0 ccd A₀ h₀ L m s Q E B F X News0 Top0 hk hd hu hret
  refine wpAny_call ?_
  k_dflt (refine' code_defS0 ?k1 ?k2 ?k3 ?k4 ?k5 ?kA ?k6 ?k7 ?k8 ?k9 ?kB ?_ ?cK ?c2 ?c3 ?c4 ?c5; (case kA => exact rfl); (case k2 => k_asm); (case k1 => k_asm); (case k3 => k_asm); (case k4 => k_asm); (case k5 => k_asm); (case k6 => k_is); (case k7 => k_is); (case k8 => ktr_room); (case k9 => exact BindsTo.of_eq rfl); (case kB => exact locs rfl); (case cK => assumption); (case c2 => exact rfl); (case c3 => exact rfl); (case c4 => exact rfl); (case c5 => decide); k_whole; intro g1 L1 h1 FG1 F1 N1 B1 X1 T1 D1; (try dsimp only); (try k_lift B1); (try k_fold))
  k_with "enter" => (refine' wpAny_call (code_def ?k1 ?k2 ?k3 ?k4 ?k5 ?kA ?kF ?kK ?k6 ?k7 ?k8 ?k9 ?kB ?_ ?c2 ?c3 ?c4 ?c5); (case kA => exact rfl); (case kF => exact rfl); (case kK => first | exact rfl | assumption); (case k1 => k_asm); (case k2 => k_asm); (case k3 => k_asm); (case k4 => k_asm); (case k5 => k_asm); (case k6 => k_is); (case k7 => k_is); (case k8 => ktr_room); (case k9 => exact BindsTo.of_eq rfl); (case c5 => decide); (case kB => exact locs rfl); (case c2 => exact rfl); (case c3 => exact rfl); (case c4 => exact rfl); k_whole; intro g9 L9 h9 FG9 F9 N9 B9 X9 T9; (try dsimp only); (try k_lift B9); (try k_fold))
  k_with "tel" => ((case k1 => k_asm); (case k2 => k_asm); (case k3 => k_asm); (case k4 => k_asm); (case k5 => k_asm); (case kK => first | exact rfl | assumption); (case kp => first | trivial | assumption | omega); (case kd => ktr_room); (case ku => ktr_units); intro v9 tl9 h9 tk9 F9 N9 O9)
  k_with "my call" => k_dflt (refine' tel_use (num_spec w x hx hc false v h _ _) ?k1 ?k2 ?k3 ?k4 ?k5 ?kK ?kp ?kd ?ku ?_; k_extra "tel"; obtain ⟨d9, u9, k9, rfl, rfl⟩ := O9; (dsimp only [List.nil_append, List.cons_append] at N9); (try dsimp only); (try k_fold))
  k_with "my call" => ((with_reducible show wpAny _ _ (PySem.call (Value.ref 133) _) _ _ _); k_dflt (k_extra "enter"))
  k_with "my call" => ((with_reducible show wpAny _ _ (PySem.call (Value.ref 74) _) _ _ _); k_dflt (k_extra "enter"))
  k_with "my call" => ((with_reducible show wpAny _ _ (PySem.call (Value.ref 67) _) _ _ _); k_dflt (k_extra "enter"))
  k_with "my call" => ((with_reducible show wpAny _ _ (PySem.call (Value.ref 60) _) _ _ _); k_dflt (k_extra "enter"))
  k_with "my call" => (k_dflt (refine' make51 w _ _ _ _ _ _ _ _ _ _ _ _ _ _ _ _ _ _ _ _ _ _ _ _ _ ?k1 ?k2 ?k3 ?k4 ?k5 ?kK ?kd ?ku ?_; (case k1 => k_asm); (case k2 => k_asm); (case k3 => k_asm); (case k4 => k_asm); (case k5 => k_asm); (case kK => exact rfl); (case kd => ktr_room); (case ku => ktr_units); intro e9 t9 dx9 es9 h9 tk9 F9 N9 hw9 ne9 et9 de9 dt9; (try k_fold)))
  k_with "my leaving" => (k_dflt (refine' leave_first51 N9 ?kK ?kF ne9 de9 dt9 ?_; (case kK => assumption); (case kF => assumption); intro h8 R8 U8; (try dsimp only at R8 U8 ⊢)))
  k_with "my leaving" => (k_dflt (refine' leave_nextZ ?kK ?kF ?kR ?kU ?_; (case kR => assumption); (case kK => assumption); (case kF => assumption); (case kU => assumption); intro h8 R8 U8; (try dsimp only at R8 U8 ⊢)))
  k_with "my caught" => (k_dflt (refine' caughtZ (C := 51) (KF := Rg.hd.heap_39 w.params) ?kR ?kF ?kK ?kU ?kX ?kT ?ke ?kq ?_; (case kR => assumption); (case kF => assumption); (case kK => assumption); (case kU => assumption); (case kX => assumption); (case kT => assumption); (case ke => k_is); (case kq => kts_isx); intro h7 g7 oe7 ws7 tk7 T7 F7 N7 c7 d7 x7 K7 X7 P7; (try k_lift K7); (try k_fold)))
  k_with "my attr" => ((with_reducible show wpAny _ _ (getAttr (Value.ref _) (PySem.Str.ofString "word") _) _ _ _); k_dflt (refine' word_get N7 F7 X7 c7 d7 x7 ?g1 ?g2 ?g3 ?g4 ?g5 hw9 rfl ?_; (case g1 => k_is); (case g2 => k_is); (case g3 => k_is); (case g4 => k_is); (case g5 => k_is)))
  k_with "my raise" => k_dflt (refine Raise51 rfl ?_)
  k_with "my strip" => k_dflt (refine KXw.stripChars hst (by rw [sizeLine_eq]; omega) ?_; intro _ _)
  k_with "my eq" => k_dflt (refine eq_val hnh ?_)
  k_with "my attr" => ((with_reducible show wpAny _ _ (getAttr (Value.ref _) (PySem.Str.ofString "kind") _) _ _ _); k_dflt (refine' get_own ?k1 ?k2 (InstAt.of_news ?k3 ?m1 ?m2) ?g1 ?g2 ?g3 ?g4 hkd rfl ?_; (case k1 => k_asm); (case k2 => k_asm); (case k3 => k_asm); (case m1 => first | exact hTx | exact List.Mem.tail _ hTx | exact List.Mem.tail _ (List.Mem.tail _ hTx)); (case m2 => first | exact hTd | exact List.Mem.tail _ hTd | exact List.Mem.tail _ (List.Mem.tail _ hTd)); (case g1 => k_is); (case g2 => k_is); (case g3 => k_is); (case g4 => k_is)))
  k_with "my attr" => ((with_reducible show wpAny _ _ (getAttr (Value.ref _) (PySem.Str.ofString "low") _) _ _ _); k_dflt (refine' get_own ?k1 ?k2 (InstAt.of_news ?k3 ?m1 ?m2) ?g1 ?g2 ?g3 ?g4 hlw rfl ?_; (case k1 => k_asm); (case k2 => k_asm); (case k3 => k_asm); (case m1 => first | exact hTx | exact List.Mem.tail _ hTx | exact List.Mem.tail _ (List.Mem.tail _ hTx)); (case m2 => first | exact hTd | exact List.Mem.tail _ hTd | exact List.Mem.tail _ (List.Mem.tail _ hTd)); (case g1 => k_is); (case g2 => k_is); (case g3 => k_is); (case g4 => k_is)))
  k_with "my attr" => ((with_reducible show wpAny _ _ (getAttr (Value.ref _) (PySem.Str.ofString "high") _) _ _ _); k_dflt (refine' get_own ?k1 ?k2 (InstAt.of_news ?k3 ?m1 ?m2) ?g1 ?g2 ?g3 ?g4 hhg rfl ?_; (case k1 => k_asm); (case k2 => k_asm); (case k3 => k_asm); (case m1 => first | exact hTx | exact List.Mem.tail _ hTx | exact List.Mem.tail _ (List.Mem.tail _ hTx)); (case m2 => first | exact hTd | exact List.Mem.tail _ hTd | exact List.Mem.tail _ (List.Mem.tail _ hTd)); (case g1 => k_is); (case g2 => k_is); (case g3 => k_is); (case g4 => k_is)))
  k_steps
  refine' hret _ [] _ _ ?kF (nd_any ?kN ?kS) ⟨rfl, _, rfl⟩
  (case kF => k_asm)
  (case kN => k_asm)
  (case kS => intro p hp; repeat (first | exact hp | apply List.Mem.tail))
set_option maxHeartbeats 4000000 in
theorem heardB (w : World) (x y : PySem.Str) (hx : x.length ≤ 300) (hy : y.length ≤ 300) (hst : Txt.stripChars y (PySem.Str.ofString " ") = x) (hc : ∀ c ∈ x.cps.toList, c < 128 ∧ c ≠ 95) (v : Int) (h : NumIn x true v)
    (news : List (Addr × Obj)) (tx dx : Addr) (es : List DictEntry) (n : Nat) (lo hi : Int) (T0 : TyIs news tx dx es n (PySem.Str.ofString "mod") lo hi)  (t : Tok) :
    TelC w 12 300 189 [.ref tx, .str y t] news (OutR (none)) := by
  obtain ⟨hTx, hTd, ⟨tk1, hkd⟩, ⟨tk2, hlw⟩, ⟨tk3, hhg⟩⟩ := T0
  have hnb := h.bnd
  have hnh := h.head
  unfold TelC
  k_fill
  k_with_none
  intro mean mg mb dp un gd cn cs a0 ccd A₀ h₀ L m s Q E B F X News0 Top0 hk hd hu hret
  refine wpAny_call ?_
  k_dflt (refine' code_defS0 ?k1 ?k2 ?k3 ?k4 ?k5 ?kA ?k6 ?k7 ?k8 ?k9 ?kB ?_ ?cK ?c2 ?c3 ?c4 ?c5; (case kA => exact rfl); (case k2 => k_asm); (case k1 => k_asm); (case k3 => k_asm); (case k4 => k_asm); (case k5 => k_asm); (case k6 => k_is); (case k7 => k_is); (case k8 => ktr_room); (case k9 => exact BindsTo.of_eq rfl); (case kB => exact locs rfl); (case cK => assumption); (case c2 => exact rfl); (case c3 => exact rfl); (case c4 => exact rfl); (case c5 => decide); k_whole; intro g1 L1 h1 FG1 F1 N1 B1 X1 T1 D1; (try dsimp only); (try k_lift B1); (try k_fold))
  k_with "enter" => (refine' wpAny_call (code_def ?k1 ?k2 ?k3 ?k4 ?k5 ?kA ?kF ?kK ?k6 ?k7 ?k8 ?k9 ?kB ?_ ?c2 ?c3 ?c4 ?c5); (case kA => exact rfl); (case kF => exact rfl); (case kK => first | exact rfl | assumption); (case k1 => k_asm); (case k2 => k_asm); (case k3 => k_asm); (case k4 => k_asm); (case k5 => k_asm); (case k6 => k_is); (case k7 => k_is); (case k8 => ktr_room); (case k9 => exact BindsTo.of_eq rfl); (case c5 => decide); (case kB => exact locs rfl); (case c2 => exact rfl); (case c3 => exact rfl); (case c4 => exact rfl); k_whole; intro g9 L9 h9 FG9 F9 N9 B9 X9 T9; (try dsimp only); (try k_lift B9); (try k_fold))
  k_with "tel" => ((case k1 => k_asm); (case k2 => k_asm); (case k3 => k_asm); (case k4 => k_asm); (case k5 => k_asm); (case kK => first | exact rfl | assumption); (case kp => first | trivial | assumption | omega); (case kd => ktr_room); (case ku => ktr_units); intro v9 tl9 h9 tk9 F9 N9 O9)
  k_with "my call" => k_dflt (refine' tel_use (num_spec w x hx hc true v h _ _) ?k1 ?k2 ?k3 ?k4 ?k5 ?kK ?kp ?kd ?ku ?_; k_extra "tel"; obtain ⟨d9, u9, k9, rfl, rfl⟩ := O9; (dsimp only [List.nil_append, List.cons_append] at N9); (try dsimp only); (try k_fold))
  k_with "my call" => ((with_reducible show wpAny _ _ (PySem.call (Value.ref 133) _) _ _ _); k_dflt (k_extra "enter"))
  k_with "my call" => ((with_reducible show wpAny _ _ (PySem.call (Value.ref 74) _) _ _ _); k_dflt (k_extra "enter"))
  k_with "my call" => ((with_reducible show wpAny _ _ (PySem.call (Value.ref 67) _) _ _ _); k_dflt (k_extra "enter"))
  k_with "my call" => ((with_reducible show wpAny _ _ (PySem.call (Value.ref 60) _) _ _ _); k_dflt (k_extra "enter"))
  k_with "my call" => (k_dflt (refine' make51 w _ _ _ _ _ _ _ _ _ _ _ _ _ _ _ _ _ _ _ _ _ _ _ _ _ ?k1 ?k2 ?k3 ?k4 ?k5 ?kK ?kd ?ku ?_; (case k1 => k_asm); (case k2 => k_asm); (case k3 => k_asm); (case k4 => k_asm); (case k5 => k_asm); (case kK => exact rfl); (case kd => ktr_room); (case ku => ktr_units); intro e9 t9 dx9 es9 h9 tk9 F9 N9 hw9 ne9 et9 de9 dt9; (try k_fold)))
  k_with "my leaving" => (k_dflt (refine' leave_first51 N9 ?kK ?kF ne9 de9 dt9 ?_; (case kK => assumption); (case kF => assumption); intro h8 R8 U8; (try dsimp only at R8 U8 ⊢)))
  k_with "my leaving" => (k_dflt (refine' leave_nextZ ?kK ?kF ?kR ?kU ?_; (case kR => assumption); (case kK => assumption); (case kF => assumption); (case kU => assumption); intro h8 R8 U8; (try dsimp only at R8 U8 ⊢)))
  k_with "my caught" => (k_dflt (refine' caughtZ (C := 51) (KF := Rg.hd.heap_39 w.params) ?kR ?kF ?kK ?kU ?kX ?kT ?ke ?kq ?_; (case kR => assumption); (case kF => assumption); (case kK => assumption); (case kU => assumption); (case kX => assumption); (case kT => assumption); (case ke => k_is); (case kq => kts_isx); intro h7 g7 oe7 ws7 tk7 T7 F7 N7 c7 d7 x7 K7 X7 P7; (try k_lift K7); (try k_fold)))
  k_with "my attr" => ((with_reducible show wpAny _ _ (getAttr (Value.ref _) (PySem.Str.ofString "word") _) _ _ _); k_dflt (refine' word_get N7 F7 X7 c7 d7 x7 ?g1 ?g2 ?g3 ?g4 ?g5 hw9 rfl ?_; (case g1 => k_is); (case g2 => k_is); (case g3 => k_is); (case g4 => k_is); (case g5 => k_is)))
  k_with "my raise" => k_dflt (refine Raise51 rfl ?_)
  k_with "my strip" => k_dflt (refine KXw.stripChars hst (by rw [sizeLine_eq]; omega) ?_; intro _ _)
  k_with "my eq" => k_dflt (refine eq_val hnh ?_)
  k_with "my attr" => ((with_reducible show wpAny _ _ (getAttr (Value.ref _) (PySem.Str.ofString "kind") _) _ _ _); k_dflt (refine' get_own ?k1 ?k2 (InstAt.of_news ?k3 ?m1 ?m2) ?g1 ?g2 ?g3 ?g4 hkd rfl ?_; (case k1 => k_asm); (case k2 => k_asm); (case k3 => k_asm); (case m1 => first | exact hTx | exact List.Mem.tail _ hTx | exact List.Mem.tail _ (List.Mem.tail _ hTx)); (case m2 => first | exact hTd | exact List.Mem.tail _ hTd | exact List.Mem.tail _ (List.Mem.tail _ hTd)); (case g1 => k_is); (case g2 => k_is); (case g3 => k_is); (case g4 => k_is)))
  k_with "my attr" => ((with_reducible show wpAny _ _ (getAttr (Value.ref _) (PySem.Str.ofString "low") _) _ _ _); k_dflt (refine' get_own ?k1 ?k2 (InstAt.of_news ?k3 ?m1 ?m2) ?g1 ?g2 ?g3 ?g4 hlw rfl ?_; (case k1 => k_asm); (case k2 => k_asm); (case k3 => k_asm); (case m1 => first | exact hTx | exact List.Mem.tail _ hTx | exact List.Mem.tail _ (List.Mem.tail _ hTx)); (case m2 => first | exact hTd | exact List.Mem.tail _ hTd | exact List.Mem.tail _ (List.Mem.tail _ hTd)); (case g1 => k_is); (case g2 => k_is); (case g3 => k_is); (case g4 => k_is)))
  k_with "my attr" => ((with_reducible show wpAny _ _ (getAttr (Value.ref _) (PySem.Str.ofString "high") _) _ _ _); k_dflt (refine' get_own ?k1 ?k2 (InstAt.of_news ?k3 ?m1 ?m2) ?g1 ?g2 ?g3 ?g4 hhg rfl ?_; (case k1 => k_asm); (case k2 => k_asm); (case k3 => k_asm); (case m1 => first | exact hTx | exact List.Mem.tail _ hTx | exact List.Mem.tail _ (List.Mem.tail _ hTx)); (case m2 => first | exact hTd | exact List.Mem.tail _ hTd | exact List.Mem.tail _ (List.Mem.tail _ hTd)); (case g1 => k_is); (case g2 => k_is); (case g3 => k_is); (case g4 => k_is)))
  k_steps
  refine ⟨e9, t9, some dx9, rfl, (N9 _ (.head _)).1, X9.keeps F9.keep, ?_⟩
  k_steps
  refine' hret _ [] _ _ ?kF (nd_any ?kN ?kS) ⟨rfl, _, rfl⟩
  (case kF => k_asm)
  (case kN => k_asm)
  (case kS => intro p hp; repeat (first | exact hp | apply List.Mem.tail))
set_option maxHeartbeats 4000000 in
theorem heardC1 (w : World) (x y : PySem.Str) (hx : x.length ≤ 300) (hy : y.length ≤ 300) (hst : Txt.stripChars y (PySem.Str.ofString " ") = x) (hc : ∀ c ∈ x.cps.toList, c < 128 ∧ c ≠ 95) (mi : Bool) (v : Int) (h : NumIn x mi v)
    (news : List (Addr × Obj)) (tx dx : Addr) (es : List DictEntry) (n : Nat) (lo hi : Int) (T0 : TyIs news tx dx es n (PySem.Str.ofString "int") lo hi) (hlo : v < lo) (t : Tok) :
    TelC w 12 300 189 [.ref tx, .str y t] news (OutR (none)) := by
  obtain ⟨hTx, hTd, ⟨tk1, hkd⟩, ⟨tk2, hlw⟩, ⟨tk3, hhg⟩⟩ := T0
  have hnb := h.bnd
  have hnh := h.head
  unfold TelC
  k_fill
  k_with_none
  intro mean mg mb dp un gd cn cs a0 ccd A₀ h₀ L m s Q E B F X News0 Top0 hk hd hu hret
  refine wpAny_call ?_
  k_dflt (refine' code_defS0 ?k1 ?k2 ?k3 ?k4 ?k5 ?kA ?k6 ?k7 ?k8 ?k9 ?kB ?_ ?cK ?c2 ?c3 ?c4 ?c5; (case kA => exact rfl); (case k2 => k_asm); (case k1 => k_asm); (case k3 => k_asm); (case k4 => k_asm); (case k5 => k_asm); (case k6 => k_is); (case k7 => k_is); (case k8 => ktr_room); (case k9 => exact BindsTo.of_eq rfl); (case kB => exact locs rfl); (case cK => assumption); (case c2 => exact rfl); (case c3 => exact rfl); (case c4 => exact rfl); (case c5 => decide); k_whole; intro g1 L1 h1 FG1 F1 N1 B1 X1 T1 D1; (try dsimp only); (try k_lift B1); (try k_fold))
  k_with "enter" => (refine' wpAny_call (code_def ?k1 ?k2 ?k3 ?k4 ?k5 ?kA ?kF ?kK ?k6 ?k7 ?k8 ?k9 ?kB ?_ ?c2 ?c3 ?c4 ?c5); (case kA => exact rfl); (case kF => exact rfl); (case kK => first | exact rfl | assumption); (case k1 => k_asm); (case k2 => k_asm); (case k3 => k_asm); (case k4 => k_asm); (case k5 => k_asm); (case k6 => k_is); (case k7 => k_is); (case k8 => ktr_room); (case k9 => exact BindsTo.of_eq rfl); (case c5 => decide); (case kB => exact locs rfl); (case c2 => exact rfl); (case c3 => exact rfl); (case c4 => exact rfl); k_whole; intro g9 L9 h9 FG9 F9 N9 B9 X9 T9; (try dsimp only); (try k_lift B9); (try k_fold))
  k_with "tel" => ((case k1 => k_asm); (case k2 => k_asm); (case k3 => k_asm); (case k4 => k_asm); (case k5 => k_asm); (case kK => first | exact rfl | assumption); (case kp => first | trivial | assumption | omega); (case kd => ktr_room); (case ku => ktr_units); intro v9 tl9 h9 tk9 F9 N9 O9)
  k_with "my call" => k_dflt (refine' tel_use (num_spec w x hx hc mi v h _ _) ?k1 ?k2 ?k3 ?k4 ?k5 ?kK ?kp ?kd ?ku ?_; k_extra "tel"; obtain ⟨d9, u9, k9, rfl, rfl⟩ := O9; (dsimp only [List.nil_append, List.cons_append] at N9); (try dsimp only); (try k_fold))
  k_with "my call" => ((with_reducible show wpAny _ _ (PySem.call (Value.ref 133) _) _ _ _); k_dflt (k_extra "enter"))
  k_with "my call" => ((with_reducible show wpAny _ _ (PySem.call (Value.ref 74) _) _ _ _); k_dflt (k_extra "enter"))
  k_with "my call" => ((with_reducible show wpAny _ _ (PySem.call (Value.ref 67) _) _ _ _); k_dflt (k_extra "enter"))
  k_with "my call" => ((with_reducible show wpAny _ _ (PySem.call (Value.ref 60) _) _ _ _); k_dflt (k_extra "enter"))
  k_with "my call" => (k_dflt (refine' make51 w _ _ _ _ _ _ _ _ _ _ _ _ _ _ _ _ _ _ _ _ _ _ _ _ _ ?k1 ?k2 ?k3 ?k4 ?k5 ?kK ?kd ?ku ?_; (case k1 => k_asm); (case k2 => k_asm); (case k3 => k_asm); (case k4 => k_asm); (case k5 => k_asm); (case kK => exact rfl); (case kd => ktr_room); (case ku => ktr_units); intro e9 t9 dx9 es9 h9 tk9 F9 N9 hw9 ne9 et9 de9 dt9; (try k_fold)))
  k_with "my leaving" => (k_dflt (refine' leave_first51 N9 ?kK ?kF ne9 de9 dt9 ?_; (case kK => assumption); (case kF => assumption); intro h8 R8 U8; (try dsimp only at R8 U8 ⊢)))
  k_with "my leaving" => (k_dflt (refine' leave_nextZ ?kK ?kF ?kR ?kU ?_; (case kR => assumption); (case kK => assumption); (case kF => assumption); (case kU => assumption); intro h8 R8 U8; (try dsimp only at R8 U8 ⊢)))
  k_with "my caught" => (k_dflt (refine' caughtZ (C := 51) (KF := Rg.hd.heap_39 w.params) ?kR ?kF ?kK ?kU ?kX ?kT ?ke ?kq ?_; (case kR => assumption); (case kF => assumption); (case kK => assumption); (case kU => assumption); (case kX => assumption); (case kT => assumption); (case ke => k_is); (case kq => kts_isx); intro h7 g7 oe7 ws7 tk7 T7 F7 N7 c7 d7 x7 K7 X7 P7; (try k_lift K7); (try k_fold)))
  k_with "my attr" => ((with_reducible show wpAny _ _ (getAttr (Value.ref _) (PySem.Str.ofString "word") _) _ _ _); k_dflt (refine' word_get N7 F7 X7 c7 d7 x7 ?g1 ?g2 ?g3 ?g4 ?g5 hw9 rfl ?_; (case g1 => k_is); (case g2 => k_is); (case g3 => k_is); (case g4 => k_is); (case g5 => k_is)))
  k_with "my raise" => k_dflt (refine Raise51 rfl ?_)
  k_with "my strip" => k_dflt (refine KXw.stripChars hst (by rw [sizeLine_eq]; omega) ?_; intro _ _)
  k_with "my eq" => k_dflt (refine eq_val hnh ?_)
  k_with "my attr" => ((with_reducible show wpAny _ _ (getAttr (Value.ref _) (PySem.Str.ofString "kind") _) _ _ _); k_dflt (refine' get_own ?k1 ?k2 (InstAt.of_news ?k3 ?m1 ?m2) ?g1 ?g2 ?g3 ?g4 hkd rfl ?_; (case k1 => k_asm); (case k2 => k_asm); (case k3 => k_asm); (case m1 => first | exact hTx | exact List.Mem.tail _ hTx | exact List.Mem.tail _ (List.Mem.tail _ hTx)); (case m2 => first | exact hTd | exact List.Mem.tail _ hTd | exact List.Mem.tail _ (List.Mem.tail _ hTd)); (case g1 => k_is); (case g2 => k_is); (case g3 => k_is); (case g4 => k_is)))
  k_with "my attr" => ((with_reducible show wpAny _ _ (getAttr (Value.ref _) (PySem.Str.ofString "low") _) _ _ _); k_dflt (refine' get_own ?k1 ?k2 (InstAt.of_news ?k3 ?m1 ?m2) ?g1 ?g2 ?g3 ?g4 hlw rfl ?_; (case k1 => k_asm); (case k2 => k_asm); (case k3 => k_asm); (case m1 => first | exact hTx | exact List.Mem.tail _ hTx | exact List.Mem.tail _ (List.Mem.tail _ hTx)); (case m2 => first | exact hTd | exact List.Mem.tail _ hTd | exact List.Mem.tail _ (List.Mem.tail _ hTd)); (case g1 => k_is); (case g2 => k_is); (case g3 => k_is); (case g4 => k_is)))
  k_with "my attr" => ((with_reducible show wpAny _ _ (getAttr (Value.ref _) (PySem.Str.ofString "high") _) _ _ _); k_dflt (refine' get_own ?k1 ?k2 (InstAt.of_news ?k3 ?m1 ?m2) ?g1 ?g2 ?g3 ?g4 hhg rfl ?_; (case k1 => k_asm); (case k2 => k_asm); (case k3 => k_asm); (case m1 => first | exact hTx | exact List.Mem.tail _ hTx | exact List.Mem.tail _ (List.Mem.tail _ hTx)); (case m2 => first | exact hTd | exact List.Mem.tail _ hTd | exact List.Mem.tail _ (List.Mem.tail _ hTd)); (case g1 => k_is); (case g2 => k_is); (case g3 => k_is); (case g4 => k_is)))
  k_steps
  refine ⟨e9, t9, some dx9, rfl, (N9 _ (.head _)).1, X9.keeps F9.keep, ?_⟩
  k_steps
  refine' hret _ [] _ _ ?kF (nd_any ?kN ?kS) ⟨rfl, _, rfl⟩
  (case kF => k_asm)
  (case kN => k_asm)
  (case kS => intro p hp; repeat (first | exact hp | apply List.Mem.tail))
set_option maxHeartbeats 4000000 in
theorem heardC2 (w : World) (x y : PySem.Str) (hx : x.length ≤ 300) (hy : y.length ≤ 300) (hst : Txt.stripChars y (PySem.Str.ofString " ") = x) (hc : ∀ c ∈ x.cps.toList, c < 128 ∧ c ≠ 95) (mi : Bool) (v : Int) (h : NumIn x mi v)
    (news : List (Addr × Obj)) (tx dx : Addr) (es : List DictEntry) (n : Nat) (lo hi : Int) (T0 : TyIs news tx dx es n (PySem.Str.ofString "int") lo hi) (hlo : lo ≤ v) (hhi : hi < v) (t : Tok) :
    TelC w 12 300 189 [.ref tx, .str y t] news (OutR (none)) := by
  obtain ⟨hTx, hTd, ⟨tk1, hkd⟩, ⟨tk2, hlw⟩, ⟨tk3, hhg⟩⟩ := T0
  have hnb := h.bnd
  have hnh := h.head
  unfold TelC
  k_fill
  k_with_none
  intro mean mg mb dp un gd cn cs a0 ccd A₀ h₀ L m s Q E B F X News0 Top0 hk hd hu hret
  refine wpAny_call ?_
  k_dflt (refine' code_defS0 ?k1 ?k2 ?k3 ?k4 ?k5 ?kA ?k6 ?k7 ?k8 ?k9 ?kB ?_ ?cK ?c2 ?c3 ?c4 ?c5; (case kA => exact rfl); (case k2 => k_asm); (case k1 => k_asm); (case k3 => k_asm); (case k4 => k_asm); (case k5 => k_asm); (case k6 => k_is); (case k7 => k_is); (case k8 => ktr_room); (case k9 => exact BindsTo.of_eq rfl); (case kB => exact locs rfl); (case cK => assumption); (case c2 => exact rfl); (case c3 => exact rfl); (case c4 => exact rfl); (case c5 => decide); k_whole; intro g1 L1 h1 FG1 F1 N1 B1 X1 T1 D1; (try dsimp only); (try k_lift B1); (try k_fold))
  k_with "enter" => (refine' wpAny_call (code_def ?k1 ?k2 ?k3 ?k4 ?k5 ?kA ?kF ?kK ?k6 ?k7 ?k8 ?k9 ?kB ?_ ?c2 ?c3 ?c4 ?c5); (case kA => exact rfl); (case kF => exact rfl); (case kK => first | exact rfl | assumption); (case k1 => k_asm); (case k2 => k_asm); (case k3 => k_asm); (case k4 => k_asm); (case k5 => k_asm); (case k6 => k_is); (case k7 => k_is); (case k8 => ktr_room); (case k9 => exact BindsTo.of_eq rfl); (case c5 => decide); (case kB => exact locs rfl); (case c2 => exact rfl); (case c3 => exact rfl); (case c4 => exact rfl); k_whole; intro g9 L9 h9 FG9 F9 N9 B9 X9 T9; (try dsimp only); (try k_lift B9); (try k_fold))
  k_with "tel" => ((case k1 => k_asm); (case k2 => k_asm); (case k3 => k_asm); (case k4 => k_asm); (case k5 => k_asm); (case kK => first | exact rfl | assumption); (case kp => first | trivial | assumption | omega); (case kd => ktr_room); (case ku => ktr_units); intro v9 tl9 h9 tk9 F9 N9 O9)
  k_with "my call" => k_dflt (refine' tel_use (num_spec w x hx hc mi v h _ _) ?k1 ?k2 ?k3 ?k4 ?k5 ?kK ?kp ?kd ?ku ?_; k_extra "tel"; obtain ⟨d9, u9, k9, rfl, rfl⟩ := O9; (dsimp only [List.nil_append, List.cons_append] at N9); (try dsimp only); (try k_fold))
  k_with "my call" => ((with_reducible show wpAny _ _ (PySem.call (Value.ref 133) _) _ _ _); k_dflt (k_extra "enter"))
  k_with "my call" => ((with_reducible show wpAny _ _ (PySem.call (Value.ref 74) _) _ _ _); k_dflt (k_extra "enter"))
  k_with "my call" => ((with_reducible show wpAny _ _ (PySem.call (Value.ref 67) _) _ _ _); k_dflt (k_extra "enter"))
  k_with "my call" => ((with_reducible show wpAny _ _ (PySem.call (Value.ref 60) _) _ _ _); k_dflt (k_extra "enter"))
  k_with "my call" => (k_dflt (refine' make51 w _ _ _ _ _ _ _ _ _ _ _ _ _ _ _ _ _ _ _ _ _ _ _ _ _ ?k1 ?k2 ?k3 ?k4 ?k5 ?kK ?kd ?ku ?_; (case k1 => k_asm); (case k2 => k_asm); (case k3 => k_asm); (case k4 => k_asm); (case k5 => k_asm); (case kK => exact rfl); (case kd => ktr_room); (case ku => ktr_units); intro e9 t9 dx9 es9 h9 tk9 F9 N9 hw9 ne9 et9 de9 dt9; (try k_fold)))
  k_with "my leaving" => (k_dflt (refine' leave_first51 N9 ?kK ?kF ne9 de9 dt9 ?_; (case kK => assumption); (case kF => assumption); intro h8 R8 U8; (try dsimp only at R8 U8 ⊢)))
  k_with "my leaving" => (k_dflt (refine' leave_nextZ ?kK ?kF ?kR ?kU ?_; (case kR => assumption); (case kK => assumption); (case kF => assumption); (case kU => assumption); intro h8 R8 U8; (try dsimp only at R8 U8 ⊢)))
  k_with "my caught" => (k_dflt (refine' caughtZ (C := 51) (KF := Rg.hd.heap_39 w.params) ?kR ?kF ?kK ?kU ?kX ?kT ?ke ?kq ?_; (case kR => assumption); (case kF => assumption); (case kK => assumption); (case kU => assumption); (case kX => assumption); (case kT => assumption); (case ke => k_is); (case kq => kts_isx); intro h7 g7 oe7 ws7 tk7 T7 F7 N7 c7 d7 x7 K7 X7 P7; (try k_lift K7); (try k_fold)))
  k_with "my attr" => ((with_reducible show wpAny _ _ (getAttr (Value.ref _) (PySem.Str.ofString "word") _) _ _ _); k_dflt (refine' word_get N7 F7 X7 c7 d7 x7 ?g1 ?g2 ?g3 ?g4 ?g5 hw9 rfl ?_; (case g1 => k_is); (case g2 => k_is); (case g3 => k_is); (case g4 => k_is); (case g5 => k_is)))
  k_with "my raise" => k_dflt (refine Raise51 rfl ?_)
  k_with "my strip" => k_dflt (refine KXw.stripChars hst (by rw [sizeLine_eq]; omega) ?_; intro _ _)
  k_with "my eq" => k_dflt (refine eq_val hnh ?_)
  k_with "my attr" => ((with_reducible show wpAny _ _ (getAttr (Value.ref _) (PySem.Str.ofString "kind") _) _ _ _); k_dflt (refine' get_own ?k1 ?k2 (InstAt.of_news ?k3 ?m1 ?m2) ?g1 ?g2 ?g3 ?g4 hkd rfl ?_; (case k1 => k_asm); (case k2 => k_asm); (case k3 => k_asm); (case m1 => first | exact hTx | exact List.Mem.tail _ hTx | exact List.Mem.tail _ (List.Mem.tail _ hTx)); (case m2 => first | exact hTd | exact List.Mem.tail _ hTd | exact List.Mem.tail _ (List.Mem.tail _ hTd)); (case g1 => k_is); (case g2 => k_is); (case g3 => k_is); (case g4 => k_is)))
  k_with "my attr" => ((with_reducible show wpAny _ _ (getAttr (Value.ref _) (PySem.Str.ofString "low") _) _ _ _); k_dflt (refine' get_own ?k1 ?k2 (InstAt.of_news ?k3 ?m1 ?m2) ?g1 ?g2 ?g3 ?g4 hlw rfl ?_; (case k1 => k_asm); (case k2 => k_asm); (case k3 => k_asm); (case m1 => first | exact hTx | exact List.Mem.tail _ hTx | exact List.Mem.tail _ (List.Mem.tail _ hTx)); (case m2 => first | exact hTd | exact List.Mem.tail _ hTd | exact List.Mem.tail _ (List.Mem.tail _ hTd)); (case g1 => k_is); (case g2 => k_is); (case g3 => k_is); (case g4 => k_is)))
  k_with "my attr" => ((with_reducible show wpAny _ _ (getAttr (Value.ref _) (PySem.Str.ofString "high") _) _ _ _); k_dflt (refine' get_own ?k1 ?k2 (InstAt.of_news ?k3 ?m1 ?m2) ?g1 ?g2 ?g3 ?g4 hhg rfl ?_; (case k1 => k_asm); (case k2 => k_asm); (case k3 => k_asm); (case m1 => first | exact hTx | exact List.Mem.tail _ hTx | exact List.Mem.tail _ (List.Mem.tail _ hTx)); (case m2 => first | exact hTd | exact List.Mem.tail _ hTd | exact List.Mem.tail _ (List.Mem.tail _ hTd)); (case g1 => k_is); (case g2 => k_is); (case g3 => k_is); (case g4 => k_is)))
  k_steps
  refine ⟨e9, t9, some dx9, rfl, (N9 _ (.head _)).1, X9.keeps F9.keep, ?_⟩
  k_steps
  refine' hret _ [] _ _ ?kF (nd_any ?kN ?kS) ⟨rfl, _, rfl⟩
  (case kF => k_asm)
  (case kN => k_asm)
  (case kS => intro p hp; repeat (first | exact hp | apply List.Mem.tail))
set_option maxHeartbeats 4000000 in
theorem heardC3 (w : World) (x y : PySem.Str) (hx : x.length ≤ 300) (hy : y.length ≤ 300) (hst : Txt.stripChars y (PySem.Str.ofString " ") = x) (hc : ∀ c ∈ x.cps.toList, c < 128 ∧ c ≠ 95) (v : Int) (h : NumIn x false v)
    (news : List (Addr × Obj)) (tx dx : Addr) (es : List DictEntry) (n : Nat) (lo hi : Int) (T0 : TyIs news tx dx es n (PySem.Str.ofString "mod") lo hi) (hlo : v < lo) (t : Tok) :
    TelC w 12 300 189 [.ref tx, .str y t] news (OutR (none)) := by
  obtain ⟨hTx, hTd, ⟨tk1, hkd⟩, ⟨tk2, hlw⟩, ⟨tk3, hhg⟩⟩ := T0
  have hnb := h.bnd
  have hnh := h.head
  unfold TelC
  k_fill
  k_with_none
  intro mean mg mb dp un gd cn cs a0 ccd A₀ h₀ L m s Q E B F X News0 Top0 hk hd hu hret
  refine wpAny_call ?_
  k_dflt (refine' code_defS0 ?k1 ?k2 ?k3 ?k4 ?k5 ?kA ?k6 ?k7 ?k8 ?k9 ?kB ?_ ?cK ?c2 ?c3 ?c4 ?c5; (case kA => exact rfl); (case k2 => k_asm); (case k1 => k_asm); (case k3 => k_asm); (case k4 => k_asm); (case k5 => k_asm); (case k6 => k_is); (case k7 => k_is); (case k8 => ktr_room); (case k9 => exact BindsTo.of_eq rfl); (case kB => exact locs rfl); (case cK => assumption); (case c2 => exact rfl); (case c3 => exact rfl); (case c4 => exact rfl); (case c5 => decide); k_whole; intro g1 L1 h1 FG1 F1 N1 B1 X1 T1 D1; (try dsimp only); (try k_lift B1); (try k_fold))
  k_with "enter" => (refine' wpAny_call (code_def ?k1 ?k2 ?k3 ?k4 ?k5 ?kA ?kF ?kK ?k6 ?k7 ?k8 ?k9 ?kB ?_ ?c2 ?c3 ?c4 ?c5); (case kA => exact rfl); (case kF => exact rfl); (case kK => first | exact rfl | assumption); (case k1 => k_asm); (case k2 => k_asm); (case k3 => k_asm); (case k4 => k_asm); (case k5 => k_asm); (case k6 => k_is); (case k7 => k_is); (case k8 => ktr_room); (case k9 => exact BindsTo.of_eq rfl); (case c5 => decide); (case kB => exact locs rfl); (case c2 => exact rfl); (case c3 => exact rfl); (case c4 => exact rfl); k_whole; intro g9 L9 h9 FG9 F9 N9 B9 X9 T9; (try dsimp only); (try k_lift B9); (try k_fold))
  k_with "tel" => ((case k1 => k_asm); (case k2 => k_asm); (case k3 => k_asm); (case k4 => k_asm); (case k5 => k_asm); (case kK => first | exact rfl | assumption); (case kp => first | trivial | assumption | omega); (case kd => ktr_room); (case ku => ktr_units); intro v9 tl9 h9 tk9 F9 N9 O9)
  k_with "my call" => k_dflt (refine' tel_use (num_spec w x hx hc false v h _ _) ?k1 ?k2 ?k3 ?k4 ?k5 ?kK ?kp ?kd ?ku ?_; k_extra "tel"; obtain ⟨d9, u9, k9, rfl, rfl⟩ := O9; (dsimp only [List.nil_append, List.cons_append] at N9); (try dsimp only); (try k_fold))
  k_with "my call" => ((with_reducible show wpAny _ _ (PySem.call (Value.ref 133) _) _ _ _); k_dflt (k_extra "enter"))
  k_with "my call" => ((with_reducible show wpAny _ _ (PySem.call (Value.ref 74) _) _ _ _); k_dflt (k_extra "enter"))
  k_with "my call" => ((with_reducible show wpAny _ _ (PySem.call (Value.ref 67) _) _ _ _); k_dflt (k_extra "enter"))
  k_with "my call" => ((with_reducible show wpAny _ _ (PySem.call (Value.ref 60) _) _ _ _); k_dflt (k_extra "enter"))
  k_with "my call" => (k_dflt (refine' make51 w _ _ _ _ _ _ _ _ _ _ _ _ _ _ _ _ _ _ _ _ _ _ _ _ _ ?k1 ?k2 ?k3 ?k4 ?k5 ?kK ?kd ?ku ?_; (case k1 => k_asm); (case k2 => k_asm); (case k3 => k_asm); (case k4 => k_asm); (case k5 => k_asm); (case kK => exact rfl); (case kd => ktr_room); (case ku => ktr_units); intro e9 t9 dx9 es9 h9 tk9 F9 N9 hw9 ne9 et9 de9 dt9; (try k_fold)))
  k_with "my leaving" => (k_dflt (refine' leave_first51 N9 ?kK ?kF ne9 de9 dt9 ?_; (case kK => assumption); (case kF => assumption); intro h8 R8 U8; (try dsimp only at R8 U8 ⊢)))
  k_with "my leaving" => (k_dflt (refine' leave_nextZ ?kK ?kF ?kR ?kU ?_; (case kR => assumption); (case kK => assumption); (case kF => assumption); (case kU => assumption); intro h8 R8 U8; (try dsimp only at R8 U8 ⊢)))
  k_with "my caught" => (k_dflt (refine' caughtZ (C := 51) (KF := Rg.hd.heap_39 w.params) ?kR ?kF ?kK ?kU ?kX ?kT ?ke ?kq ?_; (case kR => assumption); (case kF => assumption); (case kK => assumption); (case kU => assumption); (case kX => assumption); (case kT => assumption); (case ke => k_is); (case kq => kts_isx); intro h7 g7 oe7 ws7 tk7 T7 F7 N7 c7 d7 x7 K7 X7 P7; (try k_lift K7); (try k_fold)))
  k_with "my attr" => ((with_reducible show wpAny _ _ (getAttr (Value.ref _) (PySem.Str.ofString "word") _) _ _ _); k_dflt (refine' word_get N7 F7 X7 c7 d7 x7 ?g1 ?g2 ?g3 ?g4 ?g5 hw9 rfl ?_; (case g1 => k_is); (case g2 => k_is); (case g3 => k_is); (case g4 => k_is); (case g5 => k_is)))
  k_with "my raise" => k_dflt (refine Raise51 rfl ?_)
  k_with "my strip" => k_dflt (refine KXw.stripChars hst (by rw [sizeLine_eq]; omega) ?_; intro _ _)
  k_with "my eq" => k_dflt (refine eq_val hnh ?_)
  k_with "my attr" => ((with_reducible show wpAny _ _ (getAttr (Value.ref _) (PySem.Str.ofString "kind") _) _ _ _); k_dflt (refine' get_own ?k1 ?k2 (InstAt.of_news ?k3 ?m1 ?m2) ?g1 ?g2 ?g3 ?g4 hkd rfl ?_; (case k1 => k_asm); (case k2 => k_asm); (case k3 => k_asm); (case m1 => first | exact hTx | exact List.Mem.tail _ hTx | exact List.Mem.tail _ (List.Mem.tail _ hTx)); (case m2 => first | exact hTd | exact List.Mem.tail _ hTd | exact List.Mem.tail _ (List.Mem.tail _ hTd)); (case g1 => k_is); (case g2 => k_is); (case g3 => k_is); (case g4 => k_is)))
  k_with "my attr" => ((with_reducible show wpAny _ _ (getAttr (Value.ref _) (PySem.Str.ofString "low") _) _ _ _); k_dflt (refine' get_own ?k1 ?k2 (InstAt.of_news ?k3 ?m1 ?m2) ?g1 ?g2 ?g3 ?g4 hlw rfl ?_; (case k1 => k_asm); (case k2 => k_asm); (case k3 => k_asm); (case m1 => first | exact hTx | exact List.Mem.tail _ hTx | exact List.Mem.tail _ (List.Mem.tail _ hTx)); (case m2 => first | exact hTd | exact List.Mem.tail _ hTd | exact List.Mem.tail _ (List.Mem.tail _ hTd)); (case g1 => k_is); (case g2 => k_is); (case g3 => k_is); (case g4 => k_is)))
  k_with "my attr" => ((with_reducible show wpAny _ _ (getAttr (Value.ref _) (PySem.Str.ofString "high") _) _ _ _); k_dflt (refine' get_own ?k1 ?k2 (InstAt.of_news ?k3 ?m1 ?m2) ?g1 ?g2 ?g3 ?g4 hhg rfl ?_; (case k1 => k_asm); (case k2 => k_asm); (case k3 => k_asm); (case m1 => first | exact hTx | exact List.Mem.tail _ hTx | exact List.Mem.tail _ (List.Mem.tail _ hTx)); (case m2 => first | exact hTd | exact List.Mem.tail _ hTd | exact List.Mem.tail _ (List.Mem.tail _ hTd)); (case g1 => k_is); (case g2 => k_is); (case g3 => k_is); (case g4 => k_is)))
  k_steps
  refine ⟨e9, t9, some dx9, rfl, (N9 _ (.head _)).1, X9.keeps F9.keep, ?_⟩
  k_steps
  refine' hret _ [] _ _ ?kF (nd_any ?kN ?kS) ⟨rfl, _, rfl⟩
  (case kF => k_asm)
  (case kN => k_asm)
  (case kS => intro p hp; repeat (first | exact hp | apply List.Mem.tail))
set_option maxHeartbeats 4000000 in
theorem heardC4 (w : World) (x y : PySem.Str) (hx : x.length ≤ 300) (hy : y.length ≤ 300) (hst : Txt.stripChars y (PySem.Str.ofString " ") = x) (hc : ∀ c ∈ x.cps.toList, c < 128 ∧ c ≠ 95) (v : Int) (h : NumIn x false v)
    (news : List (Addr × Obj)) (tx dx : Addr) (es : List DictEntry) (n : Nat) (lo hi : Int) (T0 : TyIs news tx dx es n (PySem.Str.ofString "mod") lo hi) (hlo : lo ≤ v) (hhi : hi < v) (t : Tok) :
    TelC w 12 300 189 [.ref tx, .str y t] news (OutR (none)) := by
  obtain ⟨hTx, hTd, ⟨tk1, hkd⟩, ⟨tk2, hlw⟩, ⟨tk3, hhg⟩⟩ := T0
  have hnb := h.bnd
  have hnh := h.head
  unfold TelC
  k_fill
  k_with_none
  intro mean mg mb dp un gd cn cs a0 ccd A₀ h₀ L m s Q E B F X News0 Top0 hk hd hu hret
  refine wpAny_call ?_
  k_dflt (refine' code_defS0 ?k1 ?k2 ?k3 ?k4 ?k5 ?kA ?k6 ?k7 ?k8 ?k9 ?kB ?_ ?cK ?c2 ?c3 ?c4 ?c5; (case kA => exact rfl); (case k2 => k_asm); (case k1 => k_asm); (case k3 => k_asm); (case k4 => k_asm); (case k5 => k_asm); (case k6 => k_is); (case k7 => k_is); (case k8 => ktr_room); (case k9 => exact BindsTo.of_eq rfl); (case kB => exact locs rfl); (case cK => assumption); (case c2 => exact rfl); (case c3 => exact rfl); (case c4 => exact rfl); (case c5 => decide); k_whole; intro g1 L1 h1 FG1 F1 N1 B1 X1 T1 D1; (try dsimp only); (try k_lift B1); (try k_fold))
  k_with "enter" => (refine' wpAny_call (code_def ?k1 ?k2 ?k3 ?k4 ?k5 ?kA ?kF ?kK ?k6 ?k7 ?k8 ?k9 ?kB ?_ ?c2 ?c3 ?c4 ?c5); (case kA => exact rfl); (case kF => exact rfl); (case kK => first | exact rfl | assumption); (case k1 => k_asm); (case k2 => k_asm); (case k3 => k_asm); (case k4 => k_asm); (case k5 => k_asm); (case k6 => k_is); (case k7 => k_is); (case k8 => ktr_room); (case k9 => exact BindsTo.of_eq rfl); (case c5 => decide); (case kB => exact locs rfl); (case c2 => exact rfl); (case c3 => exact rfl); (case c4 => exact rfl); k_whole; intro g9 L9 h9 FG9 F9 N9 B9 X9 T9; (try dsimp only); (try k_lift B9); (try k_fold))
  k_with "tel" => ((case k1 => k_asm); (case k2 => k_asm); (case k3 => k_asm); (case k4 => k_asm); (case k5 => k_asm); (case kK => first | exact rfl | assumption); (case kp => first | trivial | assumption | omega); (case kd => ktr_room); (case ku => ktr_units); intro v9 tl9 h9 tk9 F9 N9 O9)
  k_with "my call" => k_dflt (refine' tel_use (num_spec w x hx hc false v h _ _) ?k1 ?k2 ?k3 ?k4 ?k5 ?kK ?kp ?kd ?ku ?_; k_extra "tel"; obtain ⟨d9, u9, k9, rfl, rfl⟩ := O9; (dsimp only [List.nil_append, List.cons_append] at N9); (try dsimp only); (try k_fold))
  k_with "my call" => ((with_reducible show wpAny _ _ (PySem.call (Value.ref 133) _) _ _ _); k_dflt (k_extra "enter"))
  k_with "my call" => ((with_reducible show wpAny _ _ (PySem.call (Value.ref 74) _) _ _ _); k_dflt (k_extra "enter"))
  k_with "my call" => ((with_reducible show wpAny _ _ (PySem.call (Value.ref 67) _) _ _ _); k_dflt (k_extra "enter"))
  k_with "my call" => ((with_reducible show wpAny _ _ (PySem.call (Value.ref 60) _) _ _ _); k_dflt (k_extra "enter"))
  k_with "my call" => (k_dflt (refine' make51 w _ _ _ _ _ _ _ _ _ _ _ _ _ _ _ _ _ _ _ _ _ _ _ _ _ ?k1 ?k2 ?k3 ?k4 ?k5 ?kK ?kd ?ku ?_; (case k1 => k_asm); (case k2 => k_asm); (case k3 => k_asm); (case k4 => k_asm); (case k5 => k_asm); (case kK => exact rfl); (case kd => ktr_room); (case ku => ktr_units); intro e9 t9 dx9 es9 h9 tk9 F9 N9 hw9 ne9 et9 de9 dt9; (try k_fold)))
  k_with "my leaving" => (k_dflt (refine' leave_first51 N9 ?kK ?kF ne9 de9 dt9 ?_; (case kK => assumption); (case kF => assumption); intro h8 R8 U8; (try dsimp only at R8 U8 ⊢)))
  k_with "my leaving" => (k_dflt (refine' leave_nextZ ?kK ?kF ?kR ?kU ?_; (case kR => assumption); (case kK => assumption); (case kF => assumption); (case kU => assumption); intro h8 R8 U8; (try dsimp only at R8 U8 ⊢)))
  k_with "my caught" => (k_dflt (refine' caughtZ (C := 51) (KF := Rg.hd.heap_39 w.params) ?kR ?kF ?kK ?kU ?kX ?kT ?ke ?kq ?_; (case kR => assumption); (case kF => assumption); (case kK => assumption); (case kU => assumption); (case kX => assumption); (case kT => assumption); (case ke => k_is); (case kq => kts_isx); intro h7 g7 oe7 ws7 tk7 T7 F7 N7 c7 d7 x7 K7 X7 P7; (try k_lift K7); (try k_fold)))
  k_with "my attr" => ((with_reducible show wpAny _ _ (getAttr (Value.ref _) (PySem.Str.ofString "word") _) _ _ _); k_dflt (refine' word_get N7 F7 X7 c7 d7 x7 ?g1 ?g2 ?g3 ?g4 ?g5 hw9 rfl ?_; (case g1 => k_is); (case g2 => k_is); (case g3 => k_is); (case g4 => k_is); (case g5 => k_is)))
  k_with "my raise" => k_dflt (refine Raise51 rfl ?_)
  k_with "my strip" => k_dflt (refine KXw.stripChars hst (by rw [sizeLine_eq]; omega) ?_; intro _ _)
  k_with "my eq" => k_dflt (refine eq_val hnh ?_)
  k_with "my attr" => ((with_reducible show wpAny _ _ (getAttr (Value.ref _) (PySem.Str.ofString "kind") _) _ _ _); k_dflt (refine' get_own ?k1 ?k2 (InstAt.of_news ?k3 ?m1 ?m2) ?g1 ?g2 ?g3 ?g4 hkd rfl ?_; (case k1 => k_asm); (case k2 => k_asm); (case k3 => k_asm); (case m1 => first | exact hTx | exact List.Mem.tail _ hTx | exact List.Mem.tail _ (List.Mem.tail _ hTx)); (case m2 => first | exact hTd | exact List.Mem.tail _ hTd | exact List.Mem.tail _ (List.Mem.tail _ hTd)); (case g1 => k_is); (case g2 => k_is); (case g3 => k_is); (case g4 => k_is)))
  k_with "my attr" => ((with_reducible show wpAny _ _ (getAttr (Value.ref _) (PySem.Str.ofString "low") _) _ _ _); k_dflt (refine' get_own ?k1 ?k2 (InstAt.of_news ?k3 ?m1 ?m2) ?g1 ?g2 ?g3 ?g4 hlw rfl ?_; (case k1 => k_asm); (case k2 => k_asm); (case k3 => k_asm); (case m1 => first | exact hTx | exact List.Mem.tail _ hTx | exact List.Mem.tail _ (List.Mem.tail _ hTx)); (case m2 => first | exact hTd | exact List.Mem.tail _ hTd | exact List.Mem.tail _ (List.Mem.tail _ hTd)); (case g1 => k_is); (case g2 => k_is); (case g3 => k_is); (case g4 => k_is)))
  k_with "my attr" => ((with_reducible show wpAny _ _ (getAttr (Value.ref _) (PySem.Str.ofString "high") _) _ _ _); k_dflt (refine' get_own ?k1 ?k2 (InstAt.of_news ?k3 ?m1 ?m2) ?g1 ?g2 ?g3 ?g4 hhg rfl ?_; (case k1 => k_asm); (case k2 => k_asm); (case k3 => k_asm); (case m1 => first | exact hTx | exact List.Mem.tail _ hTx | exact List.Mem.tail _ (List.Mem.tail _ hTx)); (case m2 => first | exact hTd | exact List.Mem.tail _ hTd | exact List.Mem.tail _ (List.Mem.tail _ hTd)); (case g1 => k_is); (case g2 => k_is); (case g3 => k_is); (case g4 => k_is)))
  k_steps
  refine ⟨e9, t9, some dx9, rfl, (N9 _ (.head _)).1, X9.keeps F9.keep, ?_⟩
  k_steps
  refine' hret _ [] _ _ ?kF (nd_any ?kN ?kS) ⟨rfl, _, rfl⟩
  (case kF => k_asm)
  (case kN => k_asm)
  (case kS => intro p hp; repeat (first | exact hp | apply List.Mem.tail))
end Rg

namespace Rg
open PySem.Spec PySem.Calls
set_option maxRecDepth 100000
local macro_rules | `(tactic| walk_at "subscriptTail") => `(tactic| k_extra "my item")
/-- what the law expects: none is the refusal's word -/
noncomputable def dueOf (bad : Bool) (lo hi v : Int) : Option Int := if bad then none else if lo ≤ v ∧ v ≤ hi then some v else none
theorem due_in {lo hi v : Int} (a : lo ≤ v) (b : v ≤ hi) : dueOf false lo hi v = some v := by unfold dueOf; rw [if_neg (by decide), if_pos ⟨a, b⟩]
theorem due_lo {bad : Bool} {lo hi v : Int} (a : v < lo) : dueOf bad lo hi v = none := by
  unfold dueOf
  split
  · rfl
  · rw [if_neg (by omega)]
theorem due_hi {bad : Bool} {lo hi v : Int} (a : hi < v) : dueOf bad lo hi v = none := by
  unfold dueOf
  split
  · rfl
  · rw [if_neg (by omega)]
set_option maxHeartbeats 4000000 in
theorem dueRM (w : World) (v : Int) (hv : 0 ≤ v) (hv' : v ≤ 16000000000) (lo hi : Int) (u1 u2 u3 u4 u5 : Tok) (k : Nat) (news : List (Addr × Obj)) (bt : Addr) (hT : (bt, ({ cls := Value.type "tuple", data := Data.seq [Value.int lo u1, Value.int hi u2].toArray k } : Obj)) ∈ news)  :
    Tel w 5 60 196 [.bool true, .ref bt, .str (PySem.Str.ofString "-") u4, .int v u5] True news (OutR (none)) := by
  unfold Tel
  k_fill
  k_with_none
  intro mean mg mb dp un gd cn cs a0 ccd cl outer A₀ base h₀ L m s Q E B F X News0 Top0 hk hp hd hu hret
  refine wpAny_call ?_
  k_dflt cell_enter
  k_with "my item" => ((with_reducible show wpAny _ _ (subscriptTail _ _ (Value.ref _) (Value.int _ _)) _ _ _); k_dflt (refine' item_tupleT ?t ?a ?b ?c ?d ?_; (case t => exact News.isTup (by k_asm) hT); (case a => decide); (case b => decide); (case c => rfl); (case d => rfl)))
  k_steps
  refine' hret _ [] _ _ ?kF (nd_any ?kN ?kS) ⟨rfl, _, rfl⟩
  (case kF => k_asm)
  (case kN => k_asm)
  (case kS => intro p hp; repeat (first | exact hp | apply List.Mem.tail))
set_option maxHeartbeats 4000000 in
theorem dueRP1 (w : World) (v : Int) (hv : 0 ≤ v) (hv' : v ≤ 16000000000) (lo hi : Int) (u1 u2 u3 u4 u5 : Tok) (k : Nat) (news : List (Addr × Obj)) (bt : Addr) (hT : (bt, ({ cls := Value.type "tuple", data := Data.seq [Value.int lo u1, Value.int hi u2].toArray k } : Obj)) ∈ news) (hlo : lo ≤ v) (hhi : v ≤ hi) :
    Tel w 5 60 196 [.bool true, .ref bt, .str (PySem.Str.ofString "+") u4, .int v u5] True news (OutR (some (v))) := by
  unfold Tel
  k_fill
  k_with_none
  intro mean mg mb dp un gd cn cs a0 ccd cl outer A₀ base h₀ L m s Q E B F X News0 Top0 hk hp hd hu hret
  refine wpAny_call ?_
  k_dflt cell_enter
  k_with "my item" => ((with_reducible show wpAny _ _ (subscriptTail _ _ (Value.ref _) (Value.int _ _)) _ _ _); k_dflt (refine' item_tupleT ?t ?a ?b ?c ?d ?_; (case t => exact News.isTup (by k_asm) hT); (case a => decide); (case b => decide); (case c => rfl); (case d => rfl)))
  k_steps
  refine' hret _ [] _ _ ?kF (nd_any ?kN ?kS) ⟨rfl, _, rfl⟩
  (case kF => k_asm)
  (case kN => k_asm)
  (case kS => intro p hp; repeat (first | exact hp | apply List.Mem.tail))
set_option maxHeartbeats 4000000 in
theorem dueRP2 (w : World) (v : Int) (hv : 0 ≤ v) (hv' : v ≤ 16000000000) (lo hi : Int) (u1 u2 u3 u4 u5 : Tok) (k : Nat) (news : List (Addr × Obj)) (bt : Addr) (hT : (bt, ({ cls := Value.type "tuple", data := Data.seq [Value.int lo u1, Value.int hi u2].toArray k } : Obj)) ∈ news) (hlo : v < lo) :
    Tel w 5 60 196 [.bool true, .ref bt, .str (PySem.Str.ofString "+") u4, .int v u5] True news (OutR (none)) := by
  unfold Tel
  k_fill
  k_with_none
  intro mean mg mb dp un gd cn cs a0 ccd cl outer A₀ base h₀ L m s Q E B F X News0 Top0 hk hp hd hu hret
  refine wpAny_call ?_
  k_dflt cell_enter
  k_with "my item" => ((with_reducible show wpAny _ _ (subscriptTail _ _ (Value.ref _) (Value.int _ _)) _ _ _); k_dflt (refine' item_tupleT ?t ?a ?b ?c ?d ?_; (case t => exact News.isTup (by k_asm) hT); (case a => decide); (case b => decide); (case c => rfl); (case d => rfl)))
  k_steps
  refine' hret _ [] _ _ ?kF (nd_any ?kN ?kS) ⟨rfl, _, rfl⟩
  (case kF => k_asm)
  (case kN => k_asm)
  (case kS => intro p hp; repeat (first | exact hp | apply List.Mem.tail))
set_option maxHeartbeats 4000000 in
theorem dueRP3 (w : World) (v : Int) (hv : 0 ≤ v) (hv' : v ≤ 16000000000) (lo hi : Int) (u1 u2 u3 u4 u5 : Tok) (k : Nat) (news : List (Addr × Obj)) (bt : Addr) (hT : (bt, ({ cls := Value.type "tuple", data := Data.seq [Value.int lo u1, Value.int hi u2].toArray k } : Obj)) ∈ news) (hlo : lo ≤ v) (hhi : hi < v) :
    Tel w 5 60 196 [.bool true, .ref bt, .str (PySem.Str.ofString "+") u4, .int v u5] True news (OutR (none)) := by
  unfold Tel
  k_fill
  k_with_none
  intro mean mg mb dp un gd cn cs a0 ccd cl outer A₀ base h₀ L m s Q E B F X News0 Top0 hk hp hd hu hret
  refine wpAny_call ?_
  k_dflt cell_enter
  k_with "my item" => ((with_reducible show wpAny _ _ (subscriptTail _ _ (Value.ref _) (Value.int _ _)) _ _ _); k_dflt (refine' item_tupleT ?t ?a ?b ?c ?d ?_; (case t => exact News.isTup (by k_asm) hT); (case a => decide); (case b => decide); (case c => rfl); (case d => rfl)))
  k_steps
  refine' hret _ [] _ _ ?kF (nd_any ?kN ?kS) ⟨rfl, _, rfl⟩
  (case kF => k_asm)
  (case kN => k_asm)
  (case kS => intro p hp; repeat (first | exact hp | apply List.Mem.tail))
set_option maxHeartbeats 4000000 in
theorem dueRO1 (w : World) (v : Int) (hv : 0 ≤ v) (hv' : v ≤ 16000000000) (lo hi : Int) (u1 u2 u3 u4 u5 : Tok) (k : Nat) (news : List (Addr × Obj)) (bt : Addr) (hT : (bt, ({ cls := Value.type "tuple", data := Data.seq [Value.int lo u1, Value.int hi u2].toArray k } : Obj)) ∈ news) (hlo : lo ≤ v) (hhi : v ≤ hi) :
    Tel w 5 60 196 [.bool true, .ref bt, .str (PySem.Str.ofString "") u4, .int v u5] True news (OutR (some (v))) := by
  unfold Tel
  k_fill
  k_with_none
  intro mean mg mb dp un gd cn cs a0 ccd cl outer A₀ base h₀ L m s Q E B F X News0 Top0 hk hp hd hu hret
  refine wpAny_call ?_
  k_dflt cell_enter
  k_with "my item" => ((with_reducible show wpAny _ _ (subscriptTail _ _ (Value.ref _) (Value.int _ _)) _ _ _); k_dflt (refine' item_tupleT ?t ?a ?b ?c ?d ?_; (case t => exact News.isTup (by k_asm) hT); (case a => decide); (case b => decide); (case c => rfl); (case d => rfl)))
  k_steps
  refine' hret _ [] _ _ ?kF (nd_any ?kN ?kS) ⟨rfl, _, rfl⟩
  (case kF => k_asm)
  (case kN => k_asm)
  (case kS => intro p hp; repeat (first | exact hp | apply List.Mem.tail))
set_option maxHeartbeats 4000000 in
theorem dueRO2 (w : World) (v : Int) (hv : 0 ≤ v) (hv' : v ≤ 16000000000) (lo hi : Int) (u1 u2 u3 u4 u5 : Tok) (k : Nat) (news : List (Addr × Obj)) (bt : Addr) (hT : (bt, ({ cls := Value.type "tuple", data := Data.seq [Value.int lo u1, Value.int hi u2].toArray k } : Obj)) ∈ news) (hlo : v < lo) :
    Tel w 5 60 196 [.bool true, .ref bt, .str (PySem.Str.ofString "") u4, .int v u5] True news (OutR (none)) := by
  unfold Tel
  k_fill
  k_with_none
  intro mean mg mb dp un gd cn cs a0 ccd cl outer A₀ base h₀ L m s Q E B F X News0 Top0 hk hp hd hu hret
  refine wpAny_call ?_
  k_dflt cell_enter
  k_with "my item" => ((with_reducible show wpAny _ _ (subscriptTail _ _ (Value.ref _) (Value.int _ _)) _ _ _); k_dflt (refine' item_tupleT ?t ?a ?b ?c ?d ?_; (case t => exact News.isTup (by k_asm) hT); (case a => decide); (case b => decide); (case c => rfl); (case d => rfl)))
  k_steps
  refine' hret _ [] _ _ ?kF (nd_any ?kN ?kS) ⟨rfl, _, rfl⟩
  (case kF => k_asm)
  (case kN => k_asm)
  (case kS => intro p hp; repeat (first | exact hp | apply List.Mem.tail))
set_option maxHeartbeats 4000000 in
theorem dueRO3 (w : World) (v : Int) (hv : 0 ≤ v) (hv' : v ≤ 16000000000) (lo hi : Int) (u1 u2 u3 u4 u5 : Tok) (k : Nat) (news : List (Addr × Obj)) (bt : Addr) (hT : (bt, ({ cls := Value.type "tuple", data := Data.seq [Value.int lo u1, Value.int hi u2].toArray k } : Obj)) ∈ news) (hlo : lo ≤ v) (hhi : hi < v) :
    Tel w 5 60 196 [.bool true, .ref bt, .str (PySem.Str.ofString "") u4, .int v u5] True news (OutR (none)) := by
  unfold Tel
  k_fill
  k_with_none
  intro mean mg mb dp un gd cn cs a0 ccd cl outer A₀ base h₀ L m s Q E B F X News0 Top0 hk hp hd hu hret
  refine wpAny_call ?_
  k_dflt cell_enter
  k_with "my item" => ((with_reducible show wpAny _ _ (subscriptTail _ _ (Value.ref _) (Value.int _ _)) _ _ _); k_dflt (refine' item_tupleT ?t ?a ?b ?c ?d ?_; (case t => exact News.isTup (by k_asm) hT); (case a => decide); (case b => decide); (case c => rfl); (case d => rfl)))
  k_steps
  refine' hret _ [] _ _ ?kF (nd_any ?kN ?kS) ⟨rfl, _, rfl⟩
  (case kF => k_asm)
  (case kN => k_asm)
  (case kS => intro p hp; repeat (first | exact hp | apply List.Mem.tail))
set_option maxHeartbeats 4000000 in
theorem dueIM1 (w : World) (v : Int) (hv : 0 ≤ v) (hv' : v ≤ 16000000000) (lo hi : Int) (u1 u2 u3 u4 u5 : Tok) (k : Nat) (news : List (Addr × Obj)) (bt : Addr) (hT : (bt, ({ cls := Value.type "tuple", data := Data.seq [Value.int lo u1, Value.int hi u2].toArray k } : Obj)) ∈ news) (hlo : lo ≤ 0 - v) (hhi : 0 - v ≤ hi) :
    Tel w 5 60 196 [.bool false, .ref bt, .str (PySem.Str.ofString "-") u4, .int v u5] True news (OutR (some (0 - v))) := by
  unfold Tel
  k_fill
  k_with_none
  intro mean mg mb dp un gd cn cs a0 ccd cl outer A₀ base h₀ L m s Q E B F X News0 Top0 hk hp hd hu hret
  refine wpAny_call ?_
  k_dflt cell_enter
  k_with "my item" => ((with_reducible show wpAny _ _ (subscriptTail _ _ (Value.ref _) (Value.int _ _)) _ _ _); k_dflt (refine' item_tupleT ?t ?a ?b ?c ?d ?_; (case t => exact News.isTup (by k_asm) hT); (case a => decide); (case b => decide); (case c => rfl); (case d => rfl)))
  k_steps
  refine' hret _ [] _ _ ?kF (nd_any ?kN ?kS) ⟨rfl, _, rfl⟩
  (case kF => k_asm)
  (case kN => k_asm)
  (case kS => intro p hp; repeat (first | exact hp | apply List.Mem.tail))
set_option maxHeartbeats 4000000 in
theorem dueIM2 (w : World) (v : Int) (hv : 0 ≤ v) (hv' : v ≤ 16000000000) (lo hi : Int) (u1 u2 u3 u4 u5 : Tok) (k : Nat) (news : List (Addr × Obj)) (bt : Addr) (hT : (bt, ({ cls := Value.type "tuple", data := Data.seq [Value.int lo u1, Value.int hi u2].toArray k } : Obj)) ∈ news) (hlo : 0 - v < lo) :
    Tel w 5 60 196 [.bool false, .ref bt, .str (PySem.Str.ofString "-") u4, .int v u5] True news (OutR (none)) := by
  unfold Tel
  k_fill
  k_with_none
  intro mean mg mb dp un gd cn cs a0 ccd cl outer A₀ base h₀ L m s Q E B F X News0 Top0 hk hp hd hu hret
  refine wpAny_call ?_
  k_dflt cell_enter
  k_with "my item" => ((with_reducible show wpAny _ _ (subscriptTail _ _ (Value.ref _) (Value.int _ _)) _ _ _); k_dflt (refine' item_tupleT ?t ?a ?b ?c ?d ?_; (case t => exact News.isTup (by k_asm) hT); (case a => decide); (case b => decide); (case c => rfl); (case d => rfl)))
  k_steps
  refine' hret _ [] _ _ ?kF (nd_any ?kN ?kS) ⟨rfl, _, rfl⟩
  (case kF => k_asm)
  (case kN => k_asm)
  (case kS => intro p hp; repeat (first | exact hp | apply List.Mem.tail))
set_option maxHeartbeats 4000000 in
theorem dueIM3 (w : World) (v : Int) (hv : 0 ≤ v) (hv' : v ≤ 16000000000) (lo hi : Int) (u1 u2 u3 u4 u5 : Tok) (k : Nat) (news : List (Addr × Obj)) (bt : Addr) (hT : (bt, ({ cls := Value.type "tuple", data := Data.seq [Value.int lo u1, Value.int hi u2].toArray k } : Obj)) ∈ news) (hlo : lo ≤ 0 - v) (hhi : hi < 0 - v) :
    Tel w 5 60 196 [.bool false, .ref bt, .str (PySem.Str.ofString "-") u4, .int v u5] True news (OutR (none)) := by
  unfold Tel
  k_fill
  k_with_none
  intro mean mg mb dp un gd cn cs a0 ccd cl outer A₀ base h₀ L m s Q E B F X News0 Top0 hk hp hd hu hret
  refine wpAny_call ?_
  k_dflt cell_enter
  k_with "my item" => ((with_reducible show wpAny _ _ (subscriptTail _ _ (Value.ref _) (Value.int _ _)) _ _ _); k_dflt (refine' item_tupleT ?t ?a ?b ?c ?d ?_; (case t => exact News.isTup (by k_asm) hT); (case a => decide); (case b => decide); (case c => rfl); (case d => rfl)))
  k_steps
  refine' hret _ [] _ _ ?kF (nd_any ?kN ?kS) ⟨rfl, _, rfl⟩
  (case kF => k_asm)
  (case kN => k_asm)
  (case kS => intro p hp; repeat (first | exact hp | apply List.Mem.tail))
set_option maxHeartbeats 4000000 in
theorem dueIP1 (w : World) (v : Int) (hv : 0 ≤ v) (hv' : v ≤ 16000000000) (lo hi : Int) (u1 u2 u3 u4 u5 : Tok) (k : Nat) (news : List (Addr × Obj)) (bt : Addr) (hT : (bt, ({ cls := Value.type "tuple", data := Data.seq [Value.int lo u1, Value.int hi u2].toArray k } : Obj)) ∈ news) (hlo : lo ≤ v) (hhi : v ≤ hi) :
    Tel w 5 60 196 [.bool false, .ref bt, .str (PySem.Str.ofString "+") u4, .int v u5] True news (OutR (some (v))) := by
  unfold Tel
  k_fill
  k_with_none
  intro mean mg mb dp un gd cn cs a0 ccd cl outer A₀ base h₀ L m s Q E B F X News0 Top0 hk hp hd hu hret
  refine wpAny_call ?_
  k_dflt cell_enter
  k_with "my item" => ((with_reducible show wpAny _ _ (subscriptTail _ _ (Value.ref _) (Value.int _ _)) _ _ _); k_dflt (refine' item_tupleT ?t ?a ?b ?c ?d ?_; (case t => exact News.isTup (by k_asm) hT); (case a => decide); (case b => decide); (case c => rfl); (case d => rfl)))
  k_steps
  refine' hret _ [] _ _ ?kF (nd_any ?kN ?kS) ⟨rfl, _, rfl⟩
  (case kF => k_asm)
  (case kN => k_asm)
  (case kS => intro p hp; repeat (first | exact hp | apply List.Mem.tail))
set_option maxHeartbeats 4000000 in
theorem dueIP2 (w : World) (v : Int) (hv : 0 ≤ v) (hv' : v ≤ 16000000000) (lo hi : Int) (u1 u2 u3 u4 u5 : Tok) (k : Nat) (news : List (Addr × Obj)) (bt : Addr) (hT : (bt, ({ cls := Value.type "tuple", data := Data.seq [Value.int lo u1, Value.int hi u2].toArray k } : Obj)) ∈ news) (hlo : v < lo) :
    Tel w 5 60 196 [.bool false, .ref bt, .str (PySem.Str.ofString "+") u4, .int v u5] True news (OutR (none)) := by
  unfold Tel
  k_fill
  k_with_none
  intro mean mg mb dp un gd cn cs a0 ccd cl outer A₀ base h₀ L m s Q E B F X News0 Top0 hk hp hd hu hret
  refine wpAny_call ?_
  k_dflt cell_enter
  k_with "my item" => ((with_reducible show wpAny _ _ (subscriptTail _ _ (Value.ref _) (Value.int _ _)) _ _ _); k_dflt (refine' item_tupleT ?t ?a ?b ?c ?d ?_; (case t => exact News.isTup (by k_asm) hT); (case a => decide); (case b => decide); (case c => rfl); (case d => rfl)))
  k_steps
  refine' hret _ [] _ _ ?kF (nd_any ?kN ?kS) ⟨rfl, _, rfl⟩
  (case kF => k_asm)
  (case kN => k_asm)
  (case kS => intro p hp; repeat (first | exact hp | apply List.Mem.tail))
set_option maxHeartbeats 4000000 in
theorem dueIP3 (w : World) (v : Int) (hv : 0 ≤ v) (hv' : v ≤ 16000000000) (lo hi : Int) (u1 u2 u3 u4 u5 : Tok) (k : Nat) (news : List (Addr × Obj)) (bt : Addr) (hT : (bt, ({ cls := Value.type "tuple", data := Data.seq [Value.int lo u1, Value.int hi u2].toArray k } : Obj)) ∈ news) (hlo : lo ≤ v) (hhi : hi < v) :
    Tel w 5 60 196 [.bool false, .ref bt, .str (PySem.Str.ofString "+") u4, .int v u5] True news (OutR (none)) := by
  unfold Tel
  k_fill
  k_with_none
  intro mean mg mb dp un gd cn cs a0 ccd cl outer A₀ base h₀ L m s Q E B F X News0 Top0 hk hp hd hu hret
  refine wpAny_call ?_
  k_dflt cell_enter
  k_with "my item" => ((with_reducible show wpAny _ _ (subscriptTail _ _ (Value.ref _) (Value.int _ _)) _ _ _); k_dflt (refine' item_tupleT ?t ?a ?b ?c ?d ?_; (case t => exact News.isTup (by k_asm) hT); (case a => decide); (case b => decide); (case c => rfl); (case d => rfl)))
  k_steps
  refine' hret _ [] _ _ ?kF (nd_any ?kN ?kS) ⟨rfl, _, rfl⟩
  (case kF => k_asm)
  (case kN => k_asm)
  (case kS => intro p hp; repeat (first | exact hp | apply List.Mem.tail))
set_option maxHeartbeats 4000000 in
theorem dueIO1 (w : World) (v : Int) (hv : 0 ≤ v) (hv' : v ≤ 16000000000) (lo hi : Int) (u1 u2 u3 u4 u5 : Tok) (k : Nat) (news : List (Addr × Obj)) (bt : Addr) (hT : (bt, ({ cls := Value.type "tuple", data := Data.seq [Value.int lo u1, Value.int hi u2].toArray k } : Obj)) ∈ news) (hlo : lo ≤ v) (hhi : v ≤ hi) :
    Tel w 5 60 196 [.bool false, .ref bt, .str (PySem.Str.ofString "") u4, .int v u5] True news (OutR (some (v))) := by
  unfold Tel
  k_fill
  k_with_none
  intro mean mg mb dp un gd cn cs a0 ccd cl outer A₀ base h₀ L m s Q E B F X News0 Top0 hk hp hd hu hret
  refine wpAny_call ?_
  k_dflt cell_enter
  k_with "my item" => ((with_reducible show wpAny _ _ (subscriptTail _ _ (Value.ref _) (Value.int _ _)) _ _ _); k_dflt (refine' item_tupleT ?t ?a ?b ?c ?d ?_; (case t => exact News.isTup (by k_asm) hT); (case a => decide); (case b => decide); (case c => rfl); (case d => rfl)))
  k_steps
  refine' hret _ [] _ _ ?kF (nd_any ?kN ?kS) ⟨rfl, _, rfl⟩
  (case kF => k_asm)
  (case kN => k_asm)
  (case kS => intro p hp; repeat (first | exact hp | apply List.Mem.tail))
set_option maxHeartbeats 4000000 in
theorem dueIO2 (w : World) (v : Int) (hv : 0 ≤ v) (hv' : v ≤ 16000000000) (lo hi : Int) (u1 u2 u3 u4 u5 : Tok) (k : Nat) (news : List (Addr × Obj)) (bt : Addr) (hT : (bt, ({ cls := Value.type "tuple", data := Data.seq [Value.int lo u1, Value.int hi u2].toArray k } : Obj)) ∈ news) (hlo : v < lo) :
    Tel w 5 60 196 [.bool false, .ref bt, .str (PySem.Str.ofString "") u4, .int v u5] True news (OutR (none)) := by
  unfold Tel
  k_fill
  k_with_none
  intro mean mg mb dp un gd cn cs a0 ccd cl outer A₀ base h₀ L m s Q E B F X News0 Top0 hk hp hd hu hret
  refine wpAny_call ?_
  k_dflt cell_enter
  k_with "my item" => ((with_reducible show wpAny _ _ (subscriptTail _ _ (Value.ref _) (Value.int _ _)) _ _ _); k_dflt (refine' item_tupleT ?t ?a ?b ?c ?d ?_; (case t => exact News.isTup (by k_asm) hT); (case a => decide); (case b => decide); (case c => rfl); (case d => rfl)))
  k_steps
  refine' hret _ [] _ _ ?kF (nd_any ?kN ?kS) ⟨rfl, _, rfl⟩
  (case kF => k_asm)
  (case kN => k_asm)
  (case kS => intro p hp; repeat (first | exact hp | apply List.Mem.tail))
set_option maxHeartbeats 4000000 in
theorem dueIO3 (w : World) (v : Int) (hv : 0 ≤ v) (hv' : v ≤ 16000000000) (lo hi : Int) (u1 u2 u3 u4 u5 : Tok) (k : Nat) (news : List (Addr × Obj)) (bt : Addr) (hT : (bt, ({ cls := Value.type "tuple", data := Data.seq [Value.int lo u1, Value.int hi u2].toArray k } : Obj)) ∈ news) (hlo : lo ≤ v) (hhi : hi < v) :
    Tel w 5 60 196 [.bool false, .ref bt, .str (PySem.Str.ofString "") u4, .int v u5] True news (OutR (none)) := by
  unfold Tel
  k_fill
  k_with_none
  intro mean mg mb dp un gd cn cs a0 ccd cl outer A₀ base h₀ L m s Q E B F X News0 Top0 hk hp hd hu hret
  refine wpAny_call ?_
  k_dflt cell_enter
  k_with "my item" => ((with_reducible show wpAny _ _ (subscriptTail _ _ (Value.ref _) (Value.int _ _)) _ _ _); k_dflt (refine' item_tupleT ?t ?a ?b ?c ?d ?_; (case t => exact News.isTup (by k_asm) hT); (case a => decide); (case b => decide); (case c => rfl); (case d => rfl)))
  k_steps
  refine' hret _ [] _ _ ?kF (nd_any ?kN ?kS) ⟨rfl, _, rfl⟩
  (case kF => k_asm)
  (case kN => k_asm)
  (case kS => intro p hp; repeat (first | exact hp | apply List.Mem.tail))
end Rg

namespace Rg
open PySem.Spec PySem.Calls
set_option maxRecDepth 100000
/-- the name of the kind of type -/
noncomputable def kindOf (ring : Bool) : PySem.Str := if ring then PySem.Str.ofString "mod" else PySem.Str.ofString "int"
theorem heard_spec (w : World) (x y : PySem.Str) (hx : x.length ≤ 300) (hy : y.length ≤ 300) (hst : Txt.stripChars y (PySem.Str.ofString " ") = x) (hc : ∀ c ∈ x.cps.toList, c < 128 ∧ c ≠ 95) (mi : Bool) (v : Int) (h : NumIn x mi v)
    (news : List (Addr × Obj)) (tx dx : Addr) (es : List DictEntry) (n : Nat) (lo hi : Int) (ring : Bool) (T0 : TyIs news tx dx es n (kindOf ring) lo hi) (t : Tok) :
    TelC w 12 300 189 [.ref tx, .str y t] news (OutR (dueOf (ring && mi) lo hi v)) := by
  cases ring with
  | false =>
    rcases Int.lt_or_le v lo with a | a
    · rw [Bool.false_and, due_lo a]; exact heardC1 w x y hx hy hst hc mi v h news tx dx es n lo hi T0 a t
    · rcases Int.lt_or_le hi v with b | b
      · rw [Bool.false_and, due_hi b]; exact heardC2 w x y hx hy hst hc mi v h news tx dx es n lo hi T0 a b t
      · rw [Bool.false_and, due_in a b]; exact heardA1 w x y hx hy hst hc mi v h news tx dx es n lo hi T0 a b t
  | true =>
    cases mi with
    | true => exact heardB w x y hx hy hst hc v h news tx dx es n lo hi T0 t
    | false =>
      rcases Int.lt_or_le v lo with a | a
      · rw [Bool.true_and, due_lo a]; exact heardC3 w x y hx hy hst hc v h news tx dx es n lo hi T0 a t
      · rcases Int.lt_or_le hi v with b | b
        · rw [Bool.true_and, due_hi b]; exact heardC4 w x y hx hy hst hc v h news tx dx es n lo hi T0 a b t
        · rw [Bool.true_and, due_in a b]; exact heardA2 w x y hx hy hst hc v h news tx dx es n lo hi T0 a b t
theorem dueM_spec (w : World) (ring : Bool) (v : Int) (hv : 0 ≤ v) (hv' : v ≤ 16000000000) (lo hi : Int) (u1 u2 u4 u5 : Tok) (k : Nat) (news : List (Addr × Obj)) (bt : Addr) (hT : (bt, ({ cls := Value.type "tuple", data := Data.seq [Value.int lo u1, Value.int hi u2].toArray k } : Obj)) ∈ news) :
    Tel w 5 60 196 [.bool ring, .ref bt, .str (PySem.Str.ofString "-") u4, .int v u5] True news (OutR (dueOf (ring && true) lo hi (0 - v))) := by
  cases ring with
  | true => exact dueRM w v hv hv' lo hi u1 u2 u4 u4 u5 k news bt hT
  | false =>
    rcases Int.lt_or_le (0 - v) lo with a | a
    · rw [Bool.false_and, due_lo a]; exact dueIM2 w v hv hv' lo hi u1 u2 u4 u4 u5 k news bt hT a
    · rcases Int.lt_or_le hi (0 - v) with b | b
      · rw [Bool.false_and, due_hi b]; exact dueIM3 w v hv hv' lo hi u1 u2 u4 u4 u5 k news bt hT a b
      · rw [Bool.false_and, due_in a b]; exact dueIM1 w v hv hv' lo hi u1 u2 u4 u4 u5 k news bt hT a b
theorem dueP_spec (w : World) (ring : Bool) (v : Int) (hv : 0 ≤ v) (hv' : v ≤ 16000000000) (lo hi : Int) (u1 u2 u4 u5 : Tok) (k : Nat) (news : List (Addr × Obj)) (bt : Addr) (hT : (bt, ({ cls := Value.type "tuple", data := Data.seq [Value.int lo u1, Value.int hi u2].toArray k } : Obj)) ∈ news) :
    Tel w 5 60 196 [.bool ring, .ref bt, .str (PySem.Str.ofString "+") u4, .int v u5] True news (OutR (dueOf (ring && false) lo hi v)) := by
  rw [Bool.and_false]
  rcases Int.lt_or_le v lo with a | a
  · rw [due_lo a]; cases ring; exact dueIP2 w v hv hv' lo hi u1 u2 u4 u4 u5 k news bt hT a; exact dueRP2 w v hv hv' lo hi u1 u2 u4 u4 u5 k news bt hT a
  · rcases Int.lt_or_le hi v with b | b
    · rw [due_hi b]; cases ring; exact dueIP3 w v hv hv' lo hi u1 u2 u4 u4 u5 k news bt hT a b; exact dueRP3 w v hv hv' lo hi u1 u2 u4 u4 u5 k news bt hT a b
    · rw [due_in a b]; cases ring; exact dueIP1 w v hv hv' lo hi u1 u2 u4 u4 u5 k news bt hT a b; exact dueRP1 w v hv hv' lo hi u1 u2 u4 u4 u5 k news bt hT a b
theorem dueO_spec (w : World) (ring : Bool) (v : Int) (hv : 0 ≤ v) (hv' : v ≤ 16000000000) (lo hi : Int) (u1 u2 u4 u5 : Tok) (k : Nat) (news : List (Addr × Obj)) (bt : Addr) (hT : (bt, ({ cls := Value.type "tuple", data := Data.seq [Value.int lo u1, Value.int hi u2].toArray k } : Obj)) ∈ news) :
    Tel w 5 60 196 [.bool ring, .ref bt, .str (PySem.Str.ofString "") u4, .int v u5] True news (OutR (dueOf (ring && false) lo hi v)) := by
  rw [Bool.and_false]
  rcases Int.lt_or_le v lo with a | a
  · rw [due_lo a]; cases ring; exact dueIO2 w v hv hv' lo hi u1 u2 u4 u4 u5 k news bt hT a; exact dueRO2 w v hv hv' lo hi u1 u2 u4 u4 u5 k news bt hT a
  · rcases Int.lt_or_le hi v with b | b
    · rw [due_hi b]; cases ring; exact dueIO3 w v hv hv' lo hi u1 u2 u4 u4 u5 k news bt hT a b; exact dueRO3 w v hv hv' lo hi u1 u2 u4 u4 u5 k news bt hT a b
    · rw [due_in a b]; cases ring; exact dueIO1 w v hv hv' lo hi u1 u2 u4 u4 u5 k news bt hT a b; exact dueRO1 w v hv hv' lo hi u1 u2 u4 u4 u5 k news bt hT a b
end Rg

namespace Rg
open PySem.Spec PySem.Calls
set_option maxRecDepth 100000
/-- the figures as a text -/
noncomputable def figs (b n : Int) : PySem.Str := ⟨(full b.toNat n.toNat).toArray⟩
theorem figs_len {b n : Int} (hn0 : 0 ≤ n) (hn1 : n ≤ 40000) (hb : 2 ≤ b) : (figs b n).length ≤ 16 := full_len (by omega) (by omega)
noncomputable def IsBase (b : Int) : Prop := b = 10 ∨ b = 16 ∨ b = 2 ∨ b = 3
theorem base_ok {v : Int} (h0 : 0 ≤ v) (h1 : v < 4) : IsBase ([10, 16, 2, 3].getD v.toNat 0) := by
  unfold IsBase
  rcases (by omega : v = 0 ∨ v = 1 ∨ v = 2 ∨ v = 3) with rfl | rfl | rfl | rfl
  · exact .inl rfl
  · exact .inr (.inl rfl)
  · exact .inr (.inr (.inl rfl))
  · exact .inr (.inr (.inr rfl))
/-- the two power tables -/
noncomputable def tailS (k : Int) : PySem.Str := if k = 0 then PySem.Str.ofString "" else if k = 1 then PySem.Str.ofString "e0" else PySem.Str.ofString "E1"
noncomputable def timesOf (k b : Int) : Int := if k = 2 then b else 1
theorem len_list (x : PySem.Str) : x.length = x.cps.toList.length := by simp [PySem.Str.length]
theorem app_list (x y : PySem.Str) : (x ++ y).cps.toList = x.cps.toList ++ y.cps.toList := by rw [PySem.Str.cps_append, Array.toList_append]
theorem figs_list (b n : Int) : (figs b n).cps.toList = full b.toNat n.toNat := by unfold figs; simp
theorem worth_up {d : Nat} (h : d < 16) : worth (up d) = d := (by decide +kernel : ∀ d : Nat, d < 16 → worth (up d) = (d : Int)) d h
theorem scan_step {b : Int} {c : Nat} {r : List Nat} {n : Int} (h0 : 0 ≤ worth c) (h1 : worth c < b) : scan b (c :: r) n = ((scan b r ((if 0 > n then 0 else n) * b + worth c)).1, (scan b r ((if 0 > n then 0 else n) * b + worth c)).2 + 1) := by
  rw [scan, if_neg (by omega)]
theorem scan_digs {b : Nat} (hb : 2 ≤ b) (hb' : b ≤ 16) : ∀ (k n : Nat), n ≤ k → 0 < n → ∀ r, scan b (digs b n ++ r) (-1) = ((scan b r n).1, (scan b r n).2 + (digs b n).length)
  | 0, n, h, h0, r => by omega
  | k + 1, n, h, h0, r => by
    have hlt' : n % b < b := Nat.mod_lt n (by omega)
    have hw := worth_up (show n % b < 16 by omega)
    have hdm := Nat.div_add_mod n b
    have hdg : digs b n = digs b (n / b) ++ [up (n % b)] := by rw [digs, dif_neg (by omega)]
    have hlt2 : n / b < n := Nat.div_lt_self h0 (by omega)
    have IH : n / b ≠ 0 → ∀ r, scan b (digs b (n / b) ++ r) (-1) = ((scan b r ((n / b : Nat) : Int)).1, (scan b r ((n / b : Nat) : Int)).2 + (digs b (n / b)).length) := fun hq r => scan_digs hb hb' k (n / b) (Nat.le_of_lt_succ (Nat.lt_of_lt_of_le hlt2 h)) (Nat.pos_of_ne_zero hq) r
    rw [hdg, List.append_assoc, List.singleton_append]
    clear hdg
    generalize n / b = q at *
    generalize n % b = m' at *
    by_cases hq : q = 0
    · have hd : digs b 0 = [] := by rw [digs]; simp
      have hnb : m' = n := by rw [hq] at hdm; omega
      rw [hq, hd, List.nil_append, scan_step (by omega) (by omega), hw, hnb]
      simp
    · rw [IH hq, scan_step (by omega) (by omega), hw]
      have e : (if 0 > (q : Int) then 0 else (q : Int)) * (b : Int) + (m' : Int) = n := by
        rw [if_neg (by omega), ← Int.natCast_mul, ← Int.natCast_add, Nat.mul_comm, hdm]
      rw [e, List.length_append, List.length_singleton]
      simp only [Prod.mk.injEq, true_and]
      omega
noncomputable def Stops (b : Int) (r : List Nat) : Prop := ∀ n, 0 ≤ n → scan b r n = (n, 0)
theorem scan_full {b : Nat} (hb : 2 ≤ b) (hb' : b ≤ 16) (n : Nat) {r : List Nat} (hr : Stops b r) : scan b (full b n ++ r) (-1) = ((n : Int), (full b n).length) := by
  unfold full
  split
  · rename_i h
    subst h
    have h48 : worth 48 = 0 := by decide
    rw [List.singleton_append, scan_step (by rw [h48]; decide) (by rw [h48]; omega), h48]
    simp only [gt_iff_lt, Int.reduceNeg, Int.reduceLT, if_pos, Int.zero_mul, Int.add_zero]
    rw [hr 0 (by decide)]
    rfl
  · rw [scan_digs hb hb' n n (Nat.le_refl _) (by omega), hr n (by omega)]
    simp
theorem stops_nil (b : Int) : Stops b [] := fun n _ => by rw [scan]
theorem stops_hash {b : Int} (r : List Nat) : Stops b (35 :: r) := fun n _ => by rw [scan, if_pos (.inl (by decide))]
theorem tail_0 : (tailS 0).cps.toList = [] := by decide +kernel
theorem tail_1 : (tailS 1).cps.toList = [101, 48] := by decide +kernel
theorem tail_2 : (tailS 2).cps.toList = [69, 49] := by decide +kernel
theorem stops_tail {p : Int} (h0 : 0 ≤ p) (h1 : p < 3) : Stops 10 (tailS p).cps.toList := by
  rcases (by omega : p = 0 ∨ p = 1 ∨ p = 2) with rfl | rfl | rfl
  · rw [tail_0]; exact stops_nil _
  · rw [tail_1]; exact fun n _ => by rw [scan, if_pos (.inr (by decide))]
  · rw [tail_2]; exact fun n _ => by rw [scan, if_pos (.inr (by decide))]
theorem chr_at {x : PySem.Str} {A B : List Nat} {c : Nat} (h : x.cps.toList = A ++ c :: B) : chr x (A.length : Int) = c := by
  have hl : ((A.length : Nat) : Int) < x.length := by rw [len_list, h, List.length_append, List.length_cons]; omega
  have := drop_chr (x := x) (e := A.length) (by omega) hl
  rw [h, Int.toNat_natCast, List.drop_left] at this
  exact (List.cons.inj this).1.symm
theorem drop_at {x : PySem.Str} {A B : List Nat} (h : x.cps.toList = A ++ B) : x.cps.toList.drop (A.length : Int).toNat = B := by rw [h, Int.toNat_natCast, List.drop_left]
noncomputable def powOf (p : Int) : Int := if p = 2 then 1 else 0
theorem expo_of {x : PySem.Str} {A : List Nat} {p : Int} (h0 : 0 ≤ p) (h1 : p < 3) (h : x.cps.toList = A ++ (tailS p).cps.toList) : Expo x A.length (powOf p) := by
  refine ⟨by omega, ?_⟩
  rcases (by omega : p = 0 ∨ p = 1 ∨ p = 2) with rfl | rfl | rfl
  · rw [tail_0, List.append_nil] at h
    exact .inl ⟨by rw [len_list, h], rfl⟩
  · rw [tail_1] at h
    refine .inr ⟨by rw [len_list, h, List.length_append]; simp, by rw [chr_at h]; decide, 0, by decide, ?_, rfl⟩
    have h' : x.cps.toList = (A ++ [101]) ++ 48 :: [] := by rw [h, List.append_assoc]; rfl
    have := chr_at h'
    rw [List.length_append, List.length_singleton] at this
    exact this
  · rw [tail_2] at h
    refine .inr ⟨by rw [len_list, h, List.length_append]; simp, by rw [chr_at h]; decide, 1, by decide, ?_, rfl⟩
    have h' : x.cps.toList = (A ++ [69]) ++ 49 :: [] := by rw [h, List.append_assoc]; rfl
    have := chr_at h'
    rw [List.length_append, List.length_singleton] at this
    exact this
theorem pow_times {b p : Int} : b ^ (powOf p).toNat = timesOf p b := by
  unfold powOf timesOf
  split
  · exact Int.pow_one b
  · exact Int.pow_zero b
theorem full_ne (b n : Nat) (hb : 2 ≤ b) : 0 < (full b n).length := by
  unfold full
  split
  · decide
  · rename_i h
    rw [digs, dif_neg (by omega), List.length_append, List.length_singleton]
    omega
theorem litA_of {x : PySem.Str} {S : List Nat} {n p : Int} (hn : 0 ≤ n ∧ n ≤ 40000) (h0 : 0 ≤ p) (h1 : p < 3) (h : x.cps.toList = S ++ (full 10 n.toNat ++ (tailS p).cps.toList)) : Lit x S.length (n * timesOf p 10) := by
  refine .inl ⟨n, powOf p, ⟨by omega, ?_, ((S ++ full 10 n.toNat).length : Int), ?_, ?_, hn.1, by omega, ?_⟩, by rw [pow_times]⟩
  · rw [len_list, h, List.length_append, List.length_append]
    have := full_ne 10 n.toNat (by decide)
    omega
  · rw [drop_at h]
    have := scan_full (b := 10) (by decide) (by decide) n.toNat (stops_tail h0 h1)
    rw [show ((10 : Nat) : Int) = 10 from rfl] at this
    rw [this]
    exact Int.toNat_of_nonneg hn.1
  · rw [drop_at h]
    have := scan_full (b := 10) (by decide) (by decide) n.toNat (stops_tail h0 h1)
    rw [show ((10 : Nat) : Int) = 10 from rfl] at this
    rw [this, List.length_append]
    push_cast
    rfl
  · exact expo_of h0 h1 (by rw [h, List.append_assoc])
theorem litB_of {x : PySem.Str} {S : List Nat} {b n p : Int} (hb : IsBase b) (hn : 0 ≤ n ∧ n ≤ 40000) (h0 : 0 ≤ p) (h1 : p < 3) (h : x.cps.toList = S ++ (full 10 b.toNat ++ 35 :: (full b.toNat n.toNat ++ 35 :: (tailS p).cps.toList))) : Lit x S.length (n * timesOf p b) := by
  have hb2 : 2 ≤ b ∧ b ≤ 16 := by unfold IsBase at hb; omega
  have hb3 : ((b.toNat : Nat) : Int) = b := Int.toNat_of_nonneg (by omega)
  have s1 := scan_full (b := 10) (by decide) (by decide) b.toNat (stops_hash (b := ((10 : Nat) : Int)) (full b.toNat n.toNat ++ 35 :: (tailS p).cps.toList))
  rw [show ((10 : Nat) : Int) = 10 from rfl] at s1
  have s2 := scan_full (b := b.toNat) (by omega) (by omega) n.toNat (stops_hash (b := (b.toNat : Int)) (tailS p).cps.toList)
  rw [hb3] at s2
  have hA : x.cps.toList = (S ++ full 10 b.toNat) ++ 35 :: (full b.toNat n.toNat ++ 35 :: (tailS p).cps.toList) := by rw [h, List.append_assoc]
  have hB : x.cps.toList = (S ++ full 10 b.toNat ++ [35]) ++ (full b.toNat n.toNat ++ 35 :: (tailS p).cps.toList) := by rw [hA]; simp
  have hC : x.cps.toList = (S ++ full 10 b.toNat ++ [35] ++ full b.toNat n.toNat) ++ 35 :: (tailS p).cps.toList := by rw [hB]; simp
  have hD : x.cps.toList = (S ++ full 10 b.toNat ++ [35] ++ full b.toNat n.toNat ++ [35]) ++ (tailS p).cps.toList := by rw [hC]; simp
  have lB : (((S ++ full 10 b.toNat).length : Nat) : Int) + 1 = ((S ++ full 10 b.toNat ++ [35]).length : Nat) := by rw [List.length_append (bs := [35])]; rfl
  have lD : (((S ++ full 10 b.toNat ++ [35] ++ full b.toNat n.toNat).length : Nat) : Int) + 1 = ((S ++ full 10 b.toNat ++ [35] ++ full b.toNat n.toNat ++ [35]).length : Nat) := by rw [List.length_append (bs := [35])]; rfl
  have fn := full_ne b.toNat n.toNat (by omega)
  refine .inr ⟨b, n, powOf p, ⟨by omega, hb2.1, hb2.2, ((S ++ full 10 b.toNat).length : Int), ((S ++ full 10 b.toNat ++ [35] ++ full b.toNat n.toNat).length : Int), ?_, ?_, ?_, chr_at hA, ?_, ?_, ?_, ?_, chr_at hC, hn.1, by omega, ?_⟩, by rw [pow_times]⟩
  · rw [drop_at h, s1]; exact hb3
  · rw [drop_at h, s1, List.length_append]; push_cast; rfl
  · rw [len_list, hA]; simp only [List.length_append, List.length_cons]; omega
  · rw [lB, drop_at hB, s2]; exact Int.toNat_of_nonneg hn.1
  · rw [lB, drop_at hB, s2, List.length_append (bs := full b.toNat n.toNat)]; push_cast; rfl
  · rw [lB, List.length_append (bs := full b.toNat n.toNat)]; omega
  · rw [len_list, hC]; simp only [List.length_append, List.length_cons]; omega
  · rw [lD]; exact expo_of h0 h1 hD
end Rg

namespace Rg
open PySem.Spec PySem.Calls
set_option maxRecDepth 100000
abbrev GoodC (c : Nat) : Prop := c < 128 ∧ c ≠ 95 ∧ c ≠ 32 ∧ c ≠ 43 ∧ c ≠ 45
theorem good_up {d : Nat} (h : d < 16) : GoodC (up d) := (by decide +kernel : ∀ d : Nat, d < 16 → GoodC (up d)) d h
theorem digs_good {b : Nat} (hb : 2 ≤ b) (hb' : b ≤ 16) : ∀ (k n : Nat), n ≤ k → ∀ c ∈ digs b n, GoodC c
  | 0, n, h, c, hc => by
    have : n = 0 := by omega
    subst this
    rw [digs] at hc
    simp at hc
  | k + 1, n, h, c, hc => by
    rw [digs] at hc
    split at hc
    · simp at hc
    · rcases List.mem_append.mp hc with hc | hc
      · exact digs_good hb hb' k (n / b) (Nat.le_of_lt_succ (Nat.lt_of_lt_of_le (Nat.div_lt_self (by omega) (by omega)) h)) c hc
      · rw [List.mem_singleton.mp hc]
        exact good_up (Nat.lt_of_lt_of_le (Nat.mod_lt n (by omega)) hb')
theorem full_good {b : Nat} (hb : 2 ≤ b) (hb' : b ≤ 16) (n : Nat) : ∀ c ∈ full b n, GoodC c := fun c hc => by
  unfold full at hc
  split at hc
  · rw [List.mem_singleton.mp hc]; decide
  · exact digs_good hb hb' n n (Nat.le_refl _) c hc
theorem tail_good {p : Int} (h0 : 0 ≤ p) (h1 : p < 3) : ∀ c ∈ (tailS p).cps.toList, GoodC c := by
  rcases (by omega : p = 0 ∨ p = 1 ∨ p = 2) with rfl | rfl | rfl
  · rw [tail_0]; exact fun c hc => nomatch hc
  · rw [tail_1]; decide
  · rw [tail_2]; decide
theorem tail_len {p : Int} : (tailS p).length ≤ 2 := by
  unfold tailS
  split
  · decide +kernel
  · split <;> decide +kernel
/-- what stands between the signs and the blanks -/
noncomputable def bodyS (hash : Bool) (b n p : Int) : PySem.Str := if hash then figs 10 b ++ PySem.Str.ofString "#" ++ figs b n ++ PySem.Str.ofString "#" ++ tailS p else figs b n ++ tailS p
theorem hash_list : (PySem.Str.ofString "#").cps.toList = [35] := by decide +kernel
theorem body_hash (b n p : Int) : (bodyS true b n p).cps.toList = full 10 b.toNat ++ 35 :: (full b.toNat n.toNat ++ 35 :: (tailS p).cps.toList) := by
  show (figs 10 b ++ PySem.Str.ofString "#" ++ figs b n ++ PySem.Str.ofString "#" ++ tailS p).cps.toList = _
  rw [app_list, app_list, app_list, app_list, figs_list, figs_list, hash_list]
  simp
theorem body_bare (b n p : Int) : (bodyS false b n p).cps.toList = full b.toNat n.toNat ++ (tailS p).cps.toList := by
  show (figs b n ++ tailS p).cps.toList = _
  rw [app_list, figs_list]
theorem IsBase.two {b : Int} (h : IsBase b) : 2 ≤ b ∧ b ≤ 16 := by unfold IsBase at h; omega
theorem lit_of {x : PySem.Str} {S : List Nat} {hash : Bool} {b n p : Int} (hb : IsBase b) (hh : hash = false → b = 10) (hn : 0 ≤ n ∧ n ≤ 40000) (h0 : 0 ≤ p) (h1 : p < 3) (h : x.cps.toList = S ++ (bodyS hash b n p).cps.toList) : Lit x S.length (n * timesOf p b) := by
  cases hash with
  | true => rw [body_hash] at h; exact litB_of hb hn h0 h1 h
  | false =>
    obtain rfl := hh rfl
    rw [body_bare] at h
    exact litA_of hn h0 h1 h
theorem body_good {hash : Bool} {b n p : Int} (hb : IsBase b) (h0 : 0 ≤ p) (h1 : p < 3) : ∀ c ∈ (bodyS hash b n p).cps.toList, GoodC c := by
  have hb2 := hb.two
  have g1 := full_good (b := b.toNat) (by omega) (by omega) n.toNat
  have g2 := full_good (b := 10) (by decide) (by decide) b.toNat
  have g3 := tail_good h0 h1
  cases hash with
  | true =>
    rw [body_hash]
    intro c hc
    simp only [List.mem_append, List.mem_cons] at hc
    rcases hc with hc | rfl | hc | rfl | hc
    · exact g2 c hc
    · decide
    · exact g1 c hc
    · decide
    · exact g3 c hc
  | false =>
    rw [body_bare]
    intro c hc
    rcases List.mem_append.mp hc with hc | hc
    · exact g1 c hc
    · exact g3 c hc
theorem app_len (x y : PySem.Str) : (x ++ y).length = x.length + y.length := by rw [len_list, len_list, len_list, app_list, List.length_append]
theorem body_len {hash : Bool} {b n p : Int} (hb : IsBase b) (hn : 0 ≤ n ∧ n ≤ 40000) : 0 < (bodyS hash b n p).length ∧ (bodyS hash b n p).length ≤ 40 := by
  have hb2 := hb.two
  have f1 := figs_len hn.1 hn.2 hb2.1
  have f2 := figs_len (b := 10) (n := b) (by omega) (by omega) (by decide)
  have f3 := tail_len (p := p)
  have f4 : (PySem.Str.ofString "#").length = 1 := by rw [len_list, hash_list]; rfl
  have f5 : 0 < (figs b n).length := by rw [len_list, figs_list]; exact full_ne _ _ (by omega)
  cases hash with
  | true =>
    have e : (bodyS true b n p).length = (figs 10 b).length + (PySem.Str.ofString "#").length + (figs b n).length + (PySem.Str.ofString "#").length + (tailS p).length := by
      show (figs 10 b ++ PySem.Str.ofString "#" ++ figs b n ++ PySem.Str.ofString "#" ++ tailS p).length = _
      rw [app_len, app_len, app_len, app_len]
    omega
  | false =>
    have e : (bodyS false b n p).length = (figs b n).length + (tailS p).length := by
      show (figs b n ++ tailS p).length = _
      rw [app_len]
    omega
theorem blanks {k : Int} (h0 : 0 ≤ k) (h1 : k < 3) : (Txt.mul (PySem.Str.ofString " ") k).cps.toList = List.replicate k.toNat 32 := by
  rcases (by omega : k = 0 ∨ k = 1 ∨ k = 2) with rfl | rfl | rfl <;> decide +kernel
theorem take_while {g : Nat → Bool} (hg : g 32 = true) {c : Nat} (hc : g c = false) (R : List Nat) : ∀ i : Nat, ((List.replicate i 32 ++ c :: R).takeWhile g).length = i
  | 0 => by simp [hc]
  | i + 1 => by
    rw [List.replicate_succ, List.cons_append, List.takeWhile_cons, if_pos hg, List.length_cons, take_while hg hc R i]
theorem strip_of {x y : PySem.Str} {i j : Nat} (h : y.cps.toList = List.replicate i 32 ++ (x.cps.toList ++ List.replicate j 32)) (hx : ∀ c ∈ x.cps.toList, c ≠ 32) (hn : 0 < x.length) : Txt.stripChars y (PySem.Str.ofString " ") = x := by
  have g32 : (PySem.Str.ofString " ").cps.contains 32 = true := by decide +kernel
  have gno : ∀ c, c ≠ 32 → (PySem.Str.ofString " ").cps.contains c = false := fun c hc => by
    rw [show (PySem.Str.ofString " ").cps = #[32] from by decide +kernel]
    simp [hc]
  obtain ⟨c, R, hcR⟩ : ∃ c R, x.cps.toList = c :: R := by
    cases hl : x.cps.toList with
    | nil => rw [len_list, hl] at hn; exact absurd hn (by decide)
    | cons c R => exact ⟨c, R, rfl⟩
  obtain ⟨c', R', hcR'⟩ : ∃ c R, x.cps.toList.reverse = c :: R := by
    cases hl : x.cps.toList.reverse with
    | nil => rw [List.reverse_eq_nil_iff] at hl; rw [hl] at hcR; cases hcR
    | cons c R => exact ⟨c, R, rfl⟩
  have hc : c ≠ 32 := hx c (by rw [hcR]; exact .head _)
  have hc' : c' ≠ 32 := hx c' (by rw [← List.mem_reverse, hcR']; exact .head _)
  rw [Txt.stripChars, W.stripBy_eq]
  have lo : (y.cps.toList.takeWhile (PySem.Str.ofString " ").cps.contains).length = i := by rw [h, hcR]; exact take_while g32 (gno c hc) _ i
  have hi : ((y.cps.toList.drop i).reverse.takeWhile (PySem.Str.ofString " ").cps.contains).length = j := by
    have : y.cps.toList.drop i = x.cps.toList ++ List.replicate j 32 := by
      rw [h]
      have := List.drop_left (l₁ := List.replicate i 32) (l₂ := x.cps.toList ++ List.replicate j 32)
      rwa [List.length_replicate] at this
    rw [this, List.reverse_append, List.reverse_replicate, hcR']
    exact take_while g32 (gno c' hc') _ j
  have hl : y.length = i + x.length + j := by rw [len_list, h, len_list]; simp; omega
  show Builtin.Str.strSub y (y.cps.toList.takeWhile (PySem.Str.ofString " ").cps.contains).length (y.length - ((y.cps.toList.drop (y.cps.toList.takeWhile (PySem.Str.ofString " ").cps.contains).length).reverse.takeWhile (PySem.Str.ofString " ").cps.contains).length) = x
  rw [lo, hi, hl, show i + x.length + j - j = i + x.length by omega]
  unfold Builtin.Str.strSub
  obtain ⟨⟨l⟩⟩ := x
  obtain ⟨⟨m⟩⟩ := y
  simp only at h
  subst h
  simp [PySem.Str.length, List.drop_left']
/-- the sign's text -/
theorem sign_m : (PySem.Str.ofString "-").cps.toList = [45] := by decide +kernel
theorem sign_p : (PySem.Str.ofString "+").cps.toList = [43] := by decide +kernel
theorem sign_o : (PySem.Str.ofString "").cps.toList = [] := by decide +kernel
theorem num_m {hash : Bool} {b n p : Int} (hb : IsBase b) (hh : hash = false → b = 10) (hn : 0 ≤ n ∧ n ≤ 40000) (h0 : 0 ≤ p) (h1 : p < 3) : NumIn (PySem.Str.ofString "-" ++ bodyS hash b n p) true (0 - n * timesOf p b) := by
  have h : (PySem.Str.ofString "-" ++ bodyS hash b n p).cps.toList = [45] ++ (bodyS hash b n p).cps.toList := by rw [app_list, sign_m]
  exact .inl ⟨chr_at (A := []) h, rfl, _, lit_of hb hh hn h0 h1 h, by omega⟩
theorem num_p {hash : Bool} {b n p : Int} (hb : IsBase b) (hh : hash = false → b = 10) (hn : 0 ≤ n ∧ n ≤ 40000) (h0 : 0 ≤ p) (h1 : p < 3) : NumIn (PySem.Str.ofString "+" ++ bodyS hash b n p) false (n * timesOf p b) := by
  have h : (PySem.Str.ofString "+" ++ bodyS hash b n p).cps.toList = [43] ++ (bodyS hash b n p).cps.toList := by rw [app_list, sign_p]
  exact .inr (.inl ⟨chr_at (A := []) h, rfl, lit_of hb hh hn h0 h1 h⟩)
theorem num_o {hash : Bool} {b n p : Int} (hb : IsBase b) (hh : hash = false → b = 10) (hn : 0 ≤ n ∧ n ≤ 40000) (h0 : 0 ≤ p) (h1 : p < 3) : NumIn (PySem.Str.ofString "" ++ bodyS hash b n p) false (n * timesOf p b) := by
  have h : (PySem.Str.ofString "" ++ bodyS hash b n p).cps.toList = [] ++ (bodyS hash b n p).cps.toList := by rw [app_list, sign_o]
  refine .inr (.inr ⟨?_, rfl, lit_of hb hh hn h0 h1 h⟩)
  have hl := (body_len (hash := hash) (p := p) hb hn).1
  rw [len_list] at hl
  cases hB : (bodyS hash b n p).cps.toList with
  | nil => rw [hB] at hl; exact absurd hl (by decide)
  | cons c R =>
    have hg := body_good (hash := hash) (n := n) hb h0 h1 c (by rw [hB]; exact .head _)
    rw [hB] at h
    have hc := chr_at (A := []) h
    rw [show (([] : List Nat).length : Int) = 0 from rfl] at hc
    rw [hc]
    exact ⟨hg.2.2.2.1, hg.2.2.2.2⟩
/-- what the law reads -/
theorem heard_law {w : World} {k j b n p v : Int} {hash mi ring : Bool} {sg : PySem.Str} (hk : 0 ≤ k ∧ k < 3) (hj : 0 ≤ j ∧ j < 3) (hb : IsBase b) (hn : 0 ≤ n ∧ n ≤ 40000) (h0 : 0 ≤ p) (h1 : p < 3)
    (hs : ∀ c ∈ sg.cps.toList, c < 128 ∧ c ≠ 95 ∧ c ≠ 32) (hl : sg.length ≤ 1) (hv : NumIn (sg ++ bodyS hash b n p) mi v) {news : List (Addr × Obj)} {tx dx : Addr} {es : List DictEntry} {m : Nat} {lo hi : Int} (T0 : TyIs news tx dx es m (kindOf ring) lo hi) {t : Tok} :
    TelC w 12 300 189 [.ref tx, .str (Txt.mul (PySem.Str.ofString " ") k ++ sg ++ bodyS hash b n p ++ Txt.mul (PySem.Str.ofString " ") j) t] news (OutR (dueOf (ring && mi) lo hi v)) := by
  have bl := body_len (hash := hash) (p := p) hb hn
  have k1 : (Txt.mul (PySem.Str.ofString " ") k).length = k.toNat := by rw [len_list, blanks hk.1 hk.2, List.length_replicate]
  have k2 : (Txt.mul (PySem.Str.ofString " ") j).length = j.toNat := by rw [len_list, blanks hj.1 hj.2, List.length_replicate]
  have g : ∀ c ∈ (sg ++ bodyS hash b n p).cps.toList, c < 128 ∧ c ≠ 95 ∧ c ≠ 32 := fun c hc => by
    rw [app_list] at hc
    rcases List.mem_append.mp hc with hc | hc
    · exact hs c hc
    · have := body_good (hash := hash) (n := n) hb h0 h1 c hc
      exact ⟨this.1, this.2.1, this.2.2.1⟩
  refine heard_spec w (sg ++ bodyS hash b n p) _ ?_ ?_ ?_ (fun c hc => ⟨(g c hc).1, (g c hc).2.1⟩) mi v hv news tx dx es m lo hi ring T0 t
  · rw [app_len]; omega
  · rw [app_len, app_len, app_len]; omega
  · refine strip_of (i := k.toNat) (j := j.toNat) ?_ (fun c hc => (g c hc).2.2) (by rw [app_len]; omega)
    rw [app_list, app_list, app_list, app_list, blanks hk.1 hk.2, blanks hj.1 hj.2]
    simp
end Rg

namespace Rg
open PySem.Spec PySem.Calls
set_option maxRecDepth 100000
theorem mul_app (b n p : Int) : figs 10 b ++ PySem.Str.ofString "#" ++ figs b n ++ PySem.Str.ofString "#" ++ tailS p = bodyS true b n p := rfl
/-- the text of the number without its exponent -/
noncomputable def coreS (hash : Bool) (b n : Int) : PySem.Str := if hash then figs 10 b ++ PySem.Str.ofString "#" ++ figs b n ++ PySem.Str.ofString "#" else figs b n
theorem core_body (hash : Bool) (b n p : Int) : coreS hash b n ++ tailS p = bodyS hash b n p := by cases hash <;> rfl
theorem core_len {hash : Bool} {b n : Int} (hb : IsBase b) (hn : 0 ≤ n ∧ n ≤ 40000) : (coreS hash b n).length ≤ 40 := by
  have h := (body_len (hash := hash) (p := 0) hb hn).2
  rw [← core_body, app_len] at h
  omega
section
variable {w : World} {A : Around} {E : Value → Shared → Prop} {s : Shared} {value slice : PySem.Expr} {l : Addr} {k : Int} {u ta tb tc : Tok} {Q : Value → Shared → Prop}
theorem tail_item (ht : IsTup s.heap l [Value.str (PySem.Str.ofString "") ta, Value.str (PySem.Str.ofString "e0") tb, Value.str (PySem.Str.ofString "E1") tc].toArray)
    (h0 : 0 ≤ k) (h1 : k < 3) (h : ∀ t, (tailS k).length ≤ 2 → Q (.str (tailS k) t) s)
    (hs : subscripted slice false (.ref l) (.int k u) = operate [.ref l, .int k u] (getItem (.ref l) (.int k u)) := by with_unfolding_all rfl) :
    wpAny (model PySem.Challenge.rw_rg0004_01.row.prog w) A (subscriptTail value slice (.ref l) (.int k u)) Q E s := by
  rcases (by omega : k = 0 ∨ k = 1 ∨ k = 2) with rfl | rfl | rfl
  · exact item_tupleT ht (by decide) (by decide) rfl rfl (h ta (by decide +kernel)) hs
  · exact item_tupleT ht (by decide) (by decide) rfl rfl (h tb (by decide +kernel)) hs
  · exact item_tupleT ht (by decide) (by decide) rfl rfl (h tc (by decide +kernel)) hs
theorem times_item {b : Int} (ht : IsTup s.heap l [Value.int 1 ta, Value.int 1 tb, Value.int b tc].toArray) (hb : IsBase b)
    (h0 : 0 ≤ k) (h1 : k < 3) (h : ∀ t, 1 ≤ timesOf k b → timesOf k b ≤ 16 → Q (.int (timesOf k b) t) s)
    (hs : subscripted slice false (.ref l) (.int k u) = operate [.ref l, .int k u] (getItem (.ref l) (.int k u)) := by with_unfolding_all rfl) :
    wpAny (model PySem.Challenge.rw_rg0004_01.row.prog w) A (subscriptTail value slice (.ref l) (.int k u)) Q E s := by
  have hb' : 1 ≤ timesOf k b ∧ timesOf k b ≤ 16 := by unfold timesOf; unfold IsBase at hb; split <;> omega
  have h := fun t => h t hb'.1 hb'.2
  rcases (by omega : k = 0 ∨ k = 1 ∨ k = 2) with rfl | rfl | rfl
  · exact item_tupleT ht (by decide) (by decide) rfl rfl (h ta) hs
  · exact item_tupleT ht (by decide) (by decide) rfl rfl (h tb) hs
  · exact item_tupleT ht (by decide) (by decide) rfl rfl (h tc) hs
theorem str_base {b : Int} {t : Tok} (hb : IsBase b) (h : ∀ t', (figs 10 b).length ≤ 16 → Q (.str (figs 10 b) t') { s with toks := s.toks + 1 }) : wpAny (model PySem.Challenge.rw_rg0004_01.row.prog w) A (call (.type "str") [.int b t]) Q E s := by
  have e : (toString b : PySem.Str) = figs 10 b := by
    unfold IsBase at hb
    rcases hb with rfl | rfl | rfl | rfl
    · rw [show figs 10 10 = ⟨#[49, 48]⟩ from by simp [figs, full, digs, up]]; decide +kernel
    · rw [show figs 10 16 = ⟨#[49, 54]⟩ from by simp [figs, full, digs, up]]; decide +kernel
    · rw [show figs 10 2 = ⟨#[50]⟩ from by simp [figs, full, digs, up]]; decide +kernel
    · rw [show figs 10 3 = ⟨#[51]⟩ from by simp [figs, full, digs, up]]; decide +kernel
  have hb2 := hb.two
  have h := h s.toks (figs_len (by omega) (by omega) (by decide))
  rw [← e] at h
  refine P.str_of_int ?_ h
  unfold IsBase at hb
  rcases hb with rfl | rfl | rfl | rfl <;> decide
theorem cmp_res {e e' : Option Int} {v v' : Value} (h1 : Res e v) (h2 : Res e' v') (he : e = e') (hq : Q (.bool false) s) : wpAny (model PySem.Challenge.rw_rg0004_01.row.prog w) A (compareOp .NotEq v v') Q E s := by
  subst he
  cases e with
  | none =>
    obtain ⟨t, rfl⟩ := h1
    obtain ⟨t', rfl⟩ := h2
    refine ne_str ?_
    rw [show (PySem.Str.ofString "constraint_error" != PySem.Str.ofString "constraint_error") = false from by decide +kernel]
    exact hq
  | some y =>
    obtain ⟨t, rfl⟩ := h1
    obtain ⟨t', rfl⟩ := h2
    refine ne_int ?_
    rw [bne_self_eq_false]
    exact hq
end
theorem due_eq {b : Bool} {lo hi lo' hi' v : Int} (h1 : lo = lo') (h2 : hi = hi') : dueOf b lo hi v = dueOf b lo' hi' v := by rw [h1, h2]
theorem cmp_due {w : World} {A : Around} {E Q : Value → Shared → Prop} {s : Shared} {r r' mi : Bool} {lo hi lo' hi' v : Int} {x y : Value} (h1 : Res (dueOf (r && mi) lo hi v) x) (h2 : Res (dueOf (r' && mi) lo' hi' v) y) (e0 : r = r') (e1 : lo = lo') (e2 : hi = hi') (hq : Q (.bool false) s) :
    wpAny (model PySem.Challenge.rw_rg0004_01.row.prog w) A (compareOp .NotEq x y) Q E s := by
  subst e0
  exact cmp_res h1 h2 (due_eq e1 e2) hq
theorem times_bnd {b p : Int} (hb : IsBase b) : 0 ≤ timesOf p b ∧ timesOf p b ≤ 16 := by
  have := hb.two
  unfold timesOf
  split <;> omega
theorem kind_t : PySem.Str.ofString "mod" = kindOf true := rfl
theorem kind_f : PySem.Str.ofString "int" = kindOf false := rfl
section
variable {w : World} {mean : ExcName → Option Value} {mg mb : Str → Option Value} {dp un : Nat} {gd : Option (List Code)} {cn : Str} {cs : Scope} {a0 : Addr} {ccd : Value} {A₀ : Around} {h₀ : Heap} {L : Addr} {mm : Str → Option Value} {s : Shared} {Q E : Value → Shared → Prop}
  {news : List (Addr × Obj)} {k j b n p lo hi : Int} {ring : Bool} {tx dx bt : Addr} {es : List DictEntry} {m : Nat} {kd : PySem.Str} {t u1 u2 u4 u5 : Tok} {k0 : Nat}
theorem heard_M {hash : Bool} (B : Below A₀ h₀ [] h₀) (F : Fr h₀ L s.heap mm) (X : (Rg.hd.heap_39 w.params).In h₀) (N : News h₀ L s.heap news) (T : Top Rg.hd.view_39 (looseW Rg.hd.view_39 []) mean mg mb h₀) (hc : cs.kind = .function) (hd : dp + 12 < recursionLimit) (hu : un + 300 < cLine)
    (hk : 0 ≤ k ∧ k < 3) (hj : 0 ≤ j ∧ j < 3) (hb : IsBase b) (hh : hash = false → b = 10) (hn : 0 ≤ n ∧ n ≤ 40000) (hp : 0 ≤ p ∧ p < 3) (T0 : TyIs news tx dx es m kd lo hi) (hkd : kd = kindOf ring)
    (ret : ∀ v' h' tk', Fr h₀ L h' mm → News h₀ L h' news → Res (dueOf (ring && true) lo hi (0 - n * timesOf p b)) v' → Q v' { s with heap := h', toks := tk' }) :
    wpAny (model PySem.Challenge.rw_rg0004_01.row.prog w) (ktrTop dp un gd cn cs L a0 ccd [] []) (call (.ref 189) [.ref tx, .str (Txt.mul (PySem.Str.ofString " ") k ++ PySem.Str.ofString "-" ++ (coreS hash b n ++ tailS p) ++ Txt.mul (PySem.Str.ofString " ") j) t]) Q E s := by
  subst hkd
  rw [core_body]
  have H := heard_law (w := w) (hash := hash) (sg := PySem.Str.ofString "-") hk hj hb hn hp.1 hp.2 (by decide +kernel) (by decide +kernel) (num_m hb hh hn hp.1 hp.2) T0 (t := t)
  refine H mean mg mb dp un gd cn cs a0 ccd A₀ h₀ L mm s Q E B F X N T hc hd hu ?_
  rintro v' tl h' tk' F' N' ⟨rfl, R'⟩
  exact ret v' h' tk' F' N' R'
theorem due_M (B : Below A₀ h₀ [] h₀) (F : Fr h₀ L s.heap mm) (X : (Rg.hd.heap_39 w.params).In h₀) (N : News h₀ L s.heap news) (T : Top Rg.hd.view_39 (looseW Rg.hd.view_39 []) mean mg mb h₀) (hc : cs.kind = .function) (hd : dp + 12 < recursionLimit) (hu : un + 300 < cLine)
    (hb : IsBase b) (hn : 0 ≤ n ∧ n ≤ 40000) (hT : (bt, ({ cls := Value.type "tuple", data := Data.seq [Value.int lo u1, Value.int hi u2].toArray k0 } : Obj)) ∈ news)
    (ret : ∀ v' h' tk', Fr h₀ L h' mm → News h₀ L h' news → Res (dueOf (ring && true) lo hi (0 - n * timesOf p b)) v' → Q v' { s with heap := h', toks := tk' }) :
    wpAny (model PySem.Challenge.rw_rg0004_01.row.prog w) (ktrTop dp un gd cn cs L a0 ccd [] []) (call (.ref 196) [.bool ring, .ref bt, .str (PySem.Str.ofString "-") u4, .int (n * timesOf p b) u5]) Q E s := by
  have H := mul_bnd hn.1 (by omega) (times_bnd (p := p) hb)
  refine tel_use (dueM_spec w ring _ H.1 H.2 lo hi u1 u2 u4 u5 k0 news bt hT) B F X N T hc trivial (by omega) (by omega) ?_
  rintro v' tl h' tk' F' N' ⟨rfl, R'⟩
  exact ret v' h' tk' F' N' R'
theorem heard_P {hash : Bool} (B : Below A₀ h₀ [] h₀) (F : Fr h₀ L s.heap mm) (X : (Rg.hd.heap_39 w.params).In h₀) (N : News h₀ L s.heap news) (T : Top Rg.hd.view_39 (looseW Rg.hd.view_39 []) mean mg mb h₀) (hc : cs.kind = .function) (hd : dp + 12 < recursionLimit) (hu : un + 300 < cLine)
    (hk : 0 ≤ k ∧ k < 3) (hj : 0 ≤ j ∧ j < 3) (hb : IsBase b) (hh : hash = false → b = 10) (hn : 0 ≤ n ∧ n ≤ 40000) (hp : 0 ≤ p ∧ p < 3) (T0 : TyIs news tx dx es m kd lo hi) (hkd : kd = kindOf ring)
    (ret : ∀ v' h' tk', Fr h₀ L h' mm → News h₀ L h' news → Res (dueOf (ring && false) lo hi (n * timesOf p b)) v' → Q v' { s with heap := h', toks := tk' }) :
    wpAny (model PySem.Challenge.rw_rg0004_01.row.prog w) (ktrTop dp un gd cn cs L a0 ccd [] []) (call (.ref 189) [.ref tx, .str (Txt.mul (PySem.Str.ofString " ") k ++ PySem.Str.ofString "+" ++ (coreS hash b n ++ tailS p) ++ Txt.mul (PySem.Str.ofString " ") j) t]) Q E s := by
  subst hkd
  rw [core_body]
  have H := heard_law (w := w) (hash := hash) (sg := PySem.Str.ofString "+") hk hj hb hn hp.1 hp.2 (by decide +kernel) (by decide +kernel) (num_p hb hh hn hp.1 hp.2) T0 (t := t)
  refine H mean mg mb dp un gd cn cs a0 ccd A₀ h₀ L mm s Q E B F X N T hc hd hu ?_
  rintro v' tl h' tk' F' N' ⟨rfl, R'⟩
  exact ret v' h' tk' F' N' R'
theorem due_P (B : Below A₀ h₀ [] h₀) (F : Fr h₀ L s.heap mm) (X : (Rg.hd.heap_39 w.params).In h₀) (N : News h₀ L s.heap news) (T : Top Rg.hd.view_39 (looseW Rg.hd.view_39 []) mean mg mb h₀) (hc : cs.kind = .function) (hd : dp + 12 < recursionLimit) (hu : un + 300 < cLine)
    (hb : IsBase b) (hn : 0 ≤ n ∧ n ≤ 40000) (hT : (bt, ({ cls := Value.type "tuple", data := Data.seq [Value.int lo u1, Value.int hi u2].toArray k0 } : Obj)) ∈ news)
    (ret : ∀ v' h' tk', Fr h₀ L h' mm → News h₀ L h' news → Res (dueOf (ring && false) lo hi (n * timesOf p b)) v' → Q v' { s with heap := h', toks := tk' }) :
    wpAny (model PySem.Challenge.rw_rg0004_01.row.prog w) (ktrTop dp un gd cn cs L a0 ccd [] []) (call (.ref 196) [.bool ring, .ref bt, .str (PySem.Str.ofString "+") u4, .int (n * timesOf p b) u5]) Q E s := by
  have H := mul_bnd hn.1 (by omega) (times_bnd (p := p) hb)
  refine tel_use (dueP_spec w ring _ H.1 H.2 lo hi u1 u2 u4 u5 k0 news bt hT) B F X N T hc trivial (by omega) (by omega) ?_
  rintro v' tl h' tk' F' N' ⟨rfl, R'⟩
  exact ret v' h' tk' F' N' R'
theorem heard_O {hash : Bool} (B : Below A₀ h₀ [] h₀) (F : Fr h₀ L s.heap mm) (X : (Rg.hd.heap_39 w.params).In h₀) (N : News h₀ L s.heap news) (T : Top Rg.hd.view_39 (looseW Rg.hd.view_39 []) mean mg mb h₀) (hc : cs.kind = .function) (hd : dp + 12 < recursionLimit) (hu : un + 300 < cLine)
    (hk : 0 ≤ k ∧ k < 3) (hj : 0 ≤ j ∧ j < 3) (hb : IsBase b) (hh : hash = false → b = 10) (hn : 0 ≤ n ∧ n ≤ 40000) (hp : 0 ≤ p ∧ p < 3) (T0 : TyIs news tx dx es m kd lo hi) (hkd : kd = kindOf ring)
    (ret : ∀ v' h' tk', Fr h₀ L h' mm → News h₀ L h' news → Res (dueOf (ring && false) lo hi (n * timesOf p b)) v' → Q v' { s with heap := h', toks := tk' }) :
    wpAny (model PySem.Challenge.rw_rg0004_01.row.prog w) (ktrTop dp un gd cn cs L a0 ccd [] []) (call (.ref 189) [.ref tx, .str (Txt.mul (PySem.Str.ofString " ") k ++ PySem.Str.ofString "" ++ (coreS hash b n ++ tailS p) ++ Txt.mul (PySem.Str.ofString " ") j) t]) Q E s := by
  subst hkd
  rw [core_body]
  have H := heard_law (w := w) (hash := hash) (sg := PySem.Str.ofString "") hk hj hb hn hp.1 hp.2 (by decide +kernel) (by decide +kernel) (num_o hb hh hn hp.1 hp.2) T0 (t := t)
  refine H mean mg mb dp un gd cn cs a0 ccd A₀ h₀ L mm s Q E B F X N T hc hd hu ?_
  rintro v' tl h' tk' F' N' ⟨rfl, R'⟩
  exact ret v' h' tk' F' N' R'
theorem due_O (B : Below A₀ h₀ [] h₀) (F : Fr h₀ L s.heap mm) (X : (Rg.hd.heap_39 w.params).In h₀) (N : News h₀ L s.heap news) (T : Top Rg.hd.view_39 (looseW Rg.hd.view_39 []) mean mg mb h₀) (hc : cs.kind = .function) (hd : dp + 12 < recursionLimit) (hu : un + 300 < cLine)
    (hb : IsBase b) (hn : 0 ≤ n ∧ n ≤ 40000) (hT : (bt, ({ cls := Value.type "tuple", data := Data.seq [Value.int lo u1, Value.int hi u2].toArray k0 } : Obj)) ∈ news)
    (ret : ∀ v' h' tk', Fr h₀ L h' mm → News h₀ L h' news → Res (dueOf (ring && false) lo hi (n * timesOf p b)) v' → Q v' { s with heap := h', toks := tk' }) :
    wpAny (model PySem.Challenge.rw_rg0004_01.row.prog w) (ktrTop dp un gd cn cs L a0 ccd [] []) (call (.ref 196) [.bool ring, .ref bt, .str (PySem.Str.ofString "") u4, .int (n * timesOf p b) u5]) Q E s := by
  have H := mul_bnd hn.1 (by omega) (times_bnd (p := p) hb)
  refine tel_use (dueO_spec w ring _ H.1 H.2 lo hi u1 u2 u4 u5 k0 news bt hT) B F X N T hc trivial (by omega) (by omega) ?_
  rintro v' tl h' tk' F' N' ⟨rfl, R'⟩
  exact ret v' h' tk' F' N' R'
end
theorem figs_use {w : World} {n b : Int} {t u : Tok} {news : List (Addr × Obj)} {mean : ExcName → Option Value} {mg mb : Str → Option Value} {dp un : Nat} {gd : Option (List Code)} {cn : Str} {cs : Scope} {a : Addr} {ccd : Value} {cl : List (Str × Addr)} {outer : List Env} {A₀ : Around} {base h₀ : Heap} {L : Addr} {m : Str → Option Value} {s : Shared} {Q E : Value → Shared → Prop}
    (hn : 0 ≤ n ∧ n ≤ 40000) (hb : IsBase b) (B : Below A₀ base outer h₀) (F : Fr h₀ L s.heap m) (X : (Rg.hd.heap_39 w.params).In h₀) (N : News h₀ L s.heap news) (T : Top Rg.hd.view_39 (looseW Rg.hd.view_39 []) mean mg mb h₀) (hk : cs.kind = .function)
    (hd : dp + 2 < recursionLimit) (hu : un + 40 < cLine) (ret : ∀ t' h' tk', Fr h₀ L h' m → News h₀ L h' news → (figs b n).length ≤ 16 → Q (.str (figs b n) t') { s with heap := h', toks := tk' }) :
    wpAny (model PySem.Challenge.rw_rg0004_01.row.prog w) (ktrTop dp un gd cn cs L a ccd cl outer) (call (.ref 182) [.int n t, .int b u]) Q E s := by
  have hb2 : 2 ≤ b ∧ b ≤ 16 := by unfold IsBase at hb; omega
  refine tel_use (lawfig_spec w n b hn.1 hn.2 hb2.1 hb2.2 t u news) B F X N T hk trivial hd hu ?_
  rintro v tl h' tk' F' N' O'
  obtain ⟨rfl, t', rfl⟩ := O'
  exact ret t' h' tk' F' N' (figs_len hn.1 hn.2 hb2.1)
/-- a part of a text's statements that is walked apart -/
theorem cut_rest {M : Model} {A : Around} {body : List Stmt} {env : Env} {Q : Flow → Shared → Prop} {E : Value → Shared → Prop} {s : Shared} (n : Nat) (P : Shared → Prop)
    (rest : ∀ s', P s' → wpAny M A (execs (body.drop n) env) Q E s') (first : (∀ s', P s' → wpAny M A (execs (body.drop n) env) Q E s') → wpAny M A (execs body env) Q E s) : wpAny M A (execs body env) Q E s := first rest
/-- the state behind the first four statements -/
noncomputable def Mid1 (w : World) (h₀ : Heap) (L dl dw : Addr) (lo : Array Value) (own : List (Addr × Obj)) (mm : Str → Option Value) (k0 : Int) (s₁ s' : Shared) : Prop :=
  ∃ (h : Heap) (tk : Nat) (o : Obj) (k : Int) (u : Tok) (ring : Bool) (l1 l2 b1 b2 most : Int) (tx dx bt : Addr) (es : List DictEntry) (n n' : Nat) (t1 t2 t3 : Tok) (kd : PySem.Str),
    s' = { s₁ with heap := h, toks := tk } ∧
    Fr h₀ L h (fun y => if y = PySem.Str.ofString "t" then some (.ref tx) else if y = PySem.Str.ofString "bounds" then some (.ref bt) else if y = PySem.Str.ofString "most" then some (.int most t1) else if y = PySem.Str.ofString "is_ring" then some (.bool ring) else mm y) ∧
    News h₀ L h ((dl, PySem.W.listOf lo 0) :: (dw, o) :: (tx, instObj 150 dx) :: (dx, dictOf es n) :: (bt, ({ cls := Value.type "tuple", data := Data.seq [Value.int b1 t2, Value.int b2 t3].toArray n' } : Obj)) :: own) ∧
    WellIs w o dl k u ∧ k0 ≤ k ∧ k ≤ k0 + 2 ∧ kd = kindOf ring ∧ (∃ t, getL (PySem.Str.ofString "kind") es = some (some (.str kd t))) ∧ (∃ t, getL (PySem.Str.ofString "low") es = some (some (.int l1 t))) ∧ (∃ t, getL (PySem.Str.ofString "high") es = some (some (.int l2 t))) ∧
    l1 = b1 ∧ l2 = b2 ∧ @LT.lt Nat _ dl tx ∧ @LT.lt Nat _ dw tx ∧ @LT.lt Nat _ dl dx ∧ @LT.lt Nat _ dw dx ∧ @LT.lt Nat _ dl bt ∧ @LT.lt Nat _ dw bt
/-- the state behind the fork over the text -/
noncomputable def Mid2 (w : World) (h₀ : Heap) (L dl dw : Addr) (lo : Array Value) (led : List (Addr × Obj)) (mm : Str → Option Value) (k0 : Int) (s₁ s' : Shared) : Prop :=
  ∃ (h : Heap) (tk : Nat) (o : Obj) (k : Int) (u : Tok) (hash : Bool) (b n p : Int) (t1 t2 t3 t4 : Tok),
    s' = { s₁ with heap := h, toks := tk } ∧
    Fr h₀ L h (fun y => if y = PySem.Str.ofString "text" then some (.str (coreS hash b n) t1) else if y = PySem.Str.ofString "power" then some (.int p t2) else if y = PySem.Str.ofString "base" then some (.int b t3) else if y = PySem.Str.ofString "number" then some (.int n t4) else mm y) ∧
    News h₀ L h ((dl, PySem.W.listOf lo 0) :: (dw, o) :: led) ∧ WellIs w o dl k u ∧ k0 ≤ k ∧ k ≤ k0 + 5 ∧ IsBase b ∧ (hash = false → b = 10) ∧ 0 ≤ n ∧ n ≤ 40000 ∧ 0 ≤ p ∧ p < 3 ∧ (coreS hash b n).length ≤ 40
theorem fr_same {h₀ h : Heap} {L : Addr} {m m' : Str → Option Value} (F : Fr h₀ L h m) (e : ∀ y, m y = m' y) : Fr h₀ L h m' := by
  have : m = m' := funext e
  exact this ▸ F
theorem if_swap {α : Type} {y a b : Str} {p q r : α} (h : a ≠ b) : (if y = a then p else if y = b then q else r) = (if y = b then q else if y = a then p else r) := by
  by_cases h1 : y = a
  · rw [if_pos h1, if_neg (fun e => h (h1.symm.trans e)), if_pos h1]
  · rw [if_neg h1, if_neg h1]
theorem if_shade {α : Type} {y a b : Str} {p q q' r : α} : (if y = b then q' else if y = a then p else if y = b then q else r) = (if y = b then q' else if y = a then p else r) := by
  by_cases h1 : y = b
  · rw [if_pos h1, if_pos h1]
  · rw [if_neg h1, if_neg h1, if_neg h1]
section
variable {w : World} {M : Model} {A : Around} {env : Env} {body : List Stmt} {Q : Flow → Shared → Prop} {E : Value → Shared → Prop} {s s' : Shared} {h₀ h h' : Heap} {L dl dw tx dx bt : Addr} {lo : Array Value} {o : Obj} {own l led : List (Addr × Obj)} {m mm : Str → Option Value} {k k0 : Int} {u : Tok}
theorem cut1 (F : Fr h₀ L h m) (N : News h₀ L h ((dl, PySem.W.listOf lo 0) :: (dw, o) :: own)) (W : WellIs w o dl k u)
    (rest : ∀ s', Mid1 w h₀ L dl dw lo own m k s s' → wpAny M A (execs body.tail.tail.tail.tail env) Q E s')
    (first : (∀ s', Mid1 w h₀ L dl dw lo own m k s s' → wpAny M A (execs body.tail.tail.tail.tail env) Q E s') → wpAny M A (execs body env) Q E s) : wpAny M A (execs body env) Q E s := first rest
theorem cut2 (F : Fr h₀ L h m) (N : News h₀ L h ((dl, PySem.W.listOf lo 0) :: (dw, o) :: led)) (W : WellIs w o dl k u)
    (rest : ∀ s', Mid2 w h₀ L dl dw lo led m k s s' → wpAny M A (execs body.tail.tail.tail.tail.tail env) Q E s')
    (first : (∀ s', Mid2 w h₀ L dl dw lo led m k s s' → wpAny M A (execs body.tail.tail.tail.tail.tail env) Q E s') → wpAny M A (execs body env) Q E s) : wpAny M A (execs body env) Q E s := first rest
theorem mid1_of {tk : Nat} {ring : Bool} {l1 l2 b1 b2 most : Int} {es : List DictEntry} {n n' : Nat} {t1 t2 t3 : Tok} {kd : PySem.Str} (hs : s' = { s with heap := h', toks := tk })
    (F : Fr h₀ L h' (fun y => if y = PySem.Str.ofString "t" then some (.ref tx) else if y = PySem.Str.ofString "bounds" then some (.ref bt) else if y = PySem.Str.ofString "most" then some (.int most t1) else if y = PySem.Str.ofString "is_ring" then some (.bool ring) else mm y))
    (N : News h₀ L h' l) (W : WellIs w o dl k u) (m1 : (dl, (PySem.W.listOf lo 0 : Obj)) ∈ l) (m2 : (dw, o) ∈ l) (m3 : (tx, (instObj 150 dx : Obj)) ∈ l) (m4 : (dx, (dictOf es n : Obj)) ∈ l) (m5 : (bt, ({ cls := Value.type "tuple", data := Data.seq [Value.int b1 t2, Value.int b2 t3].toArray n' } : Obj)) ∈ l) (m6 : ∀ p ∈ own, p ∈ l)
    (g1 : ∃ t, getL (PySem.Str.ofString "kind") es = some (some (.str kd t))) (g2 : ∃ t, getL (PySem.Str.ofString "low") es = some (some (.int l1 t))) (g3 : ∃ t, getL (PySem.Str.ofString "high") es = some (some (.int l2 t)))
    (k1 : k0 ≤ k) (k2 : k ≤ k0 + 2) (hk : kd = kindOf ring) (e1 : l1 = b1) (e2 : l2 = b2)
    (q1 : @LT.lt Nat _ dl tx) (q2 : @LT.lt Nat _ dw tx) (q3 : @LT.lt Nat _ dl dx) (q4 : @LT.lt Nat _ dw dx) (q5 : @LT.lt Nat _ dl bt) (q6 : @LT.lt Nat _ dw bt) : Mid1 w h₀ L dl dw lo own mm k0 s s' := by
  refine ⟨h', tk, o, k, u, ring, l1, l2, b1, b2, most, tx, dx, bt, es, n, n', t1, t2, t3, kd, hs, F, fun p hp => N p ?_, W, k1, k2, hk, g1, g2, g3, e1, e2, q1, q2, q3, q4, q5, q6⟩
  simp only [List.mem_cons] at hp
  rcases hp with rfl | rfl | rfl | rfl | rfl | hp
  · exact m1
  · exact m2
  · exact m3
  · exact m4
  · exact m5
  · exact m6 p hp
theorem mid2_of {tk : Nat} {hash : Bool} {b n p : Int} {t1 t2 t3 t4 : Tok} (hs : s' = { s with heap := h', toks := tk })
    (F : Fr h₀ L h' (fun y => if y = PySem.Str.ofString "text" then some (.str (coreS hash b n) t1) else if y = PySem.Str.ofString "power" then some (.int p t2) else if y = PySem.Str.ofString "base" then some (.int b t3) else if y = PySem.Str.ofString "number" then some (.int n t4) else mm y))
    (N : News h₀ L h' l) (W : WellIs w o dl k u) (m1 : (dl, (PySem.W.listOf lo 0 : Obj)) ∈ l) (m2 : (dw, o) ∈ l) (m6 : ∀ p ∈ led, p ∈ l) (k1 : k0 ≤ k) (k2 : k ≤ k0 + 5) (hb : IsBase b) (hh : hash = false → b = 10) (hn : 0 ≤ n ∧ n ≤ 40000) (hp : 0 ≤ p ∧ p < 3) : Mid2 w h₀ L dl dw lo led mm k0 s s' := by
  refine ⟨h', tk, o, k, u, hash, b, n, p, t1, t2, t3, t4, hs, F, fun p hp => N p ?_, W, k1, k2, hb, hh, hn.1, hn.2, hp.1, hp.2, core_len hb hn⟩
  simp only [List.mem_cons] at hp
  rcases hp with rfl | rfl | hp
  · exact m1
  · exact m2
  · exact m6 p hp
theorem mid2_hash {tk : Nat} {b n p : Int} {t0 t1 t2 t3 t4 : Tok} (hs : s' = { s with heap := h', toks := tk })
    (F : Fr h₀ L h' (fun y => if y = PySem.Str.ofString "text" then some (.str (figs 10 b ++ PySem.Str.ofString "#" ++ figs b n ++ PySem.Str.ofString "#") t1) else if y = PySem.Str.ofString "power" then some (.int p t2) else if y = PySem.Str.ofString "text" then some (.str (figs b n) t0) else if y = PySem.Str.ofString "base" then some (.int b t3) else if y = PySem.Str.ofString "number" then some (.int n t4) else mm y))
    (N : News h₀ L h' l) (W : WellIs w o dl k u) (m1 : (dl, (PySem.W.listOf lo 0 : Obj)) ∈ l) (m2 : (dw, o) ∈ l) (m6 : ∀ p ∈ led, p ∈ l) (k1 : k0 ≤ k) (k2 : k ≤ k0 + 5) (hb : IsBase b) (hn : 0 ≤ n ∧ n ≤ 40000) (hp : 0 ≤ p ∧ p < 3) : Mid2 w h₀ L dl dw lo led mm k0 s s' :=
  mid2_of (hash := true) hs (fr_same F fun _ => if_shade) N W m1 m2 m6 k1 k2 hb (fun h => nomatch h) hn hp
theorem mid2_bare {tk : Nat} {b n p : Int} {t1 t2 t3 t4 : Tok} (hs : s' = { s with heap := h', toks := tk })
    (F : Fr h₀ L h' (fun y => if y = PySem.Str.ofString "power" then some (.int p t2) else if y = PySem.Str.ofString "text" then some (.str (figs b n) t1) else if y = PySem.Str.ofString "base" then some (.int b t3) else if y = PySem.Str.ofString "number" then some (.int n t4) else mm y))
    (N : News h₀ L h' l) (W : WellIs w o dl k u) (m1 : (dl, (PySem.W.listOf lo 0 : Obj)) ∈ l) (m2 : (dw, o) ∈ l) (m6 : ∀ p ∈ led, p ∈ l) (k1 : k0 ≤ k) (k2 : k ≤ k0 + 5) (hb : IsBase b) (hh : b = 10) (hn : 0 ≤ n ∧ n ≤ 40000) (hp : 0 ≤ p ∧ p < 3) : Mid2 w h₀ L dl dw lo led mm k0 s s' :=
  mid2_of (hash := false) hs (fr_same F fun _ => if_swap (by decide +kernel)) N W m1 m2 m6 k1 k2 hb (fun _ => hh) hn hp
theorem kind_dt {c : Prop} [Decidable c] (h : c) : PySem.Str.ofString "mod" = kindOf (decide c) := by rw [decide_eq_true h]; rfl
theorem kind_df {c : Prop} [Decidable c] (h : ¬c) : PySem.Str.ofString "int" = kindOf (decide c) := by rw [decide_eq_false h]; rfl
end
end Rg

namespace Rg
open PySem.Spec PySem.Calls
set_option maxRecDepth 100000
theorem isStr_one {k : Value} {a b : Str} (h1 : k.isStr a = true) (h2 : k.isStr b = true) : a = b := by
  cases k <;> simp_all [Value.isStr]
theorem isStr_self {a : Str} {t : Tok} : (Value.str a t).isStr a = true := by simp [Value.isStr]
theorem isStr_ne {a b : Str} {t : Tok} (h : a ≠ b) : (Value.str a t).isStr b = false := by simp [Value.isStr, h]
theorem getL_none {nm : Str} {es : List DictEntry} (h : es.any (·.refKey) = false) : (getL nm es).isSome = true := by
  unfold getL
  cases es.find? (·.key.isStr nm) with
  | some e => rfl
  | none => simp [h]
theorem putL_len (nm : Str) (hsh : Int) (t : Tok) (v : Value) : ∀ es : List DictEntry, (putL nm hsh (.str nm t) v es).length ≤ es.length + 1
  | [] => Nat.le_refl _
  | e :: r => by
    unfold putL
    split
    · simp
    · simp only [List.length_cons]
      exact Nat.succ_le_succ (putL_len nm hsh t v r)
theorem putL_refs (nm : Str) (hsh : Int) (t : Tok) (v : Value) : ∀ es : List DictEntry, es.any (·.refKey) = false → (putL nm hsh (.str nm t) v es).any (·.refKey) = false
  | [], _ => by simp [putL, DictEntry.refKey]
  | e :: r, h => by
    rw [List.any_cons, Bool.or_eq_false_iff] at h
    unfold putL
    split
    · rw [List.any_cons, Bool.or_eq_false_iff]
      exact ⟨h.1, h.2⟩
    · rw [List.any_cons, Bool.or_eq_false_iff]
      exact ⟨h.1, putL_refs nm hsh t v r h.2⟩
theorem putL_same (nm : Str) (hsh : Int) (t : Tok) (v : Value) : ∀ es : List DictEntry, getL nm (putL nm hsh (.str nm t) v es) = some (some v)
  | [] => by simp [putL, getL, isStr_self]
  | e :: r => by
    unfold putL
    cases h : e.key.isStr nm with
    | true => simp [getL, h]
    | false =>
      have ih := putL_same nm hsh t v r
      unfold getL at ih ⊢
      simp only [Bool.false_eq_true, if_false, List.find?_cons, h]
      cases hf : (putL nm hsh (.str nm t) v r).find? (·.key.isStr nm) with
      | some e' => rw [hf] at ih; exact ih
      | none => rw [hf] at ih; exfalso; revert ih; dsimp only; split <;> simp
theorem find_other {nm nm' : Str} (hsh : Int) (t : Tok) (v : Value) (hn : nm ≠ nm') : ∀ es : List DictEntry, ((putL nm hsh (.str nm t) v es).find? (·.key.isStr nm')).map (·.val) = (es.find? (·.key.isStr nm')).map (·.val)
  | [] => by simp [putL, isStr_ne hn]
  | e :: r => by
    unfold putL
    cases h : e.key.isStr nm with
    | true =>
      have h' : e.key.isStr nm' = false := by
        cases h' : e.key.isStr nm' with
        | false => rfl
        | true => exact absurd (isStr_one h h') hn
      simp [h']
    | false =>
      simp only [Bool.false_eq_true, if_false, List.find?_cons]
      cases e.key.isStr nm' with
      | true => rfl
      | false => exact find_other hsh t v hn r
theorem getL_by {nm : Str} {es : List DictEntry} (h : es.any (·.refKey) = false) : getL nm es = some ((es.find? (·.key.isStr nm)).map (·.val)) := by
  unfold getL
  cases es.find? (·.key.isStr nm) with
  | some e => rfl
  | none => simp [h]
theorem putL_other {nm nm' : Str} {hsh : Int} {t : Tok} {v : Value} {es : List DictEntry} (hr : es.any (·.refKey) = false) (hn : nm ≠ nm') : getL nm' (putL nm hsh (.str nm t) v es) = getL nm' es := by
  rw [getL_by (putL_refs nm hsh t v es hr), getL_by hr, find_other hsh t v hn]
theorem nd_sub {h₀ h : Heap} {L : Addr} {l l' : List (Addr × Obj)} (N : News h₀ L h l) (sub : ∀ p ∈ l', p ∈ l) : News h₀ L h l' := fun p hp => N p (sub p hp)
/-- what is kept of an own object's dict -/
structure TD (es : List DictEntry) (sz : Nat) (a b c : Option Value) : Prop where
  refs : es.any (·.refKey) = false
  len : es.length ≤ sz
  kind : getL (PySem.Str.ofString "kind") es = some a
  low : getL (PySem.Str.ofString "low") es = some b
  high : getL (PySem.Str.ofString "high") es = some c
theorem td_nil : TD [] 0 none none none := ⟨rfl, Nat.le_refl _, rfl, rfl, rfl⟩
theorem updF_upd {d : Addr} {o o' : Obj} : ∀ {l : List (Addr × Obj)} {g : Obj → List (Addr × Obj)}, UpdF d o l g → Upd d o o' l (g o')
  | _, _, .head h => .head h
  | _, _, .tail h r => .tail h (updF_upd r)
section
variable {prog : Program} {w : World} {A : Around} {E : Value → Shared → Prop} {s : Shared} {K : Frag} {x C dx L : Addr} {h₀ : Heap} {m : Str → Option Value} {news : List (Addr × Obj)} {g : Obj → List (Addr × Obj)} {ox : Obj} {es : List DictEntry} {n sz : Nat} {name : Str} {v : Value} {a b c : Option Value} {Q : Unit → Shared → Prop}
theorem set_any (F : Fr h₀ L s.heap m) (X₀ : K.In h₀) (N : News h₀ L s.heap news) (I : InstAt s.heap x ox C (some (dictOf es n))) (hd : ox.dict = some dx)
    (hs : findIn K (.ref C) "__setattr__" = some (some (.builtin "object.__setattr__"))) (hp : plainOver K C = true) (ht : takerIn K C name = some none) (hh : hasDictIn K C = true) (U : UpdF dx (dictOf es n) news g) (hr : es.any (·.refKey) = false) (hz : es.length ≤ sz) (hz' : sz ≤ 900)
    (h : ∀ h' es' n' tk, Fr h₀ L h' m → News h₀ L h' (g (dictOf es' n')) → es'.any (·.refKey) = false → es'.length ≤ sz + 1 → getL name es' = some (some v) → (∀ nm', name ≠ nm' → getL nm' es' = getL nm' es) → Q () { s with heap := h', toks := tk }) :
    wpAny (model prog w) A (setAttr (.ref x) name v) Q E s := by
  have hl := putL_len name (PyData.keyHash w.params name) (s.toks + 1) v es
  exact set_dict F X₀ N I hd hs hp ht hh (getL_none hr) rfl (updF_upd U) (by omega) fun h' F' N' => h h' _ _ _ F' N' (putL_refs _ _ _ _ _ hr) (by omega) (putL_same _ _ _ _ _) fun nm' hn => putL_other hr hn
theorem set_keep {tx : Addr} {rest l : List (Addr × Obj)} (F : Fr h₀ L s.heap m) (X₀ : K.In h₀) (N : News h₀ L s.heap l) (m3 : (tx, (instObj C dx : Obj)) ∈ l) (m4 : (dx, (dictOf es n : Obj)) ∈ l) (q : @LT.lt Nat _ dx tx) (q' : ∀ p ∈ rest, @LT.lt Nat _ p.1 dx) (m6 : ∀ p ∈ rest, p ∈ l)
    (hs : findIn K (.ref C) "__setattr__" = some (some (.builtin "object.__setattr__"))) (hp : plainOver K C = true) (ht : takerIn K C name = some none) (hh : hasDictIn K C = true) (hr : es.any (·.refKey) = false) (hz : es.length ≤ sz) (hz' : sz ≤ 900)
    (h : ∀ h' es' n' tk, Fr h₀ L h' m → News h₀ L h' ((tx, instObj C dx) :: (dx, dictOf es' n') :: rest) → es'.any (·.refKey) = false → es'.length ≤ sz + 1 → getL name es' = some (some v) → (∀ nm', name ≠ nm' → getL nm' es' = getL nm' es) → Q () { s with heap := h', toks := tk }) :
    wpAny (model prog w) A (setAttr (.ref tx) name v) Q E s := by
  have N' : News h₀ L s.heap ((tx, instObj C dx) :: (dx, dictOf es n) :: rest) := fun p hp => N p (by
    rcases List.mem_cons.mp hp with rfl | hp
    · exact m3
    · rcases List.mem_cons.mp hp with rfl | hp
      · exact m4
      · exact m6 p hp)
  exact set_any F X₀ N' (InstAt.of_news N m3 m4) rfl hs hp ht hh (.tail (Nat.ne_of_gt q) (.head fun p hp => Nat.ne_of_lt (q' p hp))) hr hz hz' h
theorem set_rest {tx : Addr} {rest l : List (Addr × Obj)} (F : Fr h₀ L s.heap m) (X₀ : K.In h₀) (N : News h₀ L s.heap l) (m3 : (tx, (instObj C dx : Obj)) ∈ l) (m4 : (dx, (dictOf es n : Obj)) ∈ l) (q : @LT.lt Nat _ dx tx) (q' : ∀ p ∈ rest, @LT.lt Nat _ p.1 dx) (m6 : ∀ p ∈ rest, p ∈ l)
    (hs : findIn K (.ref C) "__setattr__" = some (some (.builtin "object.__setattr__"))) (hp : plainOver K C = true) (ht : takerIn K C name = some none) (hh : hasDictIn K C = true) (D : TD es sz a b c) (hz' : sz ≤ 900)
    (hn : (decide (name ≠ PySem.Str.ofString "kind") && (decide (name ≠ PySem.Str.ofString "low") && decide (name ≠ PySem.Str.ofString "high"))) = true)
    (h : ∀ h' es' n' tk, Fr h₀ L h' m → News h₀ L h' ((tx, instObj C dx) :: (dx, dictOf es' n') :: rest) → TD es' (sz + 1) a b c → Q () { s with heap := h', toks := tk }) : wpAny (model prog w) A (setAttr (.ref tx) name v) Q E s :=
  have n1 := of_decide_eq_true (Bool.and_eq_true_iff.mp hn).1
  have n2 := of_decide_eq_true (Bool.and_eq_true_iff.mp (Bool.and_eq_true_iff.mp hn).2).1
  have n3 := of_decide_eq_true (Bool.and_eq_true_iff.mp (Bool.and_eq_true_iff.mp hn).2).2
  set_keep F X₀ N m3 m4 q q' m6 hs hp ht hh D.refs D.len hz' fun h' es' n' tk F' N' r z _ o => h h' es' n' tk F' N' ⟨r, z, (o _ n1).trans D.kind, (o _ n2).trans D.low, (o _ n3).trans D.high⟩
theorem set_kind {tx : Addr} {rest l : List (Addr × Obj)} (F : Fr h₀ L s.heap m) (X₀ : K.In h₀) (N : News h₀ L s.heap l) (m3 : (tx, (instObj C dx : Obj)) ∈ l) (m4 : (dx, (dictOf es n : Obj)) ∈ l) (q : @LT.lt Nat _ dx tx) (q' : ∀ p ∈ rest, @LT.lt Nat _ p.1 dx) (m6 : ∀ p ∈ rest, p ∈ l)
    (hs : findIn K (.ref C) "__setattr__" = some (some (.builtin "object.__setattr__"))) (hp : plainOver K C = true) (ht : takerIn K C (PySem.Str.ofString "kind") = some none) (hh : hasDictIn K C = true) (D : TD es sz a b c) (hz' : sz ≤ 900)
    (h : ∀ h' es' n' tk, Fr h₀ L h' m → News h₀ L h' ((tx, instObj C dx) :: (dx, dictOf es' n') :: rest) → TD es' (sz + 1) (some v) b c → Q () { s with heap := h', toks := tk }) : wpAny (model prog w) A (setAttr (.ref tx) (PySem.Str.ofString "kind") v) Q E s :=
  set_keep F X₀ N m3 m4 q q' m6 hs hp ht hh D.refs D.len hz' fun h' es' n' tk F' N' r z q o => h h' es' n' tk F' N' ⟨r, z, q, (o _ (by decide +kernel)).trans D.low, (o _ (by decide +kernel)).trans D.high⟩
theorem set_low {tx : Addr} {rest l : List (Addr × Obj)} (F : Fr h₀ L s.heap m) (X₀ : K.In h₀) (N : News h₀ L s.heap l) (m3 : (tx, (instObj C dx : Obj)) ∈ l) (m4 : (dx, (dictOf es n : Obj)) ∈ l) (q : @LT.lt Nat _ dx tx) (q' : ∀ p ∈ rest, @LT.lt Nat _ p.1 dx) (m6 : ∀ p ∈ rest, p ∈ l)
    (hs : findIn K (.ref C) "__setattr__" = some (some (.builtin "object.__setattr__"))) (hp : plainOver K C = true) (ht : takerIn K C (PySem.Str.ofString "low") = some none) (hh : hasDictIn K C = true) (D : TD es sz a b c) (hz' : sz ≤ 900)
    (h : ∀ h' es' n' tk, Fr h₀ L h' m → News h₀ L h' ((tx, instObj C dx) :: (dx, dictOf es' n') :: rest) → TD es' (sz + 1) a (some v) c → Q () { s with heap := h', toks := tk }) : wpAny (model prog w) A (setAttr (.ref tx) (PySem.Str.ofString "low") v) Q E s :=
  set_keep F X₀ N m3 m4 q q' m6 hs hp ht hh D.refs D.len hz' fun h' es' n' tk F' N' r z q o => h h' es' n' tk F' N' ⟨r, z, (o _ (by decide +kernel)).trans D.kind, q, (o _ (by decide +kernel)).trans D.high⟩
theorem set_high {tx : Addr} {rest l : List (Addr × Obj)} (F : Fr h₀ L s.heap m) (X₀ : K.In h₀) (N : News h₀ L s.heap l) (m3 : (tx, (instObj C dx : Obj)) ∈ l) (m4 : (dx, (dictOf es n : Obj)) ∈ l) (q : @LT.lt Nat _ dx tx) (q' : ∀ p ∈ rest, @LT.lt Nat _ p.1 dx) (m6 : ∀ p ∈ rest, p ∈ l)
    (hs : findIn K (.ref C) "__setattr__" = some (some (.builtin "object.__setattr__"))) (hp : plainOver K C = true) (ht : takerIn K C (PySem.Str.ofString "high") = some none) (hh : hasDictIn K C = true) (D : TD es sz a b c) (hz' : sz ≤ 900)
    (h : ∀ h' es' n' tk, Fr h₀ L h' m → News h₀ L h' ((tx, instObj C dx) :: (dx, dictOf es' n') :: rest) → TD es' (sz + 1) a b (some v) → Q () { s with heap := h', toks := tk }) : wpAny (model prog w) A (setAttr (.ref tx) (PySem.Str.ofString "high") v) Q E s :=
  set_keep F X₀ N m3 m4 q q' m6 hs hp ht hh D.refs D.len hz' fun h' es' n' tk F' N' r z q o => h h' es' n' tk F' N' ⟨r, z, (o _ (by decide +kernel)).trans D.kind, (o _ (by decide +kernel)).trans D.low, q⟩
theorem execs_tk {M : Model} {A : Around} {st : Stmt} {rest : List Stmt} {env : Env} {Q : Flow → Shared → Prop} {E : Value → Shared → Prop} {h : Heap} {g : Array GenState} {d : Drawn} {t : Nat} {o : OsState}
    (H : ∀ tk, wpAny M A (exec st env) (fun f s' => match f with | .next => wpAny M A (execs rest env) Q E s' | f => Q f s') E ⟨h, g, d, tk, o⟩) : wpAny M A (execs (st :: rest) env) Q E ⟨h, g, d, t, o⟩ := wpAny_execs_cons (H t)
end
end Rg

namespace Rg
open PySem.Spec PySem.Calls
set_option maxRecDepth 100000
local macro_rules | `(tactic| walk_at "setAttr ref") => `(tactic| k_extra "my set")
local macro_rules | `(tactic| walk_at "call ref") => `(tactic| k_extra "my call")
local macro_rules | `(tactic| walk_at "execs cons") => `(tactic| k_extra "my execs")
/-- the object that the class makes -/
noncomputable def OutT (kd : PySem.Str) (news : List (Addr × Obj)) (v : Value) (tl : List (Addr × Obj)) : Prop :=
  ∃ (tx dx : Addr) (es : List DictEntry) (n : Nat) (t : Tok), v = .ref tx ∧ tl = [(tx, instObj 150 dx), (dx, dictOf es n)] ∧ TD es 40 (some (.str kd t)) (some .none) (some .none) ∧ @LT.lt Nat _ dx tx ∧ ∀ p ∈ news, @LT.lt Nat _ p.1 dx
set_option maxHeartbeats 4000000 in
theorem type_spec (w : World) (kd nm : PySem.Str) (t t2 : Tok) (news : List (Addr × Obj)) : Tel w 5 100 150 [.str kd t, .str nm t2] True news (OutT kd news) := by
  unfold Tel
  k_fill
  k_with_none
  intro mean mg mb dp un gd cn cs a ccd cl outer A₀ base h₀ L m s Q E B F X News0 Top0 hk hp hd hu hret
  k_with "my set" => ((k_dflt (refine set_rest (by k_asm) (by k_asm) (by k_asm) (by k_mem) (by k_mem) (by assumption) (by assumption) (by intro p hp; repeat (first | exact hp | apply List.Mem.tail)) (by k_is) (by k_is) (by k_is) (by k_is) (by first | assumption | exact td_nil) (by decide) (by decide +kernel) ?_; intro h9 es9 n9 tk9 F9 N9 D9; (try k_sweep))))
  k_with "my set" => ((with_reducible show wpAny _ _ (setAttr (Value.ref _) (PySem.Str.ofString "kind") _) _ _ _); (k_dflt (refine set_kind (by k_asm) (by k_asm) (by k_asm) (by k_mem) (by k_mem) (by assumption) (by assumption) (by intro p hp; repeat (first | exact hp | apply List.Mem.tail)) (by k_is) (by k_is) (by k_is) (by k_is) (by first | assumption | exact td_nil) (by decide) ?_; intro h9 es9 n9 tk9 F9 N9 D9; (try k_sweep))))
  k_with "my set" => ((with_reducible show wpAny _ _ (setAttr (Value.ref _) (PySem.Str.ofString "low") _) _ _ _); (k_dflt (refine set_low (by k_asm) (by k_asm) (by k_asm) (by k_mem) (by k_mem) (by assumption) (by assumption) (by intro p hp; repeat (first | exact hp | apply List.Mem.tail)) (by k_is) (by k_is) (by k_is) (by k_is) (by first | assumption | exact td_nil) (by decide) ?_; intro h9 es9 n9 tk9 F9 N9 D9; (try k_sweep))))
  k_with "my set" => ((with_reducible show wpAny _ _ (setAttr (Value.ref _) (PySem.Str.ofString "high") _) _ _ _); (k_dflt (refine set_high (by k_asm) (by k_asm) (by k_asm) (by k_mem) (by k_mem) (by assumption) (by assumption) (by intro p hp; repeat (first | exact hp | apply List.Mem.tail)) (by k_is) (by k_is) (by k_is) (by k_is) (by first | assumption | exact td_nil) (by decide) ?_; intro h9 es9 n9 tk9 F9 N9 D9; (try k_sweep))))
  k_with "my call" => ((k_dflt (refine' call_cls ?a1 ?a2 ?a3 ?a4 ?a5 ?a6 ?_; (case a1 => k_asm); (case a2 => k_asm); (case a3 => k_asm); (case a4 => k_is); (case a5 => k_is); (case a6 => k_is); k_whole; intro x9 d9 h9 F9 N9 l8 l9; (try k_lt2 l9); (refine' code_def ?k1 ?k2 ?k3 ?k4 ?k5 ?kA ?kF ?kK ?k6 ?k7 ?k8 ?k9 ?kB ?_ ?c2 ?c3 ?c4 ?c5; (case kA => exact rfl); (case kF => exact rfl); (case kK => first | exact rfl | assumption); (case k1 => k_asm); (case k2 => k_asm); (case k3 => k_asm); (case k4 => k_asm); (case k5 => k_asm); (case k6 => k_is); (case k7 => k_is); (case k8 => ktr_room); (case k9 => exact BindsTo.of_eq rfl); (case c5 => decide); (case kB => exact locs rfl); (case c2 => exact rfl); (case c3 => exact rfl); (case c4 => exact rfl); k_whole; intro g9 L9 h9 FG9 F9 N9 B9 X9 T9; (try dsimp only); (try k_lift B9); (try k_fold)))))
  k_with "my execs" => ((with_reducible refine execs_tk ?_); intro tkS; dsimp only)
  (try k_fold)
  k_steps
  (rename Fr _ _ _ _ => zF)
  (rename News _ _ _ _ => zN)
  exact hret _ [(x9, instObj 150 d9), (d9, dictOf es9 n9)] _ _ zF (nd_sub zN (by intro p hp; repeat (first | exact hp | apply List.Mem.tail))) ⟨x9, d9, es9, n9, t, rfl, rfl, ⟨D9.1, Nat.le_trans D9.2 (by decide), D9.3, D9.4, D9.5⟩, l9, l8⟩
end Rg

namespace Rg
open PySem.Spec PySem.Calls
set_option maxRecDepth 100000
local macro_rules | `(tactic| walk_at "binaryOp Mult int int") => `(tactic| k_extra "my mult")
local macro_rules | `(tactic| walk_at "call ref") => `(tactic| k_extra "my call")
local macro_rules | `(tactic| walk_at "call type:str") => `(tactic| k_extra "my str")
local macro_rules | `(tactic| walk_at "subscriptTail") => `(tactic| k_extra "my item")
local macro_rules | `(tactic| walk_at "exec For Name Tuple cons nil") => `(tactic| k_extra "my for2")
local macro_rules | `(tactic| walk_at "pyIter ref") => `(tactic| k_extra "my iter")
local macro_rules | `(tactic| walk_at "exec For Name Call cons nil") => `(tactic| k_extra "my for")
local macro_rules | `(tactic| walk_at "execs cons Assign cons") => `(tactic| k_extra "my cut")
local macro_rules | `(tactic| walk_at "execs cons") => `(tactic| k_extra "my execs")
local macro_rules | `(tactic| walk_at "setAttr ref") => `(tactic| k_extra "my set")
local macro_rules | `(tactic| walk_at "compareOp NotEq") => `(tactic| k_extra "my ne")
theorem names_ne {z : Str} (h : lawNames.contains z = false) : z ≠ PySem.Str.ofString "is_ring" ∧ z ≠ PySem.Str.ofString "most" ∧ z ≠ PySem.Str.ofString "bounds" ∧ z ≠ PySem.Str.ofString "t" ∧ z ≠ PySem.Str.ofString "number" ∧ z ≠ PySem.Str.ofString "base" ∧ z ≠ PySem.Str.ofString "text" ∧ z ≠ PySem.Str.ofString "power" ∧ z ≠ PySem.Str.ofString "before" ∧ z ≠ PySem.Str.ofString "behind" ∧ z ≠ PySem.Str.ofString "sign" := by
  have g : ∀ y ∈ lawNames, z ≠ y := fun y hy e => by
    rw [e] at h
    rw [List.contains_iff_mem.mpr hy] at h
    cases h
  refine ⟨g _ ?_, g _ ?_, g _ ?_, g _ ?_, g _ ?_, g _ ?_, g _ ?_, g _ ?_, g _ ?_, g _ ?_, g _ ?_⟩ <;> simp [lawNames]
set_option maxHeartbeats 8000000 in
theorem law_holds : PySem.Challenge.rw_rg0004_01.Holds := Rg.hd (by
  w_strict (
    k_with_none
    k_with "my set" => ((k_dflt (refine set_rest (by k_asm) (by k_asm) (by k_asm) (by k_mem) (by k_mem) (by assumption) (by assumption) (by intro p hp; repeat (first | exact hp | apply List.Mem.tail)) (by k_is) (by k_is) (by k_is) (by k_is) (by assumption) (by decide) (by decide +kernel) ?_; intro h9 es9 n9 tk9 F9 N9 D9; (try k_sweep))))
    k_with "my set" => ((with_reducible show wpAny _ _ (setAttr (Value.ref _) (PySem.Str.ofString "low") _) _ _ _); (k_dflt (refine set_low (by k_asm) (by k_asm) (by k_asm) (by k_mem) (by k_mem) (by assumption) (by assumption) (by intro p hp; repeat (first | exact hp | apply List.Mem.tail)) (by k_is) (by k_is) (by k_is) (by k_is) (by assumption) (by decide) ?_; intro h9 es9 n9 tk9 F9 N9 D9; (try k_sweep))))
    k_with "my set" => ((with_reducible show wpAny _ _ (setAttr (Value.ref _) (PySem.Str.ofString "high") _) _ _ _); (k_dflt (refine set_high (by k_asm) (by k_asm) (by k_asm) (by k_mem) (by k_mem) (by assumption) (by assumption) (by intro p hp; repeat (first | exact hp | apply List.Mem.tail)) (by k_is) (by k_is) (by k_is) (by k_is) (by assumption) (by decide) ?_; intro h9 es9 n9 tk9 F9 N9 D9; (try k_sweep))))
    k_with "my call" => ((with_reducible show wpAny _ _ (PySem.call (Value.ref 150) _) _ _ _); (k_dflt (refine tel_use (type_spec _ _ _ _ _ _) (by k_asm) (by k_asm) (by k_asm) (by k_asm) (by k_asm) (by first | exact rfl | assumption) trivial (by ktr_room) (by ktr_units) ?_; rintro v9 tl9 h9 tk9 F9 N9 ⟨x9, d9, es9, n9, t9, rfl, rfl, D9, l9, l8⟩; (dsimp only [List.nil_append, List.cons_append] at N9); (have l7 := l8); (k_lt l7); (try k_sweep); (try dsimp only); (try k_fold))))
    k_with "my execs" => ((with_reducible refine execs_tk ?_); intro tkS; dsimp only)
    k_with "my for" => ((rename Fr _ _ _ _ => lF'); (with_unfolding_all refine' For_invVF lF' ?k1 ?k2 ?_; (case k1 => exact rfl); (case k2 => exact rfl); k_whole))
    k_with "my iter" => k_dflt ((rename Fr _ _ _ _ => lF'); (rename News _ _ _ _ => lN'); (rename IsRange _ _ _ _ _ _ _ _ => rgX); (rename Obj.IsDictOf (PySem.strKind _ _) _ _ => hdX); refine' well_loop (by rfl) rgX lF' lN' hdX ?turn ?done; (case' turn => (clear rgX hdX lN' lF'; (intro o9 k9 tk9 pre9 j9 t9 u9 h9 tkk9 own9 off9 hd9 hk9 hk9' hp9 F9 N9); (try dsimp only [List.cons_append, List.nil_append] at N9); (try k_fold); (refine cut1 F9 N9 hd9 ?rest1 ?first1; (case' rest1 => (clear hd9 F9 N9; rintro s8 ⟨h8, tk8, o8, k8, u8, ring, l81, l82, b81, b82, most8, tx8, dx8, bt8, es8, n8, n8', ta8, tb8, tc8, kd8, rfl, F9, N9, hd9, q81, q82, q83, q84, q85, q86, q87, q88, q91, q92, q93, q94, q95, q96⟩; (try dsimp only at F9); (dsimp only [List.tail]); (refine cut2 F9 N9 hd9 ?rest2 ?first2; (case' rest2 => (clear hd9 F9 N9; rintro s7 ⟨h7, tk7, o7, k7, u7, hash, b7, n7, p7, ta7, tb7, tc7, td7, rfl, F9, N9, hd9, q71, q72, q73, q74, q75, q76, q77, q78, q79⟩; (try dsimp only at F9); (dsimp only [List.tail]))); (case' first2 => (intro KR2; (dsimp only [List.tail] at KR2)))))); (case' first1 => (intro KR1; (dsimp only [List.tail] at KR1)))))); (case' done => (intro u9 h9 tk9 F9 N9)); (all_goals (try k_fold)))
    k_with "my cut" => ((with_reducible show wpAny _ _ (execs (Stmt.Assign [Expr.Name (PySem.Str.ofString "number") _] (Expr.BinOp (Expr.Call _ _ _ _) _ _ _) _ :: Stmt.Assign _ _ _ :: Stmt.Assign _ _ _ :: Stmt.Assign _ _ _ :: _) _) _ _ _); (k_dflt ((rename Fr _ _ _ _ => zF); (rename News _ _ _ _ => zN); (rename TD _ _ _ _ _ => zD); (refine KR1 _ (mid1_of rfl zF zN hd9 (by k_mem) (by k_mem) (by k_mem) (by k_mem) (by k_mem) (by intro p hp; repeat (first | exact hp | apply List.Mem.tail)) ⟨_, zD.kind⟩ ⟨_, zD.low⟩ ⟨_, zD.high⟩ (by omega) (by omega) (by first | exact kind_dt (by assumption) | exact kind_df (by assumption)) (by first | rfl | omega) (by first | rfl | omega) (by omega) (by omega) (by omega) (by omega) (by omega) (by omega))))))
    k_with "my cut" => ((with_reducible show wpAny _ _ (execs (Stmt.Assign [Expr.Name (PySem.Str.ofString "text") _] _ _ :: Stmt.Assign _ _ _ :: Stmt.Assign _ _ _ :: Stmt.For _ _ _ _ _ :: _) _) _ _ _); (k_dflt ((rename Fr _ _ _ _ => zF); (rename News _ _ _ _ => zN); (first | (refine KR2 _ (mid2_hash rfl zF zN hd9 (by k_mem) (by k_mem) (by intro p hp; repeat (first | exact hp | apply List.Mem.tail)) (by omega) (by omega) (base_ok (by assumption) (by assumption)) (prod_bnd (by assumption) (by assumption) (by assumption) (by assumption)) ⟨by omega, by omega⟩)) | (refine KR2 _ (mid2_bare rfl zF zN hd9 (by k_mem) (by k_mem) (by intro p hp; repeat (first | exact hp | apply List.Mem.tail)) (by omega) (by omega) (base_ok (by assumption) (by assumption)) (by omega) (prod_bnd (by assumption) (by assumption) (by assumption) (by assumption)) ⟨by omega, by omega⟩))))))
    k_with "my call" => ((with_reducible show wpAny _ _ (PySem.call (Value.ref 175) _) _ _ _); k_dflt ((rename IntsAre _ _ => hiX); (rename WellIs _ _ _ _ _ => hdX); refine' dip_spec _ ?U ?hl ?hne hiX ?hlen ?hd ?hk0 ?hk1 ?hm0 ?hm1 _ _ _ _ _ _ _ _ _ _ _ _ _ _ _ _ _ _ _ _ ?k1 ?k2 ?k3 ?k4 ?k5 ?kK ?kd ?ku ?_; (case k1 => k_asm); (case k2 => k_asm); (case k3 => k_asm); (case k4 => k_asm); (case k5 => k_asm); (case U => k_updF); (case hl => k_mem); (case hne => k_ne); (case hlen => omega); (case hd => exact hdX); (case hk0 => omega); (case hk1 => omega); (case hm0 => first | omega | decide); (case hm1 => first | omega | decide); (case kK => exact rfl); (case kd => ktr_room); (case ku => ktr_units); intro v9 t9 o9 u9 h9 tk9 hv9 hw9 hd9 F9 N9; clear hdX; (try simp only [pow4] at hw9); (try dsimp only at N9); (try dsimp only); (try k_fold)))
    k_with "tel" => ((case k1 => k_asm); (case k2 => k_asm); (case k3 => k_asm); (case k4 => k_asm); (case k5 => k_asm); (case kK => first | exact rfl | assumption); (case kd => ktr_room); (case ku => ktr_units))
    k_with "my call" => ((with_reducible show wpAny _ _ (PySem.call (Value.ref 189) [_, Value.str (_ ++ PySem.Str.ofString "-" ++ (coreS _ _ _ ++ tailS _) ++ _) _]) _ _ _); (k_dflt (refine heard_M (by k_asm) (by k_asm) (by k_asm) (by k_asm) (by k_asm) rfl (by ktr_room) (by ktr_units) ⟨by omega, by omega⟩ ⟨by omega, by omega⟩ (by assumption) (by assumption) ⟨by omega, by omega⟩ ⟨by omega, by omega⟩ ⟨by k_mem, by k_mem, by assumption, by assumption, by assumption⟩ (by assumption) ?_; intro v9 h9 tk9 F9 N9 R9h; (try k_fold))))
    k_with "my call" => ((with_reducible show wpAny _ _ (PySem.call (Value.ref 196) [_, _, Value.str (PySem.Str.ofString "-") _, _]) _ _ _); (k_dflt (refine due_M (by k_asm) (by k_asm) (by k_asm) (by k_asm) (by k_asm) rfl (by ktr_room) (by ktr_units) (by assumption) ⟨by omega, by omega⟩ (by k_mem) ?_; intro v9 h9 tk9 F9 N9 R9d; (try k_fold))))
    k_with "my call" => ((with_reducible show wpAny _ _ (PySem.call (Value.ref 189) [_, Value.str (_ ++ PySem.Str.ofString "+" ++ (coreS _ _ _ ++ tailS _) ++ _) _]) _ _ _); (k_dflt (refine heard_P (by k_asm) (by k_asm) (by k_asm) (by k_asm) (by k_asm) rfl (by ktr_room) (by ktr_units) ⟨by omega, by omega⟩ ⟨by omega, by omega⟩ (by assumption) (by assumption) ⟨by omega, by omega⟩ ⟨by omega, by omega⟩ ⟨by k_mem, by k_mem, by assumption, by assumption, by assumption⟩ (by assumption) ?_; intro v9 h9 tk9 F9 N9 R9h; (try k_fold))))
    k_with "my call" => ((with_reducible show wpAny _ _ (PySem.call (Value.ref 196) [_, _, Value.str (PySem.Str.ofString "+") _, _]) _ _ _); (k_dflt (refine due_P (by k_asm) (by k_asm) (by k_asm) (by k_asm) (by k_asm) rfl (by ktr_room) (by ktr_units) (by assumption) ⟨by omega, by omega⟩ (by k_mem) ?_; intro v9 h9 tk9 F9 N9 R9d; (try k_fold))))
    k_with "my call" => ((with_reducible show wpAny _ _ (PySem.call (Value.ref 189) [_, Value.str (_ ++ PySem.Str.ofString "" ++ (coreS _ _ _ ++ tailS _) ++ _) _]) _ _ _); (k_dflt (refine heard_O (by k_asm) (by k_asm) (by k_asm) (by k_asm) (by k_asm) rfl (by ktr_room) (by ktr_units) ⟨by omega, by omega⟩ ⟨by omega, by omega⟩ (by assumption) (by assumption) ⟨by omega, by omega⟩ ⟨by omega, by omega⟩ ⟨by k_mem, by k_mem, by assumption, by assumption, by assumption⟩ (by assumption) ?_; intro v9 h9 tk9 F9 N9 R9h; (try k_fold))))
    k_with "my call" => ((with_reducible show wpAny _ _ (PySem.call (Value.ref 196) [_, _, Value.str (PySem.Str.ofString "") _, _]) _ _ _); (k_dflt (refine due_O (by k_asm) (by k_asm) (by k_asm) (by k_asm) (by k_asm) rfl (by ktr_room) (by ktr_units) (by assumption) ⟨by omega, by omega⟩ (by k_mem) ?_; intro v9 h9 tk9 F9 N9 R9d; (try k_fold))))
    k_with "my ne" => (k_dflt (refine' cmp_due R9h R9d ?_ ?_ ?_ ?_; (any_goals (first | rfl | assumption | omega))))
    k_with "my call" => ((with_reducible show wpAny _ _ (PySem.call (Value.ref 182) _) _ _ _); (k_dflt (refine' figs_use ?b1 ?b2 ?k1 ?k2 ?k3 ?k4 ?k5 ?kK ?kd ?ku ?_; k_extra "tel"; (case b1 => exact prod_bnd (by assumption) (by assumption) (by assumption) (by assumption)); (case b2 => exact base_ok (by assumption) (by assumption)); (intro t9 h9 tk9 F9 N9 fl9); (try k_fold))))
    k_with "my str" => (k_dflt (refine str_base (base_ok (by assumption) (by assumption)) ?_; intro t9 sb9; (try k_fold)))
    k_with "my item" => ((with_reducible show wpAny _ _ (subscriptTail _ _ (Value.ref _) (Value.int _ _)) _ _ _); (k_dflt (refine times_item (News.isTup (by k_asm) (by k_mem)) (by assumption) (by omega) (by omega) ?_; intro t9 tm9 tm9')))
    k_with "my item" => ((with_reducible show wpAny _ _ (subscriptTail _ _ (Value.ref _) (Value.int _ _)) _ _ _); (k_dflt (refine tail_item (News.isTup (by k_asm) (by k_mem)) (by omega) (by omega) ?_; intro t9 tl9)))
    k_with "my for2" => (walk_at "exec For Name Tuple")
    k_go0
    (all_goals try k_fold)
    k_steps
    all_goals ((rename Fr _ _ _ _ => zF); (rename News _ _ _ _ => zN); (refine well_end zF zN ?_ ?_ ?zo hd9 (k0 := k9) ?_ ?_ ?_ ?zr); (case zo => intro p hp; (repeat (first | exact hp | apply List.Mem.tail))); (case zr => intro z hz hc; obtain ⟨n1, n2, n3, n4, n5, n6, n7, n8, n9, n10, n11⟩ := names_ne hc; simp only [if_neg n1, if_neg n2, if_neg n3, if_neg n4, if_neg n5, if_neg n6, if_neg n7, if_neg n8, if_neg n9, if_neg n10, if_neg n11, if_neg hz, hc, Bool.false_eq_true, if_false]); (all_goals first | assumption | omega | k_mem))))
end Rg

theorem PySem.Challenge.cw_rg0004_01_holds : PySem.Challenge.rw_rg0004_01.Holds := by
  exact Rg.law_holds
