import PyProof.Rows.All
import Wide.All
import OpenK.AllK
import Wide.FinOn
import PyProof.ExcAttrAll.Exception
import OpenK.KInv2
import PySem.Challenge.RW_sa0149_01
open PySem PySem.W PyProof.Rows
set_option Elab.async false
set_option maxRecDepth 100000
set_option linter.all false
set_option linter.unusedSectionVars false
set_option linter.unusedVariables false
namespace Mine
section
local macro_rules | `(tactic| o_head $_) => `(tactic| assumption)
theorem frg (h : PySem.Challenge.rw_sa0149_01.row.Holds) : True := by
  have h2 : PySem.Challenge.rw_sa0149_01.row.Holds := by k_head
  trivial
end
section
local macro_rules | `(tactic| fail $_) => `(tactic| assumption)
theorem vwx (h : PySem.Challenge.rw_sa0149_01.row.Holds) : True := by
  have h2 : PySem.Challenge.rw_sa0149_01.row.Holds := by o_head (0 : Nat)
  trivial
end
set_option rowWalk.seconds 0
local macro_rules | `(tactic| walk_at $s:str) => `(tactic| k_extra $(Lean.Syntax.mkStrLit ("my " ++ s.getString)))
local macro_rules | `(tactic| is_list) => `(tactic| k_extra "my is_list")
local macro_rules | `(tactic| k_all) => `(tactic| k_extra "my k_all")
local macro_rules | `(tactic| size_fits) => `(tactic| k_extra "my size_fits")
theorem fill0 : (fun (_ : OpenLaw) (_ : Params → Frag) => True) PySem.Challenge.rw_sa0149_01 frg.heap_1 := by
  k_fill
  trivial
section -- W1
open PySem PySem.W PyProof.Rows
set_option maxHeartbeats 4000000

abbrev wpC (w : World) (A : Around) (f : Addr) (args : List Value) (Q E : Value → Shared → Prop) (s : Shared) : Prop :=
  wpAny (model PySem.Challenge.pw_sa0149_01 w) A (call (.ref f) args) Q E s
abbrev TopX (mean : ExcName → Option Value) (mg mb : Str → Option Value) (h : Heap) : Prop := Top vwx.view_1 (looseW vwx.view_1 []) mean mg mb h

theorem set_W1_0 : True := by
  k_with_none
  trivial
theorem dec_lt {n i : Int} (k : Nat) (h : i < n) : (n - (i + (k + 1 : Nat))).toNat < (n - i).toNat := by
  have e : n - i = ((n - i).toNat : Int) := (Int.toNat_of_nonneg (Int.le_of_lt (Int.sub_pos_of_lt h))).symm
  have p : 0 < n - i := Int.sub_pos_of_lt h
  omega
theorem slice_bd {α : Type} {cs : List α} {i e : Int} {k : Nat} (hk : k < (List.take (min e.toNat cs.length - i.toNat) (List.drop i.toNat cs)).length) : i.toNat + k < e.toNat ∧ i.toNat + k < cs.length := by
  rw [List.length_take] at hk
  have h := Nat.add_lt_of_lt_sub' (Nat.lt_min.mp hk).1
  exact ⟨(Nat.lt_min.mp h).1, (Nat.lt_min.mp h).2⟩
theorem slice_sh {d e i : Int} {m n : Nat} (hd : 0 ≤ d) (hi : 0 ≤ i) (he : 0 ≤ e) (hl : (m : Int) = n + d) : min (e + d).toNat m - (i + d).toNat = min e.toNat n - i.toNat := by
  obtain ⟨D, rfl⟩ := Int.eq_ofNat_of_zero_le hd
  have h : m = n + D := Int.ofNat.inj hl
  rw [h, Int.toNat_add he hd, Int.toNat_add hi hd, Int.toNat_natCast, Nat.add_min_add_right, Nat.add_sub_add_right]
noncomputable def isLayout (c : Int) : Bool := c == 32 || (decide (9 ≤ c) && decide (c ≤ 13))
noncomputable def isDigit (c : Int) : Bool := decide (48 ≤ c) && decide (c ≤ 57)
noncomputable def isSmall (c : Int) : Bool := decide (97 ≤ c) && decide (c ≤ 122)
noncomputable def isCapital (c : Int) : Bool := decide (65 ≤ c) && decide (c ≤ 90)
noncomputable def isAlnum (c : Int) : Bool := isSmall c || isCapital c || isDigit c || c == 95
noncomputable def chr1 (c : Int) : Str := { cps := #[c.toNat] }
noncomputable def isSymbol (c : Int) : Bool := decide (0 ≤ c) && decide (c < 128) && !(Builtin.Str.occurrences (Str.ofString "+-*/\\^<>=~:.?@#&$") (chr1 c) 0 (Str.ofString "+-*/\\^<>=~:.?@#&$").length 1).isEmpty
noncomputable def isQuotable (c : Int) : Bool := decide (32 ≤ c) && decide (c ≠ 127) && decide (c ≤ 1114111)
noncomputable def digitValue (c : Int) : Int := if isDigit c then c - 48 else if isSmall c then c - 87 else if isCapital c then c - 55 else -1
noncomputable def maxZ (c : Int) : Int := if 0 > c then 0 else c
noncomputable def simpleEscape (c : Int) : Int :=
  if (Builtin.Str.occurrences (Str.ofString "\\'\"`") (chr1 (maxZ c)) 0 (Str.ofString "\\'\"`").length 1).isEmpty then
    (if 0 ≤ Txt.find (Str.ofString "abtnvfr") (chr1 (maxZ c)) then 7 + Txt.find (Str.ofString "abtnvfr") (chr1 (maxZ c)) else -1)
  else c
noncomputable def numeralBase (c : Int) : Int := if c = 98 then 2 else if c = 111 then 8 else if c = 120 then 16 else 0

section
variable {w : World} {mean : ExcName → Option Value} {mg mb : Str → Option Value}
    {dp un : Nat} {gd : Option (List Code)} {cn : Str} {sc : Scope} {a : Addr} {ccd : Value} {cl : List (Str × Addr)} {outer : List Env} {A₀ : Around} {base h₀ : Heap} {L : Addr} {m : Str → Option Value} {s : Shared}
    {news : List (Addr × Obj)} {Q E : Value → Shared → Prop}

theorem retB {x y : Bool} {h' : Heap} {tk' : Nat} (hret : ∀ (h' : Heap) (tk' : Nat), Fr h₀ L h' m → News h₀ L h' news → Q (.bool x) { s with heap := h', toks := tk' }) (e : y = x) (F : Fr h₀ L h' m) (N : News h₀ L h' news) : Q (.bool y) { s with heap := h', toks := tk' } := by
  subst e; exact hret _ _ F N
theorem retI {x y : Int} {t : Tok} {h' : Heap} {tk' : Nat} (hret : ∀ (t : Tok) (h' : Heap) (tk' : Nat), Fr h₀ L h' m → News h₀ L h' news → Q (.int x t) { s with heap := h', toks := tk' }) (e : y = x) (F : Fr h₀ L h' m) (N : News h₀ L h' news) : Q (.int y t) { s with heap := h', toks := tk' } := by
  subst e; exact hret _ _ _ F N
section
variable (B : Below A₀ base outer h₀) (F : Fr h₀ L s.heap m) (X : (frg.heap_1 w.params).In h₀) (N : News h₀ L s.heap news)
    (T : TopX mean mg mb h₀) (hk : sc.kind = .function)
include B F X N T hk

theorem is_layout_s {c : Int} {tk : Tok} (hd : dp + 1 < recursionLimit) (hu : un + 8 < cLine)
    (hret : ∀ (h' : Heap) (tk' : Nat), Fr h₀ L h' m → News h₀ L h' news → Q (.bool (isLayout c)) { s with heap := h', toks := tk' }) :
    wpC w (ktrTop dp un gd cn sc L a ccd cl outer) 60 [.int c tk] Q E s := by
  refine wpAny_call ?_
  k_dflt cell_enter
  k_steps
  all_goals (refine retB hret ?_ (by assumption) (by assumption); (try rw [Bool.eq_iff_iff]); simp only [isLayout, decide_eq_true_eq, Bool.and_eq_true, Bool.or_eq_true, beq_iff_eq, Bool.not_eq_true'] at *; first | omega | (simp_all; done) | (simp_all; omega) | grind)
theorem is_digit_s {c : Int} {tk : Tok} (hd : dp + 1 < recursionLimit) (hu : un + 8 < cLine)
    (hret : ∀ (h' : Heap) (tk' : Nat), Fr h₀ L h' m → News h₀ L h' news → Q (.bool (isDigit c)) { s with heap := h', toks := tk' }) :
    wpC w (ktrTop dp un gd cn sc L a ccd cl outer) 67 [.int c tk] Q E s := by
  refine wpAny_call ?_
  k_dflt cell_enter
  k_steps
  all_goals (refine retB hret ?_ (by assumption) (by assumption); (try rw [Bool.eq_iff_iff]); simp only [isDigit, decide_eq_true_eq, Bool.and_eq_true, Bool.or_eq_true, beq_iff_eq, Bool.not_eq_true'] at *; first | omega | (simp_all; done) | (simp_all; omega) | grind)
theorem is_small_s {c : Int} {tk : Tok} (hd : dp + 1 < recursionLimit) (hu : un + 8 < cLine)
    (hret : ∀ (h' : Heap) (tk' : Nat), Fr h₀ L h' m → News h₀ L h' news → Q (.bool (isSmall c)) { s with heap := h', toks := tk' }) :
    wpC w (ktrTop dp un gd cn sc L a ccd cl outer) 74 [.int c tk] Q E s := by
  refine wpAny_call ?_
  k_dflt cell_enter
  k_steps
  all_goals (refine retB hret ?_ (by assumption) (by assumption); (try rw [Bool.eq_iff_iff]); simp only [isSmall, decide_eq_true_eq, Bool.and_eq_true, Bool.or_eq_true, beq_iff_eq, Bool.not_eq_true'] at *; first | omega | (simp_all; done) | (simp_all; omega) | grind)
theorem is_capital_s {c : Int} {tk : Tok} (hd : dp + 1 < recursionLimit) (hu : un + 8 < cLine)
    (hret : ∀ (h' : Heap) (tk' : Nat), Fr h₀ L h' m → News h₀ L h' news → Q (.bool (isCapital c)) { s with heap := h', toks := tk' }) :
    wpC w (ktrTop dp un gd cn sc L a ccd cl outer) 81 [.int c tk] Q E s := by
  refine wpAny_call ?_
  k_dflt cell_enter
  k_steps
  all_goals (refine retB hret ?_ (by assumption) (by assumption); (try rw [Bool.eq_iff_iff]); simp only [isCapital, decide_eq_true_eq, Bool.and_eq_true, Bool.or_eq_true, beq_iff_eq, Bool.not_eq_true'] at *; first | omega | (simp_all; done) | (simp_all; omega) | grind)
theorem is_symbol_s {c : Int} {tk : Tok} (hd : dp + 1 < recursionLimit) (hu : un + 8 < cLine)
    (hret : ∀ (h' : Heap) (tk' : Nat), Fr h₀ L h' m → News h₀ L h' news → Q (.bool (isSymbol c)) { s with heap := h', toks := tk' }) :
    wpC w (ktrTop dp un gd cn sc L a ccd cl outer) 95 [.int c tk] Q E s := by
  refine wpAny_call ?_
  k_dflt cell_enter
  k_steps
  all_goals (refine retB hret ?_ (by assumption) (by assumption); (try rw [Bool.eq_iff_iff]); simp only [isSymbol, chr1, decide_eq_true_eq, Bool.and_eq_true, Bool.or_eq_true, beq_iff_eq, Bool.not_eq_true'] at *; first | omega | (simp_all; done) | (simp_all; omega) | grind)
theorem is_quotable_s {c : Int} {tk : Tok} (hd : dp + 1 < recursionLimit) (hu : un + 8 < cLine)
    (hret : ∀ (h' : Heap) (tk' : Nat), Fr h₀ L h' m → News h₀ L h' news → Q (.bool (isQuotable c)) { s with heap := h', toks := tk' }) :
    wpC w (ktrTop dp un gd cn sc L a ccd cl outer) 102 [.int c tk] Q E s := by
  refine wpAny_call ?_
  k_dflt cell_enter
  k_steps
  all_goals (refine retB hret ?_ (by assumption) (by assumption); (try rw [Bool.eq_iff_iff]); simp only [isQuotable, decide_eq_true_eq, Bool.and_eq_true, Bool.or_eq_true, beq_iff_eq, Bool.not_eq_true'] at *; first | omega | (simp_all; done) | (simp_all; omega) | grind)
theorem numeral_base_s {c : Int} {tk : Tok} (hd : dp + 1 < recursionLimit) (hu : un + 8 < cLine)
    (hret : ∀ (t : Tok) (h' : Heap) (tk' : Nat), Fr h₀ L h' m → News h₀ L h' news → Q (.int (numeralBase c) t) { s with heap := h', toks := tk' }) :
    wpC w (ktrTop dp un gd cn sc L a ccd cl outer) 128 [.int c tk] Q E s := by
  refine wpAny_call ?_
  k_dflt cell_enter
  k_steps
  all_goals (refine retI hret ?_ (by assumption) (by assumption); simp only [numeralBase]; first | (simp_all; done) | (simp_all; omega) | grind)
end
theorem set_W1_1 : True := by
  k_with "my eval Call" => first | (k_here; k_dflt (refine Call_ ?_)) | fail
  k_with "my call ref" => first | (k_here; k_dflt (first | ((with_reducible show wpAny _ _ (PySem.call (Value.ref 60) _ _) _ _ _); refine' is_layout_s (by k_asm) (by k_asm) (by k_asm) (by k_asm) (by k_asm) (by first | exact rfl | assumption) (by ktr_room) (by ktr_units) ?_) | ((with_reducible show wpAny _ _ (PySem.call (Value.ref 67) _ _) _ _ _); refine' is_digit_s (by k_asm) (by k_asm) (by k_asm) (by k_asm) (by k_asm) (by first | exact rfl | assumption) (by ktr_room) (by ktr_units) ?_) | ((with_reducible show wpAny _ _ (PySem.call (Value.ref 74) _ _) _ _ _); refine' is_small_s (by k_asm) (by k_asm) (by k_asm) (by k_asm) (by k_asm) (by first | exact rfl | assumption) (by ktr_room) (by ktr_units) ?_) | ((with_reducible show wpAny _ _ (PySem.call (Value.ref 81) _ _) _ _ _); refine' is_capital_s (by k_asm) (by k_asm) (by k_asm) (by k_asm) (by k_asm) (by first | exact rfl | assumption) (by ktr_room) (by ktr_units) ?_) | ((with_reducible show wpAny _ _ (PySem.call (Value.ref 95) _ _) _ _ _); refine' is_symbol_s (by k_asm) (by k_asm) (by k_asm) (by k_asm) (by k_asm) (by first | exact rfl | assumption) (by ktr_room) (by ktr_units) ?_) | ((with_reducible show wpAny _ _ (PySem.call (Value.ref 102) _ _) _ _ _); refine' is_quotable_s (by k_asm) (by k_asm) (by k_asm) (by k_asm) (by k_asm) (by first | exact rfl | assumption) (by ktr_room) (by ktr_units) ?_)); k_whole; intro h' tk' F' N'; (try k_sweep)) | fail
  trivial
section
variable (B : Below A₀ base outer h₀) (F : Fr h₀ L s.heap m) (X : (frg.heap_1 w.params).In h₀) (N : News h₀ L s.heap news)
    (T : TopX mean mg mb h₀) (hk : sc.kind = .function)
include B F X N T hk
theorem is_alnum_s {c : Int} {tk : Tok} (hd : dp + 2 < recursionLimit) (hu : un + 16 < cLine)
    (hret : ∀ (h' : Heap) (tk' : Nat), Fr h₀ L h' m → News h₀ L h' news → Q (.bool (isAlnum c)) { s with heap := h', toks := tk' }) :
    wpC w (ktrTop dp un gd cn sc L a ccd cl outer) 88 [.int c tk] Q E s := by
  refine wpAny_call ?_
  k_dflt cell_enter
  k_steps
  all_goals (refine retB hret ?_ (by assumption) (by assumption); (try rw [Bool.eq_iff_iff]); simp only [isAlnum, decide_eq_true_eq, Bool.and_eq_true, Bool.or_eq_true, beq_iff_eq, Bool.not_eq_true'] at *; first | omega | (simp_all; done) | (simp_all; omega) | grind)
theorem digit_value_s {c : Int} {tk : Tok} (hd : dp + 2 < recursionLimit) (hu : un + 16 < cLine)
    (hret : ∀ (t : Tok) (h' : Heap) (tk' : Nat), Fr h₀ L h' m → News h₀ L h' news → Q (.int (digitValue c) t) { s with heap := h', toks := tk' }) :
    wpC w (ktrTop dp un gd cn sc L a ccd cl outer) 109 [.int c tk] Q E s := by
  refine wpAny_call ?_
  k_dflt cell_enter
  k_steps
  all_goals (refine retI hret ?_ (by assumption) (by assumption); simp only [digitValue]; first | (simp_all; done) | (simp_all; omega) | grind)
theorem simple_escape_s {c : Int} {tk : Tok} (hd : dp + 1 < recursionLimit) (hu : un + 8 < cLine) (hc : c ≤ 1114111)
    (hret : ∀ (t : Tok) (h' : Heap) (tk' : Nat), Fr h₀ L h' m → News h₀ L h' news → Q (.int (simpleEscape c) t) { s with heap := h', toks := tk' }) :
    wpC w (ktrTop dp un gd cn sc L a ccd cl outer) 121 [.int c tk] Q E s := by
  refine wpAny_call ?_
  k_dflt cell_enter
  k_steps
  all_goals (refine retI hret ?_ (by assumption) (by assumption); simp only [simpleEscape, maxZ, chr1]; first | (simp_all; done) | (simp_all; omega) | grind)
end
end
end
section -- W2
open PySem PySem.W PyProof.Rows
set_option maxHeartbeats 4000000

theorem set_W2_0 : True := by
  k_with_none
  trivial
noncomputable def codeAt (cs : List Int) (i : Int) : Int :=
  if i ≥ cs.length then -1 else if cs.getD i.toNat 0 < 0 ∨ cs.getD i.toNat 0 > 1114111 then -2 else cs.getD i.toNat 0
theorem codeAt_le (cs : List Int) (i : Int) : codeAt cs i ≤ 1114111 := by unfold codeAt; split; omega; split <;> omega
theorem codeAt_lt {cs : List Int} {i : Int} (h : codeAt cs i ≠ -1) : i < cs.length := by unfold codeAt at h; split at h; omega; omega

abbrev tokEs (P : Params) (k1 k2 k3 : Tok) (l : Addr) (i o : Int) (t1 t2 : Tok) : List DictEntry :=
  [⟨PyData.keyHash P "codes", .str "codes" k1, .ref l⟩, ⟨PyData.keyHash P "at", .str "at" k2, .int i t1⟩, ⟨PyData.keyHash P "origin", .str "origin" k3, .int o t2⟩]

theorem set_W2_1 : True := by
  k_with "my is_list" => first | (exact News.isList (by k_asm) (by assumption)) | fail
  trivial
section
variable {w : World} {mean : ExcName → Option Value} {mg mb : Str → Option Value}
    {dp un : Nat} {gd : Option (List Code)} {cn : Str} {sc : Scope} {a : Addr} {ccd : Value} {cl : List (Str × Addr)} {outer : List Env} {A₀ : Around} {base h₀ : Heap} {L : Addr} {m : Str → Option Value} {s : Shared}
    {news rest : List (Addr × Obj)} {Q E : Value → Shared → Prop} {x dx l : Addr} {vs : List Value} {cs : List Int} {ep : Nat} {k1 k2 k3 t1 t2 : Tok} {i o : Int}
theorem retM {v : Value} {j j' : Int} {t1 : Tok} {h' : Heap} {tk' : Nat} (hret : ∀ (t1 : Tok) (h' : Heap) (tk' : Nat), Fr h₀ L h' m → News h₀ L h' ((x, instObj 265 dx) :: (dx, dictOf (tokEs w.params k1 k2 k3 l j o t1 t2) 3) :: (l, listOf vs.toArray ep) :: rest) → Q v { s with heap := h', toks := tk' }) (e : j' = j)
    (F : Fr h₀ L h' m) (N : News h₀ L h' ((x, instObj 265 dx) :: (dx, dictOf (tokEs w.params k1 k2 k3 l j' o t1 t2) 3) :: (l, listOf vs.toArray ep) :: rest)) : Q v { s with heap := h', toks := tk' } := by
  subst e; exact hret _ _ _ F N
section
variable (B : Below A₀ base outer h₀) (F : Fr h₀ L s.heap m) (X : (frg.heap_1 w.params).In h₀) (N : News h₀ L s.heap news)
    (T : TopX mean mg mb h₀) (hk : sc.kind = .function)
    (hx : (x, instObj 265 dx) ∈ news) (hdx : (dx, dictOf (tokEs w.params k1 k2 k3 l i o t1 t2) 3) ∈ news) (hl : (l, listOf vs.toArray ep) ∈ news) (hi : IntsAre vs cs) (hfit : cs.length < 2 ^ 20)
include B F X N T hk hx hdx hl hi hfit

theorem code_at_s {j : Int} {tk : Tok} (h0 : 0 ≤ j) (hd : dp + 1 < recursionLimit) (hu : un + 8 < cLine)
    (hret : ∀ (t : Tok) (h' : Heap) (tk' : Nat), Fr h₀ L h' m → News h₀ L h' news → Q (.int (codeAt cs j) t) { s with heap := h', toks := tk' }) :
    wpC w (ktrTop dp un gd cn sc L a ccd cl outer) 150 [.ref x, .int j tk] Q E s := by
  refine wpAny_call ?_
  k_dflt cell_enter
  k_steps
  all_goals (refine retI hret ?_ (by assumption) (by assumption); unfold codeAt; (repeat' split) <;> omega)
end

theorem set_W2_2 : True := by
  k_with "my k_all" => first | (assumption) | fail
  k_with "my eval Call" => first | (k_here; k_dflt (refine Call_ ?_)) | fail
  k_with "my eval Call Attribute" => first | (k_here; k_dflt (refine MethodCall_ ?_)) | fail
  k_with "my call ref" => first | (k_here; (with_reducible show wpAny _ _ (PySem.call (Value.ref 150) _ _) _ _ _); k_dflt (refine' code_at_s (by k_asm) (by k_asm) (by k_asm) (by k_asm) (by k_asm) (by first | exact rfl | assumption) (by k_dflt k_mem) (by k_dflt k_mem) (by k_dflt k_mem) (by assumption) (by assumption) (by omega) (by ktr_room) (by ktr_units) ?_); k_whole; intro t' h' tk' F' N'; (try k_sweep)) | fail
  k_with "my call ref" => first | (k_here; k_dflt (first | ((with_reducible show wpAny _ _ (PySem.call (Value.ref 60) _ _) _ _ _); refine' is_layout_s (by k_asm) (by k_asm) (by k_asm) (by k_asm) (by k_asm) (by first | exact rfl | assumption) (by ktr_room) (by ktr_units) ?_) | ((with_reducible show wpAny _ _ (PySem.call (Value.ref 67) _ _) _ _ _); refine' is_digit_s (by k_asm) (by k_asm) (by k_asm) (by k_asm) (by k_asm) (by first | exact rfl | assumption) (by ktr_room) (by ktr_units) ?_) | ((with_reducible show wpAny _ _ (PySem.call (Value.ref 74) _ _) _ _ _); refine' is_small_s (by k_asm) (by k_asm) (by k_asm) (by k_asm) (by k_asm) (by first | exact rfl | assumption) (by ktr_room) (by ktr_units) ?_) | ((with_reducible show wpAny _ _ (PySem.call (Value.ref 81) _ _) _ _ _); refine' is_capital_s (by k_asm) (by k_asm) (by k_asm) (by k_asm) (by k_asm) (by first | exact rfl | assumption) (by ktr_room) (by ktr_units) ?_) | ((with_reducible show wpAny _ _ (PySem.call (Value.ref 95) _ _) _ _ _); refine' is_symbol_s (by k_asm) (by k_asm) (by k_asm) (by k_asm) (by k_asm) (by first | exact rfl | assumption) (by ktr_room) (by ktr_units) ?_) | ((with_reducible show wpAny _ _ (PySem.call (Value.ref 102) _ _) _ _ _); refine' is_quotable_s (by k_asm) (by k_asm) (by k_asm) (by k_asm) (by k_asm) (by first | exact rfl | assumption) (by ktr_room) (by ktr_units) ?_) | ((with_reducible show wpAny _ _ (PySem.call (Value.ref 88) _ _) _ _ _); refine' is_alnum_s (by k_asm) (by k_asm) (by k_asm) (by k_asm) (by k_asm) (by first | exact rfl | assumption) (by ktr_room) (by ktr_units) ?_)); k_whole; intro h' tk' F' N'; (try k_sweep)) | fail
  trivial
noncomputable def endsAt (cs : List Int) (i : Int) : Bool := codeAt cs i == -1 || codeAt cs i == 37 || isLayout (codeAt cs i)
noncomputable def skipRow (cs : List Int) (i : Int) : Int :=
  if codeAt cs i = -1 ∨ codeAt cs i = 10 then i else skipRow cs (i + 1)
termination_by (cs.length - i).toNat
decreasing_by have := @codeAt_lt cs i (by omega); omega
theorem skipRow_stop {cs : List Int} {i : Int} (h : codeAt cs i = -1 ∨ codeAt cs i = 10) : skipRow cs i = i := by rw [skipRow, if_pos h]
theorem skipRow_step {cs : List Int} {i : Int} (h : codeAt cs i ≠ -1) (h' : codeAt cs i ≠ 10) : skipRow cs (i + 1) = skipRow cs i := by
  rw [skipRow.eq_1 cs i, if_neg (by omega)]
theorem skipRow_end {cs : List Int} {i r : Int} (e : skipRow cs i = r) (h : codeAt cs i = -1 ∨ codeAt cs i = 10) : i = r := by rw [← e, skipRow_stop h]
theorem skipRow_ge (cs : List Int) (i : Int) : i ≤ skipRow cs i := by
  fun_induction skipRow cs i <;> omega
section
variable (B : Below A₀ base outer h₀) (F : Fr h₀ L s.heap m) (X : (frg.heap_1 w.params).In h₀) (N : News h₀ L s.heap news)
    (T : TopX mean mg mb h₀) (hk : sc.kind = .function)
    (hx : (x, instObj 265 dx) ∈ news) (hdx : (dx, dictOf (tokEs w.params k1 k2 k3 l i o t1 t2) 3) ∈ news) (hl : (l, listOf vs.toArray ep) ∈ news) (hi : IntsAre vs cs) (hfit : cs.length < 2 ^ 20)
include B F X N T hk hx hdx hl hi hfit
theorem ends_at_s {j : Int} {tk : Tok} (h0 : 0 ≤ j) (hd : dp + 2 < recursionLimit) (hu : un + 16 < cLine)
    (hret : ∀ (h' : Heap) (tk' : Nat), Fr h₀ L h' m → News h₀ L h' news → Q (.bool (endsAt cs j)) { s with heap := h', toks := tk' }) :
    wpC w (ktrTop dp un gd cn sc L a ccd cl outer) 220 [.ref x, .int j tk] Q E s := by
  refine wpAny_call ?_
  k_dflt cell_enter
  k_steps
  all_goals (refine retB hret ?_ (by assumption) (by assumption); simp [endsAt, *])
end
section
variable (B : Below A₀ base outer h₀) (F : Fr h₀ L s.heap m) (X : (frg.heap_1 w.params).In h₀)
    (N : News h₀ L s.heap ((x, instObj 265 dx) :: (dx, dictOf (tokEs w.params k1 k2 k3 l i o t1 t2) 3) :: (l, listOf vs.toArray ep) :: rest))
    (T : TopX mean mg mb h₀) (hk : sc.kind = .function) (hxd : x ≠ dx) (hld : l ≠ dx) (hrest : ∀ p ∈ rest, p.1 ≠ dx)
    (hi : IntsAre vs cs) (hfit : cs.length < 2 ^ 20) (hi0 : 0 ≤ i)
include B F X N T hk hxd hld hrest hi hfit hi0
theorem skip_row_s (hd : dp + 2 < recursionLimit) (hu : un + 16 < cLine)
    (hret : ∀ (t1 : Tok) (h' : Heap) (tk' : Nat), Fr h₀ L h' m → News h₀ L h' ((x, instObj 265 dx) :: (dx, dictOf (tokEs w.params k1 k2 k3 l (skipRow cs i) o t1 t2) 3) :: (l, listOf vs.toArray ep) :: rest) → Q .none { s with heap := h', toks := tk' }) :
    wpC w (ktrTop dp un gd cn sc L a ccd cl outer) 192 [.ref x] Q E s := by
  k_with "state" => exact ⟨by omega, (skipRow_step (by assumption) (by assumption)).trans (by assumption)⟩
  k_with "measure" => (have hlt9 := codeAt_lt (cs := cs) (by assumption); omega)
  k_with "exec While Constant" => k_while (fun (_ : List Int) i' => 0 ≤ i' ∧ skipRow cs i' = skipRow cs i) (fun (_ : List Int) i' => (cs.length + 1 - i').toNat) "self.at"
  refine wpAny_call ?_
  k_dflt cell_enter
  k_steps
  all_goals (refine retM hret ?_ (by assumption) (by assumption); exact skipRow_end (cs := cs) (by assumption) (by first | exact Or.inl (by assumption) | exact Or.inr (by assumption)))
end
end
end
section -- W3
open PySem PySem.W PyProof.Rows
set_option maxHeartbeats 4000000

theorem set_W3_0 : True := by
  k_with_none
  k_with "my is_list" => first | (exact News.isList (by k_asm) (by assumption)) | fail
  k_with "my k_all" => first | (assumption) | fail
  k_with "my eval Call" => first | (k_here; k_dflt (refine Call_ ?_)) | fail
  k_with "my eval Call Attribute" => first | (k_here; k_dflt (refine MethodCall_ ?_)) | fail
  k_with "my call ref" => first | (k_here; k_dflt (first | ((with_reducible show wpAny _ _ (PySem.call (Value.ref 60) _ _) _ _ _); refine' is_layout_s (by k_asm) (by k_asm) (by k_asm) (by k_asm) (by k_asm) (by first | exact rfl | assumption) (by ktr_room) (by ktr_units) ?_) | ((with_reducible show wpAny _ _ (PySem.call (Value.ref 67) _ _) _ _ _); refine' is_digit_s (by k_asm) (by k_asm) (by k_asm) (by k_asm) (by k_asm) (by first | exact rfl | assumption) (by ktr_room) (by ktr_units) ?_) | ((with_reducible show wpAny _ _ (PySem.call (Value.ref 74) _ _) _ _ _); refine' is_small_s (by k_asm) (by k_asm) (by k_asm) (by k_asm) (by k_asm) (by first | exact rfl | assumption) (by ktr_room) (by ktr_units) ?_) | ((with_reducible show wpAny _ _ (PySem.call (Value.ref 81) _ _) _ _ _); refine' is_capital_s (by k_asm) (by k_asm) (by k_asm) (by k_asm) (by k_asm) (by first | exact rfl | assumption) (by ktr_room) (by ktr_units) ?_) | ((with_reducible show wpAny _ _ (PySem.call (Value.ref 95) _ _) _ _ _); refine' is_symbol_s (by k_asm) (by k_asm) (by k_asm) (by k_asm) (by k_asm) (by first | exact rfl | assumption) (by ktr_room) (by ktr_units) ?_) | ((with_reducible show wpAny _ _ (PySem.call (Value.ref 102) _ _) _ _ _); refine' is_quotable_s (by k_asm) (by k_asm) (by k_asm) (by k_asm) (by k_asm) (by first | exact rfl | assumption) (by ktr_room) (by ktr_units) ?_) | ((with_reducible show wpAny _ _ (PySem.call (Value.ref 88) _ _) _ _ _); refine' is_alnum_s (by k_asm) (by k_asm) (by k_asm) (by k_asm) (by k_asm) (by first | exact rfl | assumption) (by ktr_room) (by ktr_units) ?_)); k_whole; intro h' tk' F' N'; (try k_sweep)) | fail
  k_with "my call ref" => first | (k_here; k_dflt (first | ((with_reducible show wpAny _ _ (PySem.call (Value.ref 109) _ _) _ _ _); refine' digit_value_s (by k_asm) (by k_asm) (by k_asm) (by k_asm) (by k_asm) (by first | exact rfl | assumption) (by ktr_room) (by ktr_units) ?_) | ((with_reducible show wpAny _ _ (PySem.call (Value.ref 128) _ _) _ _ _); refine' numeral_base_s (by k_asm) (by k_asm) (by k_asm) (by k_asm) (by k_asm) (by first | exact rfl | assumption) (by ktr_room) (by ktr_units) ?_)); k_whole; intro t' h' tk' F' N'; (try k_sweep)) | fail
  k_with "my call ref" => first | (k_here; (with_reducible show wpAny _ _ (PySem.call (Value.ref 150) _ _) _ _ _); k_dflt (refine' code_at_s (by k_asm) (by k_asm) (by k_asm) (by k_asm) (by k_asm) (by first | exact rfl | assumption) (by k_dflt k_mem) (by k_dflt k_mem) (by k_dflt k_mem) (by assumption) (by assumption) (by omega) (by ktr_room) (by ktr_units) ?_); k_whole; intro t' h' tk' F' N'; (try k_sweep)) | fail
  k_with "my call ref" => first | (k_here; (with_reducible show wpAny _ _ (PySem.call (Value.ref 220) _ _) _ _ _); k_dflt (refine' ends_at_s (by k_asm) (by k_asm) (by k_asm) (by k_asm) (by k_asm) (by first | exact rfl | assumption) (by k_dflt k_mem) (by k_dflt k_mem) (by k_dflt k_mem) (by assumption) (by assumption) (by omega) (by ktr_room) (by ktr_units) ?_); k_whole; intro h' tk' F' N'; (try k_sweep)) | fail
  trivial
noncomputable def placeGo (cs : List Int) (at_ row col idx : Int) : Int × Int :=
  if idx < at_ ∧ idx < cs.length then
    if cs.getD idx.toNat 0 = 10 then placeGo cs at_ (row + 1) 1 (idx + 1) else placeGo cs at_ row (col + 1) (idx + 1)
  else (row, col)
termination_by (cs.length - idx).toNat
decreasing_by all_goals omega
noncomputable def place (cs : List Int) (at_ : Int) : Int × Int := placeGo cs at_ 1 1 0
theorem placeGo_nl {cs : List Int} {j r c d : Int} {z : Int × Int} (h1 : d < j) (h2 : d < cs.length) (h3 : cs.getD d.toNat 0 = 10) (e : placeGo cs j r c d = z) : placeGo cs j (r + 1) 1 (d + 1) = z := by
  rw [← e, placeGo.eq_1 cs j r c d, if_pos ⟨h1, h2⟩, if_pos h3]
theorem placeGo_other {cs : List Int} {j r c d : Int} {z : Int × Int} (h1 : d < j) (h2 : d < cs.length) (h3 : cs.getD d.toNat 0 ≠ 10) (e : placeGo cs j r c d = z) : placeGo cs j r (c + 1) (d + 1) = z := by
  rw [← e, placeGo.eq_1 cs j r c d, if_pos ⟨h1, h2⟩, if_neg h3]
theorem placeGo_end {cs : List Int} {j r c d : Int} {z : Int × Int} (e : placeGo cs j r c d = z) (h : ¬ d < j ∨ ¬ d < cs.length) : (r, c) = z := by
  rw [← e, placeGo.eq_1 cs j r c d, if_neg (by omega)]
abbrev pairObj (r c : Int) (ta tb : Tok) : Obj := { cls := .type "tuple", data := .seq #[.int r ta, .int c tb] }
section
variable {w : World} {mean : ExcName → Option Value} {mg mb : Str → Option Value}
    {dp un : Nat} {gd : Option (List Code)} {cn : Str} {sc : Scope} {a : Addr} {ccd : Value} {cl : List (Str × Addr)} {outer : List Env} {A₀ : Around} {base h₀ : Heap} {L : Addr} {m : Str → Option Value} {s : Shared}
    {news rest : List (Addr × Obj)} {Q E : Value → Shared → Prop} {x dx l : Addr} {vs : List Value} {cs : List Int} {ep : Nat} {k1 k2 k3 t1 t2 : Tok} {i o : Int}

theorem retP {r c : Int} {z : Int × Int} {q : Addr} {ta tb : Tok} {h' : Heap} {tk' : Nat} (hret : ∀ (q : Addr) (ta tb : Tok) (h' : Heap) (tk' : Nat), Fr h₀ L h' m → News h₀ L h' ((q, pairObj z.1 z.2 ta tb) :: news) → (∀ p ∈ news, p.1 < q) → Q (.ref q) { s with heap := h', toks := tk' })
    (e : (r, c) = z) (F : Fr h₀ L h' m) (N : News h₀ L h' ((q, pairObj r c ta tb) :: news)) (l1 : ∀ p ∈ news, p.1 < q) : Q (.ref q) { s with heap := h', toks := tk' } := by
  subst e; exact hret _ _ _ _ _ F N l1
section
variable (B : Below A₀ base outer h₀) (F : Fr h₀ L s.heap m) (X : (frg.heap_1 w.params).In h₀) (N : News h₀ L s.heap news)
    (T : TopX mean mg mb h₀) (hk : sc.kind = .function)
    (hx : (x, instObj 265 dx) ∈ news) (hdx : (dx, dictOf (tokEs w.params k1 k2 k3 l i o t1 t2) 3) ∈ news) (hl : (l, listOf vs.toArray ep) ∈ news) (hi : IntsAre vs cs) (hfit : cs.length < 2 ^ 20)
include B F X N T hk hx hdx hl hi hfit

theorem place_s {j : Int} {tk : Tok} (hd : dp + 1 < recursionLimit) (hu : un + 8 < cLine)
    (hret : ∀ (q : Addr) (ta tb : Tok) (h' : Heap) (tk' : Nat), Fr h₀ L h' m → News h₀ L h' ((q, pairObj (place cs j).1 (place cs j).2 ta tb) :: news) → (∀ p ∈ news, p.1 < q) → Q (.ref q) { s with heap := h', toks := tk' }) :
    wpC w (ktrTop dp un gd cn sc L a ccd cl outer) 157 [.ref x, .int j tk] Q E s := by
  k_with "state" => first | exact ⟨Int.le_refl 0, rfl⟩ | exact ⟨by omega, placeGo_nl (by assumption) (by assumption) (by assumption) (by assumption)⟩ | exact ⟨by omega, placeGo_other (by assumption) (by assumption) (by assumption) (by assumption)⟩
  k_with "measure" => omega
  k_with "exec While BoolOp" => k_while (fun (_ : List Int) r c d => 0 ≤ d ∧ placeGo cs j r c d = place cs j) (fun (_ : List Int) r c d => (cs.length + 1 - d).toNat) "row" "column" "index"
  refine wpAny_call ?_
  k_dflt cell_enter
  k_steps

  all_goals (refine retP hret (placeGo_end (by assumption) (by first | exact Or.inl (by assumption) | exact Or.inr (by assumption))) (by assumption) (by assumption) (by assumption))
end
end
end
section -- W4
open PySem PySem.W PyProof.Rows
set_option maxHeartbeats 4000000

theorem set_W4_0 : True := by
  k_with_none
  k_with "my is_list" => first | (exact News.isList (by k_asm) (by assumption)) | fail
  trivial
noncomputable def codesText (ns : List Int) : Str := PySem.Txt.join (PySem.Str.ofString "") (ns.map chr1)
theorem set_W4_1 : True := by
  k_with "my eval ListComp" => first | (k_here; k_dflt (refine LCg.ListComp_U (F₀ := by k_asm) (by with_unfolding_all rfl) (by decide) (by rfl) (by decide) (by rfl) ?_)) | fail
  k_with "my CompSrc" => first | (k_here; k_dflt (refine LCg.CompSrc.ledger (by rfl) (by k_asm) (by k_asm) (by assumption) (by size_fits) ?_; intro g'; (refine' kct_list chr1 (by assumption) (fun k' t' I' oI' C' oC' D' m' ys' h' tk' E' hk' hC' hx' F' N' off' ne' => ?_) ?_); (all_goals (try ((show KPfMark → _); intro hMark'))))) | fail
  trivial
section
variable {w : World} {mean : ExcName → Option Value} {mg mb : Str → Option Value}
    {dp un : Nat} {gd : Option (List Code)} {cn : Str} {sc : Scope} {a : Addr} {ccd : Value} {cl : List (Str × Addr)} {outer : List Env} {A₀ : Around} {base h₀ : Heap} {L : Addr} {m : Str → Option Value} {s : Shared}
    {news rest : List (Addr × Obj)} {Q E : Value → Shared → Prop} {x dx l : Addr} {vs : List Value} {cs : List Int} {ep : Nat} {k1 k2 k3 t1 t2 : Tok} {i o : Int}
section
variable (B : Below A₀ base outer h₀) (F : Fr h₀ L s.heap m) (X : (frg.heap_1 w.params).In h₀) (N : News h₀ L s.heap news)
    (T : TopX mean mg mb h₀) (hk : sc.kind = .function)
    (hl : (l, listOf vs.toArray ep) ∈ news) (hi : IntsAre vs cs) (hfit : cs.length < 2 ^ 20) (hrng : ∀ c ∈ cs, 0 ≤ c ∧ c ≤ 1114111)
include B F X N T hk hl hi hfit hrng
theorem codes_text_s (hd : dp + 2 < recursionLimit) (hu : un + 16 < cLine)
    (hret : ∀ (ta : Tok) (h' : Heap) (tk' : Nat), Fr h₀ L h' m → News h₀ L h' news → Q (.str (codesText cs) ta) { s with heap := h', toks := tk' }) :
    wpC w (ktrTop dp un gd cn sc L a ccd cl outer) 114 [.ref l] Q E s := by
  refine wpAny_call ?_
  k_dflt cell_enter
  k_steps

  · have hb9 := hrng _ (by assumption)
    refine chr_of_range hb9.1 hb9.2 ?_
    k_steps
    exact LCg.CompEnd.intro (by assumption) (by assumption) news (fun p hp => hp) (by assumption) (.inr ⟨_, hl, rfl, _, rfl⟩) ⟨rfl, _, rfl⟩
  · exact hret _ _ _ (by assumption) (cb_drop (by assumption) (fun p hp => List.Mem.tail _ hp))
end
end
end
section -- W5
open PySem PySem.W PyProof.Rows
set_option maxHeartbeats 4000000

theorem set_W5_0 : True := by
  k_with_none
  k_with "my is_list" => first | (exact News.isList (by k_asm) (by assumption)) | fail
  k_with "my k_all" => first | (assumption) | fail
  k_with "my eval Call" => first | (k_here; k_dflt (refine Call_ ?_)) | fail
  k_with "my eval Call Attribute" => first | (k_here; k_dflt (refine MethodCall_ ?_)) | fail
  k_with "my call ref" => first | (k_here; k_dflt (first | ((with_reducible show wpAny _ _ (PySem.call (Value.ref 60) _ _) _ _ _); refine' is_layout_s (by k_asm) (by k_asm) (by k_asm) (by k_asm) (by k_asm) (by first | exact rfl | assumption) (by ktr_room) (by ktr_units) ?_) | ((with_reducible show wpAny _ _ (PySem.call (Value.ref 67) _ _) _ _ _); refine' is_digit_s (by k_asm) (by k_asm) (by k_asm) (by k_asm) (by k_asm) (by first | exact rfl | assumption) (by ktr_room) (by ktr_units) ?_) | ((with_reducible show wpAny _ _ (PySem.call (Value.ref 74) _ _) _ _ _); refine' is_small_s (by k_asm) (by k_asm) (by k_asm) (by k_asm) (by k_asm) (by first | exact rfl | assumption) (by ktr_room) (by ktr_units) ?_) | ((with_reducible show wpAny _ _ (PySem.call (Value.ref 81) _ _) _ _ _); refine' is_capital_s (by k_asm) (by k_asm) (by k_asm) (by k_asm) (by k_asm) (by first | exact rfl | assumption) (by ktr_room) (by ktr_units) ?_) | ((with_reducible show wpAny _ _ (PySem.call (Value.ref 95) _ _) _ _ _); refine' is_symbol_s (by k_asm) (by k_asm) (by k_asm) (by k_asm) (by k_asm) (by first | exact rfl | assumption) (by ktr_room) (by ktr_units) ?_) | ((with_reducible show wpAny _ _ (PySem.call (Value.ref 102) _ _) _ _ _); refine' is_quotable_s (by k_asm) (by k_asm) (by k_asm) (by k_asm) (by k_asm) (by first | exact rfl | assumption) (by ktr_room) (by ktr_units) ?_) | ((with_reducible show wpAny _ _ (PySem.call (Value.ref 88) _ _) _ _ _); refine' is_alnum_s (by k_asm) (by k_asm) (by k_asm) (by k_asm) (by k_asm) (by first | exact rfl | assumption) (by ktr_room) (by ktr_units) ?_)); k_whole; intro h' tk' F' N'; (try k_sweep)) | fail
  k_with "my call ref" => first | (k_here; k_dflt (first | ((with_reducible show wpAny _ _ (PySem.call (Value.ref 109) _ _) _ _ _); refine' digit_value_s (by k_asm) (by k_asm) (by k_asm) (by k_asm) (by k_asm) (by first | exact rfl | assumption) (by ktr_room) (by ktr_units) ?_) | ((with_reducible show wpAny _ _ (PySem.call (Value.ref 128) _ _) _ _ _); refine' numeral_base_s (by k_asm) (by k_asm) (by k_asm) (by k_asm) (by k_asm) (by first | exact rfl | assumption) (by ktr_room) (by ktr_units) ?_)); k_whole; intro t' h' tk' F' N'; (try k_sweep)) | fail
  k_with "my call ref" => first | (k_here; (with_reducible show wpAny _ _ (PySem.call (Value.ref 150) _ _) _ _ _); k_dflt (refine' code_at_s (by k_asm) (by k_asm) (by k_asm) (by k_asm) (by k_asm) (by first | exact rfl | assumption) (by k_dflt k_mem) (by k_dflt k_mem) (by k_dflt k_mem) (by assumption) (by assumption) (by omega) (by ktr_room) (by ktr_units) ?_); k_whole; intro t' h' tk' F' N'; (try k_sweep)) | fail
  k_with "my call ref" => first | (k_here; (with_reducible show wpAny _ _ (PySem.call (Value.ref 220) _ _) _ _ _); k_dflt (refine' ends_at_s (by k_asm) (by k_asm) (by k_asm) (by k_asm) (by k_asm) (by first | exact rfl | assumption) (by k_dflt k_mem) (by k_dflt k_mem) (by k_dflt k_mem) (by assumption) (by assumption) (by omega) (by ktr_room) (by ktr_units) ?_); k_whole; intro h' tk' F' N'; (try k_sweep)) | fail
  k_with "my call ref" => first | (k_here; (with_reducible show wpAny _ _ (PySem.call (Value.ref 114) _ _) _ _ _); k_dflt (refine' codes_text_s (by k_asm) (by k_asm) (by k_asm) (by k_asm) (by k_asm) (by first | exact rfl | assumption) (by k_dflt k_mem) (by l_ints) (by k_extra "len") (by k_extra "rng") (by ktr_room) (by ktr_units) ?_); k_whole; intro t' h' tk' F' N'; (try k_sweep)) | fail
  trivial
noncomputable def scanEnd (p : Int → Bool) (cs : List Int) (i : Int) : Int :=
  if i < cs.length ∧ p (codeAt cs i) = true then scanEnd p cs (i + 1) else i
termination_by (cs.length - i).toNat
decreasing_by omega
noncomputable def sliceC (cs : List Int) (i e : Int) : List Int := List.take (min e.toNat cs.length - i.toNat) (List.drop i.toNat cs)
theorem codeAt_out {cs : List Int} {i : Int} (h : ¬ i < cs.length) : codeAt cs i = -1 := by unfold codeAt; rw [if_pos (by omega)]
theorem scan_step {p : Int → Bool} (hp : p (-1) = false) {cs : List Int} {i r : Int} (h : p (codeAt cs i) = true) (e : scanEnd p cs i = r) : scanEnd p cs (i + 1) = r := by
  by_cases hl : i < cs.length
  · rw [← e, scanEnd.eq_1 p cs i, if_pos ⟨hl, h⟩]
  · rw [codeAt_out hl, hp] at h; cases h
theorem scan_stop {p : Int → Bool} {cs : List Int} {i r : Int} (e : scanEnd p cs i = r) (h : p (codeAt cs i) = false) : i = r := by
  rw [← e, scanEnd.eq_1 p cs i, if_neg (by simp [h])]
theorem scan_lt {p : Int → Bool} (hp : p (-1) = false) {cs : List Int} {i : Int} (h : p (codeAt cs i) = true) : i < cs.length := by
  by_cases hl : i < cs.length
  · exact hl
  · rw [codeAt_out hl, hp] at h; cases h
theorem scan_ge (p : Int → Bool) (cs : List Int) (i : Int) : i ≤ scanEnd p cs i := by
  fun_induction scanEnd p cs i <;> omega
theorem scan_in {p : Int → Bool} {cs : List Int} {i : Int} : ∀ j, i ≤ j → j < scanEnd p cs i → p (codeAt cs j) = true ∧ j < cs.length := by
  fun_induction scanEnd p cs i with
  | case1 i h ih =>
    intro j h1 h2
    by_cases e : j = i
    · subst e; exact ⟨h.2, h.1⟩
    · exact ih j (by omega) h2
  | case2 i h => intro j h1 h2; omega
theorem scan_rng0 {p : Int → Bool} (hp : ∀ c, p c = true → 0 ≤ c) {cs : List Int} {i e : Int} (h0 : 0 ≤ i) (he : e = scanEnd p cs i) : ∀ c ∈ sliceC cs i e, 0 ≤ c ∧ c ≤ 1114111 := by
  intro c hc
  obtain ⟨k, hk, rfl⟩ := List.mem_iff_getElem.mp hc
  unfold sliceC at hk ⊢
  obtain ⟨b1, b2⟩ := slice_bd hk
  rw [List.getElem_take, List.getElem_drop]
  obtain ⟨q, hq⟩ := scan_in (p := p) (cs := cs) (i := i) ((i.toNat + k : Nat) : Int) (by clear hk hc; omega) (by clear hk hc; omega)
  have hc : codeAt cs ((i.toNat + k : Nat) : Int) = cs[i.toNat + k]'b2 ∨ codeAt cs ((i.toNat + k : Nat) : Int) = -2 := by
    unfold codeAt
    rw [if_neg (Int.not_le.mpr (Int.ofNat_lt.mpr b2))]
    split
    · exact .inr rfl
    · left; rw [Int.toNat_natCast, List.getD_eq_getElem?_getD, List.getElem?_eq_getElem b2]; rfl
  rcases hc with hc | hc
  · rw [← hc]; exact ⟨hp _ q, codeAt_le cs _⟩
  · exact absurd (hp _ q) (by rw [hc]; decide)
theorem scan_rng {p : Int → Bool} (hp : ∀ c, p c = true → 0 ≤ c) {cs : List Int} {i e : Int} (h0 : 0 ≤ i) (_hie : i ≤ e) (h : scanEnd p cs e = scanEnd p cs i) (hx : p (codeAt cs e) = false) : ∀ c ∈ sliceC cs i e, 0 ≤ c ∧ c ≤ 1114111 := scan_rng0 hp h0 (scan_stop h hx)
theorem alnum_nn : ∀ c, isAlnum c = true → 0 ≤ c := by intro c h; simp [isAlnum, isSmall, isCapital, isDigit] at h; omega
theorem symbol_nn : ∀ c, isSymbol c = true → 0 ≤ c := by intro c h; simp [isSymbol] at h; omega
theorem alnum_m1 : isAlnum (-1) = false := by decide
theorem symbol_m1 : isSymbol (-1) = false := by simp [isSymbol]
section
variable {w : World} {mean : ExcName → Option Value} {mg mb : Str → Option Value}
    {dp un : Nat} {gd : Option (List Code)} {cn : Str} {sc : Scope} {a : Addr} {ccd : Value} {cl : List (Str × Addr)} {outer : List Env} {A₀ : Around} {base h₀ : Heap} {L : Addr} {m : Str → Option Value} {s : Shared}
    {news rest : List (Addr × Obj)} {Q E : Value → Shared → Prop} {x dx l : Addr} {vs : List Value} {cs : List Int} {ep : Nat} {k1 k2 k3 t1 t2 : Tok} {i o : Int}

theorem retMS {j j' : Int} {v v' : Str} {t1 ta : Tok} {h' : Heap} {tk' : Nat} (hret : ∀ (t1 ta : Tok) (h' : Heap) (tk' : Nat), Fr h₀ L h' m → News h₀ L h' ((x, instObj 265 dx) :: (dx, dictOf (tokEs w.params k1 k2 k3 l j o t1 t2) 3) :: (l, listOf vs.toArray ep) :: rest) → Q (.str v ta) { s with heap := h', toks := tk' }) (e : j' = j) (e2 : v' = v)
    (F : Fr h₀ L h' m) (N : News h₀ L h' ((x, instObj 265 dx) :: (dx, dictOf (tokEs w.params k1 k2 k3 l j' o t1 t2) 3) :: (l, listOf vs.toArray ep) :: rest)) : Q (.str v' ta) { s with heap := h', toks := tk' } := by
  subst e; subst e2; exact hret _ _ _ _ F N
section
variable (B : Below A₀ base outer h₀) (F : Fr h₀ L s.heap m) (X : (frg.heap_1 w.params).In h₀)
    (N : News h₀ L s.heap ((x, instObj 265 dx) :: (dx, dictOf (tokEs w.params k1 k2 k3 l i o t1 t2) 3) :: (l, listOf vs.toArray ep) :: rest))
    (T : TopX mean mg mb h₀) (hk : sc.kind = .function) (hxd : x ≠ dx) (hld : l ≠ dx) (hrest : ∀ p ∈ rest, p.1 ≠ dx)
    (hi : IntsAre vs cs) (hfit : cs.length < 2 ^ 20) (hi0 : 0 ≤ i)
include B F X N T hk hxd hld hrest hi hfit hi0

theorem word_s {t9 : Tok} (hd : dp + 4 < recursionLimit) (hu : un + 32 < cLine)
    (hret : ∀ (t1 ta : Tok) (h' : Heap) (tk' : Nat), Fr h₀ L h' m → News h₀ L h' ((x, instObj 265 dx) :: (dx, dictOf (tokEs w.params k1 k2 k3 l (scanEnd isAlnum cs i) o t1 t2) 3) :: (l, listOf vs.toArray ep) :: rest) → Q (.str (codesText (sliceC cs i (scanEnd isAlnum cs i))) ta) { s with heap := h', toks := tk' }) :
    wpC w (ktrTop dp un gd cn sc L a ccd cl outer) 206 [.ref x, .int i t9] Q E s := by
  k_with "state" => first | exact ⟨Int.le_refl _, rfl⟩ | exact ⟨by omega, scan_step alnum_m1 (by assumption) (by assumption)⟩
  k_with "measure" => (have hlt9 := scan_lt (cs := cs) alnum_m1 (by assumption); omega)
  k_with "len" => omega
  k_with "rng" => exact scan_rng alnum_nn hi0 (by assumption) (by assumption) (by assumption)
  k_with "exec While Call" => k_while (fun (_ : List Int) e => i ≤ e ∧ scanEnd isAlnum cs e = scanEnd isAlnum cs i) (fun (_ : List Int) e => (cs.length + 1 - e).toNat) "end"
  refine wpAny_call ?_
  k_dflt cell_enter
  k_steps

  all_goals (have he9 := scan_stop (p := isAlnum) (cs := cs) (by assumption) (by assumption))
  all_goals (refine retMS hret he9 (by rw [← he9]; rfl) (by assumption) (by first | assumption | exact cb_drop (by assumption) (fun _ hp => List.Mem.tail _ hp)))

end
end
end
section -- W6
open PySem PySem.W PyProof.Rows PySem.Calls
set_option maxHeartbeats 4000000

abbrev faultCls : Obj := excClassObj (Str.ofString "SyntaxFault") (Str.ofString "SyntaxFault") 51 50 [.ref 31] [.ref 31, .type "Exception", .type "BaseException", .type "object"] true [] [] false none none
  (some (.ref 35)) none (some (.str (Str.ofString "SyntaxFault") 216)) (some (.str (Str.ofString "SyntaxFault") 224)) (some (.bool true)) "Exception.__new__"
abbrev excB : List Value := [.type "Exception", .type "BaseException", .type "object"]
section
variable {w : World} {h : Heap} (X : (frg.heap_1 w.params).In h)
include X
theorem set_W6_0 : True := by
  k_with_none
  trivial
theorem fault_cls : h.get? 51 = some faultCls := X 51 _ (by k_is)
theorem fault_tail : OwnTail h excB [.ref 31, .type "Exception", .type "BaseException", .type "object"] :=
  tail_of_in X (by kernel_rfl)
end
abbrev excObj (t : Addr) (d : Option Addr) : Obj := { cls := .ref 51, dict := d, data := .fields #[.ref t, .none, .none, .none, .bool false, .none] }
abbrev tupObj (vs : List Value) : Obj := { cls := .type "tuple", data := .seq vs.toArray }

section
variable {prog : Program} {w : World} {A : Around} {E : Value → Shared → Prop} {h : Heap} {g : Array GenState} {d : Drawn} {tk : Nat} {os : OsState}

theorem fault_type_call {rest : List Value} {Q : Fin → Shared → Prop} (X : (frg.heap_1 w.params).In h) (hrest : rest.length ≤ sizeLine)
    (hq : wpAny (model prog w) A (call (.ref 48) (.ref (h.objs.size + 1) :: rest)) (fun r s' => r = .none ∧ Q (.done (.ret (.ref (h.objs.size + 1)))) s') E
      ⟨(h.push (tupObj rest)).push (excObj h.objs.size none), g, d, tk, os⟩) :
    wpAny (model prog w) A (Builtin.«type.__call__» ⟨.ref 51 :: rest, []⟩) Q E ⟨h, g, d, tk, os⟩ := by
  have hC := fault_cls X
  have T := fault_tail X
  have FB := PySem.F.excBase_Exception
  repeat (first | with_reducible refine wpAny_loadPart_at hC ?_ | with_reducible refine wpAny_madeBy_exc hC ?_ | wp_step)
  refine codeAny_call_builtin_code (Code.quiet_builtin _ FB.quiet) (wpAny_check_new_subT FB T hC ?_)
  refine codeAny_exc_new_subT FB T hC ?_ hrest
  have kp : ∀ b o, h.get? b = some o → ((h.push (tupObj rest)).push (excObj h.objs.size none)).get? b = some o := fun b o e => Heap.get?_push_of_some _ (Heap.get?_push_of_some _ e)
  have X' : (frg.heap_1 w.params).In ((h.push (tupObj rest)).push (excObj h.objs.size none)) := Frag.In.keeps X kp
  have hC' := fault_cls X'
  have he : ((h.push (tupObj rest)).push (excObj h.objs.size none)).get? (h.objs.size + 1) = some (excObj h.objs.size none) := by heap_get
  have hI : InstAt ((h.push (tupObj rest)).push (excObj h.objs.size none)) (h.objs.size + 1) (excObj h.objs.size none) 51 none := ⟨he, rfl, rfl, trivial⟩
  have L1 : Looks (model prog w) ((h.push (tupObj rest)).push (excObj h.objs.size none)) (isInstance (.ref (h.objs.size + 1)) (.ref 51)) true := hI.type.andThen (looks_mroIn X' (by k_is))
  show wpAny _ _ _ _ _ _
  refine wpAny_bind (L1.at ?_)
  simp only [Bool.not_true, Bool.false_eq_true, if_false]
  refine wpAny_bind (wpAny_holding (special_fn (f := 48) (s := ⟨(h.push (tupObj rest)).push (excObj h.objs.size none), g, d, tk, os⟩) X' hI (by k_is) (by k_is) (wpAny_mono hq (fun r s' hr => ?_) fun _ _ x => x)))
  obtain ⟨rfl, hQ⟩ := hr
  wp_walk
  exact hQ

theorem fault_call {rest : List Value} {Q : Value → Shared → Prop} (X : (frg.heap_1 w.params).In h) (hrest : rest.length ≤ sizeLine)
    (hq : wpAny (model prog w) (A.under (.builtin "type.__call__" ⟨.ref 51 :: rest, []⟩)) (call (.ref 48) (.ref (h.objs.size + 1) :: rest)) (fun r s' => r = .none ∧ Q (.ref (h.objs.size + 1)) s') E
      ⟨(h.push (tupObj rest)).push (excObj h.objs.size none), g, d, tk, os⟩) :
    wpAny (model prog w) A (call (.ref 51) rest) Q E ⟨h, g, d, tk, os⟩ := by
  have hC := fault_cls X
  have f1 := tc_lookup
  have f2 := tc_bind (.ref 51)
  have hT : (⟨h, g, d, tk, os⟩ : Shared).TypeIs (.ref 51) "type" := ⟨_, hC, rfl⟩
  refine wpAny_call (codeAny_of_tree ?_)
  show wpAny _ _ (callAny (.ref 51) _) _ _ _
  repeat (any_goals (first | assumption | with_reducible refine wpAny_loadPart_at hC ?_ | wp_step))
  refine ⟨rfl, codeAny_call_builtin_at (Code.quiet_builtin _ (by decide +kernel)) entry_typeCall (wpAny_check_type_call_sub hC (fault_type_call X hrest ?_))⟩
  exact hq
end
section
variable {prog : Program} {w : World} {A : Around} {E : Value → Shared → Prop} {s : Shared} {h₀ : Heap} {L e : Addr} {m : Str → Option Value} {news : List (Addr × Obj)} {R : Result → Shared → Prop} {ox : Obj} {od : Option Obj}
theorem fault_make {rest : List Value} {Q : Value → Shared → Prop} (F : Fr h₀ L s.heap m) (X : (frg.heap_1 w.params).In h₀) (N : News h₀ L s.heap news) (hrest : rest.length ≤ sizeLine)
    (hq : ∀ e t h', Fr h₀ L h' m → News h₀ L h' ((e, excObj t none) :: (t, tupObj rest) :: news) → (∀ p ∈ news, p.1 < t) → t < e → (∀ p ∈ news, p.1 < e) →
      wpAny (model prog w) (A.under (.builtin "type.__call__" ⟨.ref 51 :: rest, []⟩)) (call (.ref 48) (.ref e :: rest)) (fun r s' => r = .none ∧ Q (.ref e) s') E { s with heap := h' }) :
    wpAny (model prog w) A (call (.ref 51) rest) Q E s := by
  obtain ⟨hh, g, d, tk, os⟩ := s
  have N' := (N.push F (tupObj rest)).push (F.push _) (excObj hh.objs.size none)
  rw [Heap.size_push] at N'
  exact fault_call (Frag.In.keeps X F.keep) hrest (hq _ _ _ ((F.push _).push _) N' (fun p hp => Heap.lt_size (N p hp).1) (Nat.lt_succ_self _) (fun p hp => Nat.lt_succ_of_lt (Heap.lt_size (N p hp).1)))

theorem fault_refuse (self : Value) : refuseLoop self "__setattr__" [.ref 51, .ref 31, .type "Exception", .type "BaseException", .type "object"] = pure () := by
  rw [refuseLoop_ref, refuseLoop_ref]
  kernel_rfl

theorem fault_osa {name : Str} {tk : Tok} {v : Value} (X : (frg.heap_1 w.params).In s.heap) (I : InstAt s.heap e ox 51 od) (ha : findIn (frg.heap_1 w.params) (.ref 51) name = some none)
    (h : ∀ b, wpAny (model prog w) A.in1 (Builtin.ObjectAttr.storeInOwnDict (.ref e) (.ref 51) (.str name tk) name v b)
      (fun fin s' => match fin with | .done f => R (.ok f) s' | .again c' => c'.quiet = true ∧ codeAny (model prog w) A c' R s') (fun e s' => R (.error e) s') s) :
    codeAny (model prog w) A (.call (.builtin "object.__setattr__") ⟨[.ref e, .str name tk, v], []⟩) R s := by
  have SF := PySem.F.store_object
  have hC := fault_cls X
  have hc : clsIn (frg.heap_1 w.params) 51 = some { name := (Str.ofString "SyntaxFault"), bases := [.ref 31], mro := [.ref 51, .ref 31, .type "Exception", .type "BaseException", .type "object"], ns := 50, qualname := (Str.ofString "SyntaxFault") } := by k_is
  have sub : Looks (model prog w) s.heap (isInstance (.ref e) (.type "object")) true := I.type.andThen (looks_mroIn X (by k_is))
  refine codeAny_call_builtin SF.slot.plain SF.entry (@check_slot (model prog w) _ _ s "object.__setattr__" "object" "__setattr__" (.ref e) [.str name tk, v] [] _ SF.kind SF.split sub (SF.args (.ref e) (.str name tk) v) ?_)
  have hm : Looks (model prog w) s.heap (mroOf (.ref 51)) [.ref 51, .ref 31, .type "Exception", .type "BaseException", .type "object"] := (looks_clsIn X hc).andThen .now
  rw [osa_eq, refuse_eq]
  refine wpAny_bind (wpAny_bind (I.type.here (wpAny_bind (hm.here ?_))))
  rw [fault_refuse]
  refine wpAny_pure (wpAny_bind (I.type.here (wpAny_bind ((looks_findIn X ha).here (wpAny_bind ((Looks.now (a := none)).here ?_))))))
  exact h _

theorem fault_set1 {t : Addr} {name : Str} {v : Value} {pre post : List (Addr × Obj)} {Q : Unit → Shared → Prop} (F : Fr h₀ L s.heap m) (X : (frg.heap_1 w.params).In h₀) (N : News h₀ L s.heap (pre ++ (e, excObj t none) :: post))
    (h1 : ∀ p ∈ pre, p.1 ≠ e) (h2 : ∀ p ∈ post, p.1 ≠ e) (ha : findIn (frg.heap_1 w.params) (.ref 51) name = some none)
    (h : ∀ d h', Fr h₀ L h' m → News h₀ L h' ((d, dictOf [⟨PyData.keyHash w.params name, .str name (s.toks + 1), v⟩] 1) :: (pre ++ (e, excObj t (some d)) :: post)) → (∀ p ∈ pre ++ (e, excObj t none) :: post, p.1 < d) → Q () { s with heap := h', toks := s.toks + 2 }) :
    wpAny (model prog w) A (setAttr (.ref e) name v) Q E s := by
  obtain ⟨hh, g, dr, tk, os⟩ := s
  have X' := Frag.In.keeps X F.keep
  have he : hh.get? e = some (excObj t none) := (N (e, excObj t none) (by simp)).1
  have I : InstAt hh e (excObj t none) 51 none := ⟨he, rfl, rfl, trivial⟩
  have hc : clsIn (frg.heap_1 w.params) 51 = some { name := (Str.ofString "SyntaxFault"), bases := [.ref 31], mro := [.ref 51, .ref 31, .type "Exception", .type "BaseException", .type "object"], ns := 50, qualname := (Str.ofString "SyntaxFault") } := by k_is
  refine set_plain X' I (by k_is) (fault_osa (s := ⟨hh, g, dr, tk + 1, os⟩) X' I ha fun b => ?_)
  unfold Builtin.ObjectAttr.storeInOwnDict Builtin.ObjectAttr.ownDictForStores instanceDict
  refine wpAny_bind (wpAny_pure ?_)
  rw [if_neg (by decide)]
  refine wpAny_bind (wpAny_bind (wpAny_loadPart he (wpAny_bind ((looks_clsIn X' hc).at ?_))))
  rw [if_neg (by decide)]
  dsimp only
  rw [if_neg (by decide)]
  refine wpAny_bind (wpAny_alloc (wpAny_bind (wpAny_update (Heap.get?_push_of_some _ he) ?_)))
  refine wpAny_pure ?_
  have F1 := F.push (dictOf [] 0)
  have N1 := N.push F (dictOf [] 0)
  have hne : ∀ p ∈ pre ++ (e, excObj t none) :: post, p.1 < hh.objs.size := fun p hp => Heap.lt_size (N p hp).1
  obtain ⟨F2, N2⟩ := news_upd (pre := (hh.objs.size, dictOf [] 0) :: pre) (post := post) (o := excObj t none) (o' := excObj t (some hh.objs.size)) (d := e) (f := fun o => { o with dict := some hh.objs.size }) F1 N1
    (fun p hp => by
      rcases List.mem_cons.mp hp with rfl | hp
      · exact Nat.ne_of_gt (Heap.lt_size he)
      · exact h1 p hp) h2 rfl rfl
  obtain ⟨F3, N3⟩ := news_upd (pre := []) (post := pre ++ (e, excObj t (some hh.objs.size)) :: post) (d := hh.objs.size) (o := dictOf [] 0) (o' := dictOf [⟨PyData.keyHash w.params name, .str name (tk + 1), v⟩] 1)
    (f := Obj.putName name (PyData.keyHash w.params name) (.str name (tk + 1)) v) F2 N2 (fun _ hp => nomatch hp)
    (fun p hp => by
      rcases List.mem_append.mp hp with hp | hp
      · exact Nat.ne_of_lt (hne p (List.mem_append_left _ hp))
      · rcases List.mem_cons.mp hp with rfl | hp
        · exact Nat.ne_of_lt (Heap.lt_size he)
        · exact Nat.ne_of_lt (hne p (List.mem_append_right _ (.tail _ hp)))) (by rw [putName_dict]; rfl) rfl
  have D := (N2 (hh.objs.size, dictOf [] 0) (.head _)).1
  have D' := (N3 _ (.head _)).1
  dsimp only
  unfold Builtin.ObjectAttr.storeInDict nsSet
  refine wpAny_bind (wpAny_pure (wpAny_bind (wpAny_bind (wpAny_bind (wpAny_askSetting (wpAny_pure (wpAny_bind (wpAny_mkText (wpAny_bind (wpAny_loadPart D ?_))))))))))
  dsimp only
  rw [aRefKeyMayBeTheName_at, if_neg (by simp)]
  refine wpAny_updatePart D (wpAny_bind (wpAny_lookBehind D' rfl ?_))
  exact wpAny_pure (h _ _ F3 N3 hne)

theorem fault_setN {t d : Addr} {name : Str} {v : Value} {es es' : List DictEntry} {n n' : Nat} {news' : List (Addr × Obj)} {Q : Unit → Shared → Prop} (F : Fr h₀ L s.heap m) (X : (frg.heap_1 w.params).In h₀) (N : News h₀ L s.heap news)
    (hem : (e, excObj t (some d)) ∈ news) (_hdm : (d, dictOf es n) ∈ news) (ha : findIn (frg.heap_1 w.params) (.ref 51) name = some none) (hl : (getL name es).isSome = true)
    (eq : (putL name (PyData.keyHash w.params name) (.str name (s.toks + 1)) v es, putN name es n) = (es', n')) (U : Upd d (dictOf es n) (dictOf es' n') news news') (hz : es'.length ≤ 1000)
    (h : ∀ h', Fr h₀ L h' m → News h₀ L h' news' → Q () { s with heap := h', toks := s.toks + 2 }) :
    wpAny (model prog w) A (setAttr (.ref e) name v) Q E s := by
  obtain ⟨pre, post, rfl, rfl, h1, h2⟩ := U.split
  obtain ⟨e1, e2⟩ := Prod.mk.inj eq
  obtain ⟨hh, g, dr, tk, os⟩ := s
  have X' := Frag.In.keeps X F.keep
  have he : hh.get? e = some (excObj t (some d)) := (N _ hem).1
  have D : hh.get? d = some (dictOf es n) := (N (d, dictOf es n) (by simp)).1
  have I : InstAt hh e (excObj t (some d)) 51 (some (dictOf es n)) := ⟨he, rfl, rfl, D⟩
  have hc : clsIn (frg.heap_1 w.params) 51 = some { name := (Str.ofString "SyntaxFault"), bases := [.ref 31], mro := [.ref 51, .ref 31, .type "Exception", .type "BaseException", .type "object"], ns := 50, qualname := (Str.ofString "SyntaxFault") } := by k_is
  refine set_plain X' I (by k_is) (fault_osa (s := ⟨hh, g, dr, tk + 1, os⟩) X' I ha fun b => ?_)
  unfold Builtin.ObjectAttr.storeInOwnDict Builtin.ObjectAttr.ownDictForStores instanceDict
  refine wpAny_bind (wpAny_pure ?_)
  rw [if_neg (by decide)]
  refine wpAny_bind (wpAny_bind (wpAny_loadPart he (wpAny_bind ((looks_clsIn X' hc).at ?_))))
  rw [if_neg (by decide)]
  dsimp only
  refine wpAny_pure ?_
  obtain ⟨F3, N3⟩ := news_upd (pre := pre) (post := post) (d := d) (o := dictOf es n) (o' := dictOf es' n')
    (f := Obj.putName name (PyData.keyHash w.params name) (.str name (tk + 1)) v) F N h1 h2 (by rw [putName_dict, e1, e2]) rfl
  have D' := (N3 (d, dictOf es' n') (by simp)).1
  dsimp only
  unfold Builtin.ObjectAttr.storeInDict nsSet
  refine wpAny_bind (wpAny_pure (wpAny_bind (wpAny_bind (wpAny_bind (wpAny_askSetting (wpAny_pure (wpAny_bind (wpAny_mkText (wpAny_bind (wpAny_loadPart D ?_))))))))))
  dsimp only
  have hr : (!es.toArray.any (·.key.isStr name) && es.toArray.any (·.refKey)) = false := by
    rw [← Array.any_toList, ← Array.any_toList]
    unfold getL at hl
    split at hl
    · rename_i en he
      rw [List.any_eq_true.mpr ⟨en, List.mem_of_find?_eq_some he, List.find?_some he⟩]; rfl
    · split at hl
      · cases hl
      · rename_i z; rw [Bool.not_eq_true] at z; rw [z, Bool.and_false]
  rw [aRefKeyMayBeTheName_at, hr]
  refine wpAny_updatePart D (wpAny_bind (wpAny_lookBehind D' (pastItsLine_dict (by rw [List.size_toArray, sizeLine_eq]; omega)) ?_))
  exact wpAny_pure (h _ F3 N3)

theorem fault_get {es : List DictEntry} {n : Nat} {name : Str} {v : Value} {expr : Bool} {Q : Value → Shared → Prop} (X : (frg.heap_1 w.params).In s.heap) (I : InstAt s.heap e ox 51 (some (dictOf es n)))
    (hh : hasDictIn (frg.heap_1 w.params) 51 = true) (ha : findIn (frg.heap_1 w.params) (.ref 51) name = some none)
    (hl : getL name es = some (some v)) (hv : handedIn v = true) (h : Q v { s with toks := s.toks + 1 }) :
    wpAny (model prog w) A (getAttr (.ref e) name expr) Q E s := by
  have f1 : findObj (frg.heap_1 w.params) 51 (some (dictOf es n)) name = some (.value v) := findObj_own hh ha rfl hl
  obtain ⟨hp, g, dr, tk, os⟩ := s
  have L0 := I.type (M := model prog w)
  have L1 : Looks (model prog w) hp (typeLookup (.ref 51) "__getattribute__") (some (.builtin "BaseException.__getattribute__")) := looks_findIn X (by k_is)
  have L2 : Looks (model prog w) hp (typeLookup (.ref 51) "__getattr__") none := looks_findIn X (by k_is)
  have L3 := looks_find (M := model prog w) X I f1
  have L4 : Looks (model prog w) hp (isInstance (.ref e) (.type "BaseException")) true := I.type.andThen (looks_mroIn X (by k_is))
  have FB := PySem.F.attrBase_Exception
  have f3 := FB.ga.bind (.ref e)
  have hx0 : (expr && onTheHeap (Value.builtin "BaseException.__getattribute__")) = false := by cases expr <;> rfl
  have hx2 : (Value.builtin "BaseException.__getattribute__" == Value.builtin "object.__getattribute__") = false := by decide +kernel
  unfold getAttr getAttrBy
  refine wpAny_bind (wpAny_mkText (wpAny_holding (wpAny_bind (L0.at (wpAny_bind (L1.at ?_))))))
  dsimp only
  rw [hx2, Bool.and_false, if_neg (by decide)]
  repeat (any_goals (first | assumption | with_reducible refine Looks.at (by assumption) ?_ | wp_step))
  refine codeAny_call_builtin FB.ga.plain F.entry_bexc_ga (@check_slot (model prog w) _ _ ⟨hp, g, dr, tk + 1, os⟩ "BaseException.__getattribute__" "BaseException" "__getattribute__" (.ref e) [.str name tk] [] _ (by decide +kernel) (by decide +kernel) L4 (F.args_bexc_ga _ _) ?_)
  unfold Builtin.«object.__getattribute__»
  repeat (any_goals (first | assumption | with_reducible refine Looks.at (by assumption) ?_ | wp_step))
  show wpAny _ _ (handedOut v) _ _ _
  rw [handedOut_of hv]
  exact wpAny_pure h
end
end
section -- W7
open PySem PySem.W PyProof.Rows PySem.Calls
set_option maxHeartbeats 4000000

/-- the flying fault e: its dict is d, its newest traceback entry's mark is fl -/
theorem set_W7_0 : True := by
  k_with_none
  trivial
noncomputable def Fly (B : Heap) (l : List Env) (e d : Addr) (fl : Value) (h : Heap) : Prop :=
  B.StaysIn h ∧ B.get? e = none ∧ h.FunFrames B l ∧ ∃ vs T oT ts, h.get? e = some ⟨.ref 51, some d, .fields vs, #[]⟩ ∧ vs[1]? = some (.ref T) ∧ B.get? T = none ∧ T ≠ e ∧ h.get? T = some oT ∧ oT.data = .fields ts ∧ ts[3]? = some fl
theorem Fly.there {B h : Heap} {l : List Env} {e d : Addr} {fl : Value} (x : Fly B l e d fl h) : ∃ vs, h.get? e = some ⟨.ref 51, some d, .fields vs, #[]⟩ := ⟨_, x.2.2.2.choose_spec.choose_spec.choose_spec.choose_spec.1⟩

section
variable {M : Model} {A : Around} {E : Value → Shared → Prop} {s : Shared} {B : Heap} {env : Env} {outer l : List Env} {L e d : Addr}

theorem fly_entry {vs : Array Value} {head : Value} {hadNext : Bool} {Q : Unit → Shared → Prop}
    (hfr : A.frames = some (env :: outer)) (hl : s.heap.FunFrames B (env :: outer)) (hf : env.frame = some L)
    (he : s.heap.get? e = some ⟨.ref 51, some d, .fields vs, #[]⟩) (hkb : B.StaysIn s.heap) (hen : B.get? e = none) (hsz : 1 < vs.size)
    (h : ∀ h', Fly B (env :: outer) e d (rawInt L) h' → s.heap.UpToSlots h' → Q () { s with heap := h' }) :
    wpAny M A (do let a ← frameOf env; let pl ← entryPlaceOf L hadNext; let b ← EntryCells.newEntry head a .none (rawInt L) .none pl; setField (.ref e) 1 b) Q E s := by
  have hene : e ∉ (env :: outer).filterMap (·.frame) := fun hm => by
    obtain ⟨_, o, ho, hnf⟩ := hl.mem hm
    rw [he] at ho
    exact hnf vs (by rw [← Option.some.inj ho])
  refine wpAny_bind (wpAny_frameOf_fun hfr hl hf fun h₁ hs₁ => wpAny_bind (wpAny_entryPlaceOf fun pl hpl => ?_))
  unfold EntryCells.newEntry newFields
  refine wpAny_bind (wpAny_newObj_type ?_ (hpl.sizeOk5 _ _ _ _ _))
  have he₁ : h₁.get? e = some ⟨.ref 51, some d, .fields vs, #[]⟩ := (hs₁.2.1 e hene).trans he
  have hk₁ : B.StaysIn h₁ := fun b o hb => (hs₁.2.1 b fun hm => by rw [(hl.mem hm).1] at hb; cases hb).trans (hkb b o hb)
  have he₂ := Heap.get?_push_of_some (h := h₁) { cls := .type "traceback", dict := none, data := .fields ([head, .ref L, .none, rawInt L, .none] ++ (if pl.isEmpty then List.replicate 6 Value.none else pl)).toArray } he₁
  refine wpAny_setField he₂ rfl hsz ?_
  have hT : h₁.objs.size ≠ e := Nat.ne_of_gt (Heap.lt_size he₁)
  have hold : ∀ b o, b ≠ e → h₁.get? b = some o → ((h₁.push { cls := .type "traceback", dict := none, data := .fields ([head, .ref L, .none, rawInt L, .none] ++ (if pl.isEmpty then List.replicate 6 Value.none else pl)).toArray }).update e (Obj.mapFields (·.setIfInBounds 1 (Value.ref h₁.objs.size)))).get? b = some o :=
    fun b o hbe hb => (Heap.get?_update_other _ _ (Ne.symm hbe)).trans (Heap.get?_push_of_some _ hb)
  have hrec : ∀ b o, s.heap.get? b = some o → (∀ vs, o.data ≠ .fields vs) → b ≠ e := fun b o hb hnf q => by
    rw [q, he] at hb
    exact hnf vs (by rw [← Option.some.inj hb])
  refine h _ ⟨fun b o hb => hold b o (fun q => by rw [q, hen] at hb; cases hb) (hk₁ b o hb), hen, hl.of_keeps fun b o hb hnf => ?_,
    vs.setIfInBounds 1 (.ref h₁.objs.size), h₁.objs.size, _, _, Heap.get?_update_self _ he₂ rfl, by simp [hsz], hk₁.fresh, hT, (Heap.get?_update_other _ _ (Ne.symm hT)).trans (Heap.get?_push_size h₁ rfl), rfl, ?_⟩ fun b o hb hnf => ?_
  · obtain ⟨sl, hs⟩ := hs₁.2.2 b o hb
    exact ⟨_, hold b _ (hrec b o hb hnf) hs, rfl⟩
  · first | (simp; done) | (rcases hpl with rfl | ⟨_, _, _, _, _, _, _, rfl⟩ <;> simp)
  · obtain ⟨sl, hs⟩ := hs₁.2.2 b o hb
    exact ⟨sl, hold b _ (hrec b o hb hnf) hs⟩

theorem fly_down {fl : Value} {Q : Unit → Shared → Prop} (x : Fly B l e d fl s.heap) (h : ∀ h', Fly B l e d .none h' → s.heap.UpToSlots h' → Q () { s with heap := h' }) :
    wpAny M A (setFlight (.ref e) none) Q E s := by
  obtain ⟨x1, x2, x3, vs, T, oT, ts, he, h1, hnT, hTe, hT, hdT, h3⟩ := x
  have hsz : 3 < ts.size := (Array.getElem?_eq_some_iff.mp h3).1
  have hold : ∀ b, b ≠ T → (s.heap.update T (Obj.mapFields (·.setIfInBounds 3 ((none : Option Addr).elim Value.none fun f => rawInt f)))).get? b = s.heap.get? b := fun b hb => Heap.get?_update_other _ _ (Ne.symm hb)
  have hrec : ∀ b o, s.heap.get? b = some o → (∀ vs, o.data ≠ .fields vs) → b ≠ T := fun b o hb hnf q => by
    rw [q, hT] at hb
    exact hnf ts (by rw [← Option.some.inj hb]; exact hdT)
  unfold setFlight
  refine wpAny_bind (wpAny_field he rfl h1 ?_)
  rw [if_pos (show (Value.ref T != Value.none) = true from by simp)]
  refine wpAny_setField hT hdT hsz (h _ ⟨fun b o hb => (hold b fun q => by rw [q, hnT] at hb; cases hb).trans (x1 b o hb), x2, x3.of_keeps fun b o hb hnf => ⟨o, (hold b (hrec b o hb hnf)).trans hb, rfl⟩,
    vs, T, _, _, (hold e (Ne.symm hTe)).trans he, h1, hnT, hTe, Heap.get?_update_self _ hT (Obj.isFreed_of_fields (Obj.data_mapFields hdT _)), Obj.data_mapFields hdT _, by simp [hsz]⟩ fun b o hb hnf => ⟨o.slots, (hold b (hrec b o hb hnf)).trans hb⟩)

theorem fly_note_first {vs : Array Value} {Q : Unit → Shared → Prop}
    (hfr : A.frames = some (env :: outer)) (hl : s.heap.FunFrames B (env :: outer)) (hf : env.frame = some L)
    (he : s.heap.get? e = some ⟨.ref 51, some d, .fields vs, #[]⟩) (h1 : vs[1]? = some .none) (hkb : B.StaysIn s.heap) (hen : B.get? e = none)
    (h : ∀ h', Fly B (env :: outer) e d (rawInt L) h' → s.heap.UpToSlots h' → Q () { s with heap := h' }) : wpAny M A (noteFrame (.ref e) env) Q E s := by
  unfold noteFrame
  simp only [hf]
  refine wpAny_bind (wpAny_field he rfl h1 ?_)
  rw [if_neg (by decide)]
  exact fly_entry hfr hl hf he hkb hen (Array.getElem?_eq_some_iff.mp h1).1 h

theorem fly_note_next {Q : Unit → Shared → Prop} (hfr : A.frames = some (env :: outer)) (hf : env.frame = some L) (x : Fly B (env :: outer) e d .none s.heap)
    (h : ∀ h', Fly B (env :: outer) e d (rawInt L) h' → s.heap.UpToSlots h' → Q () { s with heap := h' }) : wpAny M A (noteFrame (.ref e) env) Q E s := by
  obtain ⟨x1, x2, x3, vs, T, oT, ts, he, h1, hnT, hTe, hT, hdT, h3⟩ := x
  have hold : ∀ b, b ≠ T → (s.heap.update T (Obj.mapFields (·.setIfInBounds 3 Value.none))).get? b = s.heap.get? b := fun b hb => Heap.get?_update_other _ _ (Ne.symm hb)
  have hrec : ∀ b o, s.heap.get? b = some o → (∀ vs, o.data ≠ .fields vs) → b ≠ T := fun b o hb hnf q => by
    rw [q, hT] at hb
    exact hnf ts (by rw [← Option.some.inj hb]; exact hdT)
  unfold noteFrame
  simp only [hf]
  refine wpAny_bind (wpAny_field he rfl h1 ?_)
  rw [if_pos (show (Value.ref T != Value.none) = true from by simp)]
  refine wpAny_bind (wpAny_field hT hdT h3 ?_)
  rw [if_neg (show ¬ ((Value.none == rawInt L) = true) from by simp [rawInt])]
  refine wpAny_bind (wpAny_setField hT hdT (Array.getElem?_eq_some_iff.mp h3).1 ?_)
  have up : s.heap.UpToSlots (s.heap.update T (Obj.mapFields (·.setIfInBounds 3 Value.none))) := fun b o hb hnf => ⟨o.slots, (hold b (hrec b o hb hnf)).trans hb⟩
  refine fly_entry hfr (x3.of_keeps fun b o hb hnf => ⟨o, (hold b (hrec b o hb hnf)).trans hb, rfl⟩) hf ((hold e (Ne.symm hTe)).trans he)
    (fun b o hb => (hold b fun q => by rw [q, hnT] at hb; cases hb).trans (x1 b o hb)) x2 (Array.getElem?_eq_some_iff.mp h1).1 fun h' y1 y2 => h h' y1 (up.trans y2)

theorem fly_drop {fl : Value} {h : Heap} (x : Fly B (env :: outer) e d fl h) : Fly B outer e d fl h := let ⟨x1, x2, ⟨_, _, x3⟩, x4⟩ := x; ⟨x1, x2, x3, x4⟩
theorem fly_leave_first {vs : Array Value} {Q : Unit → Shared → Prop}
    (hfr : A.frames = some (env :: outer)) (hl : s.heap.FunFrames B (env :: outer)) (hf : env.frame = some L)
    (he : s.heap.get? e = some ⟨.ref 51, some d, .fields vs, #[]⟩) (h1 : vs[1]? = some .none) (hkb : B.StaysIn s.heap) (hen : B.get? e = none)
    (h : ∀ h', Fly B outer e d .none h' → s.heap.UpToSlots h' → Q () { s with heap := h' }) : wpAny M A (leaving env (.ref e)) Q E s := by
  unfold leaving
  exact wpAny_bind (fly_note_first hfr hl hf he h1 hkb hen fun h₁ y1 y2 => fly_down y1 fun h₂ z1 z2 => h h₂ (fly_drop z1) (y2.trans z2))
theorem fly_leave_next {Q : Unit → Shared → Prop} (hfr : A.frames = some (env :: outer)) (hf : env.frame = some L) (x : Fly B (env :: outer) e d .none s.heap)
    (h : ∀ h', Fly B outer e d .none h' → s.heap.UpToSlots h' → Q () { s with heap := h' }) : wpAny M A (leaving env (.ref e)) Q E s := by
  unfold leaving
  exact wpAny_bind (fly_note_next hfr hf x fun h₁ y1 y2 => fly_down y1 fun h₂ z1 z2 => h h₂ (fly_drop z1) (y2.trans z2))
end
end
section -- W8
open PySem PySem.W PyProof.Rows PySem.Calls
set_option maxHeartbeats 4000000

theorem set_W8_0 : True := by
  k_with_none
  trivial
noncomputable def FaultR (base G : Heap) (l : List Env) (e d : Addr) (news : List (Addr × Obj)) (h : Heap) : Prop :=
  ∃ B, base.StaysIn B ∧ (∀ b o, G.get? b = some o → b ∉ l.filterMap (·.frame) → B.get? b = some o) ∧ (∀ q ∈ news, B.get? q.1 = some q.2 ∧ G.get? q.1 = none ∧ base.get? q.1 = none) ∧ Fly B l e d .none h
theorem FaultR.sub {base G h : Heap} {l : List Env} {e d : Addr} {news news' : List (Addr × Obj)} (R : FaultR base G l e d news h) (hs : ∀ q ∈ news', q ∈ news) : FaultR base G l e d news' h :=
  let ⟨B, b1, b2, b3, b4⟩ := R; ⟨B, b1, b2, fun q hq => b3 q (hs q hq), b4⟩

section
variable {M : Model} {A : Around} {E : Value → Shared → Prop} {s' : Shared} {base g g₂ : Heap} {outer : List Env} {L a e d t : Addr} {m : Str → Option Value} {name : Str} {scope : Scope} {cd : Value} {Q : Unit → Shared → Prop} {news news' : List (Addr × Obj)}

theorem fault_leave1 (K : Below A base outer g) (F : Fr g L s'.heap m) (N : News g L s'.heap news) (hem : (e, excObj t (some d)) ∈ news) (hsub : ∀ q ∈ news', q ∈ news ∧ q.1 ≠ e)
    (hQ : ∀ h', FaultR base g outer e d news' h' → g.UpToSlots h' → Q () { s' with heap := h' }) (hk : scope.kind = .function := by rfl) :
    wpAny M (A.deeper (envOf name scope L a cd)) (leaving (envOf name scope L a cd) (.ref e)) Q E s' := by
  have K' := K.push (name := name) (a := a) (cd := cd) F hk
  have he := N _ hem
  have hbe : base.get? e = none := fresh_of_stays K.stays he.2.2
  have hfr : ∀ b, b ∈ (envOf name scope L a cd :: outer).filterMap (·.frame) → b ≠ e := fun b hb q => by
    rcases kts_mem hb with z | z
    · exact he.2.1 (q.symm.trans z)
    · obtain ⟨o, ho, _⟩ := (K.frames.mem z).2
      rw [q, he.2.2] at ho; cases ho
  have hin : ∀ env ∈ (envOf name scope L a cd :: outer), ∀ b, env.frame = some b → b ∈ e :: (envOf name scope L a cd :: outer).filterMap (·.frame) := fun env hE b hb => .tail _ (List.mem_filterMap.mpr ⟨env, hE, hb⟩)
  refine fly_leave_first (B := hideAll s'.heap (e :: (envOf name scope L a cd :: outer).filterMap (·.frame))) (vs := #[.ref t, .none, .none, .none, .bool false, .none]) K'.stack (funFrames_hide K'.frames hin) rfl he.1 rfl (fun b o q => of_hideAll _ q) (hideAll_none _ (.head _))
    fun h' x1 x2 => hQ h' ⟨_, fun b o q => hideAll_get _ (K'.stays b o q) fun hm => ?_, fun b o q nm => hideAll_get _ (F.keep b o q) fun hm => ?_, fun q hq => ⟨hideAll_get _ (N q (hsub q hq).1).1 fun hm => ?_, (N q (hsub q hq).1).2.2, fresh_of_stays K.stays (N q (hsub q hq).1).2.2⟩, x1⟩ ((Heap.UpToSlots.of_keeps F.keep).trans x2)
  · rcases List.mem_cons.mp hm with z | z
    · rw [z, hbe] at q; cases q
    · rw [(K'.frames.mem z).1] at q; cases q
  · rcases List.mem_cons.mp hm with z | z
    · rw [z, he.2.2] at q; cases q
    · rcases kts_mem z with z | z
      · rw [z, kts_self F] at q; cases q
      · exact nm z
  · rcases List.mem_cons.mp hm with z | z
    · exact (hsub q hq).2 z
    · rcases kts_mem z with z | z
      · exact (N q (hsub q hq).1).2.1 z
      · obtain ⟨o, ho, _⟩ := (K.frames.mem z).2
        rw [(N q (hsub q hq).1).2.2] at ho; cases ho

theorem fault_leave2 (K : Below A base outer g) (F : Fr g L g₂ m) (R : FaultR base g₂ (envOf name scope L a cd :: outer) e d news s'.heap) (hsm : g₂.UpToSlots s'.heap)
    (hQ : ∀ h', FaultR base g outer e d news h' → g.UpToSlots h' → Q () { s' with heap := h' }) :
    wpAny M (A.deeper (envOf name scope L a cd)) (leaving (envOf name scope L a cd) (.ref e)) Q E s' := by
  obtain ⟨B, hB, hBG, hl, hfl⟩ := R
  exact fly_leave_next (Around.frames_deeper K.stack) rfl hfl fun h' x1 x2 =>
    hQ h' ⟨B, hB, fun b o q nm => hBG b o (F.keep b o q) (fun hm => by
      rcases kts_mem hm with z | z
      · rw [z, kts_self F] at q; cases q
      · exact nm z), fun q hq => ⟨(hl q hq).1, kts_none F.keep (hl q hq).2.1, (hl q hq).2.2⟩, x1⟩ ((Heap.UpToSlots.of_keeps F.keep).trans (hsm.trans x2))
end

/-- what a raise of a fault asks of its value -/
noncomputable def Raising (w : World) (E : Value → Shared → Prop) (v : Value) (s : Shared) : Prop :=
  ∃ e t d, v = .ref e ∧ (frg.heap_1 w.params).In s.heap ∧ s.heap.get? e = some (excObj t d) ∧ E (.ref e) s
section
variable {w : World} {prog : Program} {A : Around} {E : Value → Shared → Prop} {s : Shared} {env : Env}
theorem fault_raise {x : Expr} {pos : Pos} {Q : Flow → Shared → Prop} (hh : A.handled = none) (h : wpAny (model prog w) A (eval x env) (Raising w E) E s) :
    wpAny (model prog w) A (exec (.Raise (some x) none pos) env) Q E s := by
  rw [arm_exec_Raise]
  refine wpAny_bind (wpAny_standAt ?_)
  unfold raiseStmt
  refine wpAny_bind (wpAny_bind (wpAny_mono h (fun v s₁ h₁ => ?_) fun _ _ y => y))
  obtain ⟨e, t, d, rfl, X, he, hE⟩ := h₁
  obtain ⟨hp, g, dr, tk, os⟩ := s₁
  have hC := fault_cls X
  have L0 : Looks (model prog w) hp (typeOf (.ref e)) (.ref 51) := (Looks.ld he).andThen .now
  have L1 : Looks (model prog w) hp (isInstance (.ref e) (.type "BaseException")) true := L0.andThen (looks_mroIn X (by k_is))
  refine wpAny_bind (wpAny_standAt (wpAny_pure ?_))
  have hcB : (Value.ref 51 :: [.ref 31, .type "Exception", .type "BaseException", .type "object"]).contains (.type "BaseException") = true := by decide
  dsimp only [evalOpt, Option.map]
  repeat (first | with_reducible refine wpAny_loadPart_at he ?_ | with_reducible refine wpAny_loadPart_at hC ?_ | (with_reducible refine wpAny_isSubtype_exc hC ?_; rw [hcB]) | wp_step)
  exact wpAny_raiseNew_none hh hE
end

section
variable {M : Model} {A : Around} {E : Value → Shared → Prop} {s' : Shared} {base g g₂ : Heap} {outer : List Env} {L a e d t : Addr} {od : Obj} {m : Str → Option Value} {name : Str} {scope : Scope} {cd : Value} {Q : Unit → Shared → Prop} {news : List (Addr × Obj)}
theorem fault_leaveN (K : Below A base outer g) (F : Fr g L s'.heap m) (N : News g L s'.heap ((d, od) :: (e, excObj t (some d)) :: news)) (hlt : ∀ p ∈ news, p.1 < e) (hde : e < d)
    (hQ : ∀ h', FaultR base g outer e d ((d, od) :: news) h' → g.UpToSlots h' → Q () { s' with heap := h' }) (hk : scope.kind = .function := by rfl) :
    wpAny M (A.deeper (envOf name scope L a cd)) (leaving (envOf name scope L a cd) (.ref e)) Q E s' :=
  fault_leave1 K F N (.tail _ (.head _)) (fun q hq => by
    rcases List.mem_cons.mp hq with rfl | hq
    · exact ⟨.head _, Nat.ne_of_gt hde⟩
    · exact ⟨.tail _ (.tail _ hq), Nat.ne_of_lt (hlt q hq)⟩) hQ hk
theorem raising_N {w : World} {s : Shared} {h₀ : Heap} {m : Str → Option Value} (F : Fr h₀ L s.heap m) (X : (frg.heap_1 w.params).In h₀) (N : News h₀ L s.heap ((d, od) :: (e, excObj t (some d)) :: news)) (h : E (.ref e) s) : Raising w E (.ref e) s :=
  ⟨e, t, some d, rfl, Frag.In.keeps X F.keep, (N _ (.tail _ (.head _))).1, h⟩
end
end
section -- W9
open PySem PySem.W PyProof.Rows PySem.Calls
set_option maxHeartbeats 4000000

theorem set_W9_0 : True := by
  k_with_none
  k_with "my is_list" => first | (exact News.isList (by k_asm) (by assumption)) | fail
  k_with "my k_all" => first | (assumption) | fail
  k_with "my eval Call" => first | (k_here; k_dflt (refine Call_ ?_)) | fail
  k_with "my eval Call Attribute" => first | (k_here; k_dflt (refine MethodCall_ ?_)) | fail
  k_with "my call ref" => first | (k_here; k_dflt (first | ((with_reducible show wpAny _ _ (PySem.call (Value.ref 60) _ _) _ _ _); refine' is_layout_s (by k_asm) (by k_asm) (by k_asm) (by k_asm) (by k_asm) (by first | exact rfl | assumption) (by ktr_room) (by ktr_units) ?_) | ((with_reducible show wpAny _ _ (PySem.call (Value.ref 67) _ _) _ _ _); refine' is_digit_s (by k_asm) (by k_asm) (by k_asm) (by k_asm) (by k_asm) (by first | exact rfl | assumption) (by ktr_room) (by ktr_units) ?_) | ((with_reducible show wpAny _ _ (PySem.call (Value.ref 74) _ _) _ _ _); refine' is_small_s (by k_asm) (by k_asm) (by k_asm) (by k_asm) (by k_asm) (by first | exact rfl | assumption) (by ktr_room) (by ktr_units) ?_) | ((with_reducible show wpAny _ _ (PySem.call (Value.ref 81) _ _) _ _ _); refine' is_capital_s (by k_asm) (by k_asm) (by k_asm) (by k_asm) (by k_asm) (by first | exact rfl | assumption) (by ktr_room) (by ktr_units) ?_) | ((with_reducible show wpAny _ _ (PySem.call (Value.ref 95) _ _) _ _ _); refine' is_symbol_s (by k_asm) (by k_asm) (by k_asm) (by k_asm) (by k_asm) (by first | exact rfl | assumption) (by ktr_room) (by ktr_units) ?_) | ((with_reducible show wpAny _ _ (PySem.call (Value.ref 102) _ _) _ _ _); refine' is_quotable_s (by k_asm) (by k_asm) (by k_asm) (by k_asm) (by k_asm) (by first | exact rfl | assumption) (by ktr_room) (by ktr_units) ?_) | ((with_reducible show wpAny _ _ (PySem.call (Value.ref 88) _ _) _ _ _); refine' is_alnum_s (by k_asm) (by k_asm) (by k_asm) (by k_asm) (by k_asm) (by first | exact rfl | assumption) (by ktr_room) (by ktr_units) ?_)); k_whole; intro h' tk' F' N'; (try k_sweep)) | fail
  k_with "my call ref" => first | (k_here; k_dflt (first | ((with_reducible show wpAny _ _ (PySem.call (Value.ref 109) _ _) _ _ _); refine' digit_value_s (by k_asm) (by k_asm) (by k_asm) (by k_asm) (by k_asm) (by first | exact rfl | assumption) (by ktr_room) (by ktr_units) ?_) | ((with_reducible show wpAny _ _ (PySem.call (Value.ref 128) _ _) _ _ _); refine' numeral_base_s (by k_asm) (by k_asm) (by k_asm) (by k_asm) (by k_asm) (by first | exact rfl | assumption) (by ktr_room) (by ktr_units) ?_)); k_whole; intro t' h' tk' F' N'; (try k_sweep)) | fail
  k_with "my call ref" => first | (k_here; (with_reducible show wpAny _ _ (PySem.call (Value.ref 150) _ _) _ _ _); k_dflt (refine' code_at_s (by k_asm) (by k_asm) (by k_asm) (by k_asm) (by k_asm) (by first | exact rfl | assumption) (by k_dflt k_mem) (by k_dflt k_mem) (by k_dflt k_mem) (by assumption) (by assumption) (by omega) (by ktr_room) (by ktr_units) ?_); k_whole; intro t' h' tk' F' N'; (try k_sweep)) | fail
  k_with "my call ref" => first | (k_here; (with_reducible show wpAny _ _ (PySem.call (Value.ref 220) _ _) _ _ _); k_dflt (refine' ends_at_s (by k_asm) (by k_asm) (by k_asm) (by k_asm) (by k_asm) (by first | exact rfl | assumption) (by k_dflt k_mem) (by k_dflt k_mem) (by k_dflt k_mem) (by assumption) (by assumption) (by omega) (by ktr_room) (by ktr_units) ?_); k_whole; intro h' tk' F' N'; (try k_sweep)) | fail
  k_with "my call ref" => first | (k_here; (with_reducible show wpAny _ _ (PySem.call (Value.ref 157) _ _) _ _ _); k_dflt (refine' place_s (by k_asm) (by k_asm) (by k_asm) (by k_asm) (by k_asm) (by first | exact rfl | assumption) (by k_dflt k_mem) (by k_dflt k_mem) (by k_dflt k_mem) (by assumption) (by assumption) (by ktr_room) (by ktr_units) ?_); k_whole; intro q' ta' tb' h' tk' F' N' l1; (try k_lt l1); (try k_sweep)) | fail
  trivial
abbrev faultEs (P : Params) (kind : Str) (at_ row col : Int) (k1 k2 k3 k4 t0 t1 t2 t3 : Tok) : List DictEntry :=
  [⟨PyData.keyHash P "kind", .str "kind" k1, .str kind t0⟩, ⟨PyData.keyHash P "at", .str "at" k2, .int at_ t1⟩, ⟨PyData.keyHash P "row", .str "row" k3, .int row t2⟩, ⟨PyData.keyHash P "column", .str "column" k4, .int col t3⟩]
theorem set_W9_1 : True := by
  k_with "my call ref" => first | (k_here; (with_reducible show wpAny _ _ (PySem.call (Value.ref 51) _ _) _ _ _); k_dflt (refine' fault_make (by k_asm) (by k_asm) (by k_asm) (by size_fits) ?_); k_whole; intro e' t' h' F' N' l1 l2 l3; (try k_lt l1); (try k_lt2 l2); (try k_lt l3); (try k_sweep)) | fail
  k_with "my call ref" => first | (k_here; (with_reducible show wpAny _ _ (PySem.call (Value.ref 48) _ _) _ _ _); k_dflt (refine wpAny_call ?_; refine' code_def (by k_asm) (by k_asm) (by k_asm) (by k_asm) (by k_asm) (by exact rfl) (by exact rfl) (by first | exact rfl | assumption) (by k_is) (by k_is) (by ktr_room) (by exact BindsTo.of_eq rfl) (by exact locs rfl) ?_ (by exact rfl) (by exact rfl) (by exact rfl) (by decide); k_whole; intro g' L' h' FG' F' N' B' X' T'; (try dsimp only); (try k_lift B'); (try k_fold))) | fail
  k_with "my setAttr ref" => first | (k_here; k_dflt (first | (refine' fault_set1 (pre := []) (by k_asm) (by k_asm) (by k_asm) (by exact fun _ hp => nomatch hp) (by k_all) (by k_is) ?_; k_whole; intro d' h' F' N' l1; (try simp only [List.nil_append] at N'); (try simp only [List.nil_append] at l1); (try k_lt l1); (try k_sweep)) | (refine' fault_setN (by k_asm) (by k_asm) (by k_asm) (by k_mem) (by k_mem) (by k_is) (by k_get) (by k_put) (by k_upd) (by exact Nat.le_of_ble_eq_true rfl) ?_; k_whole; intro h' F' N'; (try k_sweep)))) | fail
  trivial
noncomputable def FDict (P : Params) (kind : Str) (at_ : Int) (rc : Int × Int) (o : Obj) : Prop :=
  ∃ k1 k2 k3 k4 t0 t1 t2 t3, o = dictOf (faultEs P kind at_ rc.1 rc.2 k1 k2 k3 k4 t0 t1 t2 t3) 4
theorem lt_trans_all {a b : Addr} {l : List (Addr × Obj)} (h : ∀ p ∈ l, p.1 < a) (hab : @LT.lt Nat _ a b) : ∀ p ∈ l, p.1 < b := fun p hp => Nat.lt_trans (h p hp) hab
theorem lt_of_allLt {a : Addr} {l : List (Addr × Obj)} (h : AllLt a l) : ∀ p ∈ l, p.1 < a := by
  induction l with
  | nil => intro p hp; exact nomatch hp
  | cons q r ih =>
    intro p hp
    rcases List.mem_cons.mp hp with rfl | hp
    · exact h.1
    · exact ih h.2 p hp
section
variable {w : World} {mean : ExcName → Option Value} {mg mb : Str → Option Value}
    {dp un : Nat} {gd : Option (List Code)} {cn : Str} {sc : Scope} {a : Addr} {ccd : Value} {cl : List (Str × Addr)} {outer : List Env} {A₀ : Around} {base h₀ : Heap} {L : Addr} {m : Str → Option Value} {s : Shared}
    {news rest : List (Addr × Obj)} {Q E : Value → Shared → Prop} {x dx l : Addr} {vs : List Value} {cs : List Int} {ep : Nat} {k1 k2 k3 t1 t2 : Tok} {i o : Int}

theorem retF {j : Int} {kind : Str} {e t d q : Addr} {od o1 o2 : Obj} {h' : Heap} {tk' : Nat} (hret : ∀ (e t d : Addr) (od : Obj) (h' : Heap) (tk' : Nat), FDict w.params kind j (place cs j) od → Fr h₀ L h' m → News h₀ L h' ((d, od) :: (e, excObj t (some d)) :: news) → (∀ p ∈ news, p.1 < e) → e < d → (∀ p ∈ news, p.1 < d) → Q (.ref e) { s with heap := h', toks := tk' })
    (F : Fr h₀ L h' m) (N : News h₀ L h' ((d, od) :: (e, excObj t (some d)) :: (t, o1) :: (q, o2) :: news)) (l1 : @LT.lt Nat _ e d ∧ @LT.lt Nat _ t d ∧ @LT.lt Nat _ q d ∧ AllLt d news) (l3 : @LT.lt Nat _ q e ∧ AllLt e news) (D : FDict w.params kind j (place cs j) od) : Q (.ref e) { s with heap := h', toks := tk' } :=
  hret e t d od h' tk' D F (cb_drop N fun p hp => by
    rcases List.mem_cons.mp hp with rfl | hp
    · exact .head _
    · rcases List.mem_cons.mp hp with rfl | hp
      · exact .tail _ (.head _)
      · exact .tail _ (.tail _ (.tail _ (.tail _ hp)))) (lt_of_allLt l3.2) l1.1 (lt_of_allLt l1.2.2.2)
section
variable (B : Below A₀ base outer h₀) (F : Fr h₀ L s.heap m) (X : (frg.heap_1 w.params).In h₀) (N : News h₀ L s.heap news)
    (T : TopX mean mg mb h₀) (hk : sc.kind = .function)
    (hx : (x, instObj 265 dx) ∈ news) (hdx : (dx, dictOf (tokEs w.params k1 k2 k3 l i o t1 t2) 3) ∈ news) (hl : (l, listOf vs.toArray ep) ∈ news) (hi : IntsAre vs cs) (hfit : cs.length < 2 ^ 20)
include B F X N T hk hx hdx hl hi hfit

theorem fault_s {j : Int} {kind : Str} {tk tk2 : Tok} (hd : dp + 4 < recursionLimit) (hu : un + 32 < cLine)
    (hret : ∀ (e t d : Addr) (od : Obj) (h' : Heap) (tk' : Nat), FDict w.params kind j (place cs j) od → Fr h₀ L h' m → News h₀ L h' ((d, od) :: (e, excObj t (some d)) :: news) → (∀ p ∈ news, p.1 < e) → e < d → (∀ p ∈ news, p.1 < d) → Q (.ref e) { s with heap := h', toks := tk' }) :
    wpC w (ktrTop dp un gd cn sc L a ccd cl outer) 164 [.ref x, .str kind tk, .int j tk2] Q E s := by
  refine wpAny_call ?_
  k_dflt cell_enter
  k_steps

  all_goals exact retF hret (by assumption) (by assumption) (by assumption) (by assumption) ⟨_, _, _, _, _, _, _, _, rfl⟩
end
end
end
section -- W10
open PySem PySem.W PyProof.Rows PySem.Calls
set_option maxHeartbeats 4000000

theorem set_W10_0 : True := by
  k_with_none
  k_with "my is_list" => first | (exact News.isList (by k_asm) (by assumption)) | fail
  k_with "my k_all" => first | (assumption) | fail
  k_with "my eval Call" => first | (k_here; k_dflt (refine Call_ ?_)) | fail
  k_with "my eval Call Attribute" => first | (k_here; k_dflt (refine MethodCall_ ?_)) | fail
  k_with "my call ref" => first | (k_here; k_dflt (first | ((with_reducible show wpAny _ _ (PySem.call (Value.ref 60) _ _) _ _ _); refine' is_layout_s (by k_asm) (by k_asm) (by k_asm) (by k_asm) (by k_asm) (by first | exact rfl | assumption) (by ktr_room) (by ktr_units) ?_) | ((with_reducible show wpAny _ _ (PySem.call (Value.ref 67) _ _) _ _ _); refine' is_digit_s (by k_asm) (by k_asm) (by k_asm) (by k_asm) (by k_asm) (by first | exact rfl | assumption) (by ktr_room) (by ktr_units) ?_) | ((with_reducible show wpAny _ _ (PySem.call (Value.ref 74) _ _) _ _ _); refine' is_small_s (by k_asm) (by k_asm) (by k_asm) (by k_asm) (by k_asm) (by first | exact rfl | assumption) (by ktr_room) (by ktr_units) ?_) | ((with_reducible show wpAny _ _ (PySem.call (Value.ref 81) _ _) _ _ _); refine' is_capital_s (by k_asm) (by k_asm) (by k_asm) (by k_asm) (by k_asm) (by first | exact rfl | assumption) (by ktr_room) (by ktr_units) ?_) | ((with_reducible show wpAny _ _ (PySem.call (Value.ref 95) _ _) _ _ _); refine' is_symbol_s (by k_asm) (by k_asm) (by k_asm) (by k_asm) (by k_asm) (by first | exact rfl | assumption) (by ktr_room) (by ktr_units) ?_) | ((with_reducible show wpAny _ _ (PySem.call (Value.ref 102) _ _) _ _ _); refine' is_quotable_s (by k_asm) (by k_asm) (by k_asm) (by k_asm) (by k_asm) (by first | exact rfl | assumption) (by ktr_room) (by ktr_units) ?_) | ((with_reducible show wpAny _ _ (PySem.call (Value.ref 88) _ _) _ _ _); refine' is_alnum_s (by k_asm) (by k_asm) (by k_asm) (by k_asm) (by k_asm) (by first | exact rfl | assumption) (by ktr_room) (by ktr_units) ?_)); k_whole; intro h' tk' F' N'; (try k_sweep)) | fail
  k_with "my call ref" => first | (k_here; k_dflt (first | ((with_reducible show wpAny _ _ (PySem.call (Value.ref 109) _ _) _ _ _); refine' digit_value_s (by k_asm) (by k_asm) (by k_asm) (by k_asm) (by k_asm) (by first | exact rfl | assumption) (by ktr_room) (by ktr_units) ?_) | ((with_reducible show wpAny _ _ (PySem.call (Value.ref 128) _ _) _ _ _); refine' numeral_base_s (by k_asm) (by k_asm) (by k_asm) (by k_asm) (by k_asm) (by first | exact rfl | assumption) (by ktr_room) (by ktr_units) ?_)); k_whole; intro t' h' tk' F' N'; (try k_sweep)) | fail
  k_with "my call ref" => first | (k_here; (with_reducible show wpAny _ _ (PySem.call (Value.ref 150) _ _) _ _ _); k_dflt (refine' code_at_s (by k_asm) (by k_asm) (by k_asm) (by k_asm) (by k_asm) (by first | exact rfl | assumption) (by k_dflt k_mem) (by k_dflt k_mem) (by k_dflt k_mem) (by assumption) (by assumption) (by omega) (by ktr_room) (by ktr_units) ?_); k_whole; intro t' h' tk' F' N'; (try k_sweep)) | fail
  k_with "my call ref" => first | (k_here; (with_reducible show wpAny _ _ (PySem.call (Value.ref 220) _ _) _ _ _); k_dflt (refine' ends_at_s (by k_asm) (by k_asm) (by k_asm) (by k_asm) (by k_asm) (by first | exact rfl | assumption) (by k_dflt k_mem) (by k_dflt k_mem) (by k_dflt k_mem) (by assumption) (by assumption) (by omega) (by ktr_room) (by ktr_units) ?_); k_whole; intro h' tk' F' N'; (try k_sweep)) | fail
  k_with "my call ref" => first | (k_here; (with_reducible show wpAny _ _ (PySem.call (Value.ref 157) _ _) _ _ _); k_dflt (refine' place_s (by k_asm) (by k_asm) (by k_asm) (by k_asm) (by k_asm) (by first | exact rfl | assumption) (by k_dflt k_mem) (by k_dflt k_mem) (by k_dflt k_mem) (by assumption) (by assumption) (by ktr_room) (by ktr_units) ?_); k_whole; intro q' ta' tb' h' tk' F' N' l1; (try k_lt l1); (try k_sweep)) | fail
  k_with "my call ref" => first | (k_here; (with_reducible show wpAny _ _ (PySem.call (Value.ref 164) _ _) _ _ _); k_dflt (refine' fault_s (by k_asm) (by k_asm) (by k_asm) (by k_asm) (by k_asm) (by first | exact rfl | assumption) (by k_dflt k_mem) (by k_dflt k_mem) (by k_dflt k_mem) (by assumption) (by assumption) (by ktr_room) (by ktr_units) ?_); k_whole; intro e' t' d' od' h' tk' D' F' N' l1 l2 l3; (try k_sweep)) | fail
  k_with "my exec Raise some none" => first | (k_here; k_dflt (refine fault_raise (by exact rfl) ?_)) | fail
  k_with "my Raising" => first | (k_here; k_dflt (refine' raising_N (by k_asm) (by k_asm) (by k_asm) ?_)) | fail
  k_with "my leaving ref" => first | (k_here; k_dflt (first | (refine' fault_leaveN (by assumption) (by k_asm) (by k_asm) (by assumption) (by assumption) ?_; k_whole; intro h' R' U') | (refine' fault_leave2 (by assumption) (by assumption) (by assumption) (by assumption) ?_; k_whole; intro h' R' U'))) | fail
  trivial
noncomputable def skipRemark (cs : List Int) (i : Int) : Int × Bool :=
  if codeAt cs i = -1 then (i, false) else if codeAt cs i = 42 ∧ codeAt cs (i + 1) = 47 then (i + 2, true) else skipRemark cs (i + 1)
termination_by (cs.length - i).toNat
decreasing_by have := @codeAt_lt cs i (by assumption); omega
theorem skipRemark_out {cs : List Int} {i : Int} {r : Int × Bool} (e : skipRemark cs i = r) (h : codeAt cs i = -1) : r = (i, false) := by rw [← e, skipRemark.eq_1, if_pos h]
theorem skipRemark_hit {cs : List Int} {i : Int} {r : Int × Bool} (e : skipRemark cs i = r) (h : codeAt cs i = 42) (h' : codeAt cs (i + 1) = 47) : r = (i + 2, true) := by
  rw [← e, skipRemark.eq_1, if_neg (by omega), if_pos ⟨h, h'⟩]
theorem skipRemark_on1 {cs : List Int} {i : Int} {r : Int × Bool} (e : skipRemark cs i = r) (h : codeAt cs i ≠ -1) (h' : codeAt cs i ≠ 42) : skipRemark cs (i + 1) = r := by
  rw [← e, skipRemark.eq_1 cs i, if_neg h, if_neg (by omega)]
theorem skipRemark_on2 {cs : List Int} {i : Int} {r : Int × Bool} (e : skipRemark cs i = r) (h : codeAt cs i ≠ -1) (h' : codeAt cs (i + 1) ≠ 47) : skipRemark cs (i + 1) = r := by
  rw [← e, skipRemark.eq_1 cs i, if_neg h, if_neg (by omega)]
section
variable {w : World} {mean : ExcName → Option Value} {mg mb : Str → Option Value}
    {dp un : Nat} {gd : Option (List Code)} {cn : Str} {sc : Scope} {a : Addr} {ccd : Value} {cl : List (Str × Addr)} {outer : List Env} {A₀ : Around} {base h₀ : Heap} {L : Addr} {m : Str → Option Value} {s : Shared}
    {news rest : List (Addr × Obj)} {Q E : Value → Shared → Prop} {x dx l : Addr} {vs : List Value} {cs : List Int} {ep : Nat} {k1 k2 k3 t1 t2 : Tok} {i o : Int}
section
variable (B : Below A₀ base outer h₀) (F : Fr h₀ L s.heap m) (X : (frg.heap_1 w.params).In h₀)
    (N : News h₀ L s.heap ((x, instObj 265 dx) :: (dx, dictOf (tokEs w.params k1 k2 k3 l i o t1 t2) 3) :: (l, listOf vs.toArray ep) :: rest))
    (T : TopX mean mg mb h₀) (hk : sc.kind = .function) (hxd : x ≠ dx) (hld : l ≠ dx) (hrest : ∀ p ∈ rest, p.1 ≠ dx)
    (hi : IntsAre vs cs) (hfit : cs.length < 2 ^ 20) (hi0 : 0 ≤ i)
include B F X N T hk hxd hld hrest hi hfit hi0

theorem skip_remark_s (hd : dp + 6 < recursionLimit) (hu : un + 48 < cLine)
    (hret : ∀ (t1 : Tok) (h' : Heap) (tk' : Nat), (skipRemark cs (i + 2)).2 = true → Fr h₀ L h' m → News h₀ L h' ((x, instObj 265 dx) :: (dx, dictOf (tokEs w.params k1 k2 k3 l (skipRemark cs (i + 2)).1 o t1 t2) 3) :: (l, listOf vs.toArray ep) :: rest) → Q .none { s with heap := h', toks := tk' })
    (hraise : (skipRemark cs (i + 2)).2 = false → ∀ (g : Heap) (e d : Addr) (od : Obj) (t1 : Tok) (h' : Heap) (tk' : Nat), Fr h₀ L g m → FDict w.params "unfinished_remark" i (place cs i) od → FaultR base g (envX cn sc L a ccd cl :: outer) e d ((d, od) :: ((x, instObj 265 dx) :: (dx, dictOf (tokEs w.params k1 k2 k3 l (skipRemark cs (i + 2)).1 o t1 t2) 3) :: (l, listOf vs.toArray ep) :: rest)) h' → g.UpToSlots h' → (∀ p ∈ ((x, instObj 265 dx) :: (dx, dictOf (tokEs w.params k1 k2 k3 l (skipRemark cs (i + 2)).1 o t1 t2) 3) :: (l, listOf vs.toArray ep) :: rest), p.1 < d) → E (.ref e) { s with heap := h', toks := tk' }) :
    wpC w (ktrTop dp un gd cn sc L a ccd cl outer) 199 [.ref x] Q E s := by
  k_with "state" => first | exact ⟨Int.le_refl _, rfl⟩ | exact ⟨by omega, skipRemark_on1 (by assumption) (by assumption) (by assumption)⟩ | exact ⟨by omega, skipRemark_on2 (by assumption) (by assumption) (by assumption)⟩
  k_with "measure" => (have hlt9 := codeAt_lt (cs := cs) (by assumption); omega)
  k_with "exec While Constant" => k_while (fun (_ : List Int) i' => i + 2 ≤ i' ∧ skipRemark cs i' = skipRemark cs (i + 2)) (fun (_ : List Int) i' => (cs.length + 1 - i').toNat) "self.at"
  refine wpAny_call ?_
  k_dflt cell_enter
  k_steps

  all_goals first
    | (have hs := skipRemark_out (cs := cs) (by assumption) (by assumption); rw [hs] at hraise; replace hraise := hraise rfl; (refine' hraise _ _ _ _ _ _ _ ?zf ?zd ?zr ?zu ?zl; (case zr => assumption); (case zf => assumption); (case zd => assumption); (case zu => assumption); (case zl => assumption)))
    | (have hs := skipRemark_hit (cs := cs) (by assumption) (by assumption) (by assumption); rw [hs] at hret; exact hret _ _ _ rfl (by assumption) (by assumption))
end
end
end
section -- W11
open PySem PySem.W PyProof.Rows PySem.Calls
set_option maxHeartbeats 4000000

theorem set_W11_0 : True := by
  k_with_none
  k_with "my is_list" => first | (exact News.isList (by k_asm) (by assumption)) | fail
  k_with "my k_all" => first | (assumption) | fail
  k_with "my eval Call" => first | (k_here; k_dflt (refine Call_ ?_)) | fail
  k_with "my eval Call Attribute" => first | (k_here; k_dflt (refine MethodCall_ ?_)) | fail
  k_with "my call ref" => first | (k_here; k_dflt (first | ((with_reducible show wpAny _ _ (PySem.call (Value.ref 60) _ _) _ _ _); refine' is_layout_s (by k_asm) (by k_asm) (by k_asm) (by k_asm) (by k_asm) (by first | exact rfl | assumption) (by ktr_room) (by ktr_units) ?_) | ((with_reducible show wpAny _ _ (PySem.call (Value.ref 67) _ _) _ _ _); refine' is_digit_s (by k_asm) (by k_asm) (by k_asm) (by k_asm) (by k_asm) (by first | exact rfl | assumption) (by ktr_room) (by ktr_units) ?_) | ((with_reducible show wpAny _ _ (PySem.call (Value.ref 74) _ _) _ _ _); refine' is_small_s (by k_asm) (by k_asm) (by k_asm) (by k_asm) (by k_asm) (by first | exact rfl | assumption) (by ktr_room) (by ktr_units) ?_) | ((with_reducible show wpAny _ _ (PySem.call (Value.ref 81) _ _) _ _ _); refine' is_capital_s (by k_asm) (by k_asm) (by k_asm) (by k_asm) (by k_asm) (by first | exact rfl | assumption) (by ktr_room) (by ktr_units) ?_) | ((with_reducible show wpAny _ _ (PySem.call (Value.ref 95) _ _) _ _ _); refine' is_symbol_s (by k_asm) (by k_asm) (by k_asm) (by k_asm) (by k_asm) (by first | exact rfl | assumption) (by ktr_room) (by ktr_units) ?_) | ((with_reducible show wpAny _ _ (PySem.call (Value.ref 102) _ _) _ _ _); refine' is_quotable_s (by k_asm) (by k_asm) (by k_asm) (by k_asm) (by k_asm) (by first | exact rfl | assumption) (by ktr_room) (by ktr_units) ?_) | ((with_reducible show wpAny _ _ (PySem.call (Value.ref 88) _ _) _ _ _); refine' is_alnum_s (by k_asm) (by k_asm) (by k_asm) (by k_asm) (by k_asm) (by first | exact rfl | assumption) (by ktr_room) (by ktr_units) ?_)); k_whole; intro h' tk' F' N'; (try k_sweep)) | fail
  k_with "my call ref" => first | (k_here; k_dflt (first | ((with_reducible show wpAny _ _ (PySem.call (Value.ref 109) _ _) _ _ _); refine' digit_value_s (by k_asm) (by k_asm) (by k_asm) (by k_asm) (by k_asm) (by first | exact rfl | assumption) (by ktr_room) (by ktr_units) ?_) | ((with_reducible show wpAny _ _ (PySem.call (Value.ref 128) _ _) _ _ _); refine' numeral_base_s (by k_asm) (by k_asm) (by k_asm) (by k_asm) (by k_asm) (by first | exact rfl | assumption) (by ktr_room) (by ktr_units) ?_)); k_whole; intro t' h' tk' F' N'; (try k_sweep)) | fail
  k_with "my call ref" => first | (k_here; (with_reducible show wpAny _ _ (PySem.call (Value.ref 150) _ _) _ _ _); k_dflt (refine' code_at_s (by k_asm) (by k_asm) (by k_asm) (by k_asm) (by k_asm) (by first | exact rfl | assumption) (by k_dflt k_mem) (by k_dflt k_mem) (by k_dflt k_mem) (by assumption) (by assumption) (by omega) (by ktr_room) (by ktr_units) ?_); k_whole; intro t' h' tk' F' N'; (try k_sweep)) | fail
  k_with "my call ref" => first | (k_here; (with_reducible show wpAny _ _ (PySem.call (Value.ref 220) _ _) _ _ _); k_dflt (refine' ends_at_s (by k_asm) (by k_asm) (by k_asm) (by k_asm) (by k_asm) (by first | exact rfl | assumption) (by k_dflt k_mem) (by k_dflt k_mem) (by k_dflt k_mem) (by assumption) (by assumption) (by omega) (by ktr_room) (by ktr_units) ?_); k_whole; intro h' tk' F' N'; (try k_sweep)) | fail
  k_with "my call ref" => first | (k_here; (with_reducible show wpAny _ _ (PySem.call (Value.ref 157) _ _) _ _ _); k_dflt (refine' place_s (by k_asm) (by k_asm) (by k_asm) (by k_asm) (by k_asm) (by first | exact rfl | assumption) (by k_dflt k_mem) (by k_dflt k_mem) (by k_dflt k_mem) (by assumption) (by assumption) (by ktr_room) (by ktr_units) ?_); k_whole; intro q' ta' tb' h' tk' F' N' l1; (try k_lt l1); (try k_sweep)) | fail
  k_with "my call ref" => first | (k_here; (with_reducible show wpAny _ _ (PySem.call (Value.ref 164) _ _) _ _ _); k_dflt (refine' fault_s (by k_asm) (by k_asm) (by k_asm) (by k_asm) (by k_asm) (by first | exact rfl | assumption) (by k_dflt k_mem) (by k_dflt k_mem) (by k_dflt k_mem) (by assumption) (by assumption) (by ktr_room) (by ktr_units) ?_); k_whole; intro e' t' d' od' h' tk' D' F' N' l1 l2 l3; (try k_sweep)) | fail
  k_with "my exec Raise some none" => first | (k_here; k_dflt (refine fault_raise (by exact rfl) ?_)) | fail
  k_with "my Raising" => first | (k_here; k_dflt (refine' raising_N (by k_asm) (by k_asm) (by k_asm) ?_)) | fail
  k_with "my leaving ref" => first | (k_here; k_dflt (first | (refine' fault_leaveN (by assumption) (by k_asm) (by k_asm) (by assumption) (by assumption) ?_; k_whole; intro h' R' U') | (refine' fault_leave2 (by assumption) (by assumption) (by assumption) (by assumption) ?_; k_whole; intro h' R' U'))) | fail
  k_with "my call ref" => first | (k_here; (with_reducible show wpAny _ _ (PySem.call (Value.ref 192) _ _) _ _ _); k_dflt (refine' skip_row_s (by k_asm) (by k_asm) (by k_asm) (by k_asm) (by k_asm) (by first | exact rfl | assumption) (by assumption) (by assumption) (by assumption) (by assumption) (by assumption) (by omega) (by ktr_room) (by ktr_units) ?_); k_whole; intro t1' h' tk' F' N'; (try k_sweep)) | fail
  k_with "my call ref" => first | (k_here; (with_reducible show wpAny _ _ (PySem.call (Value.ref 199) _ _) _ _ _); k_dflt (refine' skip_remark_s (by k_asm) (by k_asm) (by k_asm) (by k_asm) (by k_asm) (by first | exact rfl | assumption) (by assumption) (by assumption) (by assumption) (by assumption) (by assumption) (by omega) (by ktr_room) (by ktr_units) ?_ ?_); k_whole; intro t1' h' tk' ok' F' N'; (try k_sweep); rotate_left; k_whole; intro ok' g' e' d' od' t1' h' tk' FG' D' R' U' l'; rotate_right) | fail
  trivial
theorem skipRemark_ge (cs : List Int) (i : Int) : i ≤ (skipRemark cs i).1 := by
  fun_induction skipRemark cs i <;> omega
theorem layout_lt {cs : List Int} {i : Int} (h : isLayout (codeAt cs i) = true) : i < cs.length := by
  refine codeAt_lt fun e => ?_
  rw [e] at h
  exact absurd h (by decide)
noncomputable def skipLayout (cs : List Int) (i : Int) : Int × Option Int :=
  if isLayout (codeAt cs i) = true then skipLayout cs (i + 1)
  else if codeAt cs i = 37 then skipLayout cs (skipRow cs i)
  else if codeAt cs i = 47 ∧ codeAt cs (i + 1) = 42 then
    (if (skipRemark cs (i + 2)).2 = true then skipLayout cs (skipRemark cs (i + 2)).1 else ((skipRemark cs (i + 2)).1, some i))
  else (i, none)
termination_by (cs.length - i).toNat
decreasing_by
  · have := layout_lt (cs := cs) (by assumption); omega
  · rename_i h37
    have h1 := codeAt_lt (cs := cs) (i := i) (by omega)
    have h2 := skipRow_step (cs := cs) (i := i) (by omega) (by omega)
    have h3 := skipRow_ge cs (i + 1)
    omega
  · rename_i h47 _
    have h1 := codeAt_lt (cs := cs) (i := i) (by omega)
    have h2 := skipRemark_ge cs (i + 2)
    omega
theorem measure_row {cs : List Int} {i : Int} (h : codeAt cs i = 37) : ((cs.length : Int) + 1 - skipRow cs i).toNat < ((cs.length : Int) + 1 - i).toNat := by
  have h1 := codeAt_lt (cs := cs) (i := i) (by omega)
  have h2 := skipRow_step (cs := cs) (i := i) (by omega) (by omega)
  have h3 := skipRow_ge cs (i + 1)
  omega
theorem measure_rem {cs : List Int} {i : Int} (h : codeAt cs i = 47) : ((cs.length : Int) + 1 - (skipRemark cs (i + 2)).1).toNat < ((cs.length : Int) + 1 - i).toNat := by
  have h1 := codeAt_lt (cs := cs) (i := i) (by omega)
  have h2 := skipRemark_ge cs (i + 2)
  omega
theorem skipLayout_lay {cs : List Int} {i : Int} {r : Int × Option Int} (e : skipLayout cs i = r) (h : isLayout (codeAt cs i) = true) : skipLayout cs (i + 1) = r := by
  rw [← e, skipLayout.eq_1 cs i, if_pos h]
theorem skipLayout_row {cs : List Int} {i : Int} {r : Int × Option Int} (e : skipLayout cs i = r) (h : isLayout (codeAt cs i) = false) (h' : codeAt cs i = 37) : skipLayout cs (skipRow cs i) = r := by
  rw [← e, skipLayout.eq_1 cs i, if_neg (by simp [h]), if_pos h']
theorem skipLayout_rem {cs : List Int} {i : Int} {r : Int × Option Int} (e : skipLayout cs i = r) (h : isLayout (codeAt cs i) = false) (h' : codeAt cs i = 47) (h2 : codeAt cs (i + 1) = 42) (ok : (skipRemark cs (i + 2)).2 = true) :
    skipLayout cs (skipRemark cs (i + 2)).1 = r := by
  rw [← e, skipLayout.eq_1 cs i, if_neg (by simp [h]), if_neg (by omega), if_pos ⟨h', h2⟩, if_pos ok]
theorem skipLayout_bad {cs : List Int} {i : Int} {r : Int × Option Int} (e : skipLayout cs i = r) (h : isLayout (codeAt cs i) = false) (h' : codeAt cs i = 47) (h2 : codeAt cs (i + 1) = 42) (ok : (skipRemark cs (i + 2)).2 = false) :
    r = ((skipRemark cs (i + 2)).1, some i) := by
  rw [← e, skipLayout.eq_1 cs i, if_neg (by simp [h]), if_neg (by omega), if_pos ⟨h', h2⟩, if_neg (by simp [ok])]
theorem skipLayout_end1 {cs : List Int} {i : Int} {r : Int × Option Int} (e : skipLayout cs i = r) (h : isLayout (codeAt cs i) = false) (h' : codeAt cs i ≠ 37) (h2 : codeAt cs i ≠ 47) : r = (i, none) := by
  rw [← e, skipLayout.eq_1 cs i, if_neg (by simp [h]), if_neg h', if_neg (by omega)]
theorem skipLayout_end2 {cs : List Int} {i : Int} {r : Int × Option Int} (e : skipLayout cs i = r) (h : isLayout (codeAt cs i) = false) (h' : codeAt cs i ≠ 37) (h2 : codeAt cs (i + 1) ≠ 42) : r = (i, none) := by
  rw [← e, skipLayout.eq_1 cs i, if_neg (by simp [h]), if_neg h', if_neg (by omega)]
section
variable {w : World} {mean : ExcName → Option Value} {mg mb : Str → Option Value}
    {dp un : Nat} {gd : Option (List Code)} {cn : Str} {sc : Scope} {a : Addr} {ccd : Value} {cl : List (Str × Addr)} {outer : List Env} {A₀ : Around} {base h₀ : Heap} {L : Addr} {m : Str → Option Value} {s : Shared}
    {news rest : List (Addr × Obj)} {Q E : Value → Shared → Prop} {x dx l : Addr} {vs : List Value} {cs : List Int} {ep : Nat} {k1 k2 k3 t1 t2 : Tok} {i o : Int}
section
variable (B : Below A₀ base outer h₀) (F : Fr h₀ L s.heap m) (X : (frg.heap_1 w.params).In h₀)
    (N : News h₀ L s.heap ((x, instObj 265 dx) :: (dx, dictOf (tokEs w.params k1 k2 k3 l i o t1 t2) 3) :: (l, listOf vs.toArray ep) :: rest))
    (T : TopX mean mg mb h₀) (hk : sc.kind = .function) (hxd : x ≠ dx) (hld : l ≠ dx) (hrest : ∀ p ∈ rest, p.1 ≠ dx)
    (hi : IntsAre vs cs) (hfit : cs.length < 2 ^ 20) (hi0 : 0 ≤ i)
include B F X N T hk hxd hld hrest hi hfit hi0

theorem skip_layout_s (hd : dp + 8 < recursionLimit) (hu : un + 64 < cLine)
    (hret : ∀ (t1 : Tok) (h' : Heap) (tk' : Nat), (skipLayout cs i).2 = none → Fr h₀ L h' m → News h₀ L h' ((x, instObj 265 dx) :: (dx, dictOf (tokEs w.params k1 k2 k3 l (skipLayout cs i).1 o t1 t2) 3) :: (l, listOf vs.toArray ep) :: rest) → Q .none { s with heap := h', toks := tk' })
    (hraise : ∀ j, (skipLayout cs i).2 = some j → ∀ (g : Heap) (e d : Addr) (od : Obj) (t1 : Tok) (h' : Heap) (tk' : Nat), Fr h₀ L g m → FDict w.params "unfinished_remark" j (place cs j) od → FaultR base g (envX cn sc L a ccd cl :: outer) e d ((d, od) :: ((x, instObj 265 dx) :: (dx, dictOf (tokEs w.params k1 k2 k3 l (skipLayout cs i).1 o t1 t2) 3) :: (l, listOf vs.toArray ep) :: rest)) h' → g.UpToSlots h' → (∀ p ∈ ((x, instObj 265 dx) :: (dx, dictOf (tokEs w.params k1 k2 k3 l (skipLayout cs i).1 o t1 t2) 3) :: (l, listOf vs.toArray ep) :: rest), p.1 < d) → E (.ref e) { s with heap := h', toks := tk' }) :
    wpC w (ktrTop dp un gd cn sc L a ccd cl outer) 185 [.ref x] Q E s := by
  k_with "state" => first | exact ⟨Int.le_refl _, rfl⟩ | exact ⟨by omega, skipLayout_lay (by assumption) (by assumption)⟩ | exact ⟨Int.le_trans (by assumption) (skipRow_ge _ _), skipLayout_row (by assumption) (by assumption) (by assumption)⟩ | exact ⟨Int.le_trans (by omega) (skipRemark_ge _ _), skipLayout_rem (by assumption) (by assumption) (by assumption) (by assumption) (by assumption)⟩
  k_with "measure" => first | (have hlt9 := layout_lt (cs := cs) (by assumption); omega) | exact measure_row (by assumption) | exact measure_rem (by assumption)
  k_with "exec While Constant" => k_while (fun (_ : List Int) i' => i ≤ i' ∧ skipLayout cs i' = skipLayout cs i) (fun (_ : List Int) i' => (cs.length + 1 - i').toNat) "self.at"
  refine wpAny_call ?_
  k_dflt cell_enter
  k_steps

  all_goals first
    | (have hs := skipLayout_bad (cs := cs) (by assumption) (by assumption) (by assumption) (by assumption) (by assumption); rw [hs] at hraise; replace hraise := hraise _ rfl; (refine' hraise _ _ _ _ _ _ _ ?zf ?zd ?zr ?zu ?zl; (case zr => assumption); (case zf => assumption); (case zd => assumption); (case zu => assumption); (case zl => assumption)))
    | (have hs := skipLayout_end1 (cs := cs) (by assumption) (by assumption) (by assumption) (by assumption); rw [hs] at hret; exact hret _ _ _ rfl (by assumption) (by assumption))
    | (have hs := skipLayout_end2 (cs := cs) (by assumption) (by assumption) (by assumption) (by assumption); rw [hs] at hret; exact hret _ _ _ rfl (by assumption) (by assumption))
end
end
end
section -- W12
open PySem PySem.W PyProof.Rows PySem.Calls
set_option maxHeartbeats 4000000

theorem set_W12_0 : True := by
  k_with_none
  k_with "my is_list" => first | (exact News.isList (by k_asm) (by assumption)) | fail
  k_with "my k_all" => first | (assumption) | fail
  k_with "my eval Call" => first | (k_here; k_dflt (refine Call_ ?_)) | fail
  k_with "my eval Call Attribute" => first | (k_here; k_dflt (refine MethodCall_ ?_)) | fail
  k_with "my call ref" => first | (k_here; k_dflt (first | ((with_reducible show wpAny _ _ (PySem.call (Value.ref 60) _ _) _ _ _); refine' is_layout_s (by k_asm) (by k_asm) (by k_asm) (by k_asm) (by k_asm) (by first | exact rfl | assumption) (by ktr_room) (by ktr_units) ?_) | ((with_reducible show wpAny _ _ (PySem.call (Value.ref 67) _ _) _ _ _); refine' is_digit_s (by k_asm) (by k_asm) (by k_asm) (by k_asm) (by k_asm) (by first | exact rfl | assumption) (by ktr_room) (by ktr_units) ?_) | ((with_reducible show wpAny _ _ (PySem.call (Value.ref 74) _ _) _ _ _); refine' is_small_s (by k_asm) (by k_asm) (by k_asm) (by k_asm) (by k_asm) (by first | exact rfl | assumption) (by ktr_room) (by ktr_units) ?_) | ((with_reducible show wpAny _ _ (PySem.call (Value.ref 81) _ _) _ _ _); refine' is_capital_s (by k_asm) (by k_asm) (by k_asm) (by k_asm) (by k_asm) (by first | exact rfl | assumption) (by ktr_room) (by ktr_units) ?_) | ((with_reducible show wpAny _ _ (PySem.call (Value.ref 95) _ _) _ _ _); refine' is_symbol_s (by k_asm) (by k_asm) (by k_asm) (by k_asm) (by k_asm) (by first | exact rfl | assumption) (by ktr_room) (by ktr_units) ?_) | ((with_reducible show wpAny _ _ (PySem.call (Value.ref 102) _ _) _ _ _); refine' is_quotable_s (by k_asm) (by k_asm) (by k_asm) (by k_asm) (by k_asm) (by first | exact rfl | assumption) (by ktr_room) (by ktr_units) ?_) | ((with_reducible show wpAny _ _ (PySem.call (Value.ref 88) _ _) _ _ _); refine' is_alnum_s (by k_asm) (by k_asm) (by k_asm) (by k_asm) (by k_asm) (by first | exact rfl | assumption) (by ktr_room) (by ktr_units) ?_)); k_whole; intro h' tk' F' N'; (try k_sweep)) | fail
  k_with "my call ref" => first | (k_here; k_dflt (first | ((with_reducible show wpAny _ _ (PySem.call (Value.ref 109) _ _) _ _ _); refine' digit_value_s (by k_asm) (by k_asm) (by k_asm) (by k_asm) (by k_asm) (by first | exact rfl | assumption) (by ktr_room) (by ktr_units) ?_) | ((with_reducible show wpAny _ _ (PySem.call (Value.ref 128) _ _) _ _ _); refine' numeral_base_s (by k_asm) (by k_asm) (by k_asm) (by k_asm) (by k_asm) (by first | exact rfl | assumption) (by ktr_room) (by ktr_units) ?_)); k_whole; intro t' h' tk' F' N'; (try k_sweep)) | fail
  k_with "my call ref" => first | (k_here; (with_reducible show wpAny _ _ (PySem.call (Value.ref 150) _ _) _ _ _); k_dflt (refine' code_at_s (by k_asm) (by k_asm) (by k_asm) (by k_asm) (by k_asm) (by first | exact rfl | assumption) (by k_dflt k_mem) (by k_dflt k_mem) (by k_dflt k_mem) (by assumption) (by assumption) (by omega) (by ktr_room) (by ktr_units) ?_); k_whole; intro t' h' tk' F' N'; (try k_sweep)) | fail
  k_with "my call ref" => first | (k_here; (with_reducible show wpAny _ _ (PySem.call (Value.ref 220) _ _) _ _ _); k_dflt (refine' ends_at_s (by k_asm) (by k_asm) (by k_asm) (by k_asm) (by k_asm) (by first | exact rfl | assumption) (by k_dflt k_mem) (by k_dflt k_mem) (by k_dflt k_mem) (by assumption) (by assumption) (by omega) (by ktr_room) (by ktr_units) ?_); k_whole; intro h' tk' F' N'; (try k_sweep)) | fail
  k_with "my call ref" => first | (k_here; (with_reducible show wpAny _ _ (PySem.call (Value.ref 157) _ _) _ _ _); k_dflt (refine' place_s (by k_asm) (by k_asm) (by k_asm) (by k_asm) (by k_asm) (by first | exact rfl | assumption) (by k_dflt k_mem) (by k_dflt k_mem) (by k_dflt k_mem) (by assumption) (by assumption) (by ktr_room) (by ktr_units) ?_); k_whole; intro q' ta' tb' h' tk' F' N' l1; (try k_lt l1); (try k_sweep)) | fail
  k_with "my call ref" => first | (k_here; (with_reducible show wpAny _ _ (PySem.call (Value.ref 164) _ _) _ _ _); k_dflt (refine' fault_s (by k_asm) (by k_asm) (by k_asm) (by k_asm) (by k_asm) (by first | exact rfl | assumption) (by k_dflt k_mem) (by k_dflt k_mem) (by k_dflt k_mem) (by assumption) (by assumption) (by ktr_room) (by ktr_units) ?_); k_whole; intro e' t' d' od' h' tk' D' F' N' l1 l2 l3; (try k_sweep)) | fail
  k_with "my exec Raise some none" => first | (k_here; k_dflt (refine fault_raise (by exact rfl) ?_)) | fail
  k_with "my Raising" => first | (k_here; k_dflt (refine' raising_N (by k_asm) (by k_asm) (by k_asm) ?_)) | fail
  k_with "my leaving ref" => first | (k_here; k_dflt (first | (refine' fault_leaveN (by assumption) (by k_asm) (by k_asm) (by assumption) (by assumption) ?_; k_whole; intro h' R' U') | (refine' fault_leave2 (by assumption) (by assumption) (by assumption) (by assumption) ?_; k_whole; intro h' R' U'))) | fail
  k_with "my call ref" => first | (k_here; (with_reducible show wpAny _ _ (PySem.call (Value.ref 114) _ _) _ _ _); k_dflt (refine' codes_text_s (by k_asm) (by k_asm) (by k_asm) (by k_asm) (by k_asm) (by first | exact rfl | assumption) (by k_dflt k_mem) (by l_ints) (by k_extra "len") (by k_extra "rng") (by ktr_room) (by ktr_units) ?_); k_whole; intro t' h' tk' F' N'; (try k_sweep)) | fail
  k_with "my call ref" => first | (k_here; (with_reducible show wpAny _ _ (PySem.call (Value.ref 192) _ _) _ _ _); k_dflt (refine' skip_row_s (by k_asm) (by k_asm) (by k_asm) (by k_asm) (by k_asm) (by first | exact rfl | assumption) (by assumption) (by assumption) (by assumption) (by assumption) (by assumption) (by omega) (by ktr_room) (by ktr_units) ?_); k_whole; intro t1' h' tk' F' N'; (try k_sweep)) | fail
  k_with "my call ref" => first | (k_here; (with_reducible show wpAny _ _ (PySem.call (Value.ref 199) _ _) _ _ _); k_dflt (refine' skip_remark_s (by k_asm) (by k_asm) (by k_asm) (by k_asm) (by k_asm) (by first | exact rfl | assumption) (by assumption) (by assumption) (by assumption) (by assumption) (by assumption) (by omega) (by ktr_room) (by ktr_units) ?_ ?_); k_whole; intro t1' h' tk' ok' F' N'; (try k_sweep); rotate_left; k_whole; intro ok' g' e' d' od' t1' h' tk' FG' D' R' U' l'; rotate_right) | fail
  k_with "my call ref" => first | (k_here; (with_reducible show wpAny _ _ (PySem.call (Value.ref 185) _ _) _ _ _); k_dflt (refine' skip_layout_s (by k_asm) (by k_asm) (by k_asm) (by k_asm) (by k_asm) (by first | exact rfl | assumption) (by assumption) (by assumption) (by assumption) (by assumption) (by assumption) (by omega) (by ktr_room) (by ktr_units) ?_ ?_); k_whole; intro t1' h' tk' ok' F' N'; (try k_sweep); rotate_left; k_whole; intro j' ok' g' e' d' od' t1' h' tk' FG' D' R' U' l'; rotate_right) | fail
  trivial
inductive TV where
  | str (s : Str)
  | int (n : Int)
  | tup (l : List Int)
abbrev tup3 (k : Str) (v : Value) (at_ : Int) (ta tc : Tok) : Obj := { cls := .type "tuple", data := .seq #[.str k ta, v, .int at_ tc] }
theorem drop2 {a b : Addr × Obj} {l : List (Addr × Obj)} : ∀ p ∈ a :: l, p ∈ a :: b :: l := fun p hp => by
  rcases List.mem_cons.mp hp with rfl | hp
  · exact .head _
  · exact .tail _ (.tail _ hp)
noncomputable def symRes (cs : List Int) (i : Int) : Int × Str × Str :=
  if codeAt cs i = 46 ∧ endsAt cs (i + 1) = true then (i + 1, "end", ".") else (scanEnd isSymbol cs i, "name", codesText (sliceC cs i (scanEnd isSymbol cs i)))
section
variable {w : World} {mean : ExcName → Option Value} {mg mb : Str → Option Value}
    {dp un : Nat} {gd : Option (List Code)} {cn : Str} {sc : Scope} {a : Addr} {ccd : Value} {cl : List (Str × Addr)} {outer : List Env} {A₀ : Around} {base h₀ : Heap} {L : Addr} {m : Str → Option Value} {s : Shared}
    {news rest : List (Addr × Obj)} {Q E : Value → Shared → Prop} {x dx l : Addr} {vs : List Value} {cs : List Int} {ep : Nat} {k1 k2 k3 t1 t2 : Tok} {i o : Int}

theorem retSym {r : Int × Str × Str} {q : Addr} {ta tb tc t1 : Tok} {j : Int} {k v : Str} {h' : Heap} {tk' : Nat} (hret : ∀ (q : Addr) (ta tb tc t1 : Tok) (h' : Heap) (tk' : Nat), Fr h₀ L h' m → News h₀ L h' ((q, tup3 r.2.1 (.str r.2.2 tb) i ta tc) :: ((x, instObj 265 dx) :: (dx, dictOf (tokEs w.params k1 k2 k3 l r.1 o t1 t2) 3) :: (l, listOf vs.toArray ep) :: rest)) → (∀ p ∈ ((x, instObj 265 dx) :: (dx, dictOf (tokEs w.params k1 k2 k3 l r.1 o t1 t2) 3) :: (l, listOf vs.toArray ep) :: rest), p.1 < q) → Q (.ref q) { s with heap := h', toks := tk' })
    (e : (j, k, v) = r) (F : Fr h₀ L h' m) (N : News h₀ L h' ((q, tup3 k (.str v tb) i ta tc) :: ((x, instObj 265 dx) :: (dx, dictOf (tokEs w.params k1 k2 k3 l j o t1 t2) 3) :: (l, listOf vs.toArray ep) :: rest))) (l1 : ∀ p ∈ ((x, instObj 265 dx) :: (dx, dictOf (tokEs w.params k1 k2 k3 l j o t1 t2) 3) :: (l, listOf vs.toArray ep) :: rest), p.1 < q) : Q (.ref q) { s with heap := h', toks := tk' } := by
  subst e; exact hret _ _ _ _ _ _ _ F N l1
section
variable (B : Below A₀ base outer h₀) (F : Fr h₀ L s.heap m) (X : (frg.heap_1 w.params).In h₀)
    (N : News h₀ L s.heap ((x, instObj 265 dx) :: (dx, dictOf (tokEs w.params k1 k2 k3 l i o t1 t2) 3) :: (l, listOf vs.toArray ep) :: rest))
    (T : TopX mean mg mb h₀) (hk : sc.kind = .function) (hxd : x ≠ dx) (hld : l ≠ dx) (hrest : ∀ p ∈ rest, p.1 ≠ dx)
    (hi : IntsAre vs cs) (hfit : cs.length < 2 ^ 20) (hi0 : 0 ≤ i)
include B F X N T hk hxd hld hrest hi hfit hi0

theorem symbol_s {t9 : Tok} (hd : dp + 4 < recursionLimit) (hu : un + 32 < cLine)
    (hret : ∀ (q : Addr) (ta tb tc t1 : Tok) (h' : Heap) (tk' : Nat), Fr h₀ L h' m → News h₀ L h' ((q, tup3 (symRes cs i).2.1 (.str (symRes cs i).2.2 tb) i ta tc) :: ((x, instObj 265 dx) :: (dx, dictOf (tokEs w.params k1 k2 k3 l (symRes cs i).1 o t1 t2) 3) :: (l, listOf vs.toArray ep) :: rest)) → (∀ p ∈ ((x, instObj 265 dx) :: (dx, dictOf (tokEs w.params k1 k2 k3 l (symRes cs i).1 o t1 t2) 3) :: (l, listOf vs.toArray ep) :: rest), p.1 < q) → Q (.ref q) { s with heap := h', toks := tk' }) :
    wpC w (ktrTop dp un gd cn sc L a ccd cl outer) 213 [.ref x, .int i t9] Q E s := by
  k_with "state" => first | exact ⟨Int.le_refl _, rfl⟩ | exact ⟨by omega, scan_step symbol_m1 (by assumption) (by assumption)⟩
  k_with "measure" => (have hlt9 := scan_lt (cs := cs) symbol_m1 (by assumption); omega)
  k_with "len" => omega
  k_with "rng" => exact scan_rng symbol_nn hi0 (by assumption) (by assumption) (by assumption)
  k_with "exec While Call" => k_while (fun (_ : List Int) e => i ≤ e ∧ scanEnd isSymbol cs e = scanEnd isSymbol cs i) (fun (_ : List Int) e => (cs.length + 1 - e).toNat) "end"
  refine wpAny_call ?_
  k_dflt cell_enter
  k_steps

  all_goals first
    | (refine retSym hret ?_ (by assumption) (by first | assumption | exact cb_drop (by assumption) drop2) (by first | assumption | exact lt_of_allLt (by assumption) | exact lt_of_allLt (And.right (by assumption)) | exact lt_of_allLt (And.right (And.right (by assumption)))); unfold symRes; first | (rw [if_pos ⟨by assumption, by assumption⟩]) | (have he9 := scan_stop (p := isSymbol) (cs := cs) (by assumption) (by assumption); rw [if_neg (by simp [*]), he9]; rfl))
end
end
end
section -- W13
open PySem PySem.W PyProof.Rows PySem.Calls
set_option maxHeartbeats 4000000

theorem set_W13_0 : True := by
  k_with_none
  k_with "my is_list" => first | (exact News.isList (by k_asm) (by assumption)) | fail
  k_with "my k_all" => first | (assumption) | fail
  k_with "my eval Call" => first | (k_here; k_dflt (refine Call_ ?_)) | fail
  k_with "my eval Call Attribute" => first | (k_here; k_dflt (refine MethodCall_ ?_)) | fail
  k_with "my call ref" => first | (k_here; k_dflt (first | ((with_reducible show wpAny _ _ (PySem.call (Value.ref 60) _ _) _ _ _); refine' is_layout_s (by k_asm) (by k_asm) (by k_asm) (by k_asm) (by k_asm) (by first | exact rfl | assumption) (by ktr_room) (by ktr_units) ?_) | ((with_reducible show wpAny _ _ (PySem.call (Value.ref 67) _ _) _ _ _); refine' is_digit_s (by k_asm) (by k_asm) (by k_asm) (by k_asm) (by k_asm) (by first | exact rfl | assumption) (by ktr_room) (by ktr_units) ?_) | ((with_reducible show wpAny _ _ (PySem.call (Value.ref 74) _ _) _ _ _); refine' is_small_s (by k_asm) (by k_asm) (by k_asm) (by k_asm) (by k_asm) (by first | exact rfl | assumption) (by ktr_room) (by ktr_units) ?_) | ((with_reducible show wpAny _ _ (PySem.call (Value.ref 81) _ _) _ _ _); refine' is_capital_s (by k_asm) (by k_asm) (by k_asm) (by k_asm) (by k_asm) (by first | exact rfl | assumption) (by ktr_room) (by ktr_units) ?_) | ((with_reducible show wpAny _ _ (PySem.call (Value.ref 95) _ _) _ _ _); refine' is_symbol_s (by k_asm) (by k_asm) (by k_asm) (by k_asm) (by k_asm) (by first | exact rfl | assumption) (by ktr_room) (by ktr_units) ?_) | ((with_reducible show wpAny _ _ (PySem.call (Value.ref 102) _ _) _ _ _); refine' is_quotable_s (by k_asm) (by k_asm) (by k_asm) (by k_asm) (by k_asm) (by first | exact rfl | assumption) (by ktr_room) (by ktr_units) ?_) | ((with_reducible show wpAny _ _ (PySem.call (Value.ref 88) _ _) _ _ _); refine' is_alnum_s (by k_asm) (by k_asm) (by k_asm) (by k_asm) (by k_asm) (by first | exact rfl | assumption) (by ktr_room) (by ktr_units) ?_)); k_whole; intro h' tk' F' N'; (try k_sweep)) | fail
  k_with "my call ref" => first | (k_here; k_dflt (first | ((with_reducible show wpAny _ _ (PySem.call (Value.ref 109) _ _) _ _ _); refine' digit_value_s (by k_asm) (by k_asm) (by k_asm) (by k_asm) (by k_asm) (by first | exact rfl | assumption) (by ktr_room) (by ktr_units) ?_) | ((with_reducible show wpAny _ _ (PySem.call (Value.ref 128) _ _) _ _ _); refine' numeral_base_s (by k_asm) (by k_asm) (by k_asm) (by k_asm) (by k_asm) (by first | exact rfl | assumption) (by ktr_room) (by ktr_units) ?_)); k_whole; intro t' h' tk' F' N'; (try k_sweep)) | fail
  k_with "my call ref" => first | (k_here; (with_reducible show wpAny _ _ (PySem.call (Value.ref 150) _ _) _ _ _); k_dflt (refine' code_at_s (by k_asm) (by k_asm) (by k_asm) (by k_asm) (by k_asm) (by first | exact rfl | assumption) (by k_dflt k_mem) (by k_dflt k_mem) (by k_dflt k_mem) (by assumption) (by assumption) (by omega) (by ktr_room) (by ktr_units) ?_); k_whole; intro t' h' tk' F' N'; (try k_sweep)) | fail
  k_with "my call ref" => first | (k_here; (with_reducible show wpAny _ _ (PySem.call (Value.ref 220) _ _) _ _ _); k_dflt (refine' ends_at_s (by k_asm) (by k_asm) (by k_asm) (by k_asm) (by k_asm) (by first | exact rfl | assumption) (by k_dflt k_mem) (by k_dflt k_mem) (by k_dflt k_mem) (by assumption) (by assumption) (by omega) (by ktr_room) (by ktr_units) ?_); k_whole; intro h' tk' F' N'; (try k_sweep)) | fail
  k_with "my call ref" => first | (k_here; (with_reducible show wpAny _ _ (PySem.call (Value.ref 157) _ _) _ _ _); k_dflt (refine' place_s (by k_asm) (by k_asm) (by k_asm) (by k_asm) (by k_asm) (by first | exact rfl | assumption) (by k_dflt k_mem) (by k_dflt k_mem) (by k_dflt k_mem) (by assumption) (by assumption) (by ktr_room) (by ktr_units) ?_); k_whole; intro q' ta' tb' h' tk' F' N' l1; (try k_lt l1); (try k_sweep)) | fail
  k_with "my call ref" => first | (k_here; (with_reducible show wpAny _ _ (PySem.call (Value.ref 164) _ _) _ _ _); k_dflt (refine' fault_s (by k_asm) (by k_asm) (by k_asm) (by k_asm) (by k_asm) (by first | exact rfl | assumption) (by k_dflt k_mem) (by k_dflt k_mem) (by k_dflt k_mem) (by assumption) (by assumption) (by ktr_room) (by ktr_units) ?_); k_whole; intro e' t' d' od' h' tk' D' F' N' l1 l2 l3; (try k_sweep)) | fail
  k_with "my exec Raise some none" => first | (k_here; k_dflt (refine fault_raise (by exact rfl) ?_)) | fail
  k_with "my Raising" => first | (k_here; k_dflt (refine' raising_N (by k_asm) (by k_asm) (by k_asm) ?_)) | fail
  k_with "my leaving ref" => first | (k_here; k_dflt (first | (refine' fault_leaveN (by assumption) (by k_asm) (by k_asm) (by assumption) (by assumption) ?_; k_whole; intro h' R' U') | (refine' fault_leave2 (by assumption) (by assumption) (by assumption) (by assumption) ?_; k_whole; intro h' R' U'))) | fail
  k_with "my call ref" => first | (k_here; (with_reducible show wpAny _ _ (PySem.call (Value.ref 114) _ _) _ _ _); k_dflt (refine' codes_text_s (by k_asm) (by k_asm) (by k_asm) (by k_asm) (by k_asm) (by first | exact rfl | assumption) (by k_dflt k_mem) (by l_ints) (by k_extra "len") (by k_extra "rng") (by ktr_room) (by ktr_units) ?_); k_whole; intro t' h' tk' F' N'; (try k_sweep)) | fail
  k_with "my call ref" => first | (k_here; (with_reducible show wpAny _ _ (PySem.call (Value.ref 192) _ _) _ _ _); k_dflt (refine' skip_row_s (by k_asm) (by k_asm) (by k_asm) (by k_asm) (by k_asm) (by first | exact rfl | assumption) (by assumption) (by assumption) (by assumption) (by assumption) (by assumption) (by omega) (by ktr_room) (by ktr_units) ?_); k_whole; intro t1' h' tk' F' N'; (try k_sweep)) | fail
  k_with "my call ref" => first | (k_here; (with_reducible show wpAny _ _ (PySem.call (Value.ref 199) _ _) _ _ _); k_dflt (refine' skip_remark_s (by k_asm) (by k_asm) (by k_asm) (by k_asm) (by k_asm) (by first | exact rfl | assumption) (by assumption) (by assumption) (by assumption) (by assumption) (by assumption) (by omega) (by ktr_room) (by ktr_units) ?_ ?_); k_whole; intro t1' h' tk' ok' F' N'; (try k_sweep); rotate_left; k_whole; intro ok' g' e' d' od' t1' h' tk' FG' D' R' U' l'; rotate_right) | fail
  k_with "my call ref" => first | (k_here; (with_reducible show wpAny _ _ (PySem.call (Value.ref 185) _ _) _ _ _); k_dflt (refine' skip_layout_s (by k_asm) (by k_asm) (by k_asm) (by k_asm) (by k_asm) (by first | exact rfl | assumption) (by assumption) (by assumption) (by assumption) (by assumption) (by assumption) (by omega) (by ktr_room) (by ktr_units) ?_ ?_); k_whole; intro t1' h' tk' ok' F' N'; (try k_sweep); rotate_left; k_whole; intro j' ok' g' e' d' od' t1' h' tk' FG' D' R' U' l'; rotate_right) | fail
  trivial
theorem digit_m1 : digitValue (-1) = -1 := by decide
theorem digit_lt {cs : List Int} {i : Int} (h : ¬ digitValue (codeAt cs i) < 0) : i < cs.length := by
  refine codeAt_lt fun e => ?_
  rw [e, digit_m1] at h
  omega
noncomputable def digitsGo (cs : List Int) (base i v : Int) : Int × Int :=
  if digitValue (codeAt cs i) < 0 ∨ digitValue (codeAt cs i) ≥ base then (i, v) else digitsGo cs base (i + 1) (v * base + digitValue (codeAt cs i))
termination_by (cs.length - i).toNat
decreasing_by have := digit_lt (cs := cs) (i := i) (by omega); omega
theorem digits_on {cs : List Int} {base i v : Int} {r : Int × Int} (e : digitsGo cs base i v = r) (h : ¬ digitValue (codeAt cs i) < 0) (h' : ¬ base ≤ digitValue (codeAt cs i)) : digitsGo cs base (i + 1) (v * base + digitValue (codeAt cs i)) = r := by
  rw [← e, digitsGo.eq_1 cs base i v, if_neg (by omega)]
theorem digits_end {cs : List Int} {base i v : Int} {r : Int × Int} (e : digitsGo cs base i v = r) (h : digitValue (codeAt cs i) < 0 ∨ base ≤ digitValue (codeAt cs i)) : (i, v) = r := by
  rw [← e, digitsGo.eq_1 cs base i v, if_pos (by omega)]
section
variable {w : World} {mean : ExcName → Option Value} {mg mb : Str → Option Value}
    {dp un : Nat} {gd : Option (List Code)} {cn : Str} {sc : Scope} {a : Addr} {ccd : Value} {cl : List (Str × Addr)} {outer : List Env} {A₀ : Around} {base h₀ : Heap} {L : Addr} {m : Str → Option Value} {s : Shared}
    {news rest : List (Addr × Obj)} {Q E : Value → Shared → Prop} {x dx l : Addr} {vs : List Value} {cs : List Int} {ep : Nat} {k1 k2 k3 t1 t2 : Tok} {i o : Int}

theorem retMI {r : Int × Int} {v j : Int} {t1 ta : Tok} {h' : Heap} {tk' : Nat} (hret : ∀ (t1 ta : Tok) (h' : Heap) (tk' : Nat), Fr h₀ L h' m → News h₀ L h' ((x, instObj 265 dx) :: (dx, dictOf (tokEs w.params k1 k2 k3 l r.1 o t1 t2) 3) :: (l, listOf vs.toArray ep) :: rest) → Q (.int r.2 ta) { s with heap := h', toks := tk' }) (e : (j, v) = r)
    (F : Fr h₀ L h' m) (N : News h₀ L h' ((x, instObj 265 dx) :: (dx, dictOf (tokEs w.params k1 k2 k3 l j o t1 t2) 3) :: (l, listOf vs.toArray ep) :: rest)) : Q (.int v ta) { s with heap := h', toks := tk' } := by
  subst e; exact hret _ _ _ _ F N
section
variable (B : Below A₀ base outer h₀) (F : Fr h₀ L s.heap m) (X : (frg.heap_1 w.params).In h₀)
    (N : News h₀ L s.heap ((x, instObj 265 dx) :: (dx, dictOf (tokEs w.params k1 k2 k3 l i o t1 t2) 3) :: (l, listOf vs.toArray ep) :: rest))
    (T : TopX mean mg mb h₀) (hk : sc.kind = .function) (hxd : x ≠ dx) (hld : l ≠ dx) (hrest : ∀ p ∈ rest, p.1 ≠ dx)
    (hi : IntsAre vs cs) (hfit : cs.length < 2 ^ 20) (hi0 : 0 ≤ i)
include B F X N T hk hxd hld hrest hi hfit hi0

theorem digits_s {j base : Int} {t8 t9 : Tok} (hj : 0 ≤ j) (hb0 : 0 ≤ base) (hb : base ≤ 16) (hd : dp + 4 < recursionLimit) (hu : un + 32 < cLine)
    (hret : ∀ (t1 ta : Tok) (h' : Heap) (tk' : Nat), Fr h₀ L h' m → News h₀ L h' ((x, instObj 265 dx) :: (dx, dictOf (tokEs w.params k1 k2 k3 l (digitsGo cs base j 0).1 o t1 t2) 3) :: (l, listOf vs.toArray ep) :: rest) → Q (.int (digitsGo cs base j 0).2 ta) { s with heap := h', toks := tk' }) :
    wpC w (ktrTop dp un gd cn sc L a ccd cl outer) 234 [.ref x, .int j t8, .int base t9] Q E s := by
  k_with "state" => first | exact ⟨by omega, rfl⟩ | exact ⟨by omega, digits_on (by assumption) (by assumption) (by assumption)⟩
  k_with "measure" => (have hlt9 := digit_lt (cs := cs) (by assumption); omega)
  k_with "exec While Constant" => k_while (fun (_ : List Int) a v => 0 ≤ a ∧ digitsGo cs base a v = digitsGo cs base j 0) (fun (_ : List Int) a _ => (cs.length + 1 - a).toNat) "index" "value"
  refine wpAny_call ?_
  k_dflt cell_enter
  k_steps

  all_goals first
    | (refine retMI hret ?_ (by assumption) (by assumption); exact digits_end (by assumption) (by first | exact .inl (by assumption) | exact .inr (by assumption)))
end
end
end
section -- W14
open PySem PySem.W PyProof.Rows PySem.Calls
set_option maxHeartbeats 4000000

theorem set_W14_0 : True := by
  k_with_none
  k_with "my is_list" => first | (exact News.isList (by k_asm) (by assumption)) | fail
  k_with "my k_all" => first | (assumption) | fail
  k_with "my eval Call" => first | (k_here; k_dflt (refine Call_ ?_)) | fail
  k_with "my eval Call Attribute" => first | (k_here; k_dflt (refine MethodCall_ ?_)) | fail
  k_with "my call ref" => first | (k_here; k_dflt (first | ((with_reducible show wpAny _ _ (PySem.call (Value.ref 60) _ _) _ _ _); refine' is_layout_s (by k_asm) (by k_asm) (by k_asm) (by k_asm) (by k_asm) (by first | exact rfl | assumption) (by ktr_room) (by ktr_units) ?_) | ((with_reducible show wpAny _ _ (PySem.call (Value.ref 67) _ _) _ _ _); refine' is_digit_s (by k_asm) (by k_asm) (by k_asm) (by k_asm) (by k_asm) (by first | exact rfl | assumption) (by ktr_room) (by ktr_units) ?_) | ((with_reducible show wpAny _ _ (PySem.call (Value.ref 74) _ _) _ _ _); refine' is_small_s (by k_asm) (by k_asm) (by k_asm) (by k_asm) (by k_asm) (by first | exact rfl | assumption) (by ktr_room) (by ktr_units) ?_) | ((with_reducible show wpAny _ _ (PySem.call (Value.ref 81) _ _) _ _ _); refine' is_capital_s (by k_asm) (by k_asm) (by k_asm) (by k_asm) (by k_asm) (by first | exact rfl | assumption) (by ktr_room) (by ktr_units) ?_) | ((with_reducible show wpAny _ _ (PySem.call (Value.ref 95) _ _) _ _ _); refine' is_symbol_s (by k_asm) (by k_asm) (by k_asm) (by k_asm) (by k_asm) (by first | exact rfl | assumption) (by ktr_room) (by ktr_units) ?_) | ((with_reducible show wpAny _ _ (PySem.call (Value.ref 102) _ _) _ _ _); refine' is_quotable_s (by k_asm) (by k_asm) (by k_asm) (by k_asm) (by k_asm) (by first | exact rfl | assumption) (by ktr_room) (by ktr_units) ?_) | ((with_reducible show wpAny _ _ (PySem.call (Value.ref 88) _ _) _ _ _); refine' is_alnum_s (by k_asm) (by k_asm) (by k_asm) (by k_asm) (by k_asm) (by first | exact rfl | assumption) (by ktr_room) (by ktr_units) ?_)); k_whole; intro h' tk' F' N'; (try k_sweep)) | fail
  k_with "my call ref" => first | (k_here; k_dflt (first | ((with_reducible show wpAny _ _ (PySem.call (Value.ref 109) _ _) _ _ _); refine' digit_value_s (by k_asm) (by k_asm) (by k_asm) (by k_asm) (by k_asm) (by first | exact rfl | assumption) (by ktr_room) (by ktr_units) ?_) | ((with_reducible show wpAny _ _ (PySem.call (Value.ref 128) _ _) _ _ _); refine' numeral_base_s (by k_asm) (by k_asm) (by k_asm) (by k_asm) (by k_asm) (by first | exact rfl | assumption) (by ktr_room) (by ktr_units) ?_)); k_whole; intro t' h' tk' F' N'; (try k_sweep)) | fail
  k_with "my call ref" => first | (k_here; (with_reducible show wpAny _ _ (PySem.call (Value.ref 150) _ _) _ _ _); k_dflt (refine' code_at_s (by k_asm) (by k_asm) (by k_asm) (by k_asm) (by k_asm) (by first | exact rfl | assumption) (by k_dflt k_mem) (by k_dflt k_mem) (by k_dflt k_mem) (by assumption) (by assumption) (by omega) (by ktr_room) (by ktr_units) ?_); k_whole; intro t' h' tk' F' N'; (try k_sweep)) | fail
  k_with "my call ref" => first | (k_here; (with_reducible show wpAny _ _ (PySem.call (Value.ref 220) _ _) _ _ _); k_dflt (refine' ends_at_s (by k_asm) (by k_asm) (by k_asm) (by k_asm) (by k_asm) (by first | exact rfl | assumption) (by k_dflt k_mem) (by k_dflt k_mem) (by k_dflt k_mem) (by assumption) (by assumption) (by omega) (by ktr_room) (by ktr_units) ?_); k_whole; intro h' tk' F' N'; (try k_sweep)) | fail
  k_with "my call ref" => first | (k_here; (with_reducible show wpAny _ _ (PySem.call (Value.ref 157) _ _) _ _ _); k_dflt (refine' place_s (by k_asm) (by k_asm) (by k_asm) (by k_asm) (by k_asm) (by first | exact rfl | assumption) (by k_dflt k_mem) (by k_dflt k_mem) (by k_dflt k_mem) (by assumption) (by assumption) (by ktr_room) (by ktr_units) ?_); k_whole; intro q' ta' tb' h' tk' F' N' l1; (try k_lt l1); (try k_sweep)) | fail
  k_with "my call ref" => first | (k_here; (with_reducible show wpAny _ _ (PySem.call (Value.ref 164) _ _) _ _ _); k_dflt (refine' fault_s (by k_asm) (by k_asm) (by k_asm) (by k_asm) (by k_asm) (by first | exact rfl | assumption) (by k_dflt k_mem) (by k_dflt k_mem) (by k_dflt k_mem) (by assumption) (by assumption) (by ktr_room) (by ktr_units) ?_); k_whole; intro e' t' d' od' h' tk' D' F' N' l1 l2 l3; (try k_sweep)) | fail
  k_with "my exec Raise some none" => first | (k_here; k_dflt (refine fault_raise (by exact rfl) ?_)) | fail
  k_with "my Raising" => first | (k_here; k_dflt (refine' raising_N (by k_asm) (by k_asm) (by k_asm) ?_)) | fail
  k_with "my leaving ref" => first | (k_here; k_dflt (first | (refine' fault_leaveN (by assumption) (by k_asm) (by k_asm) (by assumption) (by assumption) ?_; k_whole; intro h' R' U') | (refine' fault_leave2 (by assumption) (by assumption) (by assumption) (by assumption) ?_; k_whole; intro h' R' U'))) | fail
  k_with "my call ref" => first | (k_here; (with_reducible show wpAny _ _ (PySem.call (Value.ref 114) _ _) _ _ _); k_dflt (refine' codes_text_s (by k_asm) (by k_asm) (by k_asm) (by k_asm) (by k_asm) (by first | exact rfl | assumption) (by k_dflt k_mem) (by l_ints) (by k_extra "len") (by k_extra "rng") (by ktr_room) (by ktr_units) ?_); k_whole; intro t' h' tk' F' N'; (try k_sweep)) | fail
  k_with "my call ref" => first | (k_here; (with_reducible show wpAny _ _ (PySem.call (Value.ref 192) _ _) _ _ _); k_dflt (refine' skip_row_s (by k_asm) (by k_asm) (by k_asm) (by k_asm) (by k_asm) (by first | exact rfl | assumption) (by assumption) (by assumption) (by assumption) (by assumption) (by assumption) (by omega) (by ktr_room) (by ktr_units) ?_); k_whole; intro t1' h' tk' F' N'; (try k_sweep)) | fail
  k_with "my call ref" => first | (k_here; (with_reducible show wpAny _ _ (PySem.call (Value.ref 199) _ _) _ _ _); k_dflt (refine' skip_remark_s (by k_asm) (by k_asm) (by k_asm) (by k_asm) (by k_asm) (by first | exact rfl | assumption) (by assumption) (by assumption) (by assumption) (by assumption) (by assumption) (by omega) (by ktr_room) (by ktr_units) ?_ ?_); k_whole; intro t1' h' tk' ok' F' N'; (try k_sweep); rotate_left; k_whole; intro ok' g' e' d' od' t1' h' tk' FG' D' R' U' l'; rotate_right) | fail
  k_with "my call ref" => first | (k_here; (with_reducible show wpAny _ _ (PySem.call (Value.ref 185) _ _) _ _ _); k_dflt (refine' skip_layout_s (by k_asm) (by k_asm) (by k_asm) (by k_asm) (by k_asm) (by first | exact rfl | assumption) (by assumption) (by assumption) (by assumption) (by assumption) (by assumption) (by omega) (by ktr_room) (by ktr_units) ?_ ?_); k_whole; intro t1' h' tk' ok' F' N'; (try k_sweep); rotate_left; k_whole; intro j' ok' g' e' d' od' t1' h' tk' FG' D' R' U' l'; rotate_right) | fail
  k_with "my call ref" => first | (k_here; (with_reducible show wpAny _ _ (PySem.call (Value.ref 121) _ _) _ _ _); k_dflt (refine' simple_escape_s (by k_asm) (by k_asm) (by k_asm) (by k_asm) (by k_asm) (by first | exact rfl | assumption) (by ktr_room) (by ktr_units) (by exact codeAt_le _ _) ?_); k_whole; intro t' h' tk' F' N'; (try k_sweep)) | fail
  trivial
noncomputable def escGo (cs : List Int) (base i v : Int) : Int × Int :=
  if digitValue (codeAt cs i) < 0 ∨ digitValue (codeAt cs i) ≥ base then (i, v) else escGo cs base (i + 1) (if v ≤ 1114111 then v * base + digitValue (codeAt cs i) else v)
termination_by (cs.length - i).toNat
decreasing_by have := digit_lt (cs := cs) (i := i) (by omega); omega
theorem esc_on1 {cs : List Int} {base i v : Int} {r : Int × Int} (e : escGo cs base i v = r) (h : ¬ digitValue (codeAt cs i) < 0) (h' : ¬ base ≤ digitValue (codeAt cs i)) (h2 : v ≤ 1114111) : escGo cs base (i + 1) (v * base + digitValue (codeAt cs i)) = r := by
  rw [← e, escGo.eq_1 cs base i v, if_neg (by omega), if_pos h2]
theorem esc_on2 {cs : List Int} {base i v : Int} {r : Int × Int} (e : escGo cs base i v = r) (h : ¬ digitValue (codeAt cs i) < 0) (h' : ¬ base ≤ digitValue (codeAt cs i)) (h2 : ¬ v ≤ 1114111) : escGo cs base (i + 1) v = r := by
  rw [← e, escGo.eq_1 cs base i v, if_neg (by omega), if_neg h2]
theorem esc_end {cs : List Int} {base i v : Int} {r : Int × Int} (e : escGo cs base i v = r) (h : digitValue (codeAt cs i) < 0 ∨ base ≤ digitValue (codeAt cs i)) : r = (i, v) := by
  rw [← e, escGo.eq_1 cs base i v, if_pos (by omega)]
noncomputable def escTail (cs : List Int) (i st : Int) (r : Int × Int) : Int × Int :=
  if r.1 = st ∨ r.2 > 1114111 ∨ codeAt cs r.1 ≠ 92 then (i, -1) else (r.1 + 1, r.2)
noncomputable def escape (cs : List Int) (i : Int) : Int × Int :=
  if 0 ≤ simpleEscape (codeAt cs (i + 1)) then (i + 1 + 1, simpleEscape (codeAt cs (i + 1)))
  else if codeAt cs (i + 1) = 120 then escTail cs i (i + 1 + 1) (escGo cs 16 (i + 1 + 1) 0)
  else escTail cs i (i + 1) (escGo cs 8 (i + 1) 0)
section
variable {w : World} {mean : ExcName → Option Value} {mg mb : Str → Option Value}
    {dp un : Nat} {gd : Option (List Code)} {cn : Str} {sc : Scope} {a : Addr} {ccd : Value} {cl : List (Str × Addr)} {outer : List Env} {A₀ : Around} {base h₀ : Heap} {L : Addr} {m : Str → Option Value} {s : Shared}
    {news rest : List (Addr × Obj)} {Q E : Value → Shared → Prop} {x dx l : Addr} {vs : List Value} {cs : List Int} {ep : Nat} {k1 k2 k3 t1 t2 : Tok} {i o : Int}
section
variable (B : Below A₀ base outer h₀) (F : Fr h₀ L s.heap m) (X : (frg.heap_1 w.params).In h₀)
    (N : News h₀ L s.heap ((x, instObj 265 dx) :: (dx, dictOf (tokEs w.params k1 k2 k3 l i o t1 t2) 3) :: (l, listOf vs.toArray ep) :: rest))
    (T : TopX mean mg mb h₀) (hk : sc.kind = .function) (hxd : x ≠ dx) (hld : l ≠ dx) (hrest : ∀ p ∈ rest, p.1 ≠ dx)
    (hi : IntsAre vs cs) (hfit : cs.length < 2 ^ 20) (hi0 : 0 ≤ i)
include B F X N T hk hxd hld hrest hi hfit hi0

theorem escape_s (hd : dp + 4 < recursionLimit) (hu : un + 32 < cLine)
    (hret : ∀ (t1 ta : Tok) (h' : Heap) (tk' : Nat), Fr h₀ L h' m → News h₀ L h' ((x, instObj 265 dx) :: (dx, dictOf (tokEs w.params k1 k2 k3 l (escape cs i).1 o t1 t2) 3) :: (l, listOf vs.toArray ep) :: rest) → Q (.int (escape cs i).2 ta) { s with heap := h', toks := tk' }) :
    wpC w (ktrTop dp un gd cn sc L a ccd cl outer) 255 [.ref x] Q E s := by
  k_with "state" => first | exact ⟨by omega, rfl⟩ | exact ⟨by omega, esc_on1 (by assumption) (by assumption) (by assumption) (by assumption)⟩ | exact ⟨by omega, esc_on2 (by assumption) (by assumption) (by assumption) (by assumption)⟩
  k_with "measure" => (have hlt9 := digit_lt (cs := cs) (by assumption); omega)
  k_with "exec While Constant" => k_while (fun (_ : List Int) a v => 0 ≤ a ∧ escGo cs 8 a v = escGo cs 8 (i + 1) 0) (fun (_ : List Int) a _ => (cs.length + 1 - a).toNat) "index" "value"
  k_with "exec While Constant" => k_while (fun (_ : List Int) a v => 0 ≤ a ∧ escGo cs 16 a v = escGo cs 16 (i + 1 + 1) 0) (fun (_ : List Int) a _ => (cs.length + 1 - a).toNat) "index" "value"
  refine wpAny_call ?_
  k_dflt cell_enter
  k_steps

  all_goals first
    | (refine retMI hret ?_ (by assumption) (by assumption); unfold escape; rw [if_pos (by assumption)]; done)
    | (have he9 := esc_end (by assumption) (by first | exact Or.inl (by assumption) | exact Or.inr (by assumption)); refine retMI hret ?_ (by assumption) (by assumption); unfold escape; rw [if_neg (by assumption)]; (first | rw [if_pos (by assumption)] | rw [if_neg (by assumption)]); rw [he9]; unfold escTail; dsimp only; first | (rw [if_pos (by omega)]; done) | (rw [if_neg (by omega)]; done))
end
end
end
section -- W15
open PySem PySem.W PyProof.Rows PySem.Calls
set_option maxHeartbeats 4000000

theorem set_W15_0 : True := by
  k_with_none
  k_with "my is_list" => first | (exact News.isList (by k_asm) (by assumption)) | fail
  k_with "my k_all" => first | (assumption) | fail
  k_with "my eval Call" => first | (k_here; k_dflt (refine Call_ ?_)) | fail
  k_with "my eval Call Attribute" => first | (k_here; k_dflt (refine MethodCall_ ?_)) | fail
  k_with "my call ref" => first | (k_here; k_dflt (first | ((with_reducible show wpAny _ _ (PySem.call (Value.ref 60) _ _) _ _ _); refine' is_layout_s (by k_asm) (by k_asm) (by k_asm) (by k_asm) (by k_asm) (by first | exact rfl | assumption) (by ktr_room) (by ktr_units) ?_) | ((with_reducible show wpAny _ _ (PySem.call (Value.ref 67) _ _) _ _ _); refine' is_digit_s (by k_asm) (by k_asm) (by k_asm) (by k_asm) (by k_asm) (by first | exact rfl | assumption) (by ktr_room) (by ktr_units) ?_) | ((with_reducible show wpAny _ _ (PySem.call (Value.ref 74) _ _) _ _ _); refine' is_small_s (by k_asm) (by k_asm) (by k_asm) (by k_asm) (by k_asm) (by first | exact rfl | assumption) (by ktr_room) (by ktr_units) ?_) | ((with_reducible show wpAny _ _ (PySem.call (Value.ref 81) _ _) _ _ _); refine' is_capital_s (by k_asm) (by k_asm) (by k_asm) (by k_asm) (by k_asm) (by first | exact rfl | assumption) (by ktr_room) (by ktr_units) ?_) | ((with_reducible show wpAny _ _ (PySem.call (Value.ref 95) _ _) _ _ _); refine' is_symbol_s (by k_asm) (by k_asm) (by k_asm) (by k_asm) (by k_asm) (by first | exact rfl | assumption) (by ktr_room) (by ktr_units) ?_) | ((with_reducible show wpAny _ _ (PySem.call (Value.ref 102) _ _) _ _ _); refine' is_quotable_s (by k_asm) (by k_asm) (by k_asm) (by k_asm) (by k_asm) (by first | exact rfl | assumption) (by ktr_room) (by ktr_units) ?_) | ((with_reducible show wpAny _ _ (PySem.call (Value.ref 88) _ _) _ _ _); refine' is_alnum_s (by k_asm) (by k_asm) (by k_asm) (by k_asm) (by k_asm) (by first | exact rfl | assumption) (by ktr_room) (by ktr_units) ?_)); k_whole; intro h' tk' F' N'; (try k_sweep)) | fail
  k_with "my call ref" => first | (k_here; k_dflt (first | ((with_reducible show wpAny _ _ (PySem.call (Value.ref 109) _ _) _ _ _); refine' digit_value_s (by k_asm) (by k_asm) (by k_asm) (by k_asm) (by k_asm) (by first | exact rfl | assumption) (by ktr_room) (by ktr_units) ?_) | ((with_reducible show wpAny _ _ (PySem.call (Value.ref 128) _ _) _ _ _); refine' numeral_base_s (by k_asm) (by k_asm) (by k_asm) (by k_asm) (by k_asm) (by first | exact rfl | assumption) (by ktr_room) (by ktr_units) ?_)); k_whole; intro t' h' tk' F' N'; (try k_sweep)) | fail
  k_with "my call ref" => first | (k_here; (with_reducible show wpAny _ _ (PySem.call (Value.ref 150) _ _) _ _ _); k_dflt (refine' code_at_s (by k_asm) (by k_asm) (by k_asm) (by k_asm) (by k_asm) (by first | exact rfl | assumption) (by k_dflt k_mem) (by k_dflt k_mem) (by k_dflt k_mem) (by assumption) (by assumption) (by omega) (by ktr_room) (by ktr_units) ?_); k_whole; intro t' h' tk' F' N'; (try k_sweep)) | fail
  k_with "my call ref" => first | (k_here; (with_reducible show wpAny _ _ (PySem.call (Value.ref 220) _ _) _ _ _); k_dflt (refine' ends_at_s (by k_asm) (by k_asm) (by k_asm) (by k_asm) (by k_asm) (by first | exact rfl | assumption) (by k_dflt k_mem) (by k_dflt k_mem) (by k_dflt k_mem) (by assumption) (by assumption) (by omega) (by ktr_room) (by ktr_units) ?_); k_whole; intro h' tk' F' N'; (try k_sweep)) | fail
  k_with "my call ref" => first | (k_here; (with_reducible show wpAny _ _ (PySem.call (Value.ref 157) _ _) _ _ _); k_dflt (refine' place_s (by k_asm) (by k_asm) (by k_asm) (by k_asm) (by k_asm) (by first | exact rfl | assumption) (by k_dflt k_mem) (by k_dflt k_mem) (by k_dflt k_mem) (by assumption) (by assumption) (by ktr_room) (by ktr_units) ?_); k_whole; intro q' ta' tb' h' tk' F' N' l1; (try k_lt l1); (try k_sweep)) | fail
  k_with "my call ref" => first | (k_here; (with_reducible show wpAny _ _ (PySem.call (Value.ref 164) _ _) _ _ _); k_dflt (refine' fault_s (by k_asm) (by k_asm) (by k_asm) (by k_asm) (by k_asm) (by first | exact rfl | assumption) (by k_dflt k_mem) (by k_dflt k_mem) (by k_dflt k_mem) (by assumption) (by assumption) (by ktr_room) (by ktr_units) ?_); k_whole; intro e' t' d' od' h' tk' D' F' N' l1 l2 l3; (try k_sweep)) | fail
  k_with "my exec Raise some none" => first | (k_here; k_dflt (refine fault_raise (by exact rfl) ?_)) | fail
  k_with "my Raising" => first | (k_here; k_dflt (refine' raising_N (by k_asm) (by k_asm) (by k_asm) ?_)) | fail
  k_with "my leaving ref" => first | (k_here; k_dflt (first | (refine' fault_leaveN (by assumption) (by k_asm) (by k_asm) (by assumption) (by assumption) ?_; k_whole; intro h' R' U') | (refine' fault_leave2 (by assumption) (by assumption) (by assumption) (by assumption) ?_; k_whole; intro h' R' U'))) | fail
  k_with "my call ref" => first | (k_here; (with_reducible show wpAny _ _ (PySem.call (Value.ref 114) _ _) _ _ _); k_dflt (refine' codes_text_s (by k_asm) (by k_asm) (by k_asm) (by k_asm) (by k_asm) (by first | exact rfl | assumption) (by k_dflt k_mem) (by l_ints) (by k_extra "len") (by k_extra "rng") (by ktr_room) (by ktr_units) ?_); k_whole; intro t' h' tk' F' N'; (try k_sweep)) | fail
  k_with "my call ref" => first | (k_here; (with_reducible show wpAny _ _ (PySem.call (Value.ref 192) _ _) _ _ _); k_dflt (refine' skip_row_s (by k_asm) (by k_asm) (by k_asm) (by k_asm) (by k_asm) (by first | exact rfl | assumption) (by assumption) (by assumption) (by assumption) (by assumption) (by assumption) (by omega) (by ktr_room) (by ktr_units) ?_); k_whole; intro t1' h' tk' F' N'; (try k_sweep)) | fail
  k_with "my call ref" => first | (k_here; (with_reducible show wpAny _ _ (PySem.call (Value.ref 199) _ _) _ _ _); k_dflt (refine' skip_remark_s (by k_asm) (by k_asm) (by k_asm) (by k_asm) (by k_asm) (by first | exact rfl | assumption) (by assumption) (by assumption) (by assumption) (by assumption) (by assumption) (by omega) (by ktr_room) (by ktr_units) ?_ ?_); k_whole; intro t1' h' tk' ok' F' N'; (try k_sweep); rotate_left; k_whole; intro ok' g' e' d' od' t1' h' tk' FG' D' R' U' l'; rotate_right) | fail
  k_with "my call ref" => first | (k_here; (with_reducible show wpAny _ _ (PySem.call (Value.ref 185) _ _) _ _ _); k_dflt (refine' skip_layout_s (by k_asm) (by k_asm) (by k_asm) (by k_asm) (by k_asm) (by first | exact rfl | assumption) (by assumption) (by assumption) (by assumption) (by assumption) (by assumption) (by omega) (by ktr_room) (by ktr_units) ?_ ?_); k_whole; intro t1' h' tk' ok' F' N'; (try k_sweep); rotate_left; k_whole; intro j' ok' g' e' d' od' t1' h' tk' FG' D' R' U' l'; rotate_right) | fail
  k_with "my call ref" => first | (k_here; (with_reducible show wpAny _ _ (PySem.call (Value.ref 121) _ _) _ _ _); k_dflt (refine' simple_escape_s (by k_asm) (by k_asm) (by k_asm) (by k_asm) (by k_asm) (by first | exact rfl | assumption) (by ktr_room) (by ktr_units) (by exact codeAt_le _ _) ?_); k_whole; intro t' h' tk' F' N'; (try k_sweep)) | fail
  trivial
noncomputable def abandon (cs : List Int) (q i : Int) : Int :=
  if codeAt cs i = -1 ∨ codeAt cs i = 10 then i
  else if codeAt cs i = 92 ∧ codeAt cs (i + 1) ≠ -1 then abandon cs q (i + 2)
  else if codeAt cs i = q ∧ codeAt cs (i + 1) = q then abandon cs q (i + 2)
  else if codeAt cs i = q then i + 1
  else abandon cs q (i + 1)
termination_by (cs.length - i).toNat
decreasing_by all_goals exact dec_lt _ (codeAt_lt fun q => absurd (.inl q) (by assumption : ¬(_ ∨ _)))
theorem abandon_end {cs : List Int} {q i r : Int} (e : abandon cs q i = r) (h : codeAt cs i = -1 ∨ codeAt cs i = 10) : i = r := by rw [← e, abandon.eq_1 cs q i, if_pos h]
theorem abandon_bs {cs : List Int} {q i r : Int} (e : abandon cs q i = r) (h : codeAt cs i ≠ -1) (h2 : codeAt cs i = 92) (h3 : codeAt cs (i + 1) ≠ -1) : abandon cs q (i + 2) = r := by
  rw [← e, abandon.eq_1 cs q i, if_neg (fun q => q.elim h (fun q => absurd (h2.symm.trans q) (by decide))), if_pos ⟨h2, h3⟩]
theorem abandon_two {cs : List Int} {q i r : Int} (e : abandon cs q i = r) (h : codeAt cs i ≠ -1) (h1 : codeAt cs i ≠ 10) (h2 : codeAt cs i ≠ 92 ∨ codeAt cs (i + 1) = -1) (h3 : codeAt cs i = q) (h4 : codeAt cs (i + 1) = q) : abandon cs q (i + 2) = r := by
  rw [← e, abandon.eq_1 cs q i, if_neg (not_or.mpr ⟨h, h1⟩), if_neg (fun a => h2.elim (fun b => b a.1) (fun b => a.2 b)), if_pos ⟨h3, h4⟩]
theorem abandon_one {cs : List Int} {q i r : Int} (e : abandon cs q i = r) (h : codeAt cs i ≠ -1) (h1 : codeAt cs i ≠ 10) (h2 : codeAt cs i ≠ 92 ∨ codeAt cs (i + 1) = -1) (h3 : codeAt cs i = q) (h4 : codeAt cs (i + 1) ≠ q) : i + 1 = r := by
  rw [← e, abandon.eq_1 cs q i, if_neg (not_or.mpr ⟨h, h1⟩), if_neg (fun a => h2.elim (fun b => b a.1) (fun b => a.2 b)), if_neg (fun a => h4 a.2), if_pos h3]
theorem abandon_on {cs : List Int} {q i r : Int} (e : abandon cs q i = r) (h : codeAt cs i ≠ -1) (h1 : codeAt cs i ≠ 10) (h2 : codeAt cs i ≠ 92 ∨ codeAt cs (i + 1) = -1) (h3 : codeAt cs i ≠ q) : abandon cs q (i + 1) = r := by
  rw [← e, abandon.eq_1 cs q i, if_neg (not_or.mpr ⟨h, h1⟩), if_neg (fun a => h2.elim (fun b => b a.1) (fun b => a.2 b)), if_neg (fun a => h3 a.1), if_neg h3]
section
variable {w : World} {mean : ExcName → Option Value} {mg mb : Str → Option Value}
    {dp un : Nat} {gd : Option (List Code)} {cn : Str} {sc : Scope} {a : Addr} {ccd : Value} {cl : List (Str × Addr)} {outer : List Env} {A₀ : Around} {base h₀ : Heap} {L : Addr} {m : Str → Option Value} {s : Shared}
    {news rest : List (Addr × Obj)} {Q E : Value → Shared → Prop} {x dx l : Addr} {vs : List Value} {cs : List Int} {ep : Nat} {k1 k2 k3 t1 t2 : Tok} {i o : Int}
section
variable (B : Below A₀ base outer h₀) (F : Fr h₀ L s.heap m) (X : (frg.heap_1 w.params).In h₀)
    (N : News h₀ L s.heap ((x, instObj 265 dx) :: (dx, dictOf (tokEs w.params k1 k2 k3 l i o t1 t2) 3) :: (l, listOf vs.toArray ep) :: rest))
    (T : TopX mean mg mb h₀) (hk : sc.kind = .function) (hxd : x ≠ dx) (hld : l ≠ dx) (hrest : ∀ p ∈ rest, p.1 ≠ dx)
    (hi : IntsAre vs cs) (hfit : cs.length < 2 ^ 20) (hi0 : 0 ≤ i)
include B F X N T hk hxd hld hrest hi hfit hi0

theorem abandon_s {q : Int} {t9 : Tok} (hd : dp + 4 < recursionLimit) (hu : un + 32 < cLine)
    (hret : ∀ (t1 : Tok) (h' : Heap) (tk' : Nat), Fr h₀ L h' m → News h₀ L h' ((x, instObj 265 dx) :: (dx, dictOf (tokEs w.params k1 k2 k3 l (abandon cs q i) o t1 t2) 3) :: (l, listOf vs.toArray ep) :: rest) → Q .none { s with heap := h', toks := tk' }) :
    wpC w (ktrTop dp un gd cn sc L a ccd cl outer) 262 [.ref x, .int q t9] Q E s := by
  k_with "state" => first | exact ⟨by omega, rfl⟩ | exact ⟨by omega, abandon_bs (by assumption) (by assumption) (by assumption) (by assumption)⟩ | exact ⟨by omega, abandon_two (by assumption) (by assumption) (by assumption) (by first | exact .inl (by assumption) | exact .inr (by assumption)) (by assumption) (by assumption)⟩ | exact ⟨by omega, abandon_on (by assumption) (by assumption) (by assumption) (by first | exact .inl (by assumption) | exact .inr (by assumption)) (by assumption)⟩
  k_with "measure" => (have hlt9 := codeAt_lt (cs := cs) (by assumption); omega)
  k_with "exec While Constant" => k_while (fun (_ : List Int) a => 0 ≤ a ∧ abandon cs q a = abandon cs q i) (fun (_ : List Int) a => (cs.length + 1 - a).toNat) "self.at"
  refine wpAny_call ?_
  k_dflt cell_enter
  k_steps

  all_goals first
    | (refine retM hret ?_ (by assumption) (by assumption); exact abandon_end (by assumption) (by first | exact .inl (by assumption) | exact .inr (by assumption)))
    | (exfalso; omega)
    | (refine retM hret ?_ (by assumption) (by assumption); exact abandon_one (by assumption) (by assumption) (by assumption) (by first | exact .inl (by assumption) | exact .inr (by assumption)) (by assumption) (by assumption))
end
end
end
section -- W16
open PySem PySem.W PyProof.Rows PySem.Calls
set_option maxHeartbeats 8000000
theorem set_W16_0 : True := by
  k_with_none
  trivial
theorem perm4 {a b c d : Addr × Obj} {r : List (Addr × Obj)} : ∀ p ∈ b :: c :: d :: a :: r, p ∈ a :: b :: c :: d :: r := fun p hp => by
  simp only [List.mem_cons] at hp ⊢; rcases hp with h | h | h | h | h <;> simp [h]
theorem perm4b {a b c d z : Addr × Obj} {r : List (Addr × Obj)} : ∀ p ∈ b :: c :: d :: a :: z :: r, p ∈ a :: z :: b :: c :: d :: r := fun p hp => by
  simp only [List.mem_cons] at hp ⊢; rcases hp with h | h | h | h | h | h <;> simp [h]
theorem sub4 {a b c d z : Addr × Obj} {r : List (Addr × Obj)} : ∀ p ∈ z :: b :: c :: d :: r, p ∈ z :: a :: b :: c :: d :: r := fun p hp => by
  simp only [List.mem_cons] at hp ⊢; rcases hp with h | h | h | h | h <;> simp [h]
theorem sub5 {a b c d z : Addr × Obj} {r : List (Addr × Obj)} : ∀ p ∈ z :: b :: c :: d :: r, p ∈ z :: b :: c :: d :: a :: r := fun p hp => by
  simp only [List.mem_cons] at hp ⊢; rcases hp with h | h | h | h | h <;> simp [h]
theorem sub4l {a b c d : Addr × Obj} {r : List (Addr × Obj)} : ∀ p ∈ b :: c :: d :: r, p ∈ a :: b :: c :: d :: r := fun p hp => .tail _ hp
theorem sub5l {a b c d : Addr × Obj} {r : List (Addr × Obj)} : ∀ p ∈ b :: c :: d :: r, p ∈ b :: c :: d :: a :: r := fun p hp => by
  simp only [List.mem_cons] at hp ⊢; rcases hp with h | h | h | h <;> simp [h]
theorem all_sub {d : Addr} {l l' : List (Addr × Obj)} (h : ∀ p ∈ l, p.1 < d) (hs : ∀ p ∈ l', p ∈ l) : ∀ p ∈ l', p.1 < d := fun p hp => h p (hs p hp)

theorem set_W16_1 : True := by
  k_with "my is_list" => first | (exact News.isList (by k_asm) (by assumption)) | fail
  k_with "my k_all" => first | (assumption) | fail
  k_with "my eval Call" => first | (k_here; k_dflt (refine Call_ ?_)) | fail
  k_with "my eval Call Attribute" => first | (k_here; k_dflt (refine MethodCall_ ?_)) | fail
  k_with "my call ref" => first | (k_here; k_dflt (first | ((with_reducible show wpAny _ _ (PySem.call (Value.ref 60) _ _) _ _ _); refine' is_layout_s (by k_asm) (by k_asm) (by k_asm) (by k_asm) (by k_asm) (by first | exact rfl | assumption) (by ktr_room) (by ktr_units) ?_) | ((with_reducible show wpAny _ _ (PySem.call (Value.ref 67) _ _) _ _ _); refine' is_digit_s (by k_asm) (by k_asm) (by k_asm) (by k_asm) (by k_asm) (by first | exact rfl | assumption) (by ktr_room) (by ktr_units) ?_) | ((with_reducible show wpAny _ _ (PySem.call (Value.ref 74) _ _) _ _ _); refine' is_small_s (by k_asm) (by k_asm) (by k_asm) (by k_asm) (by k_asm) (by first | exact rfl | assumption) (by ktr_room) (by ktr_units) ?_) | ((with_reducible show wpAny _ _ (PySem.call (Value.ref 81) _ _) _ _ _); refine' is_capital_s (by k_asm) (by k_asm) (by k_asm) (by k_asm) (by k_asm) (by first | exact rfl | assumption) (by ktr_room) (by ktr_units) ?_) | ((with_reducible show wpAny _ _ (PySem.call (Value.ref 95) _ _) _ _ _); refine' is_symbol_s (by k_asm) (by k_asm) (by k_asm) (by k_asm) (by k_asm) (by first | exact rfl | assumption) (by ktr_room) (by ktr_units) ?_) | ((with_reducible show wpAny _ _ (PySem.call (Value.ref 102) _ _) _ _ _); refine' is_quotable_s (by k_asm) (by k_asm) (by k_asm) (by k_asm) (by k_asm) (by first | exact rfl | assumption) (by ktr_room) (by ktr_units) ?_) | ((with_reducible show wpAny _ _ (PySem.call (Value.ref 88) _ _) _ _ _); refine' is_alnum_s (by k_asm) (by k_asm) (by k_asm) (by k_asm) (by k_asm) (by first | exact rfl | assumption) (by ktr_room) (by ktr_units) ?_)); k_whole; intro h' tk' F' N'; (try k_sweep)) | fail
  k_with "my call ref" => first | (k_here; k_dflt (first | ((with_reducible show wpAny _ _ (PySem.call (Value.ref 109) _ _) _ _ _); refine' digit_value_s (by k_asm) (by k_asm) (by k_asm) (by k_asm) (by k_asm) (by first | exact rfl | assumption) (by ktr_room) (by ktr_units) ?_) | ((with_reducible show wpAny _ _ (PySem.call (Value.ref 128) _ _) _ _ _); refine' numeral_base_s (by k_asm) (by k_asm) (by k_asm) (by k_asm) (by k_asm) (by first | exact rfl | assumption) (by ktr_room) (by ktr_units) ?_)); k_whole; intro t' h' tk' F' N'; (try k_sweep)) | fail
  k_with "my call ref" => first | (k_here; (with_reducible show wpAny _ _ (PySem.call (Value.ref 150) _ _) _ _ _); k_dflt (refine' code_at_s (by k_asm) (by k_asm) (by k_asm) (by k_asm) (by k_asm) (by first | exact rfl | assumption) (by k_dflt k_mem) (by k_dflt k_mem) (by k_dflt k_mem) (by assumption) (by assumption) (by omega) (by ktr_room) (by ktr_units) ?_); k_whole; intro t' h' tk' F' N'; (try k_sweep)) | fail
  k_with "my call ref" => first | (k_here; (with_reducible show wpAny _ _ (PySem.call (Value.ref 220) _ _) _ _ _); k_dflt (refine' ends_at_s (by k_asm) (by k_asm) (by k_asm) (by k_asm) (by k_asm) (by first | exact rfl | assumption) (by k_dflt k_mem) (by k_dflt k_mem) (by k_dflt k_mem) (by assumption) (by assumption) (by omega) (by ktr_room) (by ktr_units) ?_); k_whole; intro h' tk' F' N'; (try k_sweep)) | fail
  k_with "my call ref" => first | (k_here; (with_reducible show wpAny _ _ (PySem.call (Value.ref 157) _ _) _ _ _); k_dflt (refine' place_s (by k_asm) (by k_asm) (by k_asm) (by k_asm) (by k_asm) (by first | exact rfl | assumption) (by k_dflt k_mem) (by k_dflt k_mem) (by k_dflt k_mem) (by assumption) (by assumption) (by ktr_room) (by ktr_units) ?_); k_whole; intro q' ta' tb' h' tk' F' N' l1; (try k_lt l1); (try k_sweep)) | fail
  k_with "my call ref" => first | (k_here; (with_reducible show wpAny _ _ (PySem.call (Value.ref 164) _ _) _ _ _); k_dflt (refine' fault_s (by k_asm) (by k_asm) (by k_asm) (by k_asm) (by k_asm) (by first | exact rfl | assumption) (by k_dflt k_mem) (by k_dflt k_mem) (by k_dflt k_mem) (by assumption) (by assumption) (by ktr_room) (by ktr_units) ?_); k_whole; intro e' t' d' od' h' tk' D' F' N' l1 l2 l3; (try k_sweep)) | fail
  k_with "my exec Raise some none" => first | (k_here; k_dflt (refine fault_raise (by exact rfl) ?_)) | fail
  k_with "my Raising" => first | (k_here; k_dflt (refine' raising_N (by k_asm) (by k_asm) (by k_asm) ?_)) | fail
  k_with "my leaving ref" => first | (k_here; k_dflt (first | (refine' fault_leaveN (by assumption) (by k_asm) (by k_asm) (by assumption) (by assumption) ?_; k_whole; intro h' R' U') | (refine' fault_leave2 (by assumption) (by assumption) (by assumption) (by assumption) ?_; k_whole; intro h' R' U'))) | fail
  k_with "my call ref" => first | (k_here; (with_reducible show wpAny _ _ (PySem.call (Value.ref 114) _ _) _ _ _); k_dflt (refine' codes_text_s (by k_asm) (by k_asm) (by k_asm) (by k_asm) (by k_asm) (by first | exact rfl | assumption) (by k_dflt k_mem) (by l_ints) (by k_extra "len") (by k_extra "rng") (by ktr_room) (by ktr_units) ?_); k_whole; intro t' h' tk' F' N'; (try k_sweep)) | fail
  k_with "my call ref" => first | (k_here; (with_reducible show wpAny _ _ (PySem.call (Value.ref 192) _ _) _ _ _); k_dflt (refine' skip_row_s (by k_asm) (by k_asm) (by k_asm) (by k_asm) (by k_asm) (by first | exact rfl | assumption) (by assumption) (by assumption) (by assumption) (by assumption) (by assumption) (by omega) (by ktr_room) (by ktr_units) ?_); k_whole; intro t1' h' tk' F' N'; (try k_sweep)) | fail
  k_with "my call ref" => first | (k_here; (with_reducible show wpAny _ _ (PySem.call (Value.ref 199) _ _) _ _ _); k_dflt (refine' skip_remark_s (by k_asm) (by k_asm) (by k_asm) (by k_asm) (by k_asm) (by first | exact rfl | assumption) (by assumption) (by assumption) (by assumption) (by assumption) (by assumption) (by omega) (by ktr_room) (by ktr_units) ?_ ?_); k_whole; intro t1' h' tk' ok' F' N'; (try k_sweep); rotate_left; k_whole; intro ok' g' e' d' od' t1' h' tk' FG' D' R' U' l'; rotate_right) | fail
  k_with "my call ref" => first | (k_here; (with_reducible show wpAny _ _ (PySem.call (Value.ref 185) _ _) _ _ _); k_dflt (refine' skip_layout_s (by k_asm) (by k_asm) (by k_asm) (by k_asm) (by k_asm) (by first | exact rfl | assumption) (by assumption) (by assumption) (by assumption) (by assumption) (by assumption) (by omega) (by ktr_room) (by ktr_units) ?_ ?_); k_whole; intro t1' h' tk' ok' F' N'; (try k_sweep); rotate_left; k_whole; intro j' ok' g' e' d' od' t1' h' tk' FG' D' R' U' l'; rotate_right) | fail
  k_with "my call ref" => first | (k_here; (with_reducible show wpAny _ _ (PySem.call (Value.ref 121) _ _) _ _ _); k_dflt (refine' simple_escape_s (by k_asm) (by k_asm) (by k_asm) (by k_asm) (by k_asm) (by first | exact rfl | assumption) (by ktr_room) (by ktr_units) (by exact codeAt_le _ _) ?_); k_whole; intro t' h' tk' F' N'; (try k_sweep)) | fail
  k_with "my call ref" => first | (k_here; (with_reducible show wpAny _ _ (PySem.call (Value.ref 255) _ _) _ _ _); k_dflt (refine' escape_s (by k_asm) (by k_asm) (by k_asm) (by first | k_asm | exact cb_drop (by k_asm) perm4 | exact cb_drop (by k_asm) perm4b) (by k_asm) (by first | exact rfl | assumption) (by assumption) (by assumption) (by k_all) (by assumption) (by assumption) (by first | omega | k_extra "at0") (by ktr_room) (by ktr_units) ?_); k_whole; intro t1' ta' h' tk' F' N'; (try k_sweep)) | fail
  k_with "my call ref" => first | (k_here; (with_reducible show wpAny _ _ (PySem.call (Value.ref 262) _ _) _ _ _); k_dflt (refine' abandon_s (by k_asm) (by k_asm) (by k_asm) (by first | k_asm | exact cb_drop (by k_asm) perm4 | exact cb_drop (by k_asm) perm4b) (by k_asm) (by first | exact rfl | assumption) (by assumption) (by assumption) (by k_all) (by assumption) (by assumption) (by first | omega | k_extra "at0") (by ktr_room) (by ktr_units) ?_); k_whole; intro t1' h' tk' F' N'; (try k_sweep)) | fail
  trivial
theorem escGo_ge (cs : List Int) (base i v : Int) : i ≤ (escGo cs base i v).1 := by
  fun_induction escGo cs base i v with
  | case1 => exact Int.le_refl _
  | case2 i v h ih => exact Int.le_trans (by omega) ih
theorem escTail_gt {cs : List Int} {i st : Int} {r : Int × Int} (hr : st ≤ r.1) (hi : i ≤ st) (h : 0 ≤ (escTail cs i st r).2) : i + 1 ≤ (escTail cs i st r).1 := by
  unfold escTail at h ⊢
  split
  · rename_i q; rw [if_pos q] at h; exact absurd h (by simp)
  · dsimp only; omega
theorem escape_gt {cs : List Int} {i : Int} (h : 0 ≤ (escape cs i).2) : i + 1 ≤ (escape cs i).1 := by
  unfold escape at h ⊢
  split
  · dsimp only; omega
  · rename_i q1
    rw [if_neg q1] at h
    split
    · rename_i q2; rw [if_pos q2] at h; exact escTail_gt (escGo_ge _ _ _ _) (by omega) h
    · rename_i q2; rw [if_neg q2] at h; exact escTail_gt (escGo_ge _ _ _ _) (by omega) h
theorem escape_ge (cs : List Int) (i : Int) : i ≤ (escape cs i).1 := by
  by_cases h : 0 ≤ (escape cs i).2
  · have := escape_gt h; omega
  · unfold escape at h ⊢
    have ht : ∀ {i st : Int} {r : Int × Int}, ¬ 0 ≤ (escTail cs i st r).2 → st ≤ r.1 → i ≤ st → i ≤ (escTail cs i st r).1 := by
      intro i st r h h1 h2
      unfold escTail at h ⊢
      split
      · exact Int.le_refl _
      · dsimp only; omega
    split
    · rename_i q1; rw [if_pos q1] at h; exact absurd q1 h
    · rename_i q1
      rw [if_neg q1] at h
      split
      · rename_i q2; rw [if_pos q2] at h; exact ht h (escGo_ge _ _ _ _) (by omega)
      · rename_i q2; rw [if_neg q2] at h; exact ht h (escGo_ge _ _ _ _) (by omega)
theorem codeAt_lt' {cs : List Int} {i q : Int} (h : codeAt cs i = q) (hq : 0 ≤ q) : i < cs.length := codeAt_lt (by omega)
theorem size_ok {ws : List Value} {l : List Int} {a : Int} {n : Nat} (hw : IntsAre ws l) (h1 : (l.length : Int) ≤ a) (h2 : a < n) (h3 : n < 2 ^ 20) : ws.toArray.size ≤ sizeLine := by
  rw [List.size_toArray, hw.length, PySem.sizeLine_eq]; omega
theorem set_W16_2 : True := by
  k_with "my size_fits" => first | (first | exact size_ok (by assumption) (by assumption) (codeAt_lt (by assumption)) (by assumption) | exact size_ok (by assumption) (by assumption) (codeAt_lt' (by assumption) (by assumption)) (by assumption)) | fail
  trivial
inductive QR where
  | ok (l : List Int)
  | bad (kind : Str) (at_ : Int)
noncomputable def quotedGo (cs : List Int) (q b i : Int) (acc : List Int) : Int × QR :=
  if q < 0 then (i, .ok acc)
  else if codeAt cs i = q then (if codeAt cs (i + 1) = q then quotedGo cs q b (i + 2) (acc ++ [q]) else (i + 1, .ok acc))
  else if codeAt cs i = -1 ∨ codeAt cs i = 10 then (i, .bad "unfinished_quoted" b)
  else if codeAt cs i = 92 ∧ codeAt cs (i + 1) = 10 then quotedGo cs q b (i + 2) acc
  else if codeAt cs i = 92 then
    (if (escape cs i).2 < 0 then (abandon cs q (escape cs i).1, .bad "bad_escape" i) else quotedGo cs q b (escape cs i).1 (acc ++ [(escape cs i).2]))
  else if isQuotable (codeAt cs i) = true then quotedGo cs q b (i + 1) (acc ++ [codeAt cs i])
  else (abandon cs q i, .bad "undefined_char" i)
termination_by (cs.length - i).toNat
decreasing_by
  · have := @codeAt_lt cs i (by omega); omega
  · have := @codeAt_lt cs i (by omega); omega
  · have := @codeAt_lt cs i (by omega)
    have := @escape_gt cs i (by omega)
    omega
  · have := @codeAt_lt cs i (by omega); omega
theorem quoted_two {cs : List Int} {q b a : Int} {acc : List Int} {r : Int × QR} (e : quotedGo cs q b a acc = r) (hq : 0 ≤ q) (h1 : codeAt cs a = q) (h2 : codeAt cs (a + 1) = q) : quotedGo cs q b (a + 2) (acc ++ [q]) = r := by
  rw [← e, quotedGo.eq_1 cs q b a, if_neg (by omega), if_pos h1, if_pos h2]
theorem quoted_ok {cs : List Int} {q b a : Int} {acc : List Int} {r : Int × QR} (e : quotedGo cs q b a acc = r) (hq : 0 ≤ q) (h1 : codeAt cs a = q) (h2 : codeAt cs (a + 1) ≠ q) : r = (a + 1, .ok acc) := by
  rw [← e, quotedGo.eq_1 cs q b a, if_neg (by omega), if_pos h1, if_neg h2]
theorem quoted_unf {cs : List Int} {q b a : Int} {acc : List Int} {r : Int × QR} (e : quotedGo cs q b a acc = r) (hq : 0 ≤ q) (h1 : codeAt cs a ≠ q) (h2 : codeAt cs a = -1 ∨ codeAt cs a = 10) : r = (a, .bad "unfinished_quoted" b) := by
  rw [← e, quotedGo.eq_1 cs q b a, if_neg (by omega), if_neg h1, if_pos h2]
theorem quoted_cont {cs : List Int} {q b a : Int} {acc : List Int} {r : Int × QR} (e : quotedGo cs q b a acc = r) (hq : 0 ≤ q) (h1 : codeAt cs a ≠ q) (h2 : codeAt cs a = 92) (h3 : codeAt cs (a + 1) = 10) : quotedGo cs q b (a + 2) acc = r := by
  rw [← e, quotedGo.eq_1 cs q b a, if_neg (by omega), if_neg h1, if_neg (by omega), if_pos ⟨h2, h3⟩]
theorem quoted_esc {cs : List Int} {q b a : Int} {acc : List Int} {r : Int × QR} (e : quotedGo cs q b a acc = r) (hq : 0 ≤ q) (h1 : codeAt cs a ≠ q) (h2 : codeAt cs a = 92) (h3 : codeAt cs (a + 1) ≠ 10) (h4 : ¬ (escape cs a).2 < 0) : quotedGo cs q b (escape cs a).1 (acc ++ [(escape cs a).2]) = r := by
  rw [← e, quotedGo.eq_1 cs q b a, if_neg (by omega), if_neg h1, if_neg (by omega), if_neg (by omega), if_pos h2, if_neg h4]
theorem quoted_be {cs : List Int} {q b a : Int} {acc : List Int} {r : Int × QR} (e : quotedGo cs q b a acc = r) (hq : 0 ≤ q) (h1 : codeAt cs a ≠ q) (h2 : codeAt cs a = 92) (h3 : codeAt cs (a + 1) ≠ 10) (h4 : (escape cs a).2 < 0) : r = (abandon cs q (escape cs a).1, .bad "bad_escape" a) := by
  rw [← e, quotedGo.eq_1 cs q b a, if_neg (by omega), if_neg h1, if_neg (by omega), if_neg (by omega), if_pos h2, if_pos h4]
theorem quoted_able {cs : List Int} {q b a : Int} {acc : List Int} {r : Int × QR} (e : quotedGo cs q b a acc = r) (hq : 0 ≤ q) (h1 : codeAt cs a ≠ q) (h2 : codeAt cs a ≠ -1) (h3 : codeAt cs a ≠ 10) (h4 : codeAt cs a ≠ 92) (h5 : isQuotable (codeAt cs a) = true) : quotedGo cs q b (a + 1) (acc ++ [codeAt cs a]) = r := by
  rw [← e, quotedGo.eq_1 cs q b a, if_neg (by omega), if_neg h1, if_neg (by omega), if_neg (by omega), if_neg h4, if_pos h5]
theorem quoted_un {cs : List Int} {q b a : Int} {acc : List Int} {r : Int × QR} (e : quotedGo cs q b a acc = r) (hq : 0 ≤ q) (h1 : codeAt cs a ≠ q) (h2 : codeAt cs a ≠ -1) (h3 : codeAt cs a ≠ 10) (h4 : codeAt cs a ≠ 92) (h5 : isQuotable (codeAt cs a) = false) : r = (abandon cs q a, .bad "undefined_char" a) := by
  rw [← e, quotedGo.eq_1 cs q b a, if_neg (by omega), if_neg h1, if_neg (by omega), if_neg (by omega), if_neg h4, if_neg (by rw [h5]; simp)]
theorem len_push {l : List Int} {v a b : Int} (h : (l.length : Int) ≤ a) (hb : a + 1 ≤ b) : ((l ++ [v]).length : Int) ≤ b := by
  rw [List.length_append]; simp only [List.length_cons, List.length_nil]; omega
theorem len_nil {b : Int} (h : 0 ≤ b) : (([] : List Int).length : Int) ≤ b := by simpa using h
theorem not_lt_le {a : Int} (h : ¬ a < 0) : 0 ≤ a := by omega
section
variable {w : World} {mean : ExcName → Option Value} {mg mb : Str → Option Value}
    {dp un : Nat} {gd : Option (List Code)} {cn : Str} {sc : Scope} {a : Addr} {ccd : Value} {cl : List (Str × Addr)} {outer : List Env} {A₀ : Around} {base h₀ : Heap} {L : Addr} {m : Str → Option Value} {s : Shared}
    {news rest : List (Addr × Obj)} {Q E : Value → Shared → Prop} {x dx l : Addr} {vs : List Value} {cs : List Int} {ep : Nat} {k1 k2 k3 t1 t2 : Tok} {i o : Int}
section
variable (B : Below A₀ base outer h₀) (F : Fr h₀ L s.heap m) (X : (frg.heap_1 w.params).In h₀)
    (N : News h₀ L s.heap ((x, instObj 265 dx) :: (dx, dictOf (tokEs w.params k1 k2 k3 l i o t1 t2) 3) :: (l, listOf vs.toArray ep) :: rest))
    (T : TopX mean mg mb h₀) (hk : sc.kind = .function) (hxd : x ≠ dx) (hld : l ≠ dx) (hrest : ∀ p ∈ rest, p.1 ≠ dx)
    (hi : IntsAre vs cs) (hfit : cs.length < 2 ^ 20) (hi0 : 0 ≤ i)
include B F X N T hk hxd hld hrest hi hfit hi0

theorem quoted_s {j q : Int} {t8 t9 : Tok} (hj : 0 ≤ j) (hq : 0 ≤ q) (hd : dp + 6 < recursionLimit) (hu : un + 48 < cLine)
    (hret : ∀ (c : Addr) (ws : List Value) (l9 : List Int) (ep9 : Nat) (t1 : Tok) (h' : Heap) (tk' : Nat), (quotedGo cs q j (j + 1) []).2 = .ok l9 → IntsAre ws l9 → l9.length ≤ cs.length → Fr h₀ L h' m → News h₀ L h' ((c, listOf ws.toArray ep9) :: ((x, instObj 265 dx) :: (dx, dictOf (tokEs w.params k1 k2 k3 l (quotedGo cs q j (j + 1) []).1 o t1 t2) 3) :: (l, listOf vs.toArray ep) :: rest)) → (∀ p ∈ ((x, instObj 265 dx) :: (dx, dictOf (tokEs w.params k1 k2 k3 l (quotedGo cs q j (j + 1) []).1 o t1 t2) 3) :: (l, listOf vs.toArray ep) :: rest), p.1 < c) → Q (.ref c) { s with heap := h', toks := tk' })
    (hraise : ∀ kind at_, (quotedGo cs q j (j + 1) []).2 = .bad kind at_ → ∀ (g : Heap) (e d : Addr) (od : Obj) (t1 : Tok) (h' : Heap) (tk' : Nat), Fr h₀ L g m → FDict w.params kind at_ (place cs at_) od → FaultR base g (envX cn sc L a ccd cl :: outer) e d ((d, od) :: ((x, instObj 265 dx) :: (dx, dictOf (tokEs w.params k1 k2 k3 l (quotedGo cs q j (j + 1) []).1 o t1 t2) 3) :: (l, listOf vs.toArray ep) :: rest)) h' → g.UpToSlots h' → (∀ p ∈ ((x, instObj 265 dx) :: (dx, dictOf (tokEs w.params k1 k2 k3 l (quotedGo cs q j (j + 1) []).1 o t1 t2) 3) :: (l, listOf vs.toArray ep) :: rest), p.1 < d) → E (.ref e) { s with heap := h', toks := tk' }) :
    wpC w (ktrTop dp un gd cn sc L a ccd cl outer) 248 [.ref x, .int j t8, .int q t9] Q E s := by
  k_with "at0" => exact Int.le_trans (by omega) (escape_ge _ _)
  k_with "state" => first | exact ⟨by omega, len_nil (by omega), rfl⟩ | exact ⟨by omega, len_push (by assumption) (by omega), quoted_two (by assumption) hq (by assumption) (by assumption)⟩ | exact ⟨by omega, by omega, quoted_cont (by assumption) hq (by assumption) (by assumption) (by assumption)⟩ | exact ⟨by (have he9 := escape_ge cs ‹Int›; omega), len_push (by assumption) (escape_gt (not_lt_le (by assumption))), quoted_esc (by assumption) hq (by assumption) (by assumption) (by assumption) (by assumption)⟩ | exact ⟨by omega, len_push (by assumption) (by omega), quoted_able (by assumption) hq (by assumption) (by assumption) (by assumption) (by assumption) (by assumption)⟩
  k_with "measure" => first | (have hlt9 := codeAt_lt (cs := cs) (by assumption); omega) | (have hlt9 := codeAt_lt' (cs := cs) (by assumption) hq; omega) | (have hlt9 := codeAt_lt' (cs := cs) (by assumption) (by decide); have he9 := escape_gt (not_lt_le (by assumption)); omega)
  k_with "exec While Constant" => k_while (fun (_ : List Int) a (l9 : List Int) => j + 1 ≤ a ∧ (l9.length : Int) ≤ a ∧ quotedGo cs q j a l9 = quotedGo cs q j (j + 1) []) (fun (_ : List Int) a _ => (cs.length + 1 - a).toNat) "self.at" "codes"
  refine wpAny_call ?_
  k_dflt cell_enter
  k_steps

  all_goals first
    | (have he9 := quoted_ok (by assumption) hq (by assumption) (by assumption); have hlt9 := codeAt_lt' (cs := cs) (by assumption) hq; rw [he9] at hret; exact hret _ _ _ _ _ _ _ rfl (by assumption) (by omega) (by assumption) (by assumption) (by first | assumption | exact lt_of_allLt (by assumption) | exact lt_of_allLt (And.right (by assumption)) | exact lt_of_allLt (And.right (And.right (by assumption)))))
    | (exfalso; omega)
    | ((first | have he9 := quoted_unf (by assumption) hq (by assumption) (by first | exact .inl (by assumption) | exact .inr (by assumption)) | have he9 := quoted_be (by assumption) hq (by assumption) (by assumption) (by assumption) (by assumption) | have he9 := quoted_un (by assumption) hq (by assumption) (by assumption) (by assumption) (by assumption) (by assumption)); rw [he9] at hraise; refine' hraise _ _ rfl _ _ _ _ _ _ _ ?zf ?zd ?zr ?zu ?zl; (case zr => exact FaultR.sub (by assumption) (by first | exact sub4 | exact sub5)); (case zf => assumption); (case zd => assumption); (case zu => assumption); (case zl => first | exact all_sub (by assumption) sub4l | exact all_sub (by assumption) sub5l))
end
end
end
section -- W17
open PySem PySem.W PyProof.Rows PySem.Calls
set_option maxHeartbeats 8000000

theorem set_W17_0 : True := by
  k_with_none
  k_with "my is_list" => first | (exact News.isList (by k_asm) (by assumption)) | fail
  k_with "my k_all" => first | (assumption) | fail
  k_with "my eval Call" => first | (k_here; k_dflt (refine Call_ ?_)) | fail
  k_with "my eval Call Attribute" => first | (k_here; k_dflt (refine MethodCall_ ?_)) | fail
  k_with "my call ref" => first | (k_here; k_dflt (first | ((with_reducible show wpAny _ _ (PySem.call (Value.ref 60) _ _) _ _ _); refine' is_layout_s (by k_asm) (by k_asm) (by k_asm) (by k_asm) (by k_asm) (by first | exact rfl | assumption) (by ktr_room) (by ktr_units) ?_) | ((with_reducible show wpAny _ _ (PySem.call (Value.ref 67) _ _) _ _ _); refine' is_digit_s (by k_asm) (by k_asm) (by k_asm) (by k_asm) (by k_asm) (by first | exact rfl | assumption) (by ktr_room) (by ktr_units) ?_) | ((with_reducible show wpAny _ _ (PySem.call (Value.ref 74) _ _) _ _ _); refine' is_small_s (by k_asm) (by k_asm) (by k_asm) (by k_asm) (by k_asm) (by first | exact rfl | assumption) (by ktr_room) (by ktr_units) ?_) | ((with_reducible show wpAny _ _ (PySem.call (Value.ref 81) _ _) _ _ _); refine' is_capital_s (by k_asm) (by k_asm) (by k_asm) (by k_asm) (by k_asm) (by first | exact rfl | assumption) (by ktr_room) (by ktr_units) ?_) | ((with_reducible show wpAny _ _ (PySem.call (Value.ref 95) _ _) _ _ _); refine' is_symbol_s (by k_asm) (by k_asm) (by k_asm) (by k_asm) (by k_asm) (by first | exact rfl | assumption) (by ktr_room) (by ktr_units) ?_) | ((with_reducible show wpAny _ _ (PySem.call (Value.ref 102) _ _) _ _ _); refine' is_quotable_s (by k_asm) (by k_asm) (by k_asm) (by k_asm) (by k_asm) (by first | exact rfl | assumption) (by ktr_room) (by ktr_units) ?_) | ((with_reducible show wpAny _ _ (PySem.call (Value.ref 88) _ _) _ _ _); refine' is_alnum_s (by k_asm) (by k_asm) (by k_asm) (by k_asm) (by k_asm) (by first | exact rfl | assumption) (by ktr_room) (by ktr_units) ?_)); k_whole; intro h' tk' F' N'; (try k_sweep)) | fail
  k_with "my call ref" => first | (k_here; k_dflt (first | ((with_reducible show wpAny _ _ (PySem.call (Value.ref 109) _ _) _ _ _); refine' digit_value_s (by k_asm) (by k_asm) (by k_asm) (by k_asm) (by k_asm) (by first | exact rfl | assumption) (by ktr_room) (by ktr_units) ?_) | ((with_reducible show wpAny _ _ (PySem.call (Value.ref 128) _ _) _ _ _); refine' numeral_base_s (by k_asm) (by k_asm) (by k_asm) (by k_asm) (by k_asm) (by first | exact rfl | assumption) (by ktr_room) (by ktr_units) ?_)); k_whole; intro t' h' tk' F' N'; (try k_sweep)) | fail
  k_with "my call ref" => first | (k_here; (with_reducible show wpAny _ _ (PySem.call (Value.ref 150) _ _) _ _ _); k_dflt (refine' code_at_s (by k_asm) (by k_asm) (by k_asm) (by k_asm) (by k_asm) (by first | exact rfl | assumption) (by k_dflt k_mem) (by k_dflt k_mem) (by k_dflt k_mem) (by assumption) (by assumption) (by omega) (by ktr_room) (by ktr_units) ?_); k_whole; intro t' h' tk' F' N'; (try k_sweep)) | fail
  k_with "my call ref" => first | (k_here; (with_reducible show wpAny _ _ (PySem.call (Value.ref 220) _ _) _ _ _); k_dflt (refine' ends_at_s (by k_asm) (by k_asm) (by k_asm) (by k_asm) (by k_asm) (by first | exact rfl | assumption) (by k_dflt k_mem) (by k_dflt k_mem) (by k_dflt k_mem) (by assumption) (by assumption) (by omega) (by ktr_room) (by ktr_units) ?_); k_whole; intro h' tk' F' N'; (try k_sweep)) | fail
  k_with "my call ref" => first | (k_here; (with_reducible show wpAny _ _ (PySem.call (Value.ref 157) _ _) _ _ _); k_dflt (refine' place_s (by k_asm) (by k_asm) (by k_asm) (by k_asm) (by k_asm) (by first | exact rfl | assumption) (by k_dflt k_mem) (by k_dflt k_mem) (by k_dflt k_mem) (by assumption) (by assumption) (by ktr_room) (by ktr_units) ?_); k_whole; intro q' ta' tb' h' tk' F' N' l1; (try k_lt l1); (try k_sweep)) | fail
  k_with "my call ref" => first | (k_here; (with_reducible show wpAny _ _ (PySem.call (Value.ref 164) _ _) _ _ _); k_dflt (refine' fault_s (by k_asm) (by k_asm) (by k_asm) (by k_asm) (by k_asm) (by first | exact rfl | assumption) (by k_dflt k_mem) (by k_dflt k_mem) (by k_dflt k_mem) (by assumption) (by assumption) (by ktr_room) (by ktr_units) ?_); k_whole; intro e' t' d' od' h' tk' D' F' N' l1 l2 l3; (try k_sweep)) | fail
  k_with "my exec Raise some none" => first | (k_here; k_dflt (refine fault_raise (by exact rfl) ?_)) | fail
  k_with "my Raising" => first | (k_here; k_dflt (refine' raising_N (by k_asm) (by k_asm) (by k_asm) ?_)) | fail
  k_with "my leaving ref" => first | (k_here; k_dflt (first | (refine' fault_leaveN (by assumption) (by k_asm) (by k_asm) (by assumption) (by assumption) ?_; k_whole; intro h' R' U') | (refine' fault_leave2 (by assumption) (by assumption) (by assumption) (by assumption) ?_; k_whole; intro h' R' U'))) | fail
  k_with "my call ref" => first | (k_here; (with_reducible show wpAny _ _ (PySem.call (Value.ref 114) _ _) _ _ _); k_dflt (refine' codes_text_s (by k_asm) (by k_asm) (by k_asm) (by k_asm) (by k_asm) (by first | exact rfl | assumption) (by k_dflt k_mem) (by l_ints) (by k_extra "len") (by k_extra "rng") (by ktr_room) (by ktr_units) ?_); k_whole; intro t' h' tk' F' N'; (try k_sweep)) | fail
  k_with "my call ref" => first | (k_here; (with_reducible show wpAny _ _ (PySem.call (Value.ref 192) _ _) _ _ _); k_dflt (refine' skip_row_s (by k_asm) (by k_asm) (by k_asm) (by k_asm) (by k_asm) (by first | exact rfl | assumption) (by assumption) (by assumption) (by assumption) (by assumption) (by assumption) (by omega) (by ktr_room) (by ktr_units) ?_); k_whole; intro t1' h' tk' F' N'; (try k_sweep)) | fail
  k_with "my call ref" => first | (k_here; (with_reducible show wpAny _ _ (PySem.call (Value.ref 199) _ _) _ _ _); k_dflt (refine' skip_remark_s (by k_asm) (by k_asm) (by k_asm) (by k_asm) (by k_asm) (by first | exact rfl | assumption) (by assumption) (by assumption) (by assumption) (by assumption) (by assumption) (by omega) (by ktr_room) (by ktr_units) ?_ ?_); k_whole; intro t1' h' tk' ok' F' N'; (try k_sweep); rotate_left; k_whole; intro ok' g' e' d' od' t1' h' tk' FG' D' R' U' l'; rotate_right) | fail
  k_with "my call ref" => first | (k_here; (with_reducible show wpAny _ _ (PySem.call (Value.ref 185) _ _) _ _ _); k_dflt (refine' skip_layout_s (by k_asm) (by k_asm) (by k_asm) (by k_asm) (by k_asm) (by first | exact rfl | assumption) (by assumption) (by assumption) (by assumption) (by assumption) (by assumption) (by omega) (by ktr_room) (by ktr_units) ?_ ?_); k_whole; intro t1' h' tk' ok' F' N'; (try k_sweep); rotate_left; k_whole; intro j' ok' g' e' d' od' t1' h' tk' FG' D' R' U' l'; rotate_right) | fail
  k_with "my call ref" => first | (k_here; (with_reducible show wpAny _ _ (PySem.call (Value.ref 255) _ _) _ _ _); k_dflt (refine' escape_s (by k_asm) (by k_asm) (by k_asm) (by first | k_asm | exact cb_drop (by k_asm) perm4 | exact cb_drop (by k_asm) perm4b) (by k_asm) (by first | exact rfl | assumption) (by assumption) (by assumption) (by k_all) (by assumption) (by assumption) (by first | omega | k_extra "at0") (by ktr_room) (by ktr_units) ?_); k_whole; intro t1' ta' h' tk' F' N'; (try k_sweep)) | fail
  trivial
inductive NR where
  | ok (v : Int)
  | bad (kind : Str) (at_ : Int)
noncomputable def character (cs : List Int) (j : Int) : Int × NR :=
  if codeAt cs (j + 2) = 92 then (if (escape cs (j + 2)).2 < 0 then (j + 3, .bad "bad_escape" (j + 2)) else ((escape cs (j + 2)).1, .ok (escape cs (j + 2)).2))
  else if codeAt cs (j + 2) = 39 then (if codeAt cs (j + 3) = 39 then (j + 4, .ok 39) else (j + 3, .bad "bad_number" j))
  else if isQuotable (codeAt cs (j + 2)) = true then (j + 3, .ok (codeAt cs (j + 2))) else (j + 2, .bad "bad_number" j)
theorem char_be {cs : List Int} {j : Int} (h : codeAt cs (j + 2) = 92) (h2 : (escape cs (j + 2)).2 < 0) : character cs j = (j + 3, .bad "bad_escape" (j + 2)) := by
  unfold character; rw [if_pos h, if_pos h2]
theorem char_esc {cs : List Int} {j : Int} (h : codeAt cs (j + 2) = 92) (h2 : ¬ (escape cs (j + 2)).2 < 0) : character cs j = ((escape cs (j + 2)).1, .ok (escape cs (j + 2)).2) := by
  unfold character; rw [if_pos h, if_neg h2]
theorem char_qq {cs : List Int} {j : Int} (h : codeAt cs (j + 2) ≠ 92) (h1 : codeAt cs (j + 2) = 39) (h2 : codeAt cs (j + 3) = 39) : character cs j = (j + 4, .ok 39) := by
  unfold character; rw [if_neg h, if_pos h1, if_pos h2]
theorem char_q {cs : List Int} {j : Int} (h : codeAt cs (j + 2) ≠ 92) (h1 : codeAt cs (j + 2) = 39) (h2 : codeAt cs (j + 3) ≠ 39) : character cs j = (j + 3, .bad "bad_number" j) := by
  unfold character; rw [if_neg h, if_pos h1, if_neg h2]
theorem char_able {cs : List Int} {j : Int} (h : codeAt cs (j + 2) ≠ 92) (h1 : codeAt cs (j + 2) ≠ 39) (h2 : isQuotable (codeAt cs (j + 2)) = true) : character cs j = (j + 3, .ok (codeAt cs (j + 2))) := by
  unfold character; rw [if_neg h, if_neg h1, if_pos h2]
theorem char_un {cs : List Int} {j : Int} (h : codeAt cs (j + 2) ≠ 92) (h1 : codeAt cs (j + 2) ≠ 39) (h2 : isQuotable (codeAt cs (j + 2)) = false) : character cs j = (j + 2, .bad "bad_number" j) := by
  unfold character; rw [if_neg h, if_neg h1, if_neg (by rw [h2]; simp)]
section
variable {w : World} {mean : ExcName → Option Value} {mg mb : Str → Option Value}
    {dp un : Nat} {gd : Option (List Code)} {cn : Str} {sc : Scope} {a : Addr} {ccd : Value} {cl : List (Str × Addr)} {outer : List Env} {A₀ : Around} {base h₀ : Heap} {L : Addr} {m : Str → Option Value} {s : Shared}
    {news rest : List (Addr × Obj)} {Q E : Value → Shared → Prop} {x dx l : Addr} {vs : List Value} {cs : List Int} {ep : Nat} {k1 k2 k3 t1 t2 : Tok} {i o : Int}
section
variable (B : Below A₀ base outer h₀) (F : Fr h₀ L s.heap m) (X : (frg.heap_1 w.params).In h₀)
    (N : News h₀ L s.heap ((x, instObj 265 dx) :: (dx, dictOf (tokEs w.params k1 k2 k3 l i o t1 t2) 3) :: (l, listOf vs.toArray ep) :: rest))
    (T : TopX mean mg mb h₀) (hk : sc.kind = .function) (hxd : x ≠ dx) (hld : l ≠ dx) (hrest : ∀ p ∈ rest, p.1 ≠ dx)
    (hi : IntsAre vs cs) (hfit : cs.length < 2 ^ 20) (hi0 : 0 ≤ i)
include B F X N T hk hxd hld hrest hi hfit hi0

theorem character_s {j : Int} {t8 : Tok} (hj : 0 ≤ j) (hd : dp + 6 < recursionLimit) (hu : un + 48 < cLine)
    (hret : ∀ (v : Int) (t1 ta : Tok) (h' : Heap) (tk' : Nat), (character cs j).2 = .ok v → Fr h₀ L h' m → News h₀ L h' ((x, instObj 265 dx) :: (dx, dictOf (tokEs w.params k1 k2 k3 l (character cs j).1 o t1 t2) 3) :: (l, listOf vs.toArray ep) :: rest) → Q (.int v ta) { s with heap := h', toks := tk' })
    (hraise : ∀ kind at_, (character cs j).2 = .bad kind at_ → ∀ (g : Heap) (e d : Addr) (od : Obj) (t1 : Tok) (h' : Heap) (tk' : Nat), Fr h₀ L g m → FDict w.params kind at_ (place cs at_) od → FaultR base g (envX cn sc L a ccd cl :: outer) e d ((d, od) :: ((x, instObj 265 dx) :: (dx, dictOf (tokEs w.params k1 k2 k3 l (character cs j).1 o t1 t2) 3) :: (l, listOf vs.toArray ep) :: rest)) h' → g.UpToSlots h' → (∀ p ∈ ((x, instObj 265 dx) :: (dx, dictOf (tokEs w.params k1 k2 k3 l (character cs j).1 o t1 t2) 3) :: (l, listOf vs.toArray ep) :: rest), p.1 < d) → E (.ref e) { s with heap := h', toks := tk' }) :
    wpC w (ktrTop dp un gd cn sc L a ccd cl outer) 241 [.ref x, .int j t8] Q E s := by
  refine wpAny_call ?_
  k_dflt cell_enter
  k_steps

  all_goals first
    | ((first | have he9 := char_be (by assumption) (by assumption) | have he9 := char_q (by assumption) (by assumption) (by assumption) | have he9 := char_un (by assumption) (by assumption) (by assumption)); rw [he9] at hraise; refine' hraise _ _ rfl _ _ _ _ _ _ _ ?zf ?zd ?zr ?zu ?zl; (case zr => assumption); (case zf => assumption); (case zd => assumption); (case zu => assumption); (case zl => assumption))
    | ((first | have he9 := char_esc (by assumption) (by assumption) | have he9 := char_qq (by assumption) (by assumption) (by assumption) | have he9 := char_able (by assumption) (by assumption) (by assumption)); rw [he9] at hret; exact hret _ _ _ _ _ rfl (by assumption) (by assumption))

end
end
end
section -- W18
open PySem PySem.W PyProof.Rows PySem.Calls
set_option maxHeartbeats 8000000

theorem set_W18_0 : True := by
  k_with_none
  k_with "my is_list" => first | (exact News.isList (by k_asm) (by assumption)) | fail
  k_with "my k_all" => first | (assumption) | fail
  k_with "my eval Call" => first | (k_here; k_dflt (refine Call_ ?_)) | fail
  k_with "my eval Call Attribute" => first | (k_here; k_dflt (refine MethodCall_ ?_)) | fail
  k_with "my call ref" => first | (k_here; k_dflt (first | ((with_reducible show wpAny _ _ (PySem.call (Value.ref 60) _ _) _ _ _); refine' is_layout_s (by k_asm) (by k_asm) (by k_asm) (by k_asm) (by k_asm) (by first | exact rfl | assumption) (by ktr_room) (by ktr_units) ?_) | ((with_reducible show wpAny _ _ (PySem.call (Value.ref 67) _ _) _ _ _); refine' is_digit_s (by k_asm) (by k_asm) (by k_asm) (by k_asm) (by k_asm) (by first | exact rfl | assumption) (by ktr_room) (by ktr_units) ?_) | ((with_reducible show wpAny _ _ (PySem.call (Value.ref 74) _ _) _ _ _); refine' is_small_s (by k_asm) (by k_asm) (by k_asm) (by k_asm) (by k_asm) (by first | exact rfl | assumption) (by ktr_room) (by ktr_units) ?_) | ((with_reducible show wpAny _ _ (PySem.call (Value.ref 81) _ _) _ _ _); refine' is_capital_s (by k_asm) (by k_asm) (by k_asm) (by k_asm) (by k_asm) (by first | exact rfl | assumption) (by ktr_room) (by ktr_units) ?_) | ((with_reducible show wpAny _ _ (PySem.call (Value.ref 95) _ _) _ _ _); refine' is_symbol_s (by k_asm) (by k_asm) (by k_asm) (by k_asm) (by k_asm) (by first | exact rfl | assumption) (by ktr_room) (by ktr_units) ?_) | ((with_reducible show wpAny _ _ (PySem.call (Value.ref 102) _ _) _ _ _); refine' is_quotable_s (by k_asm) (by k_asm) (by k_asm) (by k_asm) (by k_asm) (by first | exact rfl | assumption) (by ktr_room) (by ktr_units) ?_) | ((with_reducible show wpAny _ _ (PySem.call (Value.ref 88) _ _) _ _ _); refine' is_alnum_s (by k_asm) (by k_asm) (by k_asm) (by k_asm) (by k_asm) (by first | exact rfl | assumption) (by ktr_room) (by ktr_units) ?_)); k_whole; intro h' tk' F' N'; (try k_sweep)) | fail
  k_with "my call ref" => first | (k_here; k_dflt (first | ((with_reducible show wpAny _ _ (PySem.call (Value.ref 109) _ _) _ _ _); refine' digit_value_s (by k_asm) (by k_asm) (by k_asm) (by k_asm) (by k_asm) (by first | exact rfl | assumption) (by ktr_room) (by ktr_units) ?_) | ((with_reducible show wpAny _ _ (PySem.call (Value.ref 128) _ _) _ _ _); refine' numeral_base_s (by k_asm) (by k_asm) (by k_asm) (by k_asm) (by k_asm) (by first | exact rfl | assumption) (by ktr_room) (by ktr_units) ?_)); k_whole; intro t' h' tk' F' N'; (try k_sweep)) | fail
  k_with "my call ref" => first | (k_here; (with_reducible show wpAny _ _ (PySem.call (Value.ref 150) _ _) _ _ _); k_dflt (refine' code_at_s (by k_asm) (by k_asm) (by k_asm) (by k_asm) (by k_asm) (by first | exact rfl | assumption) (by k_dflt k_mem) (by k_dflt k_mem) (by k_dflt k_mem) (by assumption) (by assumption) (by omega) (by ktr_room) (by ktr_units) ?_); k_whole; intro t' h' tk' F' N'; (try k_sweep)) | fail
  k_with "my call ref" => first | (k_here; (with_reducible show wpAny _ _ (PySem.call (Value.ref 220) _ _) _ _ _); k_dflt (refine' ends_at_s (by k_asm) (by k_asm) (by k_asm) (by k_asm) (by k_asm) (by first | exact rfl | assumption) (by k_dflt k_mem) (by k_dflt k_mem) (by k_dflt k_mem) (by assumption) (by assumption) (by omega) (by ktr_room) (by ktr_units) ?_); k_whole; intro h' tk' F' N'; (try k_sweep)) | fail
  k_with "my call ref" => first | (k_here; (with_reducible show wpAny _ _ (PySem.call (Value.ref 157) _ _) _ _ _); k_dflt (refine' place_s (by k_asm) (by k_asm) (by k_asm) (by k_asm) (by k_asm) (by first | exact rfl | assumption) (by k_dflt k_mem) (by k_dflt k_mem) (by k_dflt k_mem) (by assumption) (by assumption) (by ktr_room) (by ktr_units) ?_); k_whole; intro q' ta' tb' h' tk' F' N' l1; (try k_lt l1); (try k_sweep)) | fail
  k_with "my call ref" => first | (k_here; (with_reducible show wpAny _ _ (PySem.call (Value.ref 164) _ _) _ _ _); k_dflt (refine' fault_s (by k_asm) (by k_asm) (by k_asm) (by k_asm) (by k_asm) (by first | exact rfl | assumption) (by k_dflt k_mem) (by k_dflt k_mem) (by k_dflt k_mem) (by assumption) (by assumption) (by ktr_room) (by ktr_units) ?_); k_whole; intro e' t' d' od' h' tk' D' F' N' l1 l2 l3; (try k_sweep)) | fail
  k_with "my exec Raise some none" => first | (k_here; k_dflt (refine fault_raise (by exact rfl) ?_)) | fail
  k_with "my Raising" => first | (k_here; k_dflt (refine' raising_N (by k_asm) (by k_asm) (by k_asm) ?_)) | fail
  k_with "my leaving ref" => first | (k_here; k_dflt (first | (refine' fault_leaveN (by assumption) (by k_asm) (by k_asm) (by assumption) (by assumption) ?_; k_whole; intro h' R' U') | (refine' fault_leave2 (by assumption) (by assumption) (by assumption) (by assumption) ?_; k_whole; intro h' R' U'))) | fail
  k_with "my call ref" => first | (k_here; (with_reducible show wpAny _ _ (PySem.call (Value.ref 114) _ _) _ _ _); k_dflt (refine' codes_text_s (by k_asm) (by k_asm) (by k_asm) (by k_asm) (by k_asm) (by first | exact rfl | assumption) (by k_dflt k_mem) (by l_ints) (by k_extra "len") (by k_extra "rng") (by ktr_room) (by ktr_units) ?_); k_whole; intro t' h' tk' F' N'; (try k_sweep)) | fail
  k_with "my call ref" => first | (k_here; (with_reducible show wpAny _ _ (PySem.call (Value.ref 192) _ _) _ _ _); k_dflt (refine' skip_row_s (by k_asm) (by k_asm) (by k_asm) (by k_asm) (by k_asm) (by first | exact rfl | assumption) (by assumption) (by assumption) (by assumption) (by assumption) (by assumption) (by omega) (by ktr_room) (by ktr_units) ?_); k_whole; intro t1' h' tk' F' N'; (try k_sweep)) | fail
  k_with "my call ref" => first | (k_here; (with_reducible show wpAny _ _ (PySem.call (Value.ref 199) _ _) _ _ _); k_dflt (refine' skip_remark_s (by k_asm) (by k_asm) (by k_asm) (by k_asm) (by k_asm) (by first | exact rfl | assumption) (by assumption) (by assumption) (by assumption) (by assumption) (by assumption) (by omega) (by ktr_room) (by ktr_units) ?_ ?_); k_whole; intro t1' h' tk' ok' F' N'; (try k_sweep); rotate_left; k_whole; intro ok' g' e' d' od' t1' h' tk' FG' D' R' U' l'; rotate_right) | fail
  k_with "my call ref" => first | (k_here; (with_reducible show wpAny _ _ (PySem.call (Value.ref 185) _ _) _ _ _); k_dflt (refine' skip_layout_s (by k_asm) (by k_asm) (by k_asm) (by k_asm) (by k_asm) (by first | exact rfl | assumption) (by assumption) (by assumption) (by assumption) (by assumption) (by assumption) (by omega) (by ktr_room) (by ktr_units) ?_ ?_); k_whole; intro t1' h' tk' ok' F' N'; (try k_sweep); rotate_left; k_whole; intro j' ok' g' e' d' od' t1' h' tk' FG' D' R' U' l'; rotate_right) | fail
  k_with "my call ref" => first | (k_here; (with_reducible show wpAny _ _ (PySem.call (Value.ref 150) _ _) _ _ _); k_dflt (refine' code_at_s (by k_asm) (by k_asm) (by k_asm) (by k_asm) (by k_asm) (by first | exact rfl | assumption) (by k_dflt k_mem) (by k_dflt k_mem) (by k_dflt k_mem) (by assumption) (by assumption) (by first | omega | k_extra "at0") (by ktr_room) (by ktr_units) ?_); k_whole; intro t' h' tk' F' N'; (try k_sweep)) | fail
  k_with "my call ref" => first | (k_here; (with_reducible show wpAny _ _ (PySem.call (Value.ref 234) _ _) _ _ _); k_dflt (refine' digits_s (by k_asm) (by k_asm) (by k_asm) (by k_asm) (by k_asm) (by first | exact rfl | assumption) (by assumption) (by assumption) (by assumption) (by assumption) (by assumption) (by first | omega | k_extra "at0") (by first | omega | k_extra "at0") (by first | omega | k_extra "base0") (by first | omega | k_extra "base16") (by ktr_room) (by ktr_units) ?_); k_whole; intro t1' ta' h' tk' F' N'; (try k_sweep)) | fail
  k_with "my call ref" => first | (k_here; (with_reducible show wpAny _ _ (PySem.call (Value.ref 241) _ _) _ _ _); k_dflt (refine' character_s (by k_asm) (by k_asm) (by k_asm) (by k_asm) (by k_asm) (by first | exact rfl | assumption) (by assumption) (by assumption) (by assumption) (by assumption) (by assumption) (by first | omega | k_extra "at0") (by first | omega | k_extra "at0") (by ktr_room) (by ktr_units) ?_ ?_); k_whole; intro v' t1' ta' h' tk' ok' F' N'; (try k_sweep); rotate_left; k_whole; intro kind' at' ok' g' e' d' od' t1' h' tk' FG' D' R' U' l'; rotate_right) | fail
  trivial
theorem digitsGo_ge (cs : List Int) (base i v : Int) : i ≤ (digitsGo cs base i v).1 := by
  fun_induction digitsGo cs base i v with
  | case1 => exact Int.le_refl _
  | case2 i v h ih => exact Int.le_trans (by omega) ih
theorem numeralBase_rng (c : Int) : 0 ≤ numeralBase c ∧ numeralBase c ≤ 16 := by
  unfold numeralBase
  repeat' split
  all_goals decide
noncomputable def numeral (cs : List Int) (j : Int) : Int × NR :=
  if codeAt cs j = 48 ∧ codeAt cs (j + 1) = 39 then character cs j
  else if codeAt cs j = 48 ∧ 0 ≤ digitValue (codeAt cs (j + 2)) ∧ digitValue (codeAt cs (j + 2)) < numeralBase (codeAt cs (j + 1)) then
    ((digitsGo cs (numeralBase (codeAt cs (j + 1))) (j + 2) 0).1, .ok (digitsGo cs (numeralBase (codeAt cs (j + 1))) (j + 2) 0).2)
  else if codeAt cs (digitsGo cs 10 j 0).1 = 46 ∧ isDigit (codeAt cs ((digitsGo cs 10 j 0).1 + 1)) = true then ((digitsGo cs 10 ((digitsGo cs 10 j 0).1 + 1) 0).1, .bad "bad_number" j)
  else ((digitsGo cs 10 j 0).1, .ok (digitsGo cs 10 j 0).2)
theorem num_char {cs : List Int} {j : Int} (h : codeAt cs j = 48) (h2 : codeAt cs (j + 1) = 39) : numeral cs j = character cs j := by
  unfold numeral; rw [if_pos ⟨h, h2⟩]
theorem num_base {cs : List Int} {j : Int} (h : codeAt cs j = 48) (h2 : codeAt cs (j + 1) ≠ 39) (h3 : 0 ≤ digitValue (codeAt cs (j + 2))) (h4 : digitValue (codeAt cs (j + 2)) < numeralBase (codeAt cs (j + 1))) : numeral cs j = ((digitsGo cs (numeralBase (codeAt cs (j + 1))) (j + 2) 0).1, .ok (digitsGo cs (numeralBase (codeAt cs (j + 1))) (j + 2) 0).2) := by
  unfold numeral; rw [if_neg (by omega), if_pos ⟨h, h3, h4⟩]
noncomputable def NotBase (cs : List Int) (j : Int) : Prop := ¬ (codeAt cs j = 48 ∧ codeAt cs (j + 1) = 39) ∧ ¬ (codeAt cs j = 48 ∧ 0 ≤ digitValue (codeAt cs (j + 2)) ∧ digitValue (codeAt cs (j + 2)) < numeralBase (codeAt cs (j + 1)))
theorem nb1 {cs : List Int} {j : Int} (h : codeAt cs j ≠ 48) : NotBase cs j := ⟨fun x => h x.1, fun x => h x.1⟩
theorem nb2 {cs : List Int} {j : Int} (h2 : codeAt cs (j + 1) ≠ 39) (h3 : ¬ 0 ≤ digitValue (codeAt cs (j + 2))) : NotBase cs j := ⟨fun x => h2 x.2, fun x => h3 x.2.1⟩
theorem nb3 {cs : List Int} {j : Int} (h2 : codeAt cs (j + 1) ≠ 39) (h3 : ¬ digitValue (codeAt cs (j + 2)) < numeralBase (codeAt cs (j + 1))) : NotBase cs j := ⟨fun x => h2 x.2, fun x => h3 x.2.2⟩
theorem num_bad {cs : List Int} {j : Int} (h : NotBase cs j) (h2 : codeAt cs (digitsGo cs 10 j 0).1 = 46) (h3 : isDigit (codeAt cs ((digitsGo cs 10 j 0).1 + 1)) = true) : numeral cs j = ((digitsGo cs 10 ((digitsGo cs 10 j 0).1 + 1) 0).1, .bad "bad_number" j) := by
  unfold numeral; rw [if_neg h.1, if_neg h.2, if_pos ⟨h2, h3⟩]
theorem num_ok {cs : List Int} {j : Int} (h : NotBase cs j) (h2 : codeAt cs (digitsGo cs 10 j 0).1 ≠ 46 ∨ isDigit (codeAt cs ((digitsGo cs 10 j 0).1 + 1)) = false) : numeral cs j = ((digitsGo cs 10 j 0).1, .ok (digitsGo cs 10 j 0).2) := by
  unfold numeral; rw [if_neg h.1, if_neg h.2, if_neg]
  rintro ⟨x, y⟩
  rcases h2 with q | q
  · exact q x
  · rw [q] at y; exact absurd y (by simp)
section
variable {w : World} {mean : ExcName → Option Value} {mg mb : Str → Option Value}
    {dp un : Nat} {gd : Option (List Code)} {cn : Str} {sc : Scope} {a : Addr} {ccd : Value} {cl : List (Str × Addr)} {outer : List Env} {A₀ : Around} {base h₀ : Heap} {L : Addr} {m : Str → Option Value} {s : Shared}
    {news rest : List (Addr × Obj)} {Q E : Value → Shared → Prop} {x dx l : Addr} {vs : List Value} {cs : List Int} {ep : Nat} {k1 k2 k3 t1 t2 : Tok} {i o : Int}
section
variable (B : Below A₀ base outer h₀) (F : Fr h₀ L s.heap m) (X : (frg.heap_1 w.params).In h₀)
    (N : News h₀ L s.heap ((x, instObj 265 dx) :: (dx, dictOf (tokEs w.params k1 k2 k3 l i o t1 t2) 3) :: (l, listOf vs.toArray ep) :: rest))
    (T : TopX mean mg mb h₀) (hk : sc.kind = .function) (hxd : x ≠ dx) (hld : l ≠ dx) (hrest : ∀ p ∈ rest, p.1 ≠ dx)
    (hi : IntsAre vs cs) (hfit : cs.length < 2 ^ 20) (hi0 : 0 ≤ i)
include B F X N T hk hxd hld hrest hi hfit hi0

theorem numeral_s {j : Int} {t8 : Tok} (hj : 0 ≤ j) (hd : dp + 8 < recursionLimit) (hu : un + 64 < cLine)
    (hret : ∀ (v : Int) (q : Addr) (ta tb tc t1 : Tok) (h' : Heap) (tk' : Nat), (numeral cs j).2 = .ok v → Fr h₀ L h' m → News h₀ L h' ((q, tup3 "int" (.int v tb) j ta tc) :: ((x, instObj 265 dx) :: (dx, dictOf (tokEs w.params k1 k2 k3 l (numeral cs j).1 o t1 t2) 3) :: (l, listOf vs.toArray ep) :: rest)) → (∀ p ∈ ((x, instObj 265 dx) :: (dx, dictOf (tokEs w.params k1 k2 k3 l (numeral cs j).1 o t1 t2) 3) :: (l, listOf vs.toArray ep) :: rest), p.1 < q) → Q (.ref q) { s with heap := h', toks := tk' })
    (hraise : ∀ kind at_, (numeral cs j).2 = .bad kind at_ → ∀ (g : Heap) (e d : Addr) (od : Obj) (t1 : Tok) (h' : Heap) (tk' : Nat), Fr h₀ L g m → FDict w.params kind at_ (place cs at_) od → FaultR base g (envX cn sc L a ccd cl :: outer) e d ((d, od) :: ((x, instObj 265 dx) :: (dx, dictOf (tokEs w.params k1 k2 k3 l (numeral cs j).1 o t1 t2) 3) :: (l, listOf vs.toArray ep) :: rest)) h' → g.UpToSlots h' → (∀ p ∈ ((x, instObj 265 dx) :: (dx, dictOf (tokEs w.params k1 k2 k3 l (numeral cs j).1 o t1 t2) 3) :: (l, listOf vs.toArray ep) :: rest), p.1 < d) → E (.ref e) { s with heap := h', toks := tk' }) :
    wpC w (ktrTop dp un gd cn sc L a ccd cl outer) 227 [.ref x, .int j t8] Q E s := by
  k_with "at0" => (have hge9 := digitsGo_ge cs 10 j 0; omega)
  k_with "base0" => exact (numeralBase_rng _).1
  k_with "base16" => exact (numeralBase_rng _).2
  refine wpAny_call ?_
  k_dflt cell_enter
  k_steps

  all_goals first
    | ((first | have he9 := num_char (by assumption) (by assumption) | have he9 := num_bad (by first | exact nb1 (by assumption) | exact nb2 (by assumption) (by assumption) | exact nb3 (by assumption) (by assumption)) (by assumption) (by assumption)); rw [he9] at hraise; refine' hraise _ _ (by first | rfl | assumption) _ _ _ _ _ _ _ ?zf ?zd ?zr ?zu ?zl; (case zr => assumption); (case zf => assumption); (case zd => assumption); (case zu => assumption); (case zl => assumption))
    | ((first | have he9 := num_char (by assumption) (by assumption) | have he9 := num_base (by assumption) (by assumption) (by assumption) (by assumption) | have he9 := num_ok (by first | exact nb1 (by assumption) | exact nb2 (by assumption) (by assumption) | exact nb3 (by assumption) (by assumption)) (by first | exact .inl (by assumption) | exact .inr (by assumption))); rw [he9] at hret; exact hret _ _ _ _ _ _ _ _ (by first | rfl | assumption) (by assumption) (by first | assumption | exact cb_drop (by assumption) drop2) (by first | assumption | exact lt_of_allLt (by assumption) | exact lt_of_allLt (And.right (by assumption)) | exact lt_of_allLt (And.right (And.right (by assumption)))))

end
end
end
section -- W19
open PySem PySem.W PyProof.Rows PySem.Calls
set_option maxHeartbeats 8000000
theorem set_W19_0 : True := by
  k_with_none
  trivial
theorem skipLayout_ge (cs : List Int) (i : Int) : i ≤ (skipLayout cs i).1 := by
  fun_induction skipLayout cs i with
  | case1 i h ih => omega
  | case2 i h h2 ih => have := skipRow_ge cs i; omega
  | case3 i h h2 h3 h4 ih => have := skipRemark_ge cs (i + 2); omega
  | case4 i h h2 h3 h4 => have := skipRemark_ge cs (i + 2); dsimp only; omega
  | case5 i h h2 h3 => exact Int.le_refl _
theorem skipLayout_nn {cs : List Int} {i : Int} (h : (skipLayout cs i).2 = none) (h0 : 0 ≤ i) : 0 ≤ (skipLayout cs i).1 := Int.le_trans h0 (skipLayout_ge cs i)
section
variable {w : World} {mean : ExcName → Option Value} {mg mb : Str → Option Value}
    {dp un : Nat} {gd : Option (List Code)} {cn : Str} {sc : Scope} {a : Addr} {ccd : Value} {cl : List (Str × Addr)} {outer : List Env} {A₀ : Around} {base h₀ : Heap} {L : Addr} {m : Str → Option Value} {s : Shared}
    {news rest : List (Addr × Obj)} {Q E : Value → Shared → Prop} {x dx l : Addr} {vs : List Value} {cs : List Int} {ep : Nat} {k1 k2 k3 t1 t2 : Tok} {i o : Int}
section
variable (B : Below A₀ base outer h₀) (F : Fr h₀ L s.heap m) (X : (frg.heap_1 w.params).In h₀) (N : News h₀ L s.heap news)
    (T : TopX mean mg mb h₀) (hk : sc.kind = .function)
    (hx : (x, instObj 265 dx) ∈ news) (hdx : (dx, dictOf (tokEs w.params k1 k2 k3 l i o t1 t2) 3) ∈ news) (hl : (l, listOf vs.toArray ep) ∈ news) (hi : IntsAre vs cs) (hfit : cs.length < 2 ^ 20)
include B F X N T hk hx hdx hl hi hfit

theorem code_at_s2 {j : Int} {t9 : Tok} (h0 : 0 ≤ j) (hd : dp + 1 < recursionLimit) (hu : un + 8 < cLine)
    (hret : ∀ (t : Tok) (h' : Heap) (tk' : Nat), codeAt cs j ≤ 1114111 → Fr h₀ L h' m → News h₀ L h' news → Q (.int (codeAt cs j) t) { s with heap := h', toks := tk' }) :
    wpC w (ktrTop dp un gd cn sc L a ccd cl outer) 150 [.ref x, .int j t9] Q E s := code_at_s B F X N T hk hx hdx hl hi hfit h0 hd hu (fun t h' tk' => hret t h' tk' (codeAt_le cs j))
end
end

theorem set_W19_1 : True := by
  k_with "my is_list" => first | (exact News.isList (by k_asm) (by assumption)) | fail
  k_with "my k_all" => first | (assumption) | fail
  k_with "my eval Call" => first | (k_here; k_dflt (refine Call_ ?_)) | fail
  k_with "my eval Call Attribute" => first | (k_here; k_dflt (refine MethodCall_ ?_)) | fail
  k_with "my call ref" => first | (k_here; k_dflt (first | ((with_reducible show wpAny _ _ (PySem.call (Value.ref 60) _ _) _ _ _); refine' is_layout_s (by k_asm) (by k_asm) (by k_asm) (by k_asm) (by k_asm) (by first | exact rfl | assumption) (by ktr_room) (by ktr_units) ?_) | ((with_reducible show wpAny _ _ (PySem.call (Value.ref 67) _ _) _ _ _); refine' is_digit_s (by k_asm) (by k_asm) (by k_asm) (by k_asm) (by k_asm) (by first | exact rfl | assumption) (by ktr_room) (by ktr_units) ?_) | ((with_reducible show wpAny _ _ (PySem.call (Value.ref 74) _ _) _ _ _); refine' is_small_s (by k_asm) (by k_asm) (by k_asm) (by k_asm) (by k_asm) (by first | exact rfl | assumption) (by ktr_room) (by ktr_units) ?_) | ((with_reducible show wpAny _ _ (PySem.call (Value.ref 81) _ _) _ _ _); refine' is_capital_s (by k_asm) (by k_asm) (by k_asm) (by k_asm) (by k_asm) (by first | exact rfl | assumption) (by ktr_room) (by ktr_units) ?_) | ((with_reducible show wpAny _ _ (PySem.call (Value.ref 95) _ _) _ _ _); refine' is_symbol_s (by k_asm) (by k_asm) (by k_asm) (by k_asm) (by k_asm) (by first | exact rfl | assumption) (by ktr_room) (by ktr_units) ?_) | ((with_reducible show wpAny _ _ (PySem.call (Value.ref 102) _ _) _ _ _); refine' is_quotable_s (by k_asm) (by k_asm) (by k_asm) (by k_asm) (by k_asm) (by first | exact rfl | assumption) (by ktr_room) (by ktr_units) ?_) | ((with_reducible show wpAny _ _ (PySem.call (Value.ref 88) _ _) _ _ _); refine' is_alnum_s (by k_asm) (by k_asm) (by k_asm) (by k_asm) (by k_asm) (by first | exact rfl | assumption) (by ktr_room) (by ktr_units) ?_)); k_whole; intro h' tk' F' N'; (try k_sweep)) | fail
  k_with "my call ref" => first | (k_here; k_dflt (first | ((with_reducible show wpAny _ _ (PySem.call (Value.ref 109) _ _) _ _ _); refine' digit_value_s (by k_asm) (by k_asm) (by k_asm) (by k_asm) (by k_asm) (by first | exact rfl | assumption) (by ktr_room) (by ktr_units) ?_) | ((with_reducible show wpAny _ _ (PySem.call (Value.ref 128) _ _) _ _ _); refine' numeral_base_s (by k_asm) (by k_asm) (by k_asm) (by k_asm) (by k_asm) (by first | exact rfl | assumption) (by ktr_room) (by ktr_units) ?_)); k_whole; intro t' h' tk' F' N'; (try k_sweep)) | fail
  k_with "my call ref" => first | (k_here; (with_reducible show wpAny _ _ (PySem.call (Value.ref 150) _ _) _ _ _); k_dflt (refine' code_at_s (by k_asm) (by k_asm) (by k_asm) (by k_asm) (by k_asm) (by first | exact rfl | assumption) (by k_dflt k_mem) (by k_dflt k_mem) (by k_dflt k_mem) (by assumption) (by assumption) (by omega) (by ktr_room) (by ktr_units) ?_); k_whole; intro t' h' tk' F' N'; (try k_sweep)) | fail
  k_with "my call ref" => first | (k_here; (with_reducible show wpAny _ _ (PySem.call (Value.ref 220) _ _) _ _ _); k_dflt (refine' ends_at_s (by k_asm) (by k_asm) (by k_asm) (by k_asm) (by k_asm) (by first | exact rfl | assumption) (by k_dflt k_mem) (by k_dflt k_mem) (by k_dflt k_mem) (by assumption) (by assumption) (by omega) (by ktr_room) (by ktr_units) ?_); k_whole; intro h' tk' F' N'; (try k_sweep)) | fail
  k_with "my call ref" => first | (k_here; (with_reducible show wpAny _ _ (PySem.call (Value.ref 157) _ _) _ _ _); k_dflt (refine' place_s (by k_asm) (by k_asm) (by k_asm) (by k_asm) (by k_asm) (by first | exact rfl | assumption) (by k_dflt k_mem) (by k_dflt k_mem) (by k_dflt k_mem) (by assumption) (by assumption) (by ktr_room) (by ktr_units) ?_); k_whole; intro q' ta' tb' h' tk' F' N' l1; (try k_lt l1); (try k_sweep)) | fail
  k_with "my call ref" => first | (k_here; (with_reducible show wpAny _ _ (PySem.call (Value.ref 164) _ _) _ _ _); k_dflt (refine' fault_s (by k_asm) (by k_asm) (by k_asm) (by k_asm) (by k_asm) (by first | exact rfl | assumption) (by k_dflt k_mem) (by k_dflt k_mem) (by k_dflt k_mem) (by assumption) (by assumption) (by ktr_room) (by ktr_units) ?_); k_whole; intro e' t' d' od' h' tk' D' F' N' l1 l2 l3; (try k_sweep)) | fail
  k_with "my exec Raise some none" => first | (k_here; k_dflt (refine fault_raise (by exact rfl) ?_)) | fail
  k_with "my Raising" => first | (k_here; k_dflt (refine' raising_N (by k_asm) (by k_asm) (by k_asm) ?_)) | fail
  k_with "my leaving ref" => first | (k_here; k_dflt (first | (refine' fault_leaveN (by assumption) (by k_asm) (by k_asm) (by assumption) (by assumption) ?_; k_whole; intro h' R' U') | (refine' fault_leave2 (by assumption) (by assumption) (by assumption) (by assumption) ?_; k_whole; intro h' R' U'))) | fail
  k_with "my call ref" => first | (k_here; (with_reducible show wpAny _ _ (PySem.call (Value.ref 114) _ _) _ _ _); k_dflt (refine' codes_text_s (by k_asm) (by k_asm) (by k_asm) (by k_asm) (by k_asm) (by first | exact rfl | assumption) (by k_dflt k_mem) (by l_ints) (by k_extra "len") (by k_extra "rng") (by ktr_room) (by ktr_units) ?_); k_whole; intro t' h' tk' F' N'; (try k_sweep)) | fail
  k_with "my call ref" => first | (k_here; (with_reducible show wpAny _ _ (PySem.call (Value.ref 192) _ _) _ _ _); k_dflt (refine' skip_row_s (by k_asm) (by k_asm) (by k_asm) (by k_asm) (by k_asm) (by first | exact rfl | assumption) (by assumption) (by assumption) (by assumption) (by assumption) (by assumption) (by omega) (by ktr_room) (by ktr_units) ?_); k_whole; intro t1' h' tk' F' N'; (try k_sweep)) | fail
  k_with "my call ref" => first | (k_here; (with_reducible show wpAny _ _ (PySem.call (Value.ref 199) _ _) _ _ _); k_dflt (refine' skip_remark_s (by k_asm) (by k_asm) (by k_asm) (by k_asm) (by k_asm) (by first | exact rfl | assumption) (by assumption) (by assumption) (by assumption) (by assumption) (by assumption) (by omega) (by ktr_room) (by ktr_units) ?_ ?_); k_whole; intro t1' h' tk' ok' F' N'; (try k_sweep); rotate_left; k_whole; intro ok' g' e' d' od' t1' h' tk' FG' D' R' U' l'; rotate_right) | fail
  k_with "my call ref" => first | (k_here; (with_reducible show wpAny _ _ (PySem.call (Value.ref 185) _ _) _ _ _); k_dflt (refine' skip_layout_s (by k_asm) (by k_asm) (by k_asm) (by k_asm) (by k_asm) (by first | exact rfl | assumption) (by assumption) (by assumption) (by assumption) (by assumption) (by assumption) (by omega) (by ktr_room) (by ktr_units) ?_ ?_); k_whole; intro t1' h' tk' ok' F' N'; have hge9 := skipLayout_nn ok' (by omega); (try k_sweep); rotate_left; k_whole; intro j' ok' g' e' d' od' t1' h' tk' FG' D' R' U' l'; rotate_right) | fail
  k_with "my call ref" => first | (k_here; (with_reducible show wpAny _ _ (PySem.call (Value.ref 150) _ _) _ _ _); k_dflt (refine' code_at_s2 (by k_asm) (by k_asm) (by k_asm) (by k_asm) (by k_asm) (by first | exact rfl | assumption) (by k_dflt k_mem) (by k_dflt k_mem) (by k_dflt k_mem) (by assumption) (by assumption) (by first | omega | k_extra "at0") (by ktr_room) (by ktr_units) ?_); k_whole; intro t' h' tk' hle9 F' N'; (try k_sweep)) | fail
  k_with "my call ref" => first | (k_here; (with_reducible show wpAny _ _ (PySem.call (Value.ref 206) _ _) _ _ _); k_dflt (refine' word_s (by k_asm) (by k_asm) (by k_asm) (by k_asm) (by k_asm) (by first | exact rfl | assumption) (by assumption) (by assumption) (by assumption) (by assumption) (by assumption) (by first | omega | k_extra "at0") (by ktr_room) (by ktr_units) ?_); k_whole; intro t1' ta' h' tk' F' N'; (try k_sweep)) | fail
  k_with "my call ref" => first | (k_here; (with_reducible show wpAny _ _ (PySem.call (Value.ref 213) _ _) _ _ _); k_dflt (refine' symbol_s (by k_asm) (by k_asm) (by k_asm) (by k_asm) (by k_asm) (by first | exact rfl | assumption) (by assumption) (by assumption) (by assumption) (by assumption) (by assumption) (by omega) (by ktr_room) (by ktr_units) ?_); k_whole; intro q' ta' tb' tc' t1' h' tk' F' N' l1; (try k_sweep)) | fail
  k_with "my call ref" => first | (k_here; (with_reducible show wpAny _ _ (PySem.call (Value.ref 227) _ _) _ _ _); k_dflt (refine' numeral_s (by k_asm) (by k_asm) (by k_asm) (by k_asm) (by k_asm) (by first | exact rfl | assumption) (by assumption) (by assumption) (by assumption) (by assumption) (by assumption) (by first | omega | k_extra "at0") (by first | omega | k_extra "at0") (by ktr_room) (by ktr_units) ?_ ?_); k_whole; intro v' q' ta' tb' tc' t1' h' tk' ok' F' N' l1; (try k_sweep); rotate_left; k_whole; intro kind' at' ok' g' e' d' od' t1' h' tk' FG' D' R' U' l'; rotate_right) | fail
  k_with "my call ref" => first | (k_here; (with_reducible show wpAny _ _ (PySem.call (Value.ref 248) _ _) _ _ _); k_dflt (refine' quoted_s (by k_asm) (by k_asm) (by k_asm) (by k_asm) (by k_asm) (by first | exact rfl | assumption) (by assumption) (by assumption) (by assumption) (by assumption) (by assumption) (by first | omega | k_extra "at0") (by first | omega | k_extra "at0") (by first | omega | decide) (by ktr_room) (by ktr_units) ?_ ?_); k_whole; intro c' ws' l9' ep9' t1' h' tk' ok' ia' le' F' N' l1; (try k_sweep); rotate_left; k_whole; intro kind' at' ok' g' e' d' od' t1' h' tk' FG' D' R' U' l'; rotate_right) | fail
  k_with "my call ref" => first | (k_here; (with_reducible show wpAny _ _ (PySem.call (Value.ref 114) _ _) _ _ _); k_dflt (refine' codes_text_s (by k_asm) (by k_asm) (by k_asm) (by k_asm) (by k_asm) (by first | exact rfl | assumption) (by k_dflt k_mem) (by assumption) (by k_extra "len") (by k_extra "rng") (by ktr_room) (by ktr_units) ?_); k_whole; intro t' h' tk' F' N'; (try k_sweep)) | fail
  trivial
inductive NX where
  | tok (kind : Str) (v : TV) (at_ : Int)
  | bad (kind : Str) (at_ : Int)
noncomputable def inStr (z : Str) (c : Int) : Bool := !(Builtin.Str.occurrences z (chr1 (maxZ c)) 0 z.length 1).isEmpty
noncomputable def nrTok (r : NR) (a : Int) : NX := match r with | .ok v => .tok "int" (.int v) a | .bad k j => .bad k j
noncomputable def qrTok (kind : Str) (text : Bool) (r : QR) (a : Int) : NX := match r with | .ok l => .tok kind (if text = true then .str (codesText l) else .tup l) a | .bad k j => .bad k j
noncomputable def nextAt (cs : List Int) (o b a : Int) : Int × NX :=
  if (cs.length : Int) ≤ a then (a, .tok "eof" (.str "") a)
  else if codeAt cs a = 40 then (a + 1, .tok (if a > b ∨ a = o then "open" else "open_ct") (.str "(") a)
  else if isSmall (codeAt cs a) = true then (scanEnd isAlnum cs a, .tok "name" (.str (codesText (sliceC cs a (scanEnd isAlnum cs a)))) a)
  else if isCapital (codeAt cs a) = true ∨ codeAt cs a = 95 then (scanEnd isAlnum cs a, .tok "var" (.str (codesText (sliceC cs a (scanEnd isAlnum cs a)))) a)
  else if isDigit (codeAt cs a) = true then ((numeral cs a).1, nrTok (numeral cs a).2 a)
  else if codeAt cs a = 39 then ((quotedGo cs 39 a (a + 1) []).1, qrTok "qname" true (quotedGo cs 39 a (a + 1) []).2 a)
  else if codeAt cs a = 34 then ((quotedGo cs 34 a (a + 1) []).1, qrTok "string" false (quotedGo cs 34 a (a + 1) []).2 a)
  else if codeAt cs a = 96 then ((quotedGo cs 96 a (a + 1) []).1, qrTok "back" false (quotedGo cs 96 a (a + 1) []).2 a)
  else if isSymbol (codeAt cs a) = true then ((symRes cs a).1, .tok (symRes cs a).2.1 (.str (symRes cs a).2.2) a)
  else if inStr ")[]{},|" (codeAt cs a) = true then (a + 1, .tok "punct" (.str (chr1 (maxZ (codeAt cs a)))) a)
  else if inStr "!;" (codeAt cs a) = true then (a + 1, .tok "name" (.str (chr1 (maxZ (codeAt cs a)))) a)
  else (a + 1, .bad "undefined_char" a)
theorem in_true {z : Str} {c : Int} (h : (Builtin.Str.occurrences z (chr1 (maxZ c)) 0 z.length 1).isEmpty = false) : inStr z c = true := by unfold inStr; rw [h]; rfl
theorem in_false {z : Str} {c : Int} (h : (Builtin.Str.occurrences z (chr1 (maxZ c)) 0 z.length 1).isEmpty = true) : inStr z c = false := by unfold inStr; rw [h]; rfl
theorem not_cap {c : Int} (h : isCapital c = false) (h2 : c ≠ 95) : ¬ (isCapital c = true ∨ c = 95) := fun q => q.elim (fun q => by rw [h] at q; cases q) h2
theorem nr_ok {r : NR} {a v : Int} (h : r = .ok v) : nrTok r a = .tok "int" (.int v) a := by rw [h]; rfl
theorem nr_bad {r : NR} {a j : Int} {k : Str} (h : r = .bad k j) : nrTok r a = .bad k j := by rw [h]; rfl
theorem qr_okt {r : QR} {a : Int} {kind : Str} {l : List Int} (h : r = .ok l) : qrTok kind true r a = .tok kind (.str (codesText l)) a := by rw [h]; rfl
theorem qr_okf {r : QR} {a : Int} {kind : Str} {l : List Int} (h : r = .ok l) : qrTok kind false r a = .tok kind (.tup l) a := by rw [h]; rfl
theorem qr_bad {r : QR} {a j : Int} {kind k : Str} {b : Bool} (h : r = .bad k j) : qrTok kind b r a = .bad k j := by rw [h]; rfl
theorem drop3 {a b c : Addr × Obj} {l : List (Addr × Obj)} : ∀ p ∈ a :: b :: l, p ∈ a :: b :: c :: l := fun p hp => by
  rcases List.mem_cons.mp hp with rfl | hp
  · exact .head _
  · exact .tail _ (drop2 p hp)
theorem na_eof {cs : List Int} {o b a : Int} (hl : (cs.length : Int) ≤ a) : nextAt cs o b a = (a, .tok "eof" (.str "") a) := by
  unfold nextAt; rw [if_pos hl]
theorem na_open {cs : List Int} {o b a : Int} (hl : ¬ (cs.length : Int) ≤ a)  (h0 : codeAt cs a = 40) : nextAt cs o b a = (a + 1, .tok (if a > b ∨ a = o then "open" else "open_ct") (.str "(") a) := by
  unfold nextAt; rw [if_neg hl, if_pos h0]
theorem na_small {cs : List Int} {o b a : Int} (hl : ¬ (cs.length : Int) ≤ a) (h0 : codeAt cs a ≠ 40) (h1 : isSmall (codeAt cs a) = true) : nextAt cs o b a = (scanEnd isAlnum cs a, .tok "name" (.str (codesText (sliceC cs a (scanEnd isAlnum cs a)))) a) := by
  unfold nextAt; rw [if_neg hl, if_neg h0, if_pos h1]
theorem na_cap {cs : List Int} {o b a : Int} (hl : ¬ (cs.length : Int) ≤ a) (h0 : codeAt cs a ≠ 40) (h1 : isSmall (codeAt cs a) = false) (h2 : isCapital (codeAt cs a) = true ∨ codeAt cs a = 95) : nextAt cs o b a = (scanEnd isAlnum cs a, .tok "var" (.str (codesText (sliceC cs a (scanEnd isAlnum cs a)))) a) := by
  unfold nextAt; rw [if_neg hl, if_neg h0, if_neg (by rw [h1]; simp), if_pos h2]
theorem na_digit {cs : List Int} {o b a : Int} (hl : ¬ (cs.length : Int) ≤ a) (h0 : codeAt cs a ≠ 40) (h1 : isSmall (codeAt cs a) = false) (h2 : ¬ (isCapital (codeAt cs a) = true ∨ codeAt cs a = 95)) (h3 : isDigit (codeAt cs a) = true) : nextAt cs o b a = ((numeral cs a).1, nrTok (numeral cs a).2 a) := by
  unfold nextAt; rw [if_neg hl, if_neg h0, if_neg (by rw [h1]; simp), if_neg h2, if_pos h3]
theorem na_q39 {cs : List Int} {o b a : Int} (hl : ¬ (cs.length : Int) ≤ a) (h0 : codeAt cs a ≠ 40) (h1 : isSmall (codeAt cs a) = false) (h2 : ¬ (isCapital (codeAt cs a) = true ∨ codeAt cs a = 95)) (h3 : isDigit (codeAt cs a) = false) (h4 : codeAt cs a = 39) : nextAt cs o b a = ((quotedGo cs 39 a (a + 1) []).1, qrTok "qname" true (quotedGo cs 39 a (a + 1) []).2 a) := by
  unfold nextAt; rw [if_neg hl, if_neg h0, if_neg (by rw [h1]; simp), if_neg h2, if_neg (by rw [h3]; simp), if_pos h4]
theorem na_q34 {cs : List Int} {o b a : Int} (hl : ¬ (cs.length : Int) ≤ a) (h0 : codeAt cs a ≠ 40) (h1 : isSmall (codeAt cs a) = false) (h2 : ¬ (isCapital (codeAt cs a) = true ∨ codeAt cs a = 95)) (h3 : isDigit (codeAt cs a) = false) (h4 : codeAt cs a ≠ 39) (h5 : codeAt cs a = 34) : nextAt cs o b a = ((quotedGo cs 34 a (a + 1) []).1, qrTok "string" false (quotedGo cs 34 a (a + 1) []).2 a) := by
  unfold nextAt; rw [if_neg hl, if_neg h0, if_neg (by rw [h1]; simp), if_neg h2, if_neg (by rw [h3]; simp), if_neg h4, if_pos h5]
theorem na_q96 {cs : List Int} {o b a : Int} (hl : ¬ (cs.length : Int) ≤ a) (h0 : codeAt cs a ≠ 40) (h1 : isSmall (codeAt cs a) = false) (h2 : ¬ (isCapital (codeAt cs a) = true ∨ codeAt cs a = 95)) (h3 : isDigit (codeAt cs a) = false) (h4 : codeAt cs a ≠ 39) (h5 : codeAt cs a ≠ 34) (h6 : codeAt cs a = 96) : nextAt cs o b a = ((quotedGo cs 96 a (a + 1) []).1, qrTok "back" false (quotedGo cs 96 a (a + 1) []).2 a) := by
  unfold nextAt; rw [if_neg hl, if_neg h0, if_neg (by rw [h1]; simp), if_neg h2, if_neg (by rw [h3]; simp), if_neg h4, if_neg h5, if_pos h6]
theorem na_sym {cs : List Int} {o b a : Int} (hl : ¬ (cs.length : Int) ≤ a) (h0 : codeAt cs a ≠ 40) (h1 : isSmall (codeAt cs a) = false) (h2 : ¬ (isCapital (codeAt cs a) = true ∨ codeAt cs a = 95)) (h3 : isDigit (codeAt cs a) = false) (h4 : codeAt cs a ≠ 39) (h5 : codeAt cs a ≠ 34) (h6 : codeAt cs a ≠ 96) (h7 : isSymbol (codeAt cs a) = true) : nextAt cs o b a = ((symRes cs a).1, .tok (symRes cs a).2.1 (.str (symRes cs a).2.2) a) := by
  unfold nextAt; rw [if_neg hl, if_neg h0, if_neg (by rw [h1]; simp), if_neg h2, if_neg (by rw [h3]; simp), if_neg h4, if_neg h5, if_neg h6, if_pos h7]
theorem na_punct {cs : List Int} {o b a : Int} (hl : ¬ (cs.length : Int) ≤ a) (h0 : codeAt cs a ≠ 40) (h1 : isSmall (codeAt cs a) = false) (h2 : ¬ (isCapital (codeAt cs a) = true ∨ codeAt cs a = 95)) (h3 : isDigit (codeAt cs a) = false) (h4 : codeAt cs a ≠ 39) (h5 : codeAt cs a ≠ 34) (h6 : codeAt cs a ≠ 96) (h7 : isSymbol (codeAt cs a) = false) (h8 : (Builtin.Str.occurrences (Str.ofString ")[]{},|") (chr1 (maxZ (codeAt cs a))) 0 (Str.ofString ")[]{},|").length 1).isEmpty = false) : nextAt cs o b a = (a + 1, .tok "punct" (.str (chr1 (maxZ (codeAt cs a)))) a) := by
  unfold nextAt; rw [if_neg hl, if_neg h0, if_neg (by rw [h1]; simp), if_neg h2, if_neg (by rw [h3]; simp), if_neg h4, if_neg h5, if_neg h6, if_neg (by rw [h7]; simp), if_pos (in_true h8)]
theorem na_excl {cs : List Int} {o b a : Int} (hl : ¬ (cs.length : Int) ≤ a) (h0 : codeAt cs a ≠ 40) (h1 : isSmall (codeAt cs a) = false) (h2 : ¬ (isCapital (codeAt cs a) = true ∨ codeAt cs a = 95)) (h3 : isDigit (codeAt cs a) = false) (h4 : codeAt cs a ≠ 39) (h5 : codeAt cs a ≠ 34) (h6 : codeAt cs a ≠ 96) (h7 : isSymbol (codeAt cs a) = false) (h8 : (Builtin.Str.occurrences (Str.ofString ")[]{},|") (chr1 (maxZ (codeAt cs a))) 0 (Str.ofString ")[]{},|").length 1).isEmpty = true) (h9 : (Builtin.Str.occurrences (Str.ofString "!;") (chr1 (maxZ (codeAt cs a))) 0 (Str.ofString "!;").length 1).isEmpty = false) : nextAt cs o b a = (a + 1, .tok "name" (.str (chr1 (maxZ (codeAt cs a)))) a) := by
  unfold nextAt; rw [if_neg hl, if_neg h0, if_neg (by rw [h1]; simp), if_neg h2, if_neg (by rw [h3]; simp), if_neg h4, if_neg h5, if_neg h6, if_neg (by rw [h7]; simp), if_neg (by rw [in_false h8]; simp), if_pos (in_true h9)]
theorem na_un {cs : List Int} {o b a : Int} (hl : ¬ (cs.length : Int) ≤ a) (h0 : codeAt cs a ≠ 40) (h1 : isSmall (codeAt cs a) = false) (h2 : ¬ (isCapital (codeAt cs a) = true ∨ codeAt cs a = 95)) (h3 : isDigit (codeAt cs a) = false) (h4 : codeAt cs a ≠ 39) (h5 : codeAt cs a ≠ 34) (h6 : codeAt cs a ≠ 96) (h7 : isSymbol (codeAt cs a) = false) (h8 : (Builtin.Str.occurrences (Str.ofString ")[]{},|") (chr1 (maxZ (codeAt cs a))) 0 (Str.ofString ")[]{},|").length 1).isEmpty = true) (h9 : (Builtin.Str.occurrences (Str.ofString "!;") (chr1 (maxZ (codeAt cs a))) 0 (Str.ofString "!;").length 1).isEmpty = true) : nextAt cs o b a = (a + 1, .bad "undefined_char" a) := by
  unfold nextAt; rw [if_neg hl, if_neg h0, if_neg (by rw [h1]; simp), if_neg h2, if_neg (by rw [h3]; simp), if_neg h4, if_neg h5, if_neg h6, if_neg (by rw [h7]; simp), if_neg (by rw [in_false h8]; simp), if_neg (by rw [in_false h9]; simp)]
theorem na_open1 {cs : List Int} {o b a : Int} (hl : ¬ (cs.length : Int) ≤ a) (h : codeAt cs a = 40) (h2 : a > b ∨ a = o) : nextAt cs o b a = (a + 1, .tok "open" (.str "(") a) := by
  rw [na_open hl h, if_pos h2]
theorem na_open3 {cs : List Int} {o b a : Int} (hl : ¬ (cs.length : Int) ≤ a) (h : codeAt cs a = 40) (h2 : ¬ b < a) (h3 : a ≠ o) : nextAt cs o b a = (a + 1, .tok "open_ct" (.str "(") a) := by
  rw [na_open hl h, if_neg (fun q => q.elim h2 h3)]

noncomputable def nextT (cs : List Int) (o b : Int) : Int × NX :=
  match (skipLayout cs b).2 with
  | some j => ((skipLayout cs b).1, .bad "unfinished_remark" j)
  | none => nextAt cs o b (skipLayout cs b).1
theorem nt_none {cs : List Int} {o b : Int} (h : (skipLayout cs b).2 = none) {r : Int × NX} (e : nextAt cs o b (skipLayout cs b).1 = r) : nextT cs o b = r := by
  unfold nextT; rw [h]; exact e
theorem nt_some {cs : List Int} {o b j : Int} (h : (skipLayout cs b).2 = some j) : nextT cs o b = ((skipLayout cs b).1, .bad "unfinished_remark" j) := by
  unfold nextT; rw [h]
inductive TVIs : TV → Value → List (Addr × Obj) → Prop where
  | str (z : Str) (t : Tok) : TVIs (.str z) (.str z t) []
  | int (n : Int) (t : Tok) : TVIs (.int n) (.int n t) []
  | tup {l : List Int} {ws : List Value} (c : Addr) : IntsAre ws l → TVIs (.tup l) (.ref c) [(c, { cls := .type "tuple", data := .seq ws.toArray })]
abbrev InRng (c : Int) : Prop := 0 ≤ c ∧ c ≤ 1114111
theorem simple_le {c : Int} (h : c ≤ 1114111) : simpleEscape c ≤ 1114111 := by
  unfold simpleEscape
  split
  · split
    · have := fact_find (Str.ofString "abtnvfr") (chr1 (maxZ c))
      have e : (Str.ofString "abtnvfr").length = 7 := by decide
      rw [e] at this; omega
    · decide
  · exact h
theorem escape_le (cs : List Int) (i : Int) : (escape cs i).2 ≤ 1114111 := by
  have ht : ∀ i st (r : Int × Int), (escTail cs i st r).2 ≤ 1114111 := by
    intro i st r
    unfold escTail
    split
    · show (-1 : Int) ≤ 1114111; decide
    · rename_i h; dsimp only; omega
  unfold escape
  split
  · exact simple_le (codeAt_le _ _)
  · split
    · exact ht _ _ _
    · exact ht _ _ _
theorem rng_snoc {acc : List Int} {v : Int} (h : ∀ c ∈ acc, InRng c) (hv : InRng v) : ∀ c ∈ acc ++ [v], InRng c := fun c hc => by
  rcases List.mem_append.mp hc with q | q
  · exact h c q
  · rw [List.mem_singleton.mp q]; exact hv
theorem quoted_rng {cs : List Int} {q b i : Int} {acc : List Int} (hq : InRng q) (ha : ∀ c ∈ acc, InRng c) {l : List Int} (h : (quotedGo cs q b i acc).2 = .ok l) : ∀ c ∈ l, InRng c := by
  fun_induction quotedGo cs q b i acc with
  | case1 i acc h0 => injection h with h; subst h; exact ha
  | case2 i acc h0 h1 h2 ih => exact ih (rng_snoc ha hq) h
  | case3 i acc h0 h1 h2 => injection h with h; subst h; exact ha
  | case4 => cases h
  | case5 i acc h0 h1 h2 h3 ih => exact ih ha h
  | case6 => cases h
  | case7 i acc h0 h1 h2 h3 h4 h5 ih => exact ih (rng_snoc ha ⟨by omega, escape_le _ _⟩) h
  | case8 i acc h0 h1 h2 h3 h4 h5 ih =>
    refine ih (rng_snoc ha ?_) h
    simp only [isQuotable, Bool.and_eq_true, decide_eq_true_eq] at h5
    exact ⟨by omega, by omega⟩
  | case9 => cases h
theorem quoted_rng39 {cs : List Int} {b i : Int} {l : List Int} (h : (quotedGo cs 39 b i []).2 = .ok l) : ∀ c ∈ l, 0 ≤ c ∧ c ≤ 1114111 := quoted_rng (q := 39) (by decide) (by simp) h
section
variable {w : World} {mean : ExcName → Option Value} {mg mb : Str → Option Value}
    {dp un : Nat} {gd : Option (List Code)} {cn : Str} {sc : Scope} {a : Addr} {ccd : Value} {cl : List (Str × Addr)} {outer : List Env} {A₀ : Around} {base h₀ : Heap} {L : Addr} {m : Str → Option Value} {s : Shared}
    {news rest : List (Addr × Obj)} {Q E : Value → Shared → Prop} {x dx l : Addr} {vs : List Value} {cs : List Int} {ep : Nat} {k1 k2 k3 t1 t2 : Tok} {i o : Int}
section
variable (B : Below A₀ base outer h₀) (F : Fr h₀ L s.heap m) (X : (frg.heap_1 w.params).In h₀)
    (N : News h₀ L s.heap ((x, instObj 265 dx) :: (dx, dictOf (tokEs w.params k1 k2 k3 l i o t1 t2) 3) :: (l, listOf vs.toArray ep) :: rest))
    (T : TopX mean mg mb h₀) (hk : sc.kind = .function) (hxd : x ≠ dx) (hld : l ≠ dx) (hrest : ∀ p ∈ rest, p.1 ≠ dx)
    (hi : IntsAre vs cs) (hfit : cs.length < 2 ^ 20) (hi0 : 0 ≤ i)
include B F X N T hk hxd hld hrest hi hfit hi0

theorem next_s (ho : 0 ≤ o) (hd : dp + 10 < recursionLimit) (hu : un + 80 < cLine)
    (hret : ∀ (kind : Str) (tv : TV) (at_ : Int) (vv : Value) (pre : List (Addr × Obj)) (q : Addr) (ta tc t1 : Tok) (h' : Heap) (tk' : Nat), (nextT cs o i).2 = .tok kind tv at_ → TVIs tv vv pre → Fr h₀ L h' m → News h₀ L h' ((q, tup3 kind vv at_ ta tc) :: (pre ++ ((x, instObj 265 dx) :: (dx, dictOf (tokEs w.params k1 k2 k3 l (nextT cs o i).1 o t1 t2) 3) :: (l, listOf vs.toArray ep) :: rest))) → (∀ p ∈ (pre ++ ((x, instObj 265 dx) :: (dx, dictOf (tokEs w.params k1 k2 k3 l (nextT cs o i).1 o t1 t2) 3) :: (l, listOf vs.toArray ep) :: rest)), p.1 < q) → Q (.ref q) { s with heap := h', toks := tk' })
    (hraise : ∀ kind at_, (nextT cs o i).2 = .bad kind at_ → ∀ (g : Heap) (e d : Addr) (od : Obj) (t1 : Tok) (h' : Heap) (tk' : Nat), Fr h₀ L g m → FDict w.params kind at_ (place cs at_) od → FaultR base g (envX cn sc L a ccd cl :: outer) e d ((d, od) :: ((x, instObj 265 dx) :: (dx, dictOf (tokEs w.params k1 k2 k3 l (nextT cs o i).1 o t1 t2) 3) :: (l, listOf vs.toArray ep) :: rest)) h' → g.UpToSlots h' → (∀ p ∈ ((x, instObj 265 dx) :: (dx, dictOf (tokEs w.params k1 k2 k3 l (nextT cs o i).1 o t1 t2) 3) :: (l, listOf vs.toArray ep) :: rest), p.1 < d) → E (.ref e) { s with heap := h', toks := tk' }) :
    wpC w (ktrTop dp un gd cn sc L a ccd cl outer) 171 [.ref x] Q E s := by
  k_with "at0" => (have hge9 := skipLayout_ge cs i; omega)
  k_with "len" => omega
  k_with "rng" => exact quoted_rng39 (by assumption)
  refine wpAny_call ?_
  k_dflt cell_enter
  k_steps

  all_goals first
    | (have he9 := nt_some (o := o) (cs := cs) (b := i) (by assumption); rw [he9] at hraise; refine' hraise _ _ rfl _ _ _ _ _ _ _ ?zf ?zd ?zr ?zu ?zl; (case zr => assumption); (case zf => assumption); (case zd => assumption); (case zu => assumption); (case zl => assumption))
    | ((first | have he9 := nt_none (o := o) (by assumption) (na_digit (by assumption) (by assumption) (by assumption) (not_cap (by assumption) (by assumption)) (by assumption)) | have he9 := nt_none (o := o) (by assumption) (na_q39 (by assumption) (by assumption) (by assumption) (not_cap (by assumption) (by assumption)) (by assumption) (by assumption)) | have he9 := nt_none (o := o) (by assumption) (na_q34 (by assumption) (by assumption) (by assumption) (not_cap (by assumption) (by assumption)) (by assumption) (by assumption) (by assumption)) | have he9 := nt_none (o := o) (by assumption) (na_q96 (by assumption) (by assumption) (by assumption) (not_cap (by assumption) (by assumption)) (by assumption) (by assumption) (by assumption) (by assumption)) | have he9 := nt_none (o := o) (by assumption) (na_un (by assumption) (by assumption) (by assumption) (not_cap (by assumption) (by assumption)) (by assumption) (by assumption) (by assumption) (by assumption) (by assumption) (by assumption) (by assumption))); rw [he9] at hraise; refine' hraise _ _ (by first | rfl | exact nr_bad (by assumption) | exact qr_bad (by assumption)) _ _ _ _ _ _ _ ?zf ?zd ?zr ?zu ?zl; (case zr => assumption); (case zf => assumption); (case zd => assumption); (case zu => assumption); (case zl => assumption))
    | ((first | have he9 := nt_none (o := o) (by assumption) (na_eof (by assumption)) | have he9 := nt_none (o := o) (by assumption) (na_open1 (by assumption) (by assumption) (by first | exact .inl (by assumption) | exact .inr (by assumption))) | have he9 := nt_none (o := o) (by assumption) (na_open3 (by assumption) (by assumption) (by assumption) (by assumption)) | have he9 := nt_none (o := o) (by assumption) (na_small (by assumption) (by assumption) (by assumption)) | have he9 := nt_none (o := o) (by assumption) (na_cap (by assumption) (by assumption) (by assumption) (by first | exact .inl (by assumption) | exact .inr (by assumption))) | have he9 := nt_none (o := o) (by assumption) (na_digit (by assumption) (by assumption) (by assumption) (not_cap (by assumption) (by assumption)) (by assumption)) | have he9 := nt_none (o := o) (by assumption) (na_q39 (by assumption) (by assumption) (by assumption) (not_cap (by assumption) (by assumption)) (by assumption) (by assumption)) | have he9 := nt_none (o := o) (by assumption) (na_sym (by assumption) (by assumption) (by assumption) (not_cap (by assumption) (by assumption)) (by assumption) (by assumption) (by assumption) (by assumption) (by assumption)) | have he9 := nt_none (o := o) (by assumption) (na_punct (by assumption) (by assumption) (by assumption) (not_cap (by assumption) (by assumption)) (by assumption) (by assumption) (by assumption) (by assumption) (by assumption) (by assumption)) | have he9 := nt_none (o := o) (by assumption) (na_excl (by assumption) (by assumption) (by assumption) (not_cap (by assumption) (by assumption)) (by assumption) (by assumption) (by assumption) (by assumption) (by assumption) (by assumption) (by assumption))); rw [he9] at hret; refine' hret _ _ _ _ [] _ _ _ _ _ _ (by first | rfl | exact nr_ok (by assumption) | exact qr_okt (by assumption)) ?zv ?zf ?zn ?zl; (case zf => assumption); (case zn => first | assumption | exact cb_drop (by assumption) drop2); (case zv => first | exact .str _ _ | exact .int _ _); (case zl => exact (by first | assumption | exact lt_of_allLt (by assumption) | exact lt_of_allLt (And.right (by assumption)) | exact lt_of_allLt (And.right (And.right (by assumption))))))
    | ((first | have he9 := nt_none (o := o) (by assumption) (na_q34 (by assumption) (by assumption) (by assumption) (not_cap (by assumption) (by assumption)) (by assumption) (by assumption) (by assumption)) | have he9 := nt_none (o := o) (by assumption) (na_q96 (by assumption) (by assumption) (by assumption) (not_cap (by assumption) (by assumption)) (by assumption) (by assumption) (by assumption) (by assumption))); rw [he9] at hret; refine' hret _ _ _ _ [_] _ _ _ _ _ _ (qr_okf (by assumption)) ?zv ?zf ?zn ?zl; (case zf => assumption); (case zn => exact cb_drop (by assumption) drop3); (case zv => exact .tup _ (by assumption)); (case zl => exact lt_of_allLt (And.intro (And.left (by assumption)) (And.right (And.right (by assumption))))))
    | skip
end
end
end
section -- W20
open PySem PySem.W PyProof.Rows PySem.Calls
set_option maxHeartbeats 8000000
section
variable {prog : Program} {w : World} {A₀ : Around} {E : Value → Shared → Prop} {s' : Shared} {base g g₀ G : Heap} {outer : List Env} {L a e d : Addr} {m : Str → Option Value} {name : Str} {scope : Scope} {cd : Value}
  {n : Str} {b₀ : Stmt} {suite : List Stmt} {pos np : Pos} {rest : List ExceptHandler} {Q : Flow → Shared → Prop} {news : List (Addr × Obj)} {KF : Frag}
  {p : Program} {loose : List Str} {mean : ExcName → Option Value} {mg mb : Str → Option Value} {x : Str}

theorem set_W20_0 : True := by
  k_with_none
  trivial
theorem caught_fault (R : FaultR base G (envOf name scope L a cd :: outer) e d news s'.heap) (F : Fr g L G m) (K : Below A₀ base outer g) (hsm : G.UpToSlots s'.heap) (XB : KF.In base) (TB : Top p loose mean mg mb base)
    (D : KtsDicts (outer.filterMap (·.frame)) g) (T0 : KtsTurn (outer.filterMap (·.frame)) g₀ g)
    (ex : nsIn KF mainGlobals x = some (some (.ref 51))) (q : ktsIn KF 51 "BaseException" = true)
    (k : ∀ h' g' vs tk, KtsTurn (outer.filterMap (·.frame)) g₀ g' → Fr g' L h' (fun y => if y = n then some (.ref e) else m y) → News g' L h' ((e, ⟨.ref 51, some d, .fields vs, #[]⟩) :: news) → Below A₀ base outer g' → KF.In g' → Top p loose mean mg mb g' → KtsDicts (outer.filterMap (·.frame)) g' →
      wpAny (model prog w) ((A₀.deeper (envOf name scope L a cd)).mark (some (.ref e))) (execs (b₀ :: suite) (envOf name scope L a cd))
        (fun f s₄ => wpAny (model prog w) (A₀.deeper (envOf name scope L a cd)) (do bindName (envOf name scope L a cd) n .none; unbindBehindTheSuite (envOf name scope L a cd) n pos) (fun _ s₅ => Q f s₅) E s₄)
        (AsSuiteRaised (model prog w) ((A₀.deeper (envOf name scope L a cd)).mark (some (.ref e))) (envOf name scope L a cd) n pos (notedBy (model prog w) ((A₀.deeper (envOf name scope L a cd)).mark (some (.ref e))) (envOf name scope L a cd) (cameBackBy (model prog w) (A₀.deeper (envOf name scope L a cd)) (envOf name scope L a cd) E)))
        { s' with heap := h', toks := tk })
    (hk : scope.kind = .function := by rfl) (hlo : (envOf name scope L a cd).kindOf n = some .local := by rfl) (hx : (envOf name scope L a cd).kindOf x = some .globalImplicit := by rfl) (hd : (x == ("__debug__" : Str)) = false := by decide) :
    wpAny (model prog w) (A₀.deeper (envOf name scope L a cd)) (noteFrame (.ref e) (envOf name scope L a cd))
      (fun _ s₂ => wpAny (model prog w) (A₀.deeper (envOf name scope L a cd)) (setFlight (.ref e) none) (fun _ s₃ =>
        wpAny (model prog w) (A₀.deeper (envOf name scope L a cd)) (handleBy (.ref e) (envOf name scope L a cd) (.ExceptHandler (some (.Name x np)) (some n) (b₀ :: suite) pos :: rest)) Q E s₃) E s₂) E s' := by
  obtain ⟨B, hB, hBG, hl, hfl⟩ := R
  have hL : B.get? L = none := by
    obtain ⟨_, ⟨L', _, hf, hn', _⟩, _⟩ := hfl.2.2.1
    obtain rfl : L = L' := Option.some.inj hf
    exact hn'
  refine fly_note_next (Around.frames_deeper K.stack) rfl hfl fun h₄ hheld₄ hsm₄ => ?_
  refine fly_down hheld₄ fun h₅ hheld hsm₅' => ?_
  have hsm₅ := hsm₄.trans hsm₅'
  obtain ⟨g₅, T₅, F₅, K₅⟩ := kts_ground K F hBG hheld.1 (hsm.trans hsm₅)
  have X₅ : KF.In g₅ := XB.keeps K₅.stays
  have P₅ : TopRead p loose mg mb g₅ := topRead_of (TB.keeps K₅.stays)
  obtain ⟨vs₅, hob⟩ := hheld.there
  obtain ⟨nm, q', N, bs, bm, hdct, sn, sub, ab, col, dd, k0, k1, k2, k3, k5, newId, hC, hbase, hbT⟩ := kts_cls X₅ q
  have hC₅ := F₅.keep _ _ hC
  refine wpAny_handleBy_cons (codeAny_handlers_test (name_K F₅ X₅ P₅ ex ?_ hk hx hd)) (by intro q; cases q)
  refine wpAny_excMatches_sub_self hC₅ hob rfl hbase (codeAny_handlers_suite_as ?_)
  refine fly_down hheld fun h₆ hfl₆ hsm₆ => ?_
  obtain ⟨g₆, T₆, F₆, K₆⟩ := kts_ground K F hBG hfl₆.1 ((hsm.trans hsm₅).trans hsm₆)
  obtain ⟨vs, hoe⟩ := hfl₆.there
  have ne₆ : g₆.get? e = none := T₆.none_ _ (kts_fresh F hBG hfl₆.2.1 fun o ho m => by
    obtain ⟨_, o', ho', hd⟩ := K.frames.mem m
    rw [ho] at ho'
    cases ho'
    obtain ⟨sl, hs⟩ := ((hsm.trans hsm₅).trans hsm₆) _ _ (F.keep _ _ ho) hd
    rw [hoe] at hs
    exact hd vs (congrArg Obj.data (Option.some.inj hs)).symm)
  have N₆ := News.more F₆ News.nil hoe (fun es n q => by cases q) ne₆
  have Nl : News g₆ L h₆ news := fun q hq => ⟨hfl₆.1 _ _ (hl q hq).1, (fun z => by have := (hl q hq).1; rw [z, hL] at this; cases this), T₆.none_ _ (kts_none F.keep (hl q hq).2.1)⟩
  have X₆ : KF.In g₆ := XB.keeps K₆.stays
  have P₆ : Top p loose mean mg mb g₆ := TB.keeps K₆.stays
  have D₆ : KtsDicts (outer.filterMap (·.frame)) g₆ := D.turn T₆
  refine stN F₆ (news := _ :: news) (fun q hq => by
    rcases List.mem_cons.mp hq with rfl | hq
    · exact N₆ _ (.head _)
    · exact Nl q hq) (fun h₇ F₇ N₇ => ?_) hk hlo
  exact k h₇ g₆ vs _ (T0.trans T₆) F₇ N₇ K₆ X₆ P₆ D₆
end
end
section -- W21
open PySem PySem.W PyProof.Rows PySem.Calls
set_option maxHeartbeats 8000000
abbrev itObj (x left : Int) : Obj := { cls := .type "range_iterator", dict := none, data := .fields #[rawInt x, rawInt left, rawInt 1], slots := #[] }
section
variable {prog : Program} {w : World} {A : Around} {E : Value → Shared → Prop} {s : Shared} {g₀ : Heap} {x name : Str} {scope : Scope} {L a : Addr} {cd : Value} {body : List Stmt} {Q : Flow → Shared → Prop} {px : Pos}

theorem set_W21_0 : True := by
  k_with_none
  trivial
noncomputable def EvPost (L : Addr) (s : Shared) (I : Addr) (it : Obj) (J : Heap → (Str → Option Value) → List (Addr × Obj) → Prop) (Q : Flow → Shared → Prop) (f : Flow) (s₃ : Shared) : Prop :=
  match f with
  | .next | .cont => ∃ h' tk' g' m' nx', s₃ = { s with heap := h', toks := tk' } ∧ J g' m' nx' ∧ (∀ p ∈ nx', p.1 ≠ I) ∧ Fr g' L h' m' ∧ News g' L h' ((I, it) :: nx')
  | .brk => Q .next s₃
  | .ret v => Q (.ret v) s₃
theorem ev_range {r : Addr} {n : Nat} {t₀ u₀ v₀ : Tok} {m : Str → Option Value} {news : List (Addr × Obj)} (J : Nat → Heap → (Str → Option Value) → List (Addr × Obj) → Prop)
    (hh : A.handled = none) (hr : IsRange s.heap r 0 n 1 t₀ u₀ v₀) (hsmall : Builtin.Range.small 0 n 1 = true) (hn : Builtin.Range.rangeSize 0 n 1 = (n : Int))
    (F : Fr g₀ L s.heap m) (N : News g₀ L s.heap news) (hj : J 0 g₀ m news)
    (turn : ∀ i g m₁ nx h tk I (t : Tok), i < n → J i g m₁ nx → (∀ p ∈ nx, p.1 ≠ I) → Fr g L h (fun y => if y = x then some (.int (i : Int) t) else m₁ y) → News g L h ((I, itObj ((i : Int) + 1) ((n : Int) - i - 1)) :: nx) →
      wpAny (model prog w) A (execs body (envOf name scope L a cd)) (EvPost L { s with heap := h, toks := tk } I (itObj ((i : Int) + 1) ((n : Int) - i - 1)) (J (i + 1)) Q) E { s with heap := h, toks := tk })
    (done : ∀ g m₁ nx h tk, J n g m₁ nx → Fr g L h m₁ → News g L h nx → Q .next { s with heap := h, toks := tk })
    (hE : PassesOwn (model prog w) A (envOf name scope L a cd) E) (hk : scope.kind = .function) (hlo : (envOf name scope L a cd).kindOf x = some .local) :
    wpAny (model prog w) A (pyIter (.ref r)) (fun it s₂ => codeAny (model prog w) A (.forLoop (.Name x px) it body [] (envOf name scope L a cd)) (fun r s' => match r with | .ok f => Q f s' | .error e => cameBackBy (model prog w) A (envOf name scope L a cd) E e s') s₂) E s := by
  refine wpAny_pyIter_range hr hsmall ?_
  rw [hn]
  have hI : ∀ p ∈ news, p.1 ≠ s.heap.objs.size := fun p hp q => absurd (Heap.lt_size (N p hp).1) (q ▸ Nat.lt_irrefl _)
  have W := Walks.range (prog := prog) (w := w) hh s.heap.objs.size 0 1 n
  refine codeAny_forLoop_any (fun k s' => ∃ i g' m' nx' h' tk', s' = { s with heap := h', toks := tk' } ∧ k = n + 1 - i ∧ i ≤ n ∧ J i g' m' nx' ∧ (∀ p ∈ nx', p.1 ≠ s.heap.objs.size) ∧ Fr g' L h' m' ∧ News g' L h' ((s.heap.objs.size, itObj ((i : Int)) ((n : Int) - i)) :: nx')) ?_ (n + 1)
    ⟨0, g₀, m, news, _, s.toks, rfl, rfl, Nat.zero_le _, hj, hI, F.push _, fun p hp => ?_⟩
  · rintro k s' ⟨i, g', m', nx', h', tk', rfl, rfl, hin, hJ, hI', F', N'⟩
    have hit := (N' _ (.head _)).1
    by_cases hlt : i < n
    · refine W.item i _ _ _ hlt ?_ ?_
      · show h'.get? _ = _
        rw [hit]; simp [itObj]
      · rintro v h₁ tk₁ ⟨t, rfl⟩ st hk₁
        have eqi : IsRangeIter h₁ s.heap.objs.size ((i : Int) + 1) ((n : Int) - i - 1) 1 := by
          have e1 : (0 : Int) + ((i + 1 : Nat) : Int) * 1 = (i : Int) + 1 := by omega
          have e2 : (n : Int) - ((i + 1 : Nat) : Int) = (n : Int) - i - 1 := by omega
          rw [← e1, ← e2]; exact st
        have F₁ : Fr g' L h₁ m' := ⟨F'.ns.at' fun o e => hk₁ _ o (fun q => (N' _ (.head _)).2.1 (List.mem_singleton.mp q).symm) e, fun b o e => hk₁ b o (fun q => by
          have z := (N' _ (.head _)).2.2
          rw [← List.mem_singleton.mp q] at z; rw [z] at e; cases e) (F'.keep b o e), F'.above⟩
        have N₁ : News g' L h₁ ((s.heap.objs.size, itObj ((i : Int) + 1) ((n : Int) - i - 1)) :: nx') := fun p hp => by
          rcases List.mem_cons.mp hp with rfl | hp
          · exact ⟨eqi, (N' _ (.head _)).2⟩
          · exact ⟨hk₁ _ _ (fun q => hI' p hp (List.mem_singleton.mp q)) (N' p (.tail _ hp)).1, (N' p (.tail _ hp)).2⟩
        refine wpAny_pure ?_
        have e0 : (0 : Int) + (i : Int) * 1 = (i : Int) := by omega
        rw [e0]
        refine wpAny_assign_Name (stN (s := { s with heap := h₁, toks := tk₁ }) F₁ N₁ (fun h₂ F₂ N₂ => ?_) hk hlo)
        refine wpAny_mono (turn i g' m' nx' h₂ _ s.heap.objs.size t hlt hJ hI' F₂ N₂) (fun f s₃ h₃ => ?_) hE
        cases f with
        | ret v => exact h₃
        | brk => exact h₃
        | cont =>
          obtain ⟨h₄, tk₄, g₄, m₄, nx₄, e4, j4, i4, F4, N4⟩ := h₃
          refine ⟨n + 1 - (i + 1), by omega, i + 1, g₄, m₄, nx₄, h₄, tk₄, e4, rfl, hlt, j4, i4, F4, ?_⟩
          have e1 : ((i + 1 : Nat) : Int) = (i : Int) + 1 := by omega
          have e2 : (n : Int) - ((i + 1 : Nat) : Int) = (n : Int) - i - 1 := by omega
          rw [e2, e1]; exact N4
        | next =>
          obtain ⟨h₄, tk₄, g₄, m₄, nx₄, e4, j4, i4, F4, N4⟩ := h₃
          refine ⟨n + 1 - (i + 1), by omega, i + 1, g₄, m₄, nx₄, h₄, tk₄, e4, rfl, hlt, j4, i4, F4, ?_⟩
          have e1 : ((i + 1 : Nat) : Int) = (i : Int) + 1 := by omega
          have e2 : (n : Int) - ((i + 1 : Nat) : Int) = (n : Int) - i - 1 := by omega
          rw [e2, e1]; exact N4
    · have hin' : i = n := by omega
      subst hin'
      refine W.done _ _ _ ?_ fun h₁ tk₁ hk₁ => wpAny_execs_nil ?_
      · show h'.get? _ = _
        rw [hit]; simp [itObj]
      · refine done g' m' nx' h₁ tk₁ hJ ⟨F'.ns.at' fun o e => hk₁ _ o (fun q => (N' _ (.head _)).2.1 (List.mem_singleton.mp q).symm) e, fun b o e => hk₁ b o (fun q => by
          have z := (N' _ (.head _)).2.2
          rw [← List.mem_singleton.mp q] at z; rw [z] at e; cases e) (F'.keep b o e), F'.above⟩ fun p hp => ⟨hk₁ _ _ (fun q => hI' p hp (List.mem_singleton.mp q)) (N' p (.tail _ hp)).1, (N' p (.tail _ hp)).2⟩
  · rcases List.mem_cons.mp hp with rfl | hp
    · exact ⟨by simpa [itObj] using Heap.get?_push_size s.heap rfl, fun q => absurd F.ns.lt (q ▸ Nat.lt_irrefl _), next_is_new F⟩
    · exact ⟨Heap.get?_push_of_some _ (N p hp).1, (N p hp).2⟩
end
end
section -- PL
open PySem PySem.W PyProof.Rows
set_option maxHeartbeats 4000000
theorem set_PL_0 : True := by
  k_with_none
  trivial
theorem scanEnd_ge (p : Int → Bool) (cs : List Int) (i : Int) : i ≤ scanEnd p cs i := by
  fun_induction scanEnd p cs i with
  | case1 i h ih => omega
  | case2 i h => omega
theorem abandon_ge (cs : List Int) (q i : Int) : i ≤ abandon cs q i := by
  fun_induction abandon cs q i <;> omega
theorem quotedGo_ge (cs : List Int) (q b i : Int) (acc : List Int) : i ≤ (quotedGo cs q b i acc).1 := by
  fun_induction quotedGo cs q b i acc with
  | case1 => dsimp only; omega
  | case2 => omega
  | case3 => dsimp only; omega
  | case4 => dsimp only; omega
  | case5 => omega
  | case6 i acc h0 h1 h2 h3 h4 h5 => dsimp only; have := abandon_ge cs q (escape cs i).1; have := escape_ge cs i; omega
  | case7 i acc h0 h1 h2 h3 h4 h5 ih => have := escape_ge cs i; omega
  | case8 => omega
  | case9 => dsimp only; exact abandon_ge _ _ _
theorem character_ge (cs : List Int) (j : Int) : j ≤ (character cs j).1 := by
  unfold character
  have := escape_ge cs (j + 2)
  (repeat' split) <;> (try dsimp only) <;> omega
theorem numeral_ge (cs : List Int) (j : Int) : j ≤ (numeral cs j).1 := by
  unfold numeral
  have h1 := character_ge cs j
  have h2 := digitsGo_ge cs (numeralBase (codeAt cs (j + 1))) (j + 2) 0
  have h3 := digitsGo_ge cs 10 j 0
  have h4 := digitsGo_ge cs 10 ((digitsGo cs 10 j 0).1 + 1) 0
  (repeat' split) <;> (try dsimp only) <;> omega
theorem symRes_ge (cs : List Int) (j : Int) : j ≤ (symRes cs j).1 := by
  unfold symRes
  have h1 := scanEnd_ge isSymbol cs j
  split <;> (try dsimp only) <;> omega
theorem nextAt_ge (cs : List Int) (o b a : Int) : a ≤ (nextAt cs o b a).1 := by
  unfold nextAt
  have h1 := scanEnd_ge isAlnum cs a
  have h2 := numeral_ge cs a
  have h3 := quotedGo_ge cs 39 a (a + 1) []
  have h4 := quotedGo_ge cs 34 a (a + 1) []
  have h5 := quotedGo_ge cs 96 a (a + 1) []
  have h6 := symRes_ge cs a
  simp only [apply_ite Prod.fst]
  (repeat' split) <;> omega
theorem nextT_ge (cs : List Int) (o b : Int) : b ≤ (nextT cs o b).1 := by
  unfold nextT
  have h1 := skipLayout_ge cs b
  have h2 := nextAt_ge cs o b (skipLayout cs b).1
  split <;> (try dsimp only) <;> omega
theorem nextT_nn {cs : List Int} {pos : Int} (h : 0 ≤ pos) : 0 ≤ (nextT cs 0 pos).1 := Int.le_trans h (nextT_ge cs 0 pos)
end
section -- W22a
open PySem PySem.W PyProof.Rows PySem.Calls PySem.Spec
set_option maxHeartbeats 8000000

theorem set_W22a_0 : True := by
  k_with_none
  k_with "my is_list" => first | (exact News.isList (by k_asm) (by assumption)) | fail
  k_with "my k_all" => first | (assumption) | fail
  k_with "my eval Call" => first | (k_here; k_dflt (refine Call_ ?_)) | fail
  k_with "my eval Call Attribute" => first | (k_here; k_dflt (refine MethodCall_ ?_)) | fail
  trivial
section
variable {w : World} {mean : ExcName → Option Value} {mg mb : Str → Option Value}
    {dp un : Nat} {gd : Option (List Code)} {cn : Str} {sc : Scope} {a : Addr} {ccd : Value} {cl : List (Str × Addr)} {outer : List Env} {A₀ : Around} {base h₀ : Heap} {L : Addr} {m : Str → Option Value} {s : Shared}
    {news rest : List (Addr × Obj)} {Q E : Value → Shared → Prop} {x dx l : Addr} {vs : List Value} {cs : List Int} {ep : Nat} {k1 k2 k3 t1 t2 : Tok} {i o : Int}
section
variable (B : Below A₀ base outer h₀) (F : Fr h₀ L s.heap m) (X : (frg.heap_1 w.params).In h₀) (N : News h₀ L s.heap news)
    (T : TopX mean mg mb h₀) (hk : sc.kind = .function) (hl : (l, listOf vs.toArray ep) ∈ news)
include B F X N T hk hl
theorem make_tok_s (hd : dp + 4 < recursionLimit) (hu : un + 32 < cLine)
    (hret : ∀ (x dx : Addr) (k1 k2 k3 t1 t2 : Tok) (h' : Heap) (tk' : Nat), Fr h₀ L h' m → News h₀ L h' ((x, instObj 265 dx) :: (dx, dictOf (tokEs w.params k1 k2 k3 l 0 0 t1 t2) 3) :: news) → (∀ p ∈ news, p.1 < dx) → dx < x → Q (.ref x) { s with heap := h', toks := tk' }) :
    wpC w (ktrTop dp un gd cn sc L a ccd cl outer) 265 [.ref l] Q E s := by
  refine' call_cls ?k1 ?k2 ?k3 ?k4 ?k5 ?k6 ?_
  (case k1 => k_asm); (case k2 => k_asm); (case k3 => k_asm); (case k4 => k_is); (case k5 => k_is); (case k6 => k_is)
  k_whole
  intro x' d' h' F' N' l1 l2
  have hne9 : ∀ p ∈ news, p.1 ≠ d' := fun p hp q => absurd (q ▸ l1 p hp) (Nat.lt_irrefl _)
  have hxd : x' ≠ d' := Nat.ne_of_gt l2
  refine' code_def ?k1 ?k2 ?k3 ?k4 ?k5 ?kA ?kF ?kK ?k6 ?k7 ?k8 ?k9 ?kB ?_ ?c2 ?c3 ?c4 ?c5; (case kA => exact rfl); (case kF => exact rfl); (case kK => first | exact rfl | assumption); (case k1 => k_asm); (case k2 => k_asm); (case k3 => k_asm); (case k4 => k_asm); (case k5 => k_asm); (case k6 => k_is); (case k7 => k_is); (case k8 => ktr_room); (case k9 => first | exact BindsTo.of_eq rfl | exact binds_K (by k_in) rfl (by k_is) rfl rfl rfl); (case c5 => decide); (case kB => exact locs rfl); (case c2 => exact rfl); (case c3 => exact rfl); (case c4 => exact rfl); k_whole; intro g' L' h2 FG' F2 N2 B' X' T'; (try dsimp only); (try k_lift B'); (try k_fold)
  k_steps
  all_goals exact hret _ _ _ _ _ _ _ _ _ (by assumption) (by assumption) l1 l2
end
end
end
section -- W22
open PySem PySem.W PyProof.Rows PySem.Calls PySem.Spec
set_option maxHeartbeats 8000000
section
variable {prog : Program} {w : World} {A₀ A : Around} {s : Shared} {base h₀ g₀ : Heap} {env : Env} {L a : Addr} {m : Str → Option Value} {news : List (Addr × Obj)} {K : Frag} {p : Program} {loose : List Str} {mean : ExcName → Option Value} {mg mb : Str → Option Value}
    {R : Result → Shared → Prop} {name qual : Str} {params : Arguments} {body : List Stmt} {scope : Scope} {dV kV doc pm cdv ct oc : Value} {an od : Option Addr} {osl : Array (Option Value)} {f : Addr} {args : Args} {binds : List (Str × Value)}
theorem set_W22_0 : True := by
  k_with_none
  trivial
theorem mem_one {b : Addr} (hf : env.frame = some L) (hb : b ∈ [env].filterMap (·.frame)) : b = L := by
  obtain ⟨e', he, hf'⟩ := List.mem_filterMap.mp hb
  rw [List.mem_singleton.mp he, hf] at hf'
  exact (Option.some.inj hf').symm
theorem enterX (B : Below A₀ base [] h₀) (F : Fr h₀ L s.heap m) (N : News h₀ L s.heap news) (hA : A.frames = some [env]) (hf : env.frame = some L) (hke : env.scope.kind = .function) :
    ∃ oL es ep, (hideAll s.heap (news.map (·.1))).get? L = some oL ∧ oL.data = .dict es ep ∧ (∀ h', h'.get? L = some oL → Heap.Ns h' L m) ∧ (∀ (sl : Array (Option Value)) h', h'.get? L = some { oL with slots := sl } → Heap.Ns h' L m) ∧
      h₀.StaysIn (hideAll s.heap (news.map (·.1))) ∧ Below A base [env] (hideAll s.heap (news.map (·.1))) := by
  obtain ⟨oL, es, ep, hL, hLd, hLk, hLf⟩ := F.ns
  have nL : L ∉ news.map (·.1) := fun q => by
    obtain ⟨p, hp, e⟩ := List.mem_map.mp q
    exact (N p hp).2.1 e
  obtain ⟨F₁, B₁, st, _⟩ := groundX (R := fun _ _ => True) B F N hA hf hke
  exact ⟨oL, es, ep, hideAll_get _ hL nL, hLd, fun h' e => ⟨oL, es, ep, e, hLd, hLk, hLf⟩, fun sl h' e => ⟨_, es, ep, e, hLd, hLk, hLf⟩, st, B₁⟩
theorem code_defX0 (B : Below A₀ base [] h₀) (F : Fr h₀ L s.heap m) (X₀ : K.In h₀) (N : News h₀ L s.heap news) (T : Top p loose mean mg mb h₀) (hA : A.frames = some [env]) (hf : env.frame = some L) (hke : env.scope.kind = .function)
    (ho : K.lookup f = some ⟨oc, od, .func (fnOf name qual params body scope dV kV doc pm an cdv ct), osl⟩) (hcd : codeIn K cdv qual = true) (hroom : A.depth < recursionLimit)
    (hbind : BindsTo s (fnOf name qual params body scope dV kV doc pm an cdv ct) args binds) (hloc : ∀ y ∈ binds, scope.names.lookup y.1 = some .local)
    (h : ∀ g L' h₁, Fr h₀ L g m → Fr g L' h₁ (fun y => binds.reverse.lookup y) → News g L' h₁ news → Below A base [env] g → K.In g → Top p loose mean mg mb g → KtsDicts ([env].filterMap (·.frame)) g →
      wpAny (model prog w) (A.deeper (envOf qual scope L' f cdv)) (execs body (envOf qual scope L' f cdv))
        (fun fl s' => LeaveS0 ([env].filterMap (·.frame)) h₀ L m g R (match fl with | .ret v => v | _ => .none) s')
        (fun e s' => wpAny (model prog w) (A.deeper (envOf qual scope L' f cdv)) (leaving (envOf qual scope L' f cdv) e) (fun _ s'' => R (.error e) s'') (fun e' s'' => R (.error e') s'') s')
        { s with heap := h₁, toks := s.toks + binds.length })
    (hco : scope.isCoroutine = false) (hgen : scope.isGenerator = false) (hk : scope.kind = .function)
    (hcell : ∀ x ∈ scope.names, x.2 ≠ .cell) : codeAny (model prog w) A (.call (.ref f) args) R s := by
  have X := X₀.keeps F.keep
  refine codeAny_call_def (fd := fnOf name qual params body scope dV kV doc pm an cdv ct) (body := body) (binds := binds) hroom (X _ _ ho) rfl (T.nolimit.keeps F.keep) (codeRec_of X hcd) rfl hbind hcell hloc (fun h₁ hns hk₁ => ?_) hco hgen hk
  obtain ⟨oL, es, ep, hLg, hLd, hN, hNs, st, B₂⟩ := enterX B F N hA hf hke
  refine wpAny_mono (h _ s.heap.objs.size h₁ ⟨hN _ hLg, st, F.above⟩ ⟨hns, fun b o e => hk₁ b o (of_hideAll _ e), Nat.le_of_eq (hideAll_size _ _)⟩
    (fun p hp => ⟨hk₁ _ _ (N p hp).1, Nat.ne_of_lt (Heap.lt_size (N p hp).1), hideAll_none _ (List.mem_map_of_mem hp)⟩) B₂ (X₀.keeps st) (T.keeps st) (fun b hb => by
      rw [mem_one hf hb]
      exact ⟨oL, es, ep, hLg, hLd⟩)) (fun fl s' hl => ?_) fun _ _ y => y
  obtain ⟨g', L', m', news', T', F', N', k⟩ := hl
  have nL₀ : h₀.get? L = none := kts_self F
  obtain ⟨sl, hs⟩ := T'.up hLg
  refine k ⟨hNs sl _ (F'.keep _ _ hs), fun b o e => F'.keep b o (T'.other b o (st b o e) (fun q => by
    rw [mem_one hf q, nL₀] at e
    cases e)), F.above⟩ fun p hp => ⟨(N' p hp).1, fun q => ?_, ?_⟩
  · have := (N' p hp).2.2; rw [q, hs] at this; cases this
  · cases q : h₀.get? p.1 with
    | none => rfl
    | some o =>
      obtain ⟨sl', hs'⟩ := T'.up (st _ _ q)
      have := (N' p hp).2.2
      rw [hs'] at this
      cases this
end

structure Ev where
  kind : Str
  v : TV
  at_ : Int
  row : Int
  col : Int
noncomputable def tokEv (cs : List Int) (k : Str) (v : TV) (a : Int) : Ev := ⟨k, v, a, (place cs a).1, (place cs a).2⟩
noncomputable def evs (cs : List Int) : Nat → Int → List Ev
  | 0, _ => []
  | n + 1, i => match (nextT cs 0 i).2 with
    | .tok k v a => if k = "eof" then [tokEv cs k v a] else tokEv cs k v a :: evs cs n (nextT cs 0 i).1
    | .bad k a => tokEv cs "fault" (.str k) a :: evs cs n (nextT cs 0 i).1
theorem evs_eof {cs : List Int} {n : Nat} {i a : Int} {v : TV} (h : (nextT cs 0 i).2 = .tok "eof" v a) : evs cs (n + 1) i = [tokEv cs "eof" v a] := by
  rw [evs, h]; exact if_pos rfl
theorem evs_tok {cs : List Int} {n : Nat} {i a : Int} {k : Str} {v : TV} (h : (nextT cs 0 i).2 = .tok k v a) (hk : k ≠ "eof") : evs cs (n + 1) i = tokEv cs k v a :: evs cs n (nextT cs 0 i).1 := by
  rw [evs, h]; exact if_neg hk
theorem evs_bad {cs : List Int} {n : Nat} {i a : Int} {k : Str} (h : (nextT cs 0 i).2 = .bad k a) : evs cs (n + 1) i = tokEv cs "fault" (.str k) a :: evs cs n (nextT cs 0 i).1 := by
  rw [evs, h]
noncomputable def VIs (tv : TV) (vv : Value) (R : List (Addr × Obj)) : Prop := ∃ pre, TVIs tv vv pre ∧ ∀ p ∈ pre, p ∈ R
theorem VIs.mono {tv : TV} {vv : Value} {R R' : List (Addr × Obj)} (h : VIs tv vv R) (hs : ∀ p ∈ R, p ∈ R') : VIs tv vv R' := let ⟨p, a, b⟩ := h; ⟨p, a, fun q hq => hs q (b q hq)⟩
abbrev tup5 (k : Str) (v : Value) (a r c : Int) (ta tb tc td : Tok) : Obj := { cls := .type "tuple", data := .seq #[.str k ta, v, .int a tb, .int r tc, .int c td] }
noncomputable def EvIs (R : List (Addr × Obj)) (v : Value) (e : Ev) : Prop := ∃ q vv ta tb tc td, v = .ref q ∧ (q, tup5 e.kind vv e.at_ e.row e.col ta tb tc td) ∈ R ∧ VIs e.v vv R
noncomputable def EvsAre (R : List (Addr × Obj)) (ws : List Value) (es : List Ev) : Prop := ws.length = es.length ∧ ∀ (k : Nat) v e, ws[k]? = some v → es[k]? = some e → EvIs R v e
theorem EvsAre.nil {R : List (Addr × Obj)} : EvsAre R [] [] := ⟨rfl, fun k v e h => by simp at h⟩
theorem EvIs.mono {R R' : List (Addr × Obj)} {v : Value} {e : Ev} (h : EvIs R v e) (hs : ∀ p ∈ R, p ∈ R') : EvIs R' v e := by
  obtain ⟨q, vv, ta, tb, tc, td, h1, h2, h3⟩ := h
  exact ⟨q, vv, ta, tb, tc, td, h1, hs _ h2, h3.mono hs⟩
theorem EvsAre.snoc {R R' : List (Addr × Obj)} {ws : List Value} {es : List Ev} {v : Value} {e : Ev} (h : EvsAre R ws es) (hs : ∀ p ∈ R, p ∈ R') (hv : EvIs R' v e) : EvsAre R' (ws ++ [v]) (es ++ [e]) := by
  refine ⟨by simp [h.1], fun k v' e' h1 h2 => ?_⟩
  by_cases hk : k < ws.length
  · rw [List.getElem?_append_left hk] at h1
    rw [List.getElem?_append_left (h.1 ▸ hk)] at h2
    exact (h.2 k v' e' h1 h2).mono hs
  · rw [List.getElem?_append_right (by omega)] at h1
    rw [List.getElem?_append_right (by have := h.1; omega)] at h2
    rw [h.1] at h1
    by_cases hz : k - es.length = 0
    · rw [hz] at h1 h2
      simp only [List.getElem?_cons_zero, Option.some.injEq] at h1 h2
      rw [← h1, ← h2]; exact hv
    · rw [List.getElem?_eq_none (by simp; omega)] at h1
      cases h1
section
variable {w : World} {mean : ExcName → Option Value} {mg mb : Str → Option Value}
    {dp un : Nat} {gd : Option (List Code)} {cn : Str} {sc : Scope} {a : Addr} {ccd : Value} {cl : List (Str × Addr)} {outer : List Env} {A₀ : Around} {base h₀ : Heap} {L : Addr} {m : Str → Option Value} {s : Shared}
    {news rest : List (Addr × Obj)} {Q E : Value → Shared → Prop} {x dx l : Addr} {vs : List Value} {cs : List Int} {ep : Nat} {k1 k2 k3 t1 t2 : Tok} {i o : Int} {I ev : Addr} {it : Obj} {ws : List Value} {epv : Nat} {R : List (Addr × Obj)}
section
variable (B : Below A₀ base outer h₀) (F : Fr h₀ L s.heap m) (X : (frg.heap_1 w.params).In h₀)
    (N : News h₀ L s.heap ((x, instObj 265 dx) :: (dx, dictOf (tokEs w.params k1 k2 k3 l i o t1 t2) 3) :: (l, listOf vs.toArray ep) :: (I, it) :: (ev, listOf ws.toArray epv) :: R))
    (T : TopX mean mg mb h₀) (hk : sc.kind = .function) (hxd : x ≠ dx) (hld : l ≠ dx) (hId : I ≠ dx) (hed : ev ≠ dx) (hrest : ∀ p ∈ R, p.1 ≠ dx) (hRe : ∀ p ∈ R, p.1 ≠ ev) (hRI : ∀ p ∈ R, p.1 ≠ I) (hit : it.cls = .type "range_iterator")
    (hi : IntsAre vs cs) (hfit : cs.length < 2 ^ 20) (hi0 : 0 ≤ i)
include B F X N T hk hxd hld hId hed hrest hRe hRI hit hi hfit hi0
theorem next_ev (ho : 0 ≤ o) (hd : dp + 10 < recursionLimit) (hu : un + 80 < cLine)
    (hret : ∀ (kind : Str) (tv : TV) (at_ : Int) (vv : Value) (R' : List (Addr × Obj)) (q : Addr) (ta tc t1 : Tok) (h' : Heap) (tk' : Nat), (nextT cs o i).2 = .tok kind tv at_ → VIs tv vv R' → (∀ p ∈ R, p ∈ R') → (∀ p ∈ R', p.1 ≠ ev) → (∀ p ∈ R', p.1 ≠ dx) → (∀ p ∈ R', p.1 ≠ I) → q ≠ ev → q ≠ dx → q ≠ I → Fr h₀ L h' m →
      News h₀ L h' ((q, tup3 kind vv at_ ta tc) :: ((x, instObj 265 dx) :: (dx, dictOf (tokEs w.params k1 k2 k3 l (nextT cs o i).1 o t1 t2) 3) :: (l, listOf vs.toArray ep) :: (I, it) :: (ev, listOf ws.toArray epv) :: R')) → Q (.ref q) { s with heap := h', toks := tk' })
    (hraise : ∀ kind at_, (nextT cs o i).2 = .bad kind at_ → ∀ (g : Heap) (e d : Addr) (j1 j2 j3 j4 s0 s1 s2 s3 t1 : Tok) (h' : Heap) (tk' : Nat), Fr h₀ L g m → FaultR base g (envX cn sc L a ccd cl :: outer) e d ((d, dictOf (faultEs w.params kind at_ (place cs at_).1 (place cs at_).2 j1 j2 j3 j4 s0 s1 s2 s3) 4) :: ((x, instObj 265 dx) :: (dx, dictOf (tokEs w.params k1 k2 k3 l (nextT cs o i).1 o t1 t2) 3) :: (l, listOf vs.toArray ep) :: (I, it) :: (ev, listOf ws.toArray epv) :: R)) h' → g.UpToSlots h' → e ≠ ev → d ≠ ev → E (.ref e) { s with heap := h', toks := tk' }) :
    wpC w (ktrTop dp un gd cn sc L a ccd cl outer) 171 [.ref x] Q E s := by
  refine next_s B F X N T hk hxd hld (fun p hp => ?_) hi hfit hi0 ho hd hu (fun kind tv at_ vv pre q ta tc t1 h' tk' ok TV F' N' l1 => ?_) (fun kind at_ ok g e d od t1 h' tk' FG D R U l1 => ?_)
  · rcases List.mem_cons.mp hp with rfl | hp
    · exact hId
    · rcases List.mem_cons.mp hp with rfl | hp
      · exact hed
      · exact hrest p hp
  · have hev : h'.get? ev = some (listOf ws.toArray epv) := (N' (ev, listOf ws.toArray epv) (by simp)).1
    have hII : h'.get? I = some it := (N' (I, it) (by simp)).1
    have hdd : ∃ es n, h'.get? dx = some (dictOf es n) := ⟨_, _, (N' (dx, dictOf (tokEs w.params k1 k2 k3 l (nextT cs o i).1 o t1 t2) 3) (by simp)).1⟩
    have hp0 : ∀ p ∈ pre, ∃ us : Array Value, h'.get? p.1 = some { cls := .type "tuple", data := .seq us } := fun p hp => by
      have e := (N' p (by simp [hp])).1
      cases TV with
      | str => cases hp
      | int => cases hp
      | tup c hc => rw [List.mem_singleton.mp hp] at e ⊢; exact ⟨_, e⟩
    refine hret kind tv at_ vv (pre ++ R) q ta tc t1 h' tk' ok ⟨pre, TV, fun p hp => List.mem_append_left _ hp⟩ (fun p hp => List.mem_append_right _ hp) (fun p hp => ?_) (fun p hp => ?_) (fun p hp => ?_) ?_ ?_ ?_ F' (cb_drop N' fun p hp => ?_)
    · rcases List.mem_append.mp hp with hp | hp
      · intro e; obtain ⟨us, hus⟩ := hp0 p hp; rw [e, hev] at hus; exact absurd (congrArg Obj.cls (Option.some.inj hus)) (by simp)
      · exact hRe p hp
    · rcases List.mem_append.mp hp with hp | hp
      · intro e; obtain ⟨us, hus⟩ := hp0 p hp; obtain ⟨es, n, hes⟩ := hdd; rw [e, hes] at hus; exact absurd (congrArg Obj.cls (Option.some.inj hus)) (by simp)
      · exact hrest p hp
    · rcases List.mem_append.mp hp with hp | hp
      · intro e; obtain ⟨us, hus⟩ := hp0 p hp; rw [e, hII] at hus; rw [Option.some.inj hus] at hit; exact absurd hit (by simp)
      · exact hRI p hp
    · exact Nat.ne_of_gt (l1 (ev, listOf ws.toArray epv) (by simp))
    · exact Nat.ne_of_gt (l1 (dx, dictOf (tokEs w.params k1 k2 k3 l (nextT cs o i).1 o t1 t2) 3) (by simp))
    · exact Nat.ne_of_gt (l1 (I, it) (by simp))
    · simp only [List.mem_cons, List.mem_append] at hp ⊢
      rcases hp with h | h | h | h | h | h | h | h <;> simp [h]
  · obtain ⟨j1, j2, j3, j4, s0, s1, s2, s3, rfl⟩ := D
    obtain ⟨B9, b1, b2, b3, b4⟩ := R
    have hv := (b3 (ev, listOf ws.toArray epv) (by simp)).1
    obtain ⟨vs9, he9⟩ := b4.there
    refine hraise kind at_ ok g e d j1 j2 j3 j4 s0 s1 s2 s3 t1 h' tk' FG ⟨B9, b1, b2, b3, b4⟩ U (fun q => ?_) (fun q => ?_)
    · have z := b4.1 _ _ hv
      rw [← q, he9] at z; exact absurd (congrArg Obj.cls (Option.some.inj z)) (by simp)
    · have z := (b3 _ (.head _)).1
      dsimp only at z
      rw [q, hv] at z; exact absurd (congrArg Obj.cls (Option.some.inj z)) (by simp)
end
end
end
section -- W23
open PySem PySem.W PyProof.Rows PySem.Calls PySem.Spec
set_option maxHeartbeats 8000000

theorem set_W23_0 : True := by
  k_with_none
  k_with "my is_list" => first | (exact News.isList (by k_asm) (by first | assumption | k_dflt k_mem)) | fail
  k_with "my k_all" => first | (assumption) | fail
  k_with "my eval Call" => first | (k_here; k_dflt (refine Call_ ?_)) | fail
  k_with "my eval Call Attribute" => first | (k_here; k_dflt (refine MethodCall_ ?_)) | fail
  k_with "my call ref" => first | (k_here; (with_reducible show wpAny _ _ (PySem.call (Value.ref 157) _ _) _ _ _); k_dflt (refine' place_s (by k_asm) (by k_asm) (by k_asm) (by k_asm) (by k_asm) (by first | exact rfl | assumption) (by k_dflt k_mem) (by k_dflt k_mem) (by k_dflt k_mem) (by assumption) (by assumption) (by ktr_room) (by ktr_units) ?_); k_whole; intro q' ta' tb' h' tk' F' N' l1; (try k_lt l1); (try k_sweep)) | fail
  k_with "my call ref" => first | (k_here; (with_reducible show wpAny _ _ (PySem.call (Value.ref 265) _ _) _ _ _); k_dflt (refine' make_tok_s (by k_asm) (by k_asm) (by k_asm) (by k_asm) (by k_asm) (by first | exact rfl | assumption) (by k_dflt k_mem) (by ktr_room) (by ktr_units) ?_); k_whole; intro x' dx' k1' k2' k3' t1' t2' h' tk' F' N' l1 l2; (try k_sweep)) | fail
  trivial
theorem fault_getN {prog : Program} {w : World} {A : Around} {E : Value → Shared → Prop} {s : Shared} {h₀ : Heap} {L e d : Addr} {m : Str → Option Value} {news : List (Addr × Obj)} {vs : Array Value} {es : List DictEntry} {n : Nat} {name : Str} {v : Value} {expr : Bool} {Q : Value → Shared → Prop}
    (F : Fr h₀ L s.heap m) (X : (frg.heap_1 w.params).In h₀) (N : News h₀ L s.heap news) (he : (e, ⟨.ref 51, some d, .fields vs, #[]⟩) ∈ news) (hd' : (d, dictOf es n) ∈ news)
    (ha : findIn (frg.heap_1 w.params) (.ref 51) name = some none) (hl : getL name es = some (some v)) (hv : handedIn v = true) (h : Q v { s with toks := s.toks + 1 }) :
    wpAny (model prog w) A (getAttr (.ref e) name expr) Q E s :=
  fault_get (X.keeps F.keep) ⟨(N _ he).1, rfl, rfl, (N _ hd').1⟩ (by k_is) ha hl hv h

theorem set_W23_1 : True := by
  k_with "my call ref" => first | (k_here; (with_reducible show wpAny _ _ (PySem.call (Value.ref 171) _ _) _ _ _); k_dflt (refine' next_ev (by k_asm) (by k_asm) (by k_asm) (by k_asm) (by k_asm) (by first | exact rfl | assumption) (by assumption) (by assumption) (by assumption) (by assumption) (by assumption) (by assumption) (by assumption) (by exact rfl) (by assumption) (by assumption) (by omega) (by omega) (by ktr_room) (by ktr_units) ?_ ?_); k_whole; intro kind' tv' at' vv' R' q' ta' tc' t1' h' tk' ok' V' s1' s2' s3' s4' n1' n2' n3' F' N'; (try k_sweep); rotate_left; k_whole; intro kind' at' ok' g' e' d' j1' j2' j3' j4' j5' j6' j7' j8' t1' h' tk' FG' R' U' n1' n2'; rotate_right) | fail
  k_with "my noteFrame ref" => first | (k_here; k_dflt (refine' caught_fault (by assumption) (by assumption) (by assumption) (by assumption) (by assumption) (by assumption) (by assumption) (by first | assumption | exact KtsTurn.refl) (by k_is) (by kts_isx) ?_; k_whole); intro h' g' vs' tk' T' F' N' K' X' P' D'; (try k_lift K'); (try k_sweep)) | fail
  k_with "my getAttr ref" => first | (k_here; k_dflt (refine' fault_getN (by k_asm) (by k_asm) (by k_asm) (by k_mem) (by k_mem) (by k_is) (by exact rfl) (by exact rfl) ?_; k_whole)) | fail
  trivial
abbrev fsOf (env : Env) : List Addr := [env].filterMap (·.frame)
noncomputable def stored9 : List Str := [Str.ofString "step", Str.ofString "kind", Str.ofString "value", Str.ofString "at", Str.ofString "row", Str.ofString "column", Str.ofString "fault"]
noncomputable def EvInv (w : World) (base : Heap) (A₁ : Around) (env : Env) (mean : ExcName → Option Value) (mg mb : Str → Option Value) (g₁ : Heap) (x dx l ev : Addr) (vs : List Value) (cs : List Int) (ep : Nat) (k1 k2 k3 t2 : Tok) (m₀ : Str → Option Value) (news : List (Addr × Obj))
    (i : Nat) (g : Heap) (m₁ : Str → Option Value) (nx : List (Addr × Obj)) : Prop :=
  KtsTurn (fsOf env) g₁ g ∧ Below A₁ base [env] g ∧ (frg.heap_1 w.params).In g ∧ TopX mean mg mb g ∧ KtsDicts (fsOf env) g ∧
    ∃ (u : Str → Option Value) (t1 : Tok) (pos : Int) (ws : List Value) (es : List Ev) (epv : Nat) (R : List (Addr × Obj)),
      m₁ = (fun y => if [Str.ofString "step", Str.ofString "kind", Str.ofString "value", Str.ofString "at", Str.ofString "row", Str.ofString "column", Str.ofString "fault"].contains y = true then u y else m₀ y) ∧
      nx = (x, instObj 265 dx) :: (dx, dictOf (tokEs w.params k1 k2 k3 l pos 0 t1 t2) 3) :: (l, listOf vs.toArray ep) :: (ev, listOf ws.toArray epv) :: R ∧
      EvsAre R ws es ∧ (∀ p ∈ R, p.1 ≠ dx) ∧ (∀ p ∈ R, p.1 ≠ ev) ∧ (∀ p ∈ news, p ∈ R) ∧ 0 ≤ pos ∧ ws.length = i ∧ es ++ evs cs (cs.length + 1 - i) pos = evs cs (cs.length + 1) 0
theorem fits_long {a : Int} (h0 : 0 ≤ a) (h1 : a < 2 ^ 40) : Builtin.Range.rangeFitsLong a = true := by
  unfold Builtin.Range.rangeFitsLong
  rw [Bool.and_eq_true]
  exact ⟨decide_eq_true (by omega), decide_eq_true (by omega)⟩
theorem ev_pack {prog : Program} {w : World} {A A₁ : Around} {E : Value → Shared → Prop} {s : Shared} {base g₁ : Heap} {env' : Env} {name : Str} {scope : Scope} {L a : Addr} {cd : Value} {body : List Stmt} {Q : Flow → Shared → Prop} {px : Pos}
    {mean : ExcName → Option Value} {mg mb : Str → Option Value} {x dx l ev r : Addr} {vs : List Value} {cs : List Int} {ep e0 : Nat} {k1 k2 k3 t1 t2 t₀ u₀ v₀ : Tok} {m₀ : Str → Option Value} {news : List (Addr × Obj)}
    (hh : A.handled = none) (hr : IsRange s.heap r 0 ((cs.length : Int) + 1) 1 t₀ u₀ v₀) (hfit : cs.length < 2 ^ 20)
    (F : Fr g₁ L s.heap m₀) (N : News g₁ L s.heap ((ev, listOf #[] e0) :: (x, instObj 265 dx) :: (dx, dictOf (tokEs w.params k1 k2 k3 l 0 0 t1 t2) 3) :: (l, listOf vs.toArray ep) :: news))
    (B : Below A₁ base [env'] g₁) (X : (frg.heap_1 w.params).In g₁) (T : TopX mean mg mb g₁) (D : KtsDicts (fsOf env') g₁)
    (l1 : x < ev ∧ dx < ev ∧ l < ev ∧ AllLt ev news) (l2 : ∀ p ∈ (l, listOf vs.toArray ep) :: news, p.1 < dx) (l3 : dx < x)
    (turn : ∀ (i : Nat) (g : Heap) (u : Str → Option Value) (h : Heap) (tk : Nat) (I : Addr) (t t1 : Tok) (pos : Int) (ws : List Value) (es : List Ev) (epv : Nat) (R : List (Addr × Obj)), i < cs.length + 1 → KtsTurn (fsOf env') g₁ g → Below A₁ base [env'] g → (frg.heap_1 w.params).In g → TopX mean mg mb g → KtsDicts (fsOf env') g →
      EvsAre R ws es → (∀ p ∈ R, p.1 ≠ dx) → (∀ p ∈ R, p.1 ≠ ev) → (∀ p ∈ news, p ∈ R) → 0 ≤ pos → ws.length = i → es ++ evs cs (cs.length + 1 - i) pos = evs cs (cs.length + 1) 0 → x ≠ dx → l ≠ dx → I ≠ dx → ev ≠ dx → x ≠ ev → dx ≠ ev → l ≠ ev → I ≠ ev → x ≠ I → dx ≠ I → l ≠ I → ev ≠ I → (∀ p ∈ R, p.1 ≠ I) →
      Fr g L h (fun y => if y = Str.ofString "step" then some (.int (i : Int) t) else if [Str.ofString "step", Str.ofString "kind", Str.ofString "value", Str.ofString "at", Str.ofString "row", Str.ofString "column", Str.ofString "fault"].contains y = true then u y else m₀ y) →
      News g L h ((x, instObj 265 dx) :: (dx, dictOf (tokEs w.params k1 k2 k3 l pos 0 t1 t2) 3) :: (l, listOf vs.toArray ep) :: (I, itObj ((i : Int) + 1) (((cs.length + 1 : Nat) : Int) - i - 1)) :: (ev, listOf ws.toArray epv) :: R) →
      wpAny (model prog w) A (execs body (envOf name scope L a cd)) (EvPost L { s with heap := h, toks := tk } I (itObj ((i : Int) + 1) (((cs.length + 1 : Nat) : Int) - i - 1)) (EvInv w base A₁ env' mean mg mb g₁ x dx l ev vs cs ep k1 k2 k3 t2 m₀ news (i + 1)) Q) E { s with heap := h, toks := tk })
    (done : ∀ (g : Heap) (u : Str → Option Value) (h : Heap) (tk : Nat) (t1 : Tok) (pos : Int) (ws : List Value) (epv : Nat) (R : List (Addr × Obj)), KtsTurn (fsOf env') g₁ g → Below A₁ base [env'] g → (frg.heap_1 w.params).In g → TopX mean mg mb g → KtsDicts (fsOf env') g →
      EvsAre R ws (evs cs (cs.length + 1) 0) → (∀ p ∈ R, p.1 ≠ ev) → (∀ p ∈ news, p ∈ R) →
      Fr g L h (fun y => if [Str.ofString "step", Str.ofString "kind", Str.ofString "value", Str.ofString "at", Str.ofString "row", Str.ofString "column", Str.ofString "fault"].contains y = true then u y else m₀ y) →
      News g L h ((x, instObj 265 dx) :: (dx, dictOf (tokEs w.params k1 k2 k3 l pos 0 t1 t2) 3) :: (l, listOf vs.toArray ep) :: (ev, listOf ws.toArray epv) :: R) → Q .next { s with heap := h, toks := tk })
    (hE : PassesOwn (model prog w) A (envOf name scope L a cd) E) (hk : scope.kind = .function) (hlo : (envOf name scope L a cd).kindOf (Str.ofString "step") = some .local) :
    wpAny (model prog w) A (pyIter (.ref r)) (fun it s₂ => codeAny (model prog w) A (.forLoop (.Name (Str.ofString "step") px) it body [] (envOf name scope L a cd)) (fun r s' => match r with | .ok f => Q f s' | .error e => cameBackBy (model prog w) A (envOf name scope L a cd) E e s') s₂) E s := by
  have hR0 : ∀ p ∈ news, p.1 ≠ dx := fun p hp => Nat.ne_of_lt (l2 p (.tail _ hp))
  have hR1 : ∀ p ∈ news, p.1 ≠ ev := fun p hp => Nat.ne_of_lt (lt_of_allLt l1.2.2.2 p hp)
  have nxd : x ≠ dx := Nat.ne_of_gt l3
  have nld : l ≠ dx := Nat.ne_of_lt (l2 _ (.head _))
  have ned : ev ≠ dx := Nat.ne_of_gt l1.2.1
  refine ev_range (n := cs.length + 1) (EvInv w base A₁ env' mean mg mb g₁ x dx l ev vs cs ep k1 k2 k3 t2 m₀ news) hh hr ?_ ?_ F
    (news := (x, instObj 265 dx) :: (dx, dictOf (tokEs w.params k1 k2 k3 l 0 0 t1 t2) 3) :: (l, listOf vs.toArray ep) :: (ev, listOf #[] e0) :: news) (cb_drop N fun p hp => ?_) ?_ ?_ ?_ hE hk hlo
  · unfold Builtin.Range.small
    rw [rangeSize_nat, fits_long (Int.le_refl 0) (by omega), fits_long (a := ((cs.length + 1 : Nat) : Int)) (by omega) (by omega), fits_long (a := 1) (by omega) (by omega), fits_long (a := ((((cs.length + 1 : Nat) : Int) - 0).toNat : Int)) (by omega) (by omega)]
    simp only [Bool.true_and, Bool.or_eq_true]
    refine .inr ?_
    rw [if_pos (by omega)]
    exact fits_long (by omega) (by omega)
  · show Builtin.Range.rangeSize 0 ((cs.length : Int) + 1) 1 = _
    rw [rangeSize_nat]; omega
  · simp only [List.mem_cons] at hp ⊢
    rcases hp with h | h | h | h | h <;> simp [h]
  · exact ⟨KtsTurn.refl, B, X, T, D, m₀, t1, 0, [], [], e0, news, by funext y; simp, rfl, EvsAre.nil, hR0, hR1, fun _ h => h, Int.le_refl _, rfl, rfl⟩
  · rintro i g m₁ nx h tk I t hi ⟨T0, B', X', T', D', u, t1', pos, ws, es, epv, R, rfl, rfl, he, h1, h2, h3, h4, h5, h6⟩ hI F' N'
    refine turn i g u h tk I t t1' pos ws es epv R hi T0 B' X' T' D' he h1 h2 h3 h4 h5 h6 nxd nld (Ne.symm (hI (dx, dictOf (tokEs w.params k1 k2 k3 l pos 0 t1' t2) 3) (by simp))) ned (Nat.ne_of_lt l1.1) (Nat.ne_of_lt l1.2.1) (Nat.ne_of_lt l1.2.2.1) (Ne.symm (hI (ev, listOf ws.toArray epv) (by simp)))
      (hI (x, instObj 265 dx) (by simp)) (hI (dx, dictOf (tokEs w.params k1 k2 k3 l pos 0 t1' t2) 3) (by simp)) (hI (l, listOf vs.toArray ep) (by simp)) (hI (ev, listOf ws.toArray epv) (by simp)) (fun p hp => hI p (by simp [hp])) F' (cb_drop N' fun p hp => ?_)
    simp only [List.mem_cons] at hp ⊢
    rcases hp with h | h | h | h | h | h <;> simp [h]
  · rintro g m₁ nx h tk ⟨T0, B', X', T', D', u, t1', pos, ws, es, epv, R, rfl, rfl, he, h1, h2, h3, h4, h5, h6⟩ F' N'
    rw [Nat.sub_self] at h6
    rw [show evs cs 0 pos = [] from rfl, List.append_nil] at h6
    subst h6
    exact done g u h tk t1' pos ws epv R T0 B' X' T' D' he h2 h3 F' N'

theorem m_keep {l : List Str} {m' m₀ : Str → Option Value} (h : ∀ y, l.contains y = false → m' y = m₀ y) : m' = fun y => if l.contains y = true then m' y else m₀ y := by
  funext y
  by_cases q : l.contains y = true
  · rw [if_pos q]
  · rw [if_neg q]; exact h y (by simpa using q)
theorem h6_tok {cs : List Int} {es r : List Ev} {n i : Nat} {pos a : Int} {k : Str} {v : TV} (h6 : es ++ evs cs (n - i) pos = r) (hi : i < n) (ok : (nextT cs 0 pos).2 = .tok k v a) (hk : k ≠ "eof") : (es ++ [tokEv cs k v a]) ++ evs cs (n - (i + 1)) (nextT cs 0 pos).1 = r := by
  rw [← h6, show n - i = (n - (i + 1)) + 1 by omega, evs_tok ok hk]; simp
theorem h6_bad {cs : List Int} {es r : List Ev} {n i : Nat} {pos a : Int} {k : Str} (h6 : es ++ evs cs (n - i) pos = r) (hi : i < n) (ok : (nextT cs 0 pos).2 = .bad k a) : (es ++ [tokEv cs "fault" (.str k) a]) ++ evs cs (n - (i + 1)) (nextT cs 0 pos).1 = r := by
  rw [← h6, show n - i = (n - (i + 1)) + 1 by omega, evs_bad ok]; simp
theorem h6_eof {cs : List Int} {es r : List Ev} {n i : Nat} {pos a : Int} {v : TV} (h6 : es ++ evs cs (n - i) pos = r) (hi : i < n) (ok : (nextT cs 0 pos).2 = .tok "eof" v a) : es ++ [tokEv cs "eof" v a] = r := by
  rw [← h6, show n - i = (n - (i + 1)) + 1 by omega, evs_eof ok]
theorem ev_snoc {R R' : List (Addr × Obj)} {ws : List Value} {es : List Ev} {q : Addr} {e : Ev} {vv : Value} {ta tb tc td : Tok} (he : EvsAre R ws es) (s1 : ∀ p ∈ R, p ∈ R') (V : VIs e.v vv R') :
    EvsAre ((q, tup5 e.kind vv e.at_ e.row e.col ta tb tc td) :: R') (ws ++ [Value.ref q]) (es ++ [e]) :=
  he.snoc (fun p hp => .tail _ (s1 p hp)) ⟨q, vv, ta, tb, tc, td, rfl, .head _, V.mono fun p hp => .tail _ hp⟩
theorem ev_end {w : World} {A₁ : Around} {s : Shared} {base g g₁ h' : Heap} {env' : Env} {L : Addr} {Q : Flow → Shared → Prop} {tk' : Nat} {it : Obj} {i : Nat}
    {mean : ExcName → Option Value} {mg mb : Str → Option Value} {x dx l ev q I : Addr} {vs : List Value} {cs : List Int} {ep epv : Nat} {k1 k2 k3 t1 t2 ta tb tc td : Tok} {m₀ m' : Str → Option Value} {z1 z2 : Addr × Obj} {news R R' : List (Addr × Obj)} {ws : List Value} {es : List Ev} {e : Ev} {vv : Value} {pos' : Int}
    (T0 : KtsTurn (fsOf env') g₁ g) (B : Below A₁ base [env'] g) (X : (frg.heap_1 w.params).In g) (T : TopX mean mg mb g) (D : KtsDicts (fsOf env') g) (F : Fr g L h' m')
    (hm : ∀ y, [Str.ofString "step", Str.ofString "kind", Str.ofString "value", Str.ofString "at", Str.ofString "row", Str.ofString "column", Str.ofString "fault"].contains y = false → m' y = m₀ y)
    (N : News g L h' ((q, tup5 e.kind vv e.at_ e.row e.col ta tb tc td) :: z1 :: z2 :: (x, instObj 265 dx) :: (dx, dictOf (tokEs w.params k1 k2 k3 l pos' 0 t1 t2) 3) :: (l, listOf vs.toArray ep) :: (I, it) :: (ev, listOf (ws.toArray.push (.ref q)) epv) :: R'))
    (he : EvsAre R ws es) (s1 : ∀ p ∈ R, p ∈ R') (V : VIs e.v vv R') (a1 : ∀ p ∈ R', p.1 ≠ dx) (a2 : ∀ p ∈ R', p.1 ≠ ev) (a3 : ∀ p ∈ R', p.1 ≠ I) (h3 : ∀ p ∈ news, p ∈ R)
    (b1 : q ≠ dx) (b2 : q ≠ ev) (b3 : q ≠ I) (h4 : 0 ≤ pos') (h5 : ws.length = i) (h6 : (es ++ [e]) ++ evs cs (cs.length + 1 - (i + 1)) pos' = evs cs (cs.length + 1) 0) (c1 : x ≠ I) (c2 : dx ≠ I) (c3 : l ≠ I) (c4 : ev ≠ I) :
    EvPost L s I it (EvInv w base A₁ env' mean mg mb g₁ x dx l ev vs cs ep k1 k2 k3 t2 m₀ news (i + 1)) Q .next { s with heap := h', toks := tk' } := by
  refine ⟨h', tk', g, m', (x, instObj 265 dx) :: (dx, dictOf (tokEs w.params k1 k2 k3 l pos' 0 t1 t2) 3) :: (l, listOf vs.toArray ep) :: (ev, listOf (ws ++ [Value.ref q]).toArray epv) :: (q, tup5 e.kind vv e.at_ e.row e.col ta tb tc td) :: R', rfl,
    ⟨T0, B, X, T, D, m', t1, pos', ws ++ [Value.ref q], es ++ [e], epv, (q, tup5 e.kind vv e.at_ e.row e.col ta tb tc td) :: R', m_keep hm, rfl, ev_snoc he s1 V, ?_, ?_, fun p hp => .tail _ (s1 p (h3 p hp)), h4, by simp [h5], h6⟩, ?_, F, cb_drop N fun p hp => ?_⟩
  · intro p hp; rcases List.mem_cons.mp hp with rfl | hp; exact b1; exact a1 p hp
  · intro p hp; rcases List.mem_cons.mp hp with rfl | hp; exact b2; exact a2 p hp
  · intro p hp
    simp only [List.mem_cons] at hp
    rcases hp with rfl | rfl | rfl | rfl | rfl | hp
    · exact c1
    · exact c2
    · exact c3
    · exact c4
    · exact b3
    · exact a3 p hp
  · rw [List.push_toArray]
    simp only [List.mem_cons] at hp ⊢
    rcases hp with h | h | h | h | h | h | h <;> simp [h]
theorem ev_ret_brk {s : Shared} {h₀ h' : Heap} {L : Addr} {Q : Value → Shared → Prop} {tk' : Nat} {it : Obj} {i : Nat} {P : Params} {m : Str → Option Value}
    {x dx l ev q I : Addr} {vs : List Value} {cs : List Int} {ep epv : Nat} {k1 k2 k3 t1 t2 ta tb tc td : Tok} {z1 z2 : Addr × Obj} {news R R' : List (Addr × Obj)} {ws : List Value} {es : List Ev} {vv : Value} {tv : TV} {pos pos' a : Int} {kind : Str}
    (hret : ∀ (ev : Addr) (ws : List Value) (epv : Nat) (R : List (Addr × Obj)) (h' : Heap) (tk' : Nat), EvsAre R ws (evs cs (cs.length + 1) 0) → (∀ p ∈ news, p ∈ R) → (∀ p ∈ R, p.1 ≠ ev) → Fr h₀ L h' m → News h₀ L h' ((ev, listOf ws.toArray epv) :: R) → Q (.ref ev) { s with heap := h', toks := tk' })
    (F : Fr h₀ L h' m) (N : News h₀ L h' ((q, tup5 kind vv a (place cs a).1 (place cs a).2 ta tb tc td) :: z1 :: z2 :: (x, instObj 265 dx) :: (dx, dictOf (tokEs P k1 k2 k3 l pos' 0 t1 t2) 3) :: (l, listOf vs.toArray ep) :: (I, it) :: (ev, listOf (ws.toArray.push (.ref q)) epv) :: R'))
    (he : EvsAre R ws es) (s1 : ∀ p ∈ R, p ∈ R') (V : VIs tv vv R') (ok : (nextT cs 0 pos).2 = .tok kind tv a) (hk : (kind == Str.ofString "eof") = true) (h6 : es ++ evs cs (cs.length + 1 - i) pos = evs cs (cs.length + 1) 0) (hin : i < cs.length + 1)
    (h3 : ∀ p ∈ news, p ∈ R) (a2 : ∀ p ∈ R', p.1 ≠ ev) (b2 : q ≠ ev) : Q (.ref ev) { s with heap := h', toks := tk' } := by
  obtain rfl : kind = Str.ofString "eof" := eq_of_beq hk
  have e := ev_snoc (q := q) (e := tokEv cs "eof" tv a) (ta := ta) (tb := tb) (tc := tc) (td := td) he s1 V
  rw [h6_eof h6 hin ok] at e
  refine hret ev _ epv _ h' tk' e (fun p hp => .tail _ (s1 p (h3 p hp))) (fun p hp => ?_) F (cb_drop N fun p hp => ?_)
  · rcases List.mem_cons.mp hp with rfl | hp
    · exact b2
    · exact a2 p hp
  · rw [List.push_toArray]
    simp only [List.mem_cons] at hp ⊢
    rcases hp with h | h | h
    · simp [h]
    · left; exact h
    · simp [h]
theorem ne9 {a b : Addr} (h : @LT.lt Nat _ a b) : b ≠ a := Nat.ne_of_gt h
theorem set_W23_2 : True := by
  k_with "my exec For" => first | (k_here; k_dflt (refine wpAny_For ?_ (by intro _; rfl))) | fail
  k_with "my exec For Name Call cons nil" => first | (k_here; k_dflt (refine wpAny_For ?_ (by intro _; rfl))) | fail
  trivial
section
variable {w : World} {mean : ExcName → Option Value} {mg mb : Str → Option Value}
    {dp un : Nat} {gd : Option (List Code)} {cn : Str} {sc : Scope} {a : Addr} {ccd : Value} {cl : List (Str × Addr)} {A₀ : Around} {base h₀ : Heap} {L : Addr} {m : Str → Option Value} {s : Shared}
    {news rest : List (Addr × Obj)} {Q E : Value → Shared → Prop} {x dx l : Addr} {vs : List Value} {cs : List Int} {ep : Nat} {k1 k2 k3 t1 t2 : Tok} {i o : Int}
section
variable (B : Below A₀ base [] h₀) (F : Fr h₀ L s.heap m) (X : (frg.heap_1 w.params).In h₀) (N : News h₀ L s.heap news) (XB : (frg.heap_1 w.params).In base) (TB : TopX mean mg mb base)
    (T : TopX mean mg mb h₀) (hk : sc.kind = .function) (hl : (l, listOf vs.toArray ep) ∈ news) (hi : IntsAre vs cs) (hfit : cs.length < 2 ^ 20)
include B F X N T hk hl hi hfit XB TB
theorem events_s (hd : dp + 20 < recursionLimit) (hu : un + 160 < cLine)
    (hret : ∀ (ev : Addr) (ws : List Value) (epv : Nat) (R : List (Addr × Obj)) (h' : Heap) (tk' : Nat), EvsAre R ws (evs cs (cs.length + 1) 0) → (∀ p ∈ news, p ∈ R) → (∀ p ∈ R, p.1 ≠ ev) → Fr h₀ L h' m → News h₀ L h' ((ev, listOf ws.toArray epv) :: R) → Q (.ref ev) { s with heap := h', toks := tk' }) :
    wpC w (ktrTop dp un gd cn sc L a ccd cl []) 283 [.ref l] Q E s := by
  replace N : News h₀ L s.heap ((l, listOf vs.toArray ep) :: news) := cb_drop N (fun p hp => by rcases List.mem_cons.mp hp with rfl | hp; exact hl; exact hp)
  refine wpAny_call ?_
  refine' code_defX0 ?k1 ?k2 ?k3 ?k4 ?k5 ?kA ?kF ?kK ?k6 ?k7 ?k8 ?k9 ?kB ?_ ?c2 ?c3 ?c4 ?c5
  (case kA => exact rfl); (case kF => exact rfl); (case kK => first | exact rfl | assumption); (case k1 => k_asm); (case k2 => k_asm); (case k3 => k_asm); (case k4 => k_asm); (case k5 => k_asm); (case k6 => k_is); (case k7 => k_is); (case k8 => ktr_room); (case k9 => exact BindsTo.of_eq rfl); (case c5 => decide); (case kB => exact locs rfl); (case c2 => exact rfl); (case c3 => exact rfl); (case c4 => exact rfl); k_whole; intro g' L' h' FG' F' N' B' X' T' D'; (try dsimp only); (try k_lift B'); (try k_fold)
  k_steps
  refine ev_pack (e0 := 0) (vs := vs) (cs := cs) (ep := ep) ?hh (by assumption) hfit (by assumption) (by assumption) (by assumption) (by assumption) (by assumption) (by assumption) ?l1 ?l2 ?l3 ?turn ?done ?hE ?hk ?hlo
  case hh => exact rfl
  case l1 => assumption
  case l2 => assumption
  case l3 => assumption
  case hE => passes_own
  case hk => exact rfl
  case hlo => exact rfl
  case turn =>
    intro i g u h tk I t t1 pos ws es epv R hin T0 Bg Xg Tg Dg he h1 h2 h3 h4 h5 h6 n1 n2 n3 n4 n5 n6 n7 n8 n9 na nb nc nd F9 N9
    k_steps
    case' _ =>
      dsimp only [EvPost]
      k_steps
      exact ev_ret_brk hret (by assumption) (by assumption) he (by assumption) (by assumption) (by assumption) (by assumption) h6 hin h3 (by assumption) (by (first | exact ne9 (And.left (And.right (by assumption))) | exact ne9 (And.left (And.right (And.right (by assumption)))) | exact ne9 (And.left (And.right (And.right (And.right (by assumption))))) | exact ne9 (And.left (And.right (And.right (And.right (And.right (by assumption)))))) | exact ne9 (And.left (And.right (And.right (And.right (And.right (And.right (by assumption))))))) | exact ne9 (And.left (And.right (And.right (And.right (And.right (And.right (And.right (by assumption))))))))))
    · refine ev_end (by assumption) (by assumption) (by assumption) (by assumption) (by assumption) (by assumption) ?_ (by assumption) he (by assumption) (by assumption) (by assumption) (by assumption) (by assumption) h3 ?_ ?_ ?_ (nextT_nn h4) h5 (h6_tok h6 hin (by assumption) ?_) n9 na nb nc
      all_goals first | (first | exact ne9 (And.left (And.right (by assumption))) | exact ne9 (And.left (And.right (And.right (by assumption)))) | exact ne9 (And.left (And.right (And.right (And.right (by assumption))))) | exact ne9 (And.left (And.right (And.right (And.right (And.right (by assumption)))))) | exact ne9 (And.left (And.right (And.right (And.right (And.right (And.right (by assumption))))))) | exact ne9 (And.left (And.right (And.right (And.right (And.right (And.right (And.right (by assumption))))))))) | exact ne_of_beq_false (by assumption) | (intro y hy; have hz : ∀ z, [Str.ofString "step", Str.ofString "kind", Str.ofString "value", Str.ofString "at", Str.ofString "row", Str.ofString "column", Str.ofString "fault"].contains z = true → y ≠ z := (fun z hz q => by rw [q, hz] at hy; cases hy); (try dsimp only); simp only [if_neg (hz (Str.ofString "column") (by decide)), if_neg (hz (Str.ofString "row") (by decide)), if_neg (hz (Str.ofString "at") (by decide)), if_neg (hz (Str.ofString "value") (by decide)), if_neg (hz (Str.ofString "kind") (by decide)), if_neg (hz (Str.ofString "step") (by decide)), if_neg (hz (Str.ofString "fault") (by decide))]; exact if_neg (by rw [hy]; simp)) | skip
    · refine ev_end (by assumption) (by assumption) (by assumption) (by assumption) (by assumption) (by assumption) ?_ (by assumption) he (fun _ h => h) ⟨[], .str _ _, fun _ h => nomatch h⟩ h1 h2 nd h3 ?_ ?_ ?_ (nextT_nn h4) h5 (h6_bad h6 hin (by assumption)) n9 na nb nc
      all_goals first | (first | exact ne9 (And.left (And.right (by assumption))) | exact ne9 (And.left (And.right (And.right (by assumption)))) | exact ne9 (And.left (And.right (And.right (And.right (by assumption))))) | exact ne9 (And.left (And.right (And.right (And.right (And.right (by assumption)))))) | exact ne9 (And.left (And.right (And.right (And.right (And.right (And.right (by assumption))))))) | exact ne9 (And.left (And.right (And.right (And.right (And.right (And.right (And.right (by assumption))))))))) | exact ne_of_beq_false (by assumption) | (intro y hy; have hz : ∀ z, [Str.ofString "step", Str.ofString "kind", Str.ofString "value", Str.ofString "at", Str.ofString "row", Str.ofString "column", Str.ofString "fault"].contains z = true → y ≠ z := (fun z hz q => by rw [q, hz] at hy; cases hy); (try dsimp only); simp only [if_neg (hz (Str.ofString "column") (by decide)), if_neg (hz (Str.ofString "row") (by decide)), if_neg (hz (Str.ofString "at") (by decide)), if_neg (hz (Str.ofString "value") (by decide)), if_neg (hz (Str.ofString "kind") (by decide)), if_neg (hz (Str.ofString "step") (by decide)), if_neg (hz (Str.ofString "fault") (by decide))]; exact if_neg (by rw [hy]; simp)) | skip
  case done =>
    intro g u h tk t1 pos ws epv R T0 Bg Xg Tg Dg he h2 h3 F9 N9
    dsimp only
    k_steps
    exact hret _ _ epv R _ _ he h3 h2 (by assumption) (cb_drop (by assumption) fun p hp => by rcases List.mem_cons.mp hp with h | h <;> simp [h])
end
end
end
section -- W24a
open PySem PySem.W PyProof.Rows PySem.Calls PySem.Spec
set_option maxHeartbeats 8000000

theorem set_W24a_0 : True := by
  k_with_none
  trivial
noncomputable def Stop9 (p : Prop) : Prop := p
noncomputable def digs (r : Int) : Nat := if r ≤ 0 then 0 else digs (r / 96) + 1
termination_by r.toNat
decreasing_by
  have : r / 96 < r := Int.ediv_lt_of_lt_mul (by decide) (by omega)
  omega
theorem ints_snoc {vs : List Value} {ns : List Int} (h : IntsAre vs ns) (n : Int) (t : Tok) : IntsAre (vs ++ [Value.int n t]) (ns ++ [n]) := h.append (.cons _ _ .nil)
theorem listOf_push {vs : List Value} {v : Value} {n : Nat} : W.listOf (vs.toArray.push v) n = W.listOf (vs ++ [v]).toArray n := by rw [List.push_toArray]
theorem pull2 {g : Heap} {L : Addr} {h : Heap} {a : Addr × Obj} {r : Addr} {vs : List Value} {ns : List Int} {n : Int} {t : Tok} {k : Nat} {rest : List (Addr × Obj)} (N : News g L h (a :: (r, W.listOf (vs.toArray.push (.int n t)) k) :: rest)) (hi : IntsAre vs ns) :
    ∃ us, IntsAre us (ns ++ [n]) ∧ News g L h (a :: (r, W.listOf us.toArray k) :: rest) := ⟨vs ++ [.int n t], ints_snoc hi n t, by rw [← listOf_push]; exact N⟩
theorem Stop9.mk {p : Prop} (h : Stop9 p) : p := h
theorem digs_le : ∀ (n : Nat) (r : Int), r < 96 ^ n → digs r ≤ n
  | 0, r, h => by rw [digs, if_pos (by omega)]; exact Nat.le_refl _
  | n + 1, r, h => by
    rw [digs]
    split
    · omega
    · have : r / 96 < 96 ^ n := Int.ediv_lt_of_lt_mul (by decide) (by rw [← Int.pow_succ]; exact h)
      have := digs_le n _ this
      omega
theorem digs_step {r : Int} (h : 0 < r) : digs r = digs (r / 96) + 1 := by rw [digs, if_neg (by omega)]
theorem len_snoc (l : List Int) (v : Int) : (l ++ [v]).length = l.length + 1 := by simp
theorem fig_start {k v : Int} {l : List Int} (h : l.length ≤ 9) : 0 ≤ (k.fmod (96 ^ Int.toNat 24)).fdiv 96 ∧ (l ++ [v]).length + digs ((k.fmod (96 ^ Int.toNat 24)).fdiv 96) ≤ 34 := by
  have h0 : 0 ≤ k.fmod (96 ^ Int.toNat 24) := Int.fmod_nonneg_of_pos _ (by decide)
  have h1 : k.fmod (96 ^ Int.toNat 24) < 96 ^ 24 := Int.fmod_lt_of_pos _ (by decide)
  rw [Int.fdiv_eq_ediv_of_nonneg _ (by decide)]
  refine ⟨Int.ediv_nonneg h0 (by decide), ?_⟩
  have := digs_le 24 ((k.fmod (96 ^ Int.toNat 24)) / 96) (by omega)
  rw [len_snoc]; omega
theorem fig_step {r v : Int} {l : List Int} (h0 : 0 ≤ r) (h1 : l.length + digs r ≤ 34) (h : 0 < r) : 0 ≤ r.fdiv 96 ∧ (l ++ [v]).length + digs (r.fdiv 96) ≤ 34 := by
  rw [Int.fdiv_eq_ediv_of_nonneg _ (by decide)]
  have := digs_step h
  exact ⟨Int.ediv_nonneg h0 (by decide), by rw [len_snoc]; omega⟩
theorem fig_meas {r : Int} (h : 0 < r) : (r.fdiv 96).toNat < r.toNat := by
  rw [Int.fdiv_eq_ediv_of_nonneg _ (by decide)]; omega
section
variable {w : World} {mean : ExcName → Option Value} {mg mb : Str → Option Value}
    {dp un : Nat} {gd : Option (List Code)} {cn : Str} {sc : Scope} {a : Addr} {ccd : Value} {cl : List (Str × Addr)} {outer : List Env} {A₀ : Around} {base h₀ : Heap} {L : Addr} {m : Str → Option Value} {s : Shared}
    {news rest : List (Addr × Obj)} {Q E : Value → Shared → Prop} {x dx l : Addr} {vs : List Value} {cs : List Int} {ep : Nat} {k1 k2 k3 t1 t2 : Tok} {i o : Int}
section
variable (B : Below A₀ base outer h₀) (F : Fr h₀ L s.heap m) (X : (frg.heap_1 w.params).In h₀) (N : News h₀ L s.heap news)
    (T : TopX mean mg mb h₀) (hk : sc.kind = .function) (hl : base.IsList l vs.toArray) (hi : IntsAre vs cs) (hfit : cs.length ≤ 63)
include B F X N T hk hl hi hfit
theorem figures_s {t9 : Tok} (hd : dp + 4 < recursionLimit) (hu : un + 32 < cLine)
    (hret : ∀ (q : Addr) (ws : List Value) (l9 : List Int) (h' : Heap) (tk' : Nat), IntsAre ws l9 → l9.length = 10 → Fr h₀ L h' m → News h₀ L h' ((q, listOf ws.toArray 0) :: news) → (∀ p ∈ news, p.1 < q) → Q (.ref q) { s with heap := h', toks := tk' }) :
    wpC w (ktrTop dp un gd cn sc L a ccd cl outer) 276 [.ref l, .int 10 t9] Q E s := by
  k_with "state" => first | exact Nat.zero_le _ | (simp; done) | exact fig_step (by assumption) (by assumption) (by assumption) | exact fig_start (by omega) | omega
  k_with "measure" => first | exact fig_meas (by assumption)
  k_with "pyIter ref" => k_state (fun (pre : List Int) (row : List Int) => row.length ≤ 9) "row"
  k_with "exec While Compare cons nil" => ((rename News _ _ _ _ => N9); obtain ⟨us9, hI9, N8⟩ := pull2 N9 (by assumption); k_while (fun (_ : List Int) rest (row : List Int) => 0 ≤ rest ∧ row.length + digs rest ≤ 34) (fun (_ : List Int) rest _ => rest.toNat) "rest" "row")
  refine wpAny_call ?_
  k_dflt cell_enter
  k_steps

  all_goals exact hret _ _ _ _ _ (by assumption) (by rw [show ∀ l : List Int, (List.take 10 (l ++ (List.replicate 10 [0]).flatten)).length = min 10 (l.length + 10) from fun l => by simp]; omega) (by assumption) (cb_drop (by assumption) fun p hp => by rcases List.mem_cons.mp hp with h | h <;> simp [h]) (fun p hp => lt_of_allLt (And.right (And.right (And.right (And.right (And.right (by assumption)))))) p (by first | exact hp | exact List.mem_append_left _ hp))
end
end
end
section -- W24s
open PySem PySem.W PyProof.Rows PySem.Calls PySem.Spec
set_option maxHeartbeats 8000000
section
variable {prog : Program} {w : World} {A : Around} {E : Value → Shared → Prop} {s : Shared} {h₀ : Heap} {L : Addr} {m : Str → Option Value} {env : Env} {elt iter : Expr} {x : Str} {px pos : Pos} {scope : Scope} {cl : List (Str × Addr)} {Q : Value → Shared → Prop}
theorem set_W24s_0 : True := by
  k_with_none
  trivial
noncomputable def SrcS (prog : Program) (w : World) (A : Around) (h₀ : Heap) (L : Addr) (m : Str → Option Value) (env : Env) (elt : Expr) (x : Str) (scope : Scope) (cl : List (Str × Addr)) (Q : Value → Shared → Prop) (xv : Value) (s₁ : Shared) : Prop :=
  ∃ z t news, xv = .str z t ∧ A.handled = none ∧ Fr h₀ L s₁.heap m ∧ News h₀ L s₁.heap news ∧ z.cps.size ≤ sizeLine ∧
      ∀ s₂ : Shared, (∃ h, s₂ = { s₁ with heap := h }) → LCg.CompRest prog w A h₀ L m env elt x scope cl s₂ (fun _ => True) (SignAt z) (LCg.FinE h₀ L m s₂ Q) z.cps.size 0 [] news
theorem SrcS.intro {z : Str} {t : Tok} {news : List (Addr × Obj)} {s₁ : Shared} (hh : A.handled = none) (F : Fr h₀ L s₁.heap m) (N : News h₀ L s₁.heap news) (hz : z.length ≤ sizeLine)
    (h : ∀ g : Heap, LCg.CompRest prog w A h₀ L m env elt x scope cl { s₁ with heap := g } (fun _ => True) (SignAt z) (LCg.FinE h₀ L m { s₁ with heap := g } Q) z.cps.size 0 [] news) :
    SrcS prog w A h₀ L m env elt x scope cl Q (.str z t) s₁ := ⟨z, t, news, rfl, hh, F, N, hz, fun _ ⟨g, e⟩ => e ▸ h g⟩
/-- a comprehension over a text, whose element makes one int a sign -/
theorem ListComp_S (_F₀ : Fr h₀ L s.heap m)
    (hclos : closureFor scope env = pure cl) (hcell : ∀ y ∈ scope.names, y.2 ≠ .cell) (hkind : scope.kind = .function)
    (hnames : ∀ y ∈ scope.names, y.2 = .local → scope.names.lookup y.1 = some .local) (hx : scope.names.lookup x = some .local)
    (h : wpAny (model prog w) A (eval iter env) (SrcS prog w A h₀ L m env elt x scope cl Q) E s)
    (hs : ∀ x, foldedSetIterable iter env x = pure x := by intro _; rfl) :
    wpAny (model prog w) A (eval (.ListComp elt [⟨.Name x px, iter, [], 0⟩] scope pos) env) Q E s := by
  rw [eval_ListComp]
  refine wpAny_comprehension_free (use := none) rfl hs hclos hkind hnames (wpAny_mono h (fun xv s₁ h₁ => ?_) fun _ _ e => e)
  obtain ⟨z, t, news, rfl, hh, F, N, hsz, R⟩ := h₁
  cases ha : z.cps.all (· < 128)
  · refine wpAny_pyIter_wide ha ?_
    refine LCg.block_U (Walks.strWide hh s₁.heap.objs.size z t) hsz (fun i h st => by obtain ⟨o, e, _⟩ := st; exact ⟨o, e⟩) (fun i h h' o nw st e e' _ _ _ => by obtain ⟨o', q, r⟩ := st; rw [e] at q; cases q; exact ⟨o, e', r⟩) hcell hkind hx ⟨_, Heap.get?_push_size _ rfl, rfl, rfl⟩ (fun b hb => ?_)
      (F.keeps fun _ _ e => Heap.get?_push_of_some _ e) (N.grown fun _ _ e => Heap.get?_push_of_some _ e) (Nat.ne_of_lt F.ns.lt) (next_is_new F) (fun p hp => Nat.ne_of_lt (Heap.lt_size (N p hp).1)) trivial (R _ ⟨_, rfl⟩) ?_
    · rw [List.mem_singleton.mp hb]
      show s₁.heap.objs.size < (s₁.heap.push _).objs.size
      rw [Heap.size_push]; exact Nat.lt_succ_self _
    · intro D C h tk m' ys news' F' N' o1 hn hC₀ hD₀ hCL hDL hCD offC fin
      refine ⟨m', hn, fun h'' hs'' => fin D h'' tk (F'.change hs'' hCL hC₀) (fun p hp => ?_) o1⟩
      refine ⟨hs''.extBut _ _ ?_ (N' p hp).1, (N' p hp).2⟩
      rcases List.mem_cons.mp hp with rfl | hp
      · exact Ne.symm hCD
      · exact offC p hp
  · refine wpAny_pyIter_ascii ha ?_
    refine LCg.block_U (Walks.strAscii hh s₁.heap.objs.size z t) hsz (fun i h st => by obtain ⟨o, e, _⟩ := st; exact ⟨o, e⟩) (fun i h h' o nw st e e' _ _ _ => by obtain ⟨o', q, r⟩ := st; rw [e] at q; cases q; exact ⟨o, e', r⟩) hcell hkind hx ⟨_, Heap.get?_push_size _ rfl, rfl, rfl⟩ (fun b hb => ?_)
      (F.keeps fun _ _ e => Heap.get?_push_of_some _ e) (N.grown fun _ _ e => Heap.get?_push_of_some _ e) (Nat.ne_of_lt F.ns.lt) (next_is_new F) (fun p hp => Nat.ne_of_lt (Heap.lt_size (N p hp).1)) trivial (R _ ⟨_, rfl⟩) ?_
    · rw [List.mem_singleton.mp hb]
      show s₁.heap.objs.size < (s₁.heap.push _).objs.size
      rw [Heap.size_push]; exact Nat.lt_succ_self _
    · intro D C h tk m' ys news' F' N' o1 hn hC₀ hD₀ hCL hDL hCD offC fin
      refine ⟨m', hn, fun h'' hs'' => fin D h'' tk (F'.change hs'' hCL hC₀) (fun p hp => ?_) o1⟩
      refine ⟨hs''.extBut _ _ ?_ (N' p hp).1, (N' p hp).2⟩
      rcases List.mem_cons.mp hp with rfl | hp
      · exact Ne.symm hCD
      · exact offC p hp
noncomputable def SgEl (news : List (Addr × Obj)) (r : Int) (y : Value) (news' : List (Addr × Obj)) : Prop := news' = news ∧ ∃ t : Tok, y = .int r t
theorem sg_el {news news' : List (Addr × Obj)} {r r' : Int} {y : Value} {t : Tok} (e : r = r') (hn : news' = news) (hy : y = .int r' t) : SgEl news r y news' := by subst e; exact ⟨hn, t, hy⟩
noncomputable def codesOf (z : Str) : List Int := z.cps.toList.map fun (c : Nat) => (c : Int)
theorem sg_rest {z : Str} {S : List (Addr × Obj) → Prop} {Fin : List Value → List (Addr × Obj) → Prop} {news : List (Addr × Obj)}
    (turn : ∀ (c : Nat) t I oI C oC D m₂ ys h tk (E' : Value → Shared → Prop), LCg.NsObj oC m₂ → m₂ x = some (.str ⟨#[c]⟩ t) → Fr h₀ L h m → News h₀ L h ((I, oI) :: (C, oC) :: (D, LCg.lst ys) :: news) → LCg.Off3 I C D news → ((@Ne Nat I C) ∧ (@Ne Nat I D) ∧ (@Ne Nat C D)) →
      wpAny (model prog w) A (eval elt (compEnvC scope cl C env)) (LCg.CompEnd h₀ L m { s with heap := h, toks := tk } I oI C oC D (LCg.lst ys) S (fun y news' => SgEl news (c : Int) y news')) E' { s with heap := h, toks := tk })
    (fin : ∀ ys, IntsAre ys (codesOf z) → Fin ys news) : LCg.CompRest prog w A h₀ L m env elt x scope cl s S (SignAt z) Fin z.cps.size 0 [] news := by
  have key : ∀ (j i : Nat) (ys : List Value), i + j = z.cps.size → IntsAre ys ((codesOf z).take i) → LCg.CompRest prog w A h₀ L m env elt x scope cl s S (SignAt z) Fin j i ys news := by
    intro j
    induction j with
    | zero =>
      intro i ys hi hy
      have e : (codesOf z).length = i := by simp [codesOf]; omega
      rw [← e, List.take_length] at hy
      exact LCg.CompRest.zero (fin ys hy)
    | succ j ih =>
      intro i ys hi hy
      refine LCg.CompRest.succ ?_
      intro v I oI C oC D m₂ h tk E' hv hC hx F N off ne
      obtain ⟨c, u, hc, rfl⟩ := hv
      refine wpAny_mono (turn c u I oI C oC D m₂ ys h tk E' hC hx F N off ne) (fun y s₂ hq => ?_) fun _ _ e => e
      obtain ⟨h', tk', nw, e, F', N', off', hS, hn, t', hy'⟩ := hq
      rw [hn] at N' off' hS
      refine ⟨h', tk', news, e, F', N', off', hS, ?_⟩
      rw [hy']
      refine ih (i + 1) _ (by omega) ?_
      have hk : (codesOf z)[i]? = some (c : Int) := by
        simp only [codesOf, List.getElem?_map, Array.getElem?_toList, hc, Option.map_some]
      rw [List.take_add_one, hk]
      exact ints_snoc hy _ _
  exact key z.cps.size 0 [] (by omega) (by simp only [List.take_zero]; exact .nil)
end
end
section -- W24t
open PySem PySem.W PyProof.Rows PySem.Calls PySem.Spec
set_option maxHeartbeats 8000000

theorem set_W24t_0 : True := by
  k_with_none
  trivial
theorem getD_len {L : List Str} (h : L.all (fun z => decide (z.length ≤ 5)) = true) (k : Nat) : (L.getD k Str.empty).length ≤ 5 := by
  rw [List.getD_eq_getElem?_getD]
  cases q : L[k]? with
  | none => decide
  | some z =>
    have hz := List.all_eq_true.mp h z (List.mem_of_getElem? q)
    exact of_decide_eq_true hz
theorem pre_lt {a : Int} {n : Nat} (h : n < ((a.fmod 5) - 0).toNat) : n < 5 := by
  have := Int.fmod_lt_of_pos a (b := 5) (by decide)
  omega
theorem text_fit {z y : Str} {n : Nat} {a : Int} (hz : z.length ≤ 5 * n) (hn : n < ((a.fmod 5) - 0).toNat) (hy : y.length ≤ 5) : z.length + y.length ≤ sizeLine := by
  have := pre_lt hn
  rw [PySem.sizeLine_eq]; omega
theorem text_step {z y : Str} {l : List Int} {k : Int} (hz : z.length ≤ 5 * l.length) (hy : y.length ≤ 5) : (z ++ y).length ≤ 5 * (l ++ [k]).length := by
  rw [Str.length_append, List.length_append]; simp only [List.length_cons, List.length_nil]; omega
theorem news_fin {h₀ h : Heap} {L D : Addr} {ys : List Value} {a b : Addr × Obj} {rest news : List (Addr × Obj)} (N : News h₀ L h ((D, LCg.lst ys) :: a :: b :: rest)) (hs : ∀ p ∈ news, p ∈ rest) : News h₀ L h ((D, W.listOf ys.toArray ys.length) :: news) :=
  cb_drop N fun p hp => by
    rcases List.mem_cons.mp hp with rfl | hp
    · exact .head _
    · exact .tail _ (.tail _ (.tail _ (hs p hp)))
theorem codesOf_length (z : Str) : (codesOf z).length = z.length := by simp [codesOf, Str.length]
theorem text_len {z : Str} {a : Int} (h : z.length ≤ 5 * (rangeKs 0 ((a.fmod 5) - 0).toNat).length) : z.length ≤ 25 := by
  have := Int.fmod_lt_of_pos a (b := 5) (by decide)
  rw [rangeKs_length] at h; omega
theorem set_W24t_1 : True := by
  k_with "my eval ListComp" => first | (k_here; k_dflt (refine ListComp_S (by k_asm) (by with_unfolding_all rfl) (by decide) (by rfl) (by decide) (by rfl) ?_)) | fail
  k_with "my size_fits" => first | (exact text_fit (by assumption) (by assumption) (getD_len (by decide) _)) | fail
  trivial
section
variable {w : World} {mean : ExcName → Option Value} {mg mb : Str → Option Value}
    {dp un : Nat} {gd : Option (List Code)} {cn : Str} {sc : Scope} {a : Addr} {ccd : Value} {cl : List (Str × Addr)} {outer : List Env} {A₀ : Around} {base h₀ : Heap} {L : Addr} {m : Str → Option Value} {s : Shared}
    {news rest : List (Addr × Obj)} {Q E : Value → Shared → Prop} {x dx l : Addr} {vs : List Value} {cs : List Int} {ep : Nat} {k1 k2 k3 t1 t2 : Tok} {i o : Int}
section
variable (B : Below A₀ base outer h₀) (F : Fr h₀ L s.heap m) (X : (frg.heap_1 w.params).In h₀) (N : News h₀ L s.heap news)
    (T : TopX mean mg mb h₀) (hk : sc.kind = .function) (hl : (l, listOf vs.toArray ep) ∈ news) (hi : IntsAre vs cs) (h5 : cs.length = 5)
include B F X N T hk hl hi h5
theorem text_s (hd : dp + 4 < recursionLimit) (hu : un + 32 < cLine)
    (hret : ∀ (q : Addr) (ws : List Value) (l9 : List Int) (ep9 : Nat) (h' : Heap) (tk' : Nat), IntsAre ws l9 → l9.length ≤ 100 → LCg.Off1 q news → Fr h₀ L h' m → News h₀ L h' ((q, listOf ws.toArray ep9) :: news) → Q (.ref q) { s with heap := h', toks := tk' }) :
    wpC w (ktrTop dp un gd cn sc L a ccd cl outer) 288 [.ref l] Q E s := by
  replace N : News h₀ L s.heap ((l, listOf vs.toArray ep) :: news) := cb_drop N (fun p hp => by rcases List.mem_cons.mp hp with rfl | hp; exact hl; exact hp)
  k_with "state" => first | exact Nat.zero_le _ | (simp; done) | exact text_step (by assumption) (getD_len (by decide) _)
  k_with "pyIter ref" => k_state (fun (pre : List Int) (text : Str) => text.length ≤ 5 * pre.length) "text"
  refine wpAny_call ?_
  k_dflt cell_enter
  k_steps

  refine SrcS.intro rfl (by assumption) (by assumption) ?_ ?_
  · have := text_len (by assumption)
    rw [PySem.sizeLine_eq]; omega
  · intro hh9
    refine sg_rest ?_ ?_
    · intro c t I oI C oC D m₂ ys h9 tk9 E9 hC9 hx9 F9 N9 off9 ne9
      k_steps
      all_goals exact LCg.CompEnd.intro (by assumption) (by assumption) _ (fun p hp => hp) off9 trivial (sg_el rfl rfl rfl)
    · intro ys hys D h9 tk9 F9 N9 off9
      try dsimp only
      k_steps
      case' _ => refine hret _ _ _ ys.length _ _ hys ?_ off9.2.2 ?_ ?_
      · have := text_len (by assumption)
        rw [codesOf_length]; omega
      · assumption
      · rename_i kN9 Tc9 kX9
        clear kX9 Tc9
        intro p hp
        rcases List.mem_cons.mp hp with rfl | hp
        · exact kN9 _ (.head _)
        · exact kN9 _ (.tail _ (.tail _ (.tail _ hp)))
end
end
end
section -- W25z
open PySem PySem.W PyProof.Rows PySem.Calls PySem.Spec
set_option maxHeartbeats 8000000
theorem set_W25z_0 : True := by
  k_with_none
  trivial
noncomputable def AllNe (d : Addr) : List (Addr × Obj) → Prop
  | [] => True
  | p :: r => @Ne Nat p.1 d ∧ AllNe d r
theorem allNe_of {d : Addr} {l : List (Addr × Obj)} (h : ∀ p ∈ l, p.1 ≠ d) : AllNe d l := by
  induction l with
  | nil => exact trivial
  | cons p r ih => exact And.intro (h p List.mem_cons_self) (ih fun q hq => h q (List.mem_cons_of_mem _ hq))
theorem ne_of_allNe {d : Addr} {l : List (Addr × Obj)} (h : AllNe d l) : ∀ p ∈ l, p.1 ≠ d := by
  induction l with
  | nil => intro p hp; exact absurd hp List.not_mem_nil
  | cons p r ih =>
    intro q hq
    rcases List.mem_cons.mp hq with e | hq
    · rw [e]; exact And.left h
    · exact ih (And.right h) q hq
noncomputable def Apart (R : List (Addr × Obj)) : List (Addr × Obj) → Prop
  | [] => True
  | q :: r => AllNe q.1 R ∧ Apart R r
theorem apart_of {R l : List (Addr × Obj)} (h : ∀ p ∈ R, ∀ q ∈ l, p.1 ≠ q.1) : Apart R l := by
  induction l with
  | nil => exact trivial
  | cons q r ih => exact And.intro (allNe_of fun p hp => h p hp q List.mem_cons_self) (ih fun p hp x hx => h p hp x (List.mem_cons_of_mem _ hx))
theorem apart_mem {R l : List (Addr × Obj)} (h : Apart R l) : ∀ q ∈ l, AllNe q.1 R := by
  induction l with
  | nil => intro p hp; exact absurd hp List.not_mem_nil
  | cons p r ih =>
    intro q hq
    rcases List.mem_cons.mp hq with e | hq
    · rw [e]; exact And.left h
    · exact ih (And.right h) q hq
theorem allNe_app {d : Addr} {a b : List (Addr × Obj)} : AllNe d (a ++ b) ↔ AllNe d a ∧ AllNe d b := by
  induction a with
  | nil => rw [List.nil_append]; exact ⟨fun h => ⟨trivial, h⟩, fun h => h.2⟩
  | cons p r ih => rw [List.cons_append]; show (_ ∧ AllNe d (r ++ b)) ↔ ((_ ∧ AllNe d r) ∧ _); rw [ih, and_assoc]
theorem news_split {g h : Heap} {L ev : Addr} {o : Obj} {R news : List (Addr × Obj)} (N : News g L h ((ev, o) :: R)) (hs : ∀ p ∈ news, p ∈ R) :
    ∃ Rn, (∀ p ∈ R, p ∈ news ++ Rn) ∧ (∀ p ∈ news ++ Rn, p ∈ R) ∧ Apart Rn news := by
  refine ⟨R.filter (fun p => !(news.map (·.1)).contains p.1), fun p hp => ?_, fun p hp => ?_, apart_of fun p hp q hq e => ?_⟩
  · by_cases hc : (news.map (·.1)).contains p.1 = true
    · rw [List.contains_iff_mem, List.mem_map] at hc
      obtain ⟨q, hq, e⟩ := hc
      have h1 := (N p (.tail _ hp)).1
      have h2 := (N q (.tail _ (hs q hq))).1
      rw [e, h1] at h2
      have : p = q := Prod.ext e.symm (Option.some.inj h2)
      exact List.mem_append_left _ (this ▸ hq)
    · exact List.mem_append_right _ (List.mem_filter.mpr ⟨hp, by simpa using hc⟩)
  · rcases List.mem_append.mp hp with hp | hp
    · exact hs p hp
    · exact (List.mem_filter.mp hp).1
  · have h1 := (List.mem_filter.mp hp).2
    have : (news.map (·.1)).contains p.1 = true := List.contains_iff_mem.mpr (List.mem_map.mpr ⟨q, hq, e.symm⟩)
    rw [this] at h1
    cases h1
theorem EvsAre.mono {R R' : List (Addr × Obj)} {ws : List Value} {es : List Ev} (h : EvsAre R ws es) (hs : ∀ p ∈ R, p ∈ R') : EvsAre R' ws es := ⟨h.1, fun k v e a b => (h.2 k v e a b).mono hs⟩
section
variable {w : World} {mean : ExcName → Option Value} {mg mb : Str → Option Value}
    {dp un : Nat} {gd : Option (List Code)} {cn : Str} {sc : Scope} {a : Addr} {ccd : Value} {cl : List (Str × Addr)} {A₀ : Around} {base h₀ : Heap} {L : Addr} {m : Str → Option Value} {s : Shared}
    {news rest : List (Addr × Obj)} {Q E : Value → Shared → Prop} {x dx l : Addr} {vs : List Value} {cs : List Int} {ep : Nat} {k1 k2 k3 t1 t2 : Tok} {i o : Int}
theorem events_l (B : Below A₀ base [] h₀) (F : Fr h₀ L s.heap m) (X : (frg.heap_1 w.params).In h₀) (N : News h₀ L s.heap news) (XB : (frg.heap_1 w.params).In base) (TB : TopX mean mg mb base)
    (T : TopX mean mg mb h₀) (hk : sc.kind = .function) (hl : (l, listOf vs.toArray ep) ∈ news) (hi : IntsAre vs cs) (hfit : cs.length < 2 ^ 20) (hd : dp + 20 < recursionLimit) (hu : un + 160 < cLine)
    (hret : ∀ (ev : Addr) (ws : List Value) (epv : Nat) (Rn : List (Addr × Obj)) (h' : Heap) (tk' : Nat), EvsAre (news ++ Rn) ws (evs cs (cs.length + 1) 0) → AllNe ev (news ++ Rn) → Apart Rn news → Fr h₀ L h' m → News h₀ L h' ((ev, listOf ws.toArray epv) :: (news ++ Rn)) → Q (.ref ev) { s with heap := h', toks := tk' }) :
    wpC w (ktrTop dp un gd cn sc L a ccd cl []) 283 [.ref l] Q E s := by
  refine events_s B F X N XB TB T hk hl hi hfit hd hu fun ev ws epv R h' tk' E' s1 s2 F' N' => ?_
  obtain ⟨Rn, h1, h2, h3⟩ := news_split N' s1
  refine hret ev ws epv Rn h' tk' (E'.mono h1) (allNe_of fun p hp => s2 p (h2 p hp)) h3 F' (cb_drop N' fun p hp => ?_)
  rcases List.mem_cons.mp hp with rfl | hp
  · exact .head _
  · exact .tail _ (h2 p hp)
end
end
section -- W26a
open PySem PySem.W PyProof.Rows PySem.Calls PySem.Spec
set_option maxHeartbeats 2000000
section
variable {prog : Program} {w : World} {A : Around} {E : Value → Shared → Prop} {s : Shared} {h₀ : Heap} {L : Addr} {m : Str → Option Value} {env : Env} {elt iter : Expr}
  {x1 x2 x3 x4 x5 : Str} {scope : Scope} {cl : List (Str × Addr)} {Q : Value → Shared → Prop} {news : List (Addr × Obj)}
abbrev evNm (scope : Scope) (x1 x2 x3 x4 x5 : Str) : Prop :=
  (scope.names.lookup x1 = some .local ∧ scope.names.lookup x2 = some .local ∧ scope.names.lookup x3 = some .local ∧ scope.names.lookup x4 = some .local ∧ scope.names.lookup x5 = some .local) ∧ [x1, x2, x3, x4, x5].Nodup
/-- one turn: the five names hold the event's parts; the element is the turned event's tuple -/
theorem set_W26a_0 : True := by
  k_with_none
  trivial
noncomputable def EvTurn (prog : Program) (w : World) (A : Around) (h₀ : Heap) (L : Addr) (m : Str → Option Value) (env : Env) (elt : Expr) (x1 x2 x3 x4 x5 : Str) (scope : Scope) (cl : List (Str × Addr)) (s₂ : Shared) (news : List (Addr × Obj)) (f : Ev → Ev) (es : List Ev) : Prop :=
  ∀ (e : Ev) (vv : Value) (ta tb tc td : Tok) (Rn : List (Addr × Obj)) (I : Addr) (oI : Obj) (C : Addr) (oC : Obj) (D : Addr) (m₂ : Str → Option Value) (ys : List Value) (h : Heap) (tk : Nat) (E' : Value → Shared → Prop), e ∈ es →
    LCg.NsObj oC m₂ → m₂ x1 = some (.str e.kind ta) → m₂ x2 = some vv → m₂ x3 = some (.int e.at_ tb) → m₂ x4 = some (.int e.row tc) → m₂ x5 = some (.int e.col td) →
    Fr h₀ L h m → News h₀ L h ((I, oI) :: (C, oC) :: (D, LCg.lst ys) :: (news ++ Rn)) →
    wpAny (model prog w) A (eval elt (compEnvC scope cl C env)) (fun y s₄ => ∃ h4 tk4 q t1 t2 t3 t4, s₄ = { s₂ with heap := h4, toks := tk4 } ∧ y = .ref q ∧ Fr h₀ L h4 m ∧
      News h₀ L h4 ((q, tup5 (f e).kind vv (f e).at_ (f e).row (f e).col t1 t2 t3 t4) :: (I, oI) :: (C, oC) :: (D, LCg.lst ys) :: (news ++ Rn)) ∧ @Ne Nat q I ∧ @Ne Nat q C ∧ @Ne Nat q D) E' { s₂ with heap := h, toks := tk }
theorem ev_block {p1 p2 p3 p4 p5 tp pos : Pos} {tk0} {s₂ : Shared} {I ax : Addr} {ws : List Value} {k0 : Nat} {es : List Ev} {f : Ev → Ev} {RR : Value → Addr → Result → Shared → Prop}
    (hax : (ax, W.listOf ws.toArray k0) ∈ news) (hE : EvsAre news ws es) (hsz : ws.length ≤ sizeLine) (hf : ∀ e, (f e).v = e.v)
    (hcell : ∀ y ∈ scope.names, y.2 ≠ .cell) (hkind : scope.kind = .function) (hx : evNm scope x1 x2 x3 x4 x5) (hh : A.handled = none)
    (hst : s₂.heap.IsListIter I ax 0 ∧ s₂.heap.IsList ax ws.toArray) (hIlt : I < s₂.heap.objs.size) (hIa : ax ≠ I)
    (F : Fr h₀ L s₂.heap m) (N : News h₀ L s₂.heap news) (hIL : L ≠ I) (hI₀ : h₀.get? I = none) (off : ∀ p ∈ news, p.1 ≠ I)
    (turn : EvTurn prog w A h₀ L m env elt x1 x2 x3 x4 x5 scope cl s₂ news f es)
    (hRR : ∀ D C h tk m' ys Rn, Fr h₀ L h m → News h₀ L h ((D, LCg.lst ys) :: (news ++ Rn)) → h.Ns C m' → h₀.get? C = none → h₀.get? D = none → C ≠ L → D ≠ L → C ≠ D → (∀ p ∈ news ++ Rn, p.1 ≠ C) → (∀ p ∈ news ++ Rn, p.1 ≠ D) →
      EvsAre (news ++ Rn) ys (es.map f) → RR (.ref D) C (.ok .next) { s₂ with heap := h, toks := tk }) :
    wpAny (model prog w) A (newList []) (fun acc s₃ => wpAny (model prog w) A (newFunctionEnv scope env.globals cl [] env.qual none .none (some env)) (fun cenv s₄ =>
      codeAny (model prog w) A (.compStart (.ListComp elt [⟨.Tuple [.Name x1 p1, .Name x2 p2, .Name x3 p3, .Name x4 p4, .Name x5 p5] tk0 tp, iter, [], 0⟩] scope pos) 0 (.ref I) acc { cenv with scope := relabel scope env }) (RR acc cenv.locals) s₄) E s₃) E s₂ := by
  obtain ⟨⟨l1, l2, l3, l4, l5⟩, nd⟩ := hx
  have W := Walks.list (prog := prog) (w := w) hh I ax hIa ws.toArray
  refine wpAny_newObj_type (wpAny_newFunctionEnv hcell (by intro y hy; simp at hy) (fun h₁ hns₁ hsb₁ => ?_) hkind)
  dsimp only at hns₁ hsb₁ ⊢
  generalize hG : s₂.heap.push { cls := .type "list", dict := none, data := .seq ([] : List Value).toArray } = G at hns₁ hsb₁ ⊢
  generalize hDD : s₂.heap.objs.size = D at *
  have hCD : G.objs.size = D + 1 := by rw [← hG, Heap.size_push, hDD]
  generalize hCC : G.objs.size = C at *
  have hlt : ∀ b, b < D → b ≠ C ∧ b ≠ D := fun b hb => ⟨by omega, by omega⟩
  have hDneC : D ≠ C := by omega
  have old : ∀ b o, s₂.heap.get? b = some o → h₁.get? b = some o := fun b o e => hsb₁.extBut b o (hlt b (hDD ▸ Heap.lt_size e)).1 (Heap.get?_push_of_some _ (hG ▸ Heap.get?_push_of_some _ e))
  have hacc : h₁.get? D = some (LCg.lst []) := hsb₁.extBut _ _ hDneC (Heap.get?_push_of_some _ (hG ▸ hDD ▸ Heap.get?_push_size _ rfl))
  have none₀ : ∀ b, D ≤ b → h₀.get? b = none := fun b hb => by
    cases e : h₀.get? b with
    | none => rfl
    | some o => exact absurd (hDD ▸ Heap.lt_size (F.keep b o e)) (Nat.not_lt.mpr hb)
  have hD₀ := none₀ D (Nat.le_refl _)
  have hC₀ := none₀ C (by omega)
  have hLlt : L < D := hDD ▸ F.ns.lt
  have haxlt : ax < D := hDD ▸ Heap.lt_size (N _ hax).1
  have newsD : ∀ p ∈ news, p.1 < D := fun p hp => hDD ▸ Heap.lt_size (N p hp).1
  have loop : ∀ s₃ : Shared, s₃ = { s₂ with heap := h₁, toks := s₂.toks + ([] : List (Str × Value)).length } →
      codeAny (model prog w) A (.compLoop (.ListComp elt [⟨.Tuple [.Name x1 p1, .Name x2 p2, .Name x3 p3, .Name x4 p4, .Name x5 p5] tk0 tp, iter, [], 0⟩] scope pos) 0 (.ref I) (.ref D) (compEnvC scope cl C env)) (RR (.ref D) C) s₃ := by
    rintro s₃ rfl
    refine LCp.codeAny_compLoop_pair
      (fun k s' => ∃ h' tk i ys m' Rn, s' = { s₂ with heap := h', toks := tk } ∧ i ≤ ws.length ∧ k = ws.length + 1 - i ∧ ys.length = i ∧ (h'.IsListIter I ax i ∧ h'.IsList ax ws.toArray) ∧ Fr h₀ L h' m ∧ h'.Ns C m' ∧
        News h₀ L h' ((D, LCg.lst ys) :: (news ++ Rn)) ∧ (∀ p ∈ Rn, p.1 ≠ I ∧ p.1 ≠ C ∧ p.1 ≠ D) ∧ EvsAre (news ++ Rn) ys ((es.take i).map f)) ?_ (ws.length + 1)
      ⟨h₁, _, 0, [], _, [], rfl, Nat.zero_le _, rfl, rfl, W.frame _ _ _ hst fun b _ o e => old b o e, F.keeps old, hns₁, fun p hp => ?_, fun p hp => absurd hp List.not_mem_nil, EvsAre.nil⟩
    · rintro k s' ⟨h', tk, i, ys, m', Rn, rfl, hi, rfl, hyl, hst', F', hn', N', off', E'⟩
      have offA : ∀ p ∈ news ++ Rn, p.1 ≠ I ∧ p.1 ≠ C ∧ p.1 ≠ D := fun p hp => by
        rcases List.mem_append.mp hp with hp | hp
        · exact ⟨off p hp, (hlt _ (newsD p hp)).1, (hlt _ (newsD p hp)).2⟩
        · exact off' p hp
      by_cases hin : i < ws.length
      · refine W.item i _ _ _ (by simpa using hin) hst' fun v h₂ tk₂ hv hst₂ hk₂ => ?_
        have hei : i < es.length := hE.1 ▸ hin
        obtain ⟨q0, vv, u1, u2, u3, u4, rfl, hq0, V⟩ := hE.2 i v es[i] (by simpa using hv) (List.getElem?_eq_getElem hei)
        have N₂ : News h₀ L h₂ ((D, LCg.lst ys) :: (news ++ Rn)) := LCg.news_but N' hk₂ fun p hp => by
          rcases List.mem_cons.mp hp with rfl | hp
          · exact Ne.symm (hlt I hIlt).2
          · exact (offA p hp).1
        have ht : IsTup h₂ q0 #[.str es[i].kind u1, vv, .int es[i].at_ u2, .int es[i].row u3, .int es[i].col u4] := ⟨_, (N₂ _ (List.mem_cons_of_mem _ (List.mem_append_left _ hq0))).1, rfl, _, rfl⟩
        refine wpAny_letOwnedTupleGo_listiter hst₂.1 ?_
        refine assign_Tuple_tuple hh ht rfl rfl fun h₅ he => ?_
        have he' : ∀ b o, h₂.get? b = some o → h₅.get? b = some o := fun b o e => he b o (Nat.ne_of_lt (Heap.lt_size e)) e
        refine assignInOrder_cons (wpAny_assign_Name (wpAny_storeName_local (lookup_relabel_local l1) ((hn'.at' fun o e => hk₂ _ o (by simpa using Ne.symm (hlt I hIlt).1) e).at' fun o e => he' _ o e) (fun h6 n6 s6 => ?_) (by simp [compEnvC, relabel, hkind])))
        refine assignInOrder_cons (wpAny_assign_Name (wpAny_storeName_local (lookup_relabel_local l2) n6 (fun h7 n7 s7 => ?_) (by simp [compEnvC, relabel, hkind])))
        refine assignInOrder_cons (wpAny_assign_Name (wpAny_storeName_local (lookup_relabel_local l3) n7 (fun h8 n8 s8 => ?_) (by simp [compEnvC, relabel, hkind])))
        refine assignInOrder_cons (wpAny_assign_Name (wpAny_storeName_local (lookup_relabel_local l4) n8 (fun h9 n9 s9 => ?_) (by simp [compEnvC, relabel, hkind])))
        refine assignInOrder_cons (wpAny_assign_Name (wpAny_storeName_local (lookup_relabel_local l5) n9 (fun h3 n3 s3 => ?_) (by simp [compEnvC, relabel, hkind])))
        refine assignInOrder_nil ?_
        have old3 : ∀ b o, b ≠ C → h₂.get? b = some o → h3.get? b = some o := fun b o hb e => s3.extBut b o hb (s9.extBut b o hb (s8.extBut b o hb (s7.extBut b o hb (s6.extBut b o hb (he' b o e)))))
        have st3 : h3.IsListIter I ax (i + 1 : Nat) ∧ h3.IsList ax ws.toArray := W.frame _ _ _ hst₂ fun b hb o e => old3 b o (fun q => by
          rcases List.mem_cons.mp hb with h | h
          · exact (hlt I hIlt).1 (h ▸ q)
          · exact (hlt ax haxlt).1 (List.mem_singleton.mp h ▸ q)) e
        obtain ⟨oI, heI, _⟩ := st3.1
        obtain ⟨oC, heC, hoC⟩ := LCg.ns_obj n3
        have hCL : C ≠ L := Ne.symm (hlt L hLlt).1
        have F3 : Fr h₀ L h3 m := ((((((LCg.fr_but F' hk₂ hIL hI₀).keeps he').change s6 hCL hC₀).change s7 hCL hC₀).change s8 hCL hC₀).change s9 hCL hC₀).change s3 hCL hC₀
        have N3 : News h₀ L h3 ((I, oI) :: (C, oC) :: (D, LCg.lst ys) :: (news ++ Rn)) := fun p hp => by
          rcases List.mem_cons.mp hp with rfl | hp
          · exact ⟨heI, Ne.symm hIL, hI₀⟩
          · rcases List.mem_cons.mp hp with rfl | hp
            · exact ⟨heC, hCL, hC₀⟩
            · refine ⟨old3 _ _ ?_ (N₂ p hp).1, (N₂ p hp).2⟩
              rcases List.mem_cons.mp hp with rfl | hp
              · exact hDneC
              · exact (offA p hp).2.1
        simp only [List.nodup_cons, List.mem_cons, List.not_mem_nil, or_false, not_or] at nd
        obtain ⟨⟨d12, d13, d14, d15⟩, ⟨d23, d24, d25⟩, ⟨d34, d35⟩, d45, _⟩ := nd
        refine wpAny_mono (turn es[i] vv u1 u2 u3 u4 Rn I oI C oC D _ ys h3 _ _ (List.getElem_mem hei) hoC (by simp [d12, d13, d14, d15]) (by simp [d23, d24, d25]) (by simp [d34, d35]) (by simp [d45]) (by simp) F3 N3) (fun y s₄ h₄ => ?_) fun _ _ e => e
        obtain ⟨h4, tk4, q, t1, t2, t3, t4, rfl, rfl, F4, N4, qI, qC, qD⟩ := h₄
        have zI := (N4 (I, oI) (by simp)).1
        have zC := (N4 (C, oC) (by simp)).1
        have zD := (N4 (D, LCg.lst ys) (by simp)).1
        have zax := (N4 (ax, PySem.W.listOf ws.toArray k0) (by simp [hax])).1
        have st4 : h4.IsListIter I ax (i + 1 : Nat) ∧ h4.IsList ax ws.toArray := by
          obtain ⟨o9, e9, r9⟩ := st3.1
          rw [heI] at e9
          exact ⟨⟨oI, zI, by rw [Option.some.inj e9]; exact r9⟩, ⟨_, zax, rfl, _, rfl⟩⟩
        refine append_at (hsz := by show ys.toArray.size ≤ sizeLine; rw [List.size_toArray, hyl]; exact Nat.le_trans hi hsz) zD fun h5 s5 hD5 => ?_
        have hDL : D ≠ L := Ne.symm (hlt L hLlt).2
        have off6 : ∀ p ∈ news ++ ((q, tup5 (f es[i]).kind vv (f es[i]).at_ (f es[i]).row (f es[i]).col t1 t2 t3 t4) :: Rn), p.1 ≠ I ∧ p.1 ≠ C ∧ p.1 ≠ D := fun p hp => by
          rcases List.mem_append.mp hp with hp | hp
          · exact offA p (List.mem_append_left _ hp)
          · rcases List.mem_cons.mp hp with rfl | hp
            · exact ⟨qI, qC, qD⟩
            · exact offA p (List.mem_append_right _ hp)
        have sub6 : ∀ p ∈ news ++ Rn, p ∈ news ++ ((q, tup5 (f es[i]).kind vv (f es[i]).at_ (f es[i]).row (f es[i]).col t1 t2 t3 t4) :: Rn) := fun p hp => by
          rcases List.mem_append.mp hp with hp | hp
          · exact List.mem_append_left _ hp
          · exact List.mem_append_right _ (List.mem_cons_of_mem _ hp)
        refine ⟨ws.length + 1 - (i + 1), by omega, h5, tk4, i + 1, ys ++ [.ref q], _, _, rfl, hin, rfl, by rw [List.length_append, List.length_singleton, hyl], W.frame _ _ _ st4 fun b hb o e => s5.extBut b o (fun x => by
            rcases List.mem_cons.mp hb with h | h
            · exact (hlt I hIlt).2 (h ▸ x)
            · exact (hlt ax haxlt).2 (List.mem_singleton.mp h ▸ x)) e, F4.change s5 hDL hD₀, (hoC.ns zC).sameBut s5 (Ne.symm hDneC), fun p hp => ?_, fun p hp => off6 p (List.mem_append_right _ hp), ?_⟩
        · rcases List.mem_cons.mp hp with rfl | hp
          · exact ⟨hD5.trans (congrArg some (LCg.lst_snoc ys (.ref q))), hDL, hD₀⟩
          · have hp4 : p ∈ (q, tup5 (f es[i]).kind vv (f es[i]).at_ (f es[i]).row (f es[i]).col t1 t2 t3 t4) :: (I, oI) :: (C, oC) :: (D, LCg.lst ys) :: (news ++ Rn) := by
              rcases List.mem_append.mp hp with h | h
              · exact List.mem_cons_of_mem _ (List.mem_cons_of_mem _ (List.mem_cons_of_mem _ (List.mem_cons_of_mem _ (List.mem_append_left _ h))))
              · rcases List.mem_cons.mp h with h | h
                · rw [h]; exact List.mem_cons_self
                · exact List.mem_cons_of_mem _ (List.mem_cons_of_mem _ (List.mem_cons_of_mem _ (List.mem_cons_of_mem _ (List.mem_append_right _ h))))
            exact ⟨s5.extBut _ _ (off6 p hp).2.2 (N4 p hp4).1, (N4 p hp4).2⟩
        · rw [List.take_add_one, List.getElem?_eq_getElem hei, List.map_append]
          refine E'.snoc sub6 ⟨q, vv, t1, t2, t3, t4, rfl, List.mem_append_right _ List.mem_cons_self, ?_⟩
          rw [hf]
          exact V.mono fun p hp => List.mem_append_left _ hp
      · obtain rfl : i = ws.length := Nat.le_antisymm hi (Nat.not_lt.mp hin)
        have hst9 : h'.IsListIter I ax (ws.toArray.size : Nat) ∧ h'.IsList ax ws.toArray := by rw [List.size_toArray]; exact hst'
        refine W.done _ _ _ hst9 fun h₂ tk₂ hk₂ => ?_
        have e9 : es.take ws.length = es := by rw [hE.1]; exact List.take_length
        rw [e9] at E'
        exact hRR D C h₂ tk₂ _ ys Rn (LCg.fr_but F' hk₂ hIL hI₀) (LCg.news_but N' hk₂ fun p hp => by
          rcases List.mem_cons.mp hp with rfl | hp
          · exact Ne.symm (hlt I hIlt).2
          · exact (offA p hp).1) (hn'.at' fun o e => hk₂ _ o (by simpa using Ne.symm (hlt I hIlt).1) e) hC₀ hD₀ (Ne.symm (hlt L hLlt).1) (Ne.symm (hlt L hLlt).2) (Ne.symm hDneC) (fun p hp => (offA p hp).2.1) (fun p hp => (offA p hp).2.2) E'
    · rw [List.append_nil] at hp
      rcases List.mem_cons.mp hp with rfl | hp
      · exact ⟨hacc, Ne.symm (hlt L hLlt).2, hD₀⟩
      · exact ⟨old _ _ (N p hp).1, (N p hp).2⟩
  have hst1 : h₁.IsListIter I ax 0 ∧ h₁.IsList ax ws.toArray := W.frame _ _ _ hst fun b _ o e => old b o e
  exact codeAny_compStart_list (loop _ rfl) (W.self 0 _ _ _ hst1 (loop _ rfl))
end
end
section -- W26b
open PySem PySem.W PyProof.Rows PySem.Calls PySem.Spec
set_option maxHeartbeats 2000000
section
variable {prog : Program} {w : World} {A : Around} {E : Value → Shared → Prop} {s : Shared} {h₀ : Heap} {L : Addr} {m : Str → Option Value} {env : Env} {elt iter : Expr}
  {x1 x2 x3 x4 x5 : Str} {scope : Scope} {cl : List (Str × Addr)} {Q : Value → Shared → Prop} {news : List (Addr × Obj)}
theorem set_W26b_0 : True := by
  k_with_none
  trivial
noncomputable def SrcE (prog : Program) (w : World) (A : Around) (h₀ : Heap) (L : Addr) (m : Str → Option Value) (env : Env) (elt : Expr) (x1 x2 x3 x4 x5 : Str) (scope : Scope) (cl : List (Str × Addr)) (Q : Value → Shared → Prop) (xv : Value) (s₁ : Shared) : Prop :=
  ∃ (ax : Addr) (ws : List Value) (k0 : Nat) (es : List Ev) (f : Ev → Ev) (news : List (Addr × Obj)), xv = .ref ax ∧ A.handled = none ∧ Fr h₀ L s₁.heap m ∧ News h₀ L s₁.heap news ∧ (ax, W.listOf ws.toArray k0) ∈ news ∧ EvsAre news ws es ∧ ws.length ≤ sizeLine ∧ (∀ e, (f e).v = e.v) ∧
    (∀ s₂ : Shared, (∃ g, s₂ = { s₁ with heap := g }) → EvTurn prog w A h₀ L m env elt x1 x2 x3 x4 x5 scope cl s₂ news f es) ∧
    (∀ D ys h tk Rn, EvsAre (news ++ Rn) ys (es.map f) → Fr h₀ L h m → News h₀ L h ((D, LCg.lst ys) :: (news ++ Rn)) → Q (.ref D) { s₁ with heap := h, toks := tk })
theorem SrcE.intro {ax : Addr} {ws : List Value} {k0 : Nat} {es : List Ev} {s₁ : Shared} (f : Ev → Ev) (hh : A.handled = none) (F : Fr h₀ L s₁.heap m) (N : News h₀ L s₁.heap news) (hax : (ax, W.listOf ws.toArray k0) ∈ news) (hE : EvsAre news ws es) (hsz : ws.length ≤ sizeLine) (hf : ∀ e, (f e).v = e.v)
    (turn : ∀ g, EvTurn prog w A h₀ L m env elt x1 x2 x3 x4 x5 scope cl { s₁ with heap := g } news f es)
    (fin : ∀ D ys h tk Rn, EvsAre (news ++ Rn) ys (es.map f) → Fr h₀ L h m → News h₀ L h ((D, LCg.lst ys) :: (news ++ Rn)) → Q (.ref D) { s₁ with heap := h, toks := tk }) :
    SrcE prog w A h₀ L m env elt x1 x2 x3 x4 x5 scope cl Q (.ref ax) s₁ := ⟨ax, ws, k0, es, f, news, rfl, hh, F, N, hax, hE, hsz, hf, fun _ ⟨g, e⟩ => e ▸ turn g, fin⟩
/-- a comprehension over event tuples, five names unpacked -/
theorem ListComp_E {p1 p2 p3 p4 p5 tp pos : Pos} {tk0} (_F₀ : Fr h₀ L s.heap m)
    (hclos : closureFor scope env = pure cl) (hcell : ∀ y ∈ scope.names, y.2 ≠ .cell) (hkind : scope.kind = .function)
    (hnames : ∀ y ∈ scope.names, y.2 = .local → scope.names.lookup y.1 = some .local) (hx : evNm scope x1 x2 x3 x4 x5)
    (h : wpAny (model prog w) A (eval iter env) (SrcE prog w A h₀ L m env elt x1 x2 x3 x4 x5 scope cl Q) E s)
    (hs : ∀ x, foldedSetIterable iter env x = pure x := by intro _; rfl) :
    wpAny (model prog w) A (eval (.ListComp elt [⟨.Tuple [.Name x1 p1, .Name x2 p2, .Name x3 p3, .Name x4 p4, .Name x5 p5] tk0 tp, iter, [], 0⟩] scope pos) env) Q E s := by
  rw [eval_ListComp]
  refine wpAny_comprehension_free (use := none) rfl hs hclos hkind hnames (wpAny_mono h (fun xv s₁ h₁ => ?_) fun _ _ e => e)
  obtain ⟨ax, ws, k0, es, f, news, rfl, hh, F, N, hax, hE, hsz, hf, R, fin⟩ := h₁
  have hl : s₁.heap.IsList ax ws.toArray := ⟨_, (N _ hax).1, rfl, _, rfl⟩
  have hlt : ax < s₁.heap.objs.size := Heap.lt_size (N _ hax).1
  refine wpAny_pyIter_list hl ?_
  have up : ∀ b o, s₁.heap.get? b = some o → (s₁.heap.push { cls := .type "list_iterator", data := .fields #[.ref ax, .int 0 0] }).get? b = some o := fun b o e => Heap.get?_push_of_some _ e
  refine ev_block (s₂ := { s₁ with heap := s₁.heap.push { cls := .type "list_iterator", data := .fields #[.ref ax, .int 0 0] } }) hax hE hsz hf hcell hkind hx hh ⟨⟨_, Heap.get?_push_size _ rfl, rfl, rfl⟩, hl.push _⟩ ?_ (Nat.ne_of_lt hlt)
    (F.keeps up) (N.grown up) (Nat.ne_of_lt F.ns.lt) (next_is_new F) (fun p hp => Nat.ne_of_lt (Heap.lt_size (N p hp).1)) (R _ ⟨_, rfl⟩) ?_
  · show s₁.heap.objs.size < (s₁.heap.push _).objs.size
    rw [Heap.size_push]; exact Nat.lt_succ_self _
  · intro D C h tk m' ys Rn F' N' hn hC₀ hD₀ hCL hDL hCD offC offD hE'
    refine ⟨m', hn, fun h'' hs'' => fin D ys h'' tk Rn hE' (F'.change hs'' hCL hC₀) (fun p hp => ?_)⟩
    refine ⟨hs''.extBut _ _ ?_ (N' p hp).1, (N' p hp).2⟩
    rcases List.mem_cons.mp hp with rfl | hp
    · exact Ne.symm hCD
    · exact offC p hp
end
/-! data -/
noncomputable def tvDat : TV → Dat
  | .str z => .str z
  | .int n => .int n
  | .tup l => .tuple (l.map .int)
noncomputable def evDat (e : Ev) : Dat := .tuple [.str e.kind, tvDat e.v, .int e.at_, .int e.row, .int e.col]
theorem ints_dat {R : List (Addr × Obj)} {ws : List Value} {l : List Int} (h : IntsAre ws l) : DatAll R ws (l.map .int) := by
  induction h with
  | nil => exact .nil
  | cons n t _ ih => exact .cons (.int _ _) ih
theorem vis_dat {R : List (Addr × Obj)} {v : TV} {vv : Value} (h : VIs v vv R) : DatIn R vv (tvDat v) := by
  obtain ⟨pre, h, hs⟩ := h
  cases h with
  | str z t => exact .str _ _
  | int n t => exact .int _ _
  | tup c hi => exact .tuple (hs _ List.mem_cons_self) (ints_dat hi)
theorem evIs_dat {R : List (Addr × Obj)} {v : Value} {e : Ev} (h : EvIs R v e) : DatIn R v (evDat e) := by
  obtain ⟨q, vv, ta, tb, tc, td, rfl, hm, V⟩ := h
  exact .tuple (vs := [.str e.kind ta, vv, .int e.at_ tb, .int e.row tc, .int e.col td]) hm (.cons (.str _ _) (.cons (vis_dat V) (.cons (.int _ _) (.cons (.int _ _) (.cons (.int _ _) .nil)))))
theorem evs_cons {R : List (Addr × Obj)} {v : Value} {ws : List Value} {e : Ev} {es : List Ev} (h : EvsAre R (v :: ws) (e :: es)) : EvIs R v e ∧ EvsAre R ws es :=
  ⟨h.2 0 v e rfl rfl, by simpa using h.1, fun k a b ha hb => h.2 (k + 1) a b (by simpa using ha) (by simpa using hb)⟩
theorem evsAre_dat {R : List (Addr × Obj)} {ws : List Value} {es : List Ev} (h : EvsAre R ws es) : DatAll R ws (es.map evDat) := by
  induction ws generalizing es with
  | nil =>
    cases es with
    | nil => exact .nil
    | cons e es => have := h.1; simp at this
  | cons v ws ih =>
    cases es with
    | nil => have := h.1; simp at this
    | cons e es => exact .cons (evIs_dat (evs_cons h).1) (ih (evs_cons h).2)
noncomputable def evOk (e : Ev) : Bool := PyData.strOk e.kind && (match e.v with | .str z => PyData.strOk z | _ => true)
theorem evOk_dat {e : Ev} (h : evOk e = true) : kqdOk 8 (evDat e) = true := by
  obtain ⟨k, v, a, r, c⟩ := e
  simp only [evOk, Bool.and_eq_true] at h
  have h2 := h.2
  cases v with
  | str z => simp only [evDat, tvDat, kqdOk, List.all_cons, List.all_nil, Bool.and_true, h.1, Bool.true_and]; exact h2
  | int n => simp only [evDat, tvDat, kqdOk, List.all_cons, List.all_nil, Bool.and_true, h.1, Bool.true_and]
  | tup l => simp [evDat, tvDat, kqdOk, h.1]
section
variable {prog : Program} {w : World} {A : Around} {E : Value → Shared → Prop} {s : Shared} {h₀ : Heap} {L a b : Addr} {m : Str → Option Value} {news n₁ n₂ : List (Addr × Obj)} {xs ys : List Value} {ka kb : Nat} {ds : List Ev} {Q : Value → Shared → Prop}
theorem evs_ok {ds : List Ev} (h : ∀ e ∈ ds, evOk e = true) : ∀ d ∈ ds.map evDat, kqdOk 8 d = true := fun d hd => by
  obtain ⟨e, he, rfl⟩ := List.mem_map.mp hd
  exact evOk_dat (h e he)
theorem ev_eq_s (N : News h₀ L s.heap news) (ma : (a, W.listOf xs.toArray ka) ∈ news) (Da : EvsAre n₁ xs ds) (sa : ∀ p ∈ n₁, p ∈ news) (mb : (b, W.listOf ys.toArray kb) ∈ news) (Db : EvsAre n₂ ys ds) (sb : ∀ p ∈ n₂, p ∈ news)
    (ha : ∀ e ∈ ds, evOk e = true) (hu : A.units + 64 < cLine) (h : Q (.bool true) s) : wpAny (model prog w) A (compareOp .Eq (.ref a) (.ref b)) Q E s :=
  kqd_eq N ma rfl rfl (evsAre_dat Da) sa mb rfl rfl (evsAre_dat Db) sb (evs_ok ha) (evs_ok ha) hu (by simpa using h)
theorem ev_ne_s (N : News h₀ L s.heap news) (ma : (a, W.listOf xs.toArray ka) ∈ news) (Da : EvsAre n₁ xs ds) (sa : ∀ p ∈ n₁, p ∈ news) (mb : (b, W.listOf ys.toArray kb) ∈ news) (Db : EvsAre n₂ ys ds) (sb : ∀ p ∈ n₂, p ∈ news)
    (ha : ∀ e ∈ ds, evOk e = true) (hu : A.units + 64 < cLine) (h : Q (.bool false) s) : wpAny (model prog w) A (compareOp .NotEq (.ref a) (.ref b)) Q E s :=
  kqd_ne N ma rfl rfl (evsAre_dat Da) sa mb rfl rfl (evsAre_dat Db) sb (evs_ok ha) (evs_ok ha) hu (by simpa using h)
theorem ev_item {value slice : Expr} {c : Int} {u : Tok} (N : News h₀ L s.heap news) (ma : (a, W.listOf xs.toArray ka) ∈ news) (Da : EvsAre n₁ xs ds) (sa : ∀ p ∈ n₁, p ∈ news) (h0 : 0 ≤ c) (h1 : c < (ds.length : Int)) (hf : c < 2 ^ 63)
    (h : ∀ q vv ta tb tc td e, ds[c.toNat]? = some e → (q, tup5 e.kind vv e.at_ e.row e.col ta tb tc td) ∈ news → Q (.ref q) s)
    (hs : subscripted slice false (.ref a) (.int c u) = operate [.ref a, .int c u] (getItem (.ref a) (.int c u)) := by with_unfolding_all rfl) :
    wpAny (model prog w) A (subscriptTail value slice (.ref a) (.int c u)) Q E s := by
  have hl : s.heap.IsList a xs.toArray := ⟨_, (N _ ma).1, rfl, _, rfl⟩
  have hi : c.toNat < ds.length := by omega
  have hi2 : c.toNat < xs.length := Da.1 ▸ hi
  obtain ⟨q, vv, ta, tb, tc, td, e1, hm, _⟩ := Da.2 c.toNat xs[c.toNat] ds[c.toNat] (List.getElem?_eq_getElem hi2) (List.getElem?_eq_getElem hi)
  refine tail_any hl.typeIs slot_list_getitem.lookup (wpAny_getItem_list hl h0 hf (x := .ref q) ?_ (h q vv ta tb tc td _ (List.getElem?_eq_getElem hi) (sa _ hm))) hs
  rw [← e1]; simp [hi2]
theorem ev_kind {value slice : Expr} {u : Tok} {q : Addr} {k : Str} {vv : Value} {x y z : Int} {ta tb tc td : Tok} (N : News h₀ L s.heap news) (hm : (q, tup5 k vv x y z ta tb tc td) ∈ news) (h : Q (.str k ta) s)
    (hs : subscripted slice false (.ref q) (.int 0 u) = operate [.ref q, .int 0 u] (getItem (.ref q) (.int 0 u)) := by with_unfolding_all rfl) :
    wpAny (model prog w) A (subscriptTail value slice (.ref q) (.int 0 u)) Q E s :=
  item_tupleT (l := [.str k ta, vv, .int x tb, .int y tc, .int z td]) (j := 0) ⟨_, (N _ hm).1, rfl, _, rfl⟩ (by decide) (by decide) rfl rfl h hs
theorem pick_take {ws : List Value} {c : Int} (h : 0 ≤ c) : kms_pick ws none (some c) = ws.take c.toNat := by
  simp only [kms_pick, kms_lo, kms_hi, List.drop_zero, Nat.sub_zero, if_neg (Int.not_lt.mpr h)]
  rw [← List.take_eq_take_min]
theorem pick_drop {ws : List Value} {c : Int} (h : 0 ≤ c) : kms_pick ws (some c) none = ws.drop c.toNat := by
  simp only [kms_pick, kms_lo, kms_hi, if_neg (Int.not_lt.mpr h)]
  rw [List.take_of_length_le (by rw [List.length_drop]; exact Nat.le_refl _)]
  by_cases q : c.toNat ≤ ws.length
  · rw [Nat.min_eq_left q]
  · rw [Nat.min_eq_right (by omega), List.drop_of_length_le (Nat.le_refl _), List.drop_of_length_le (by omega)]
theorem EvsAre.take {R : List (Addr × Obj)} {ws : List Value} {es : List Ev} (h : EvsAre R ws es) (n : Nat) : EvsAre R (ws.take n) (es.take n) := by
  refine ⟨by simp [h.1], fun k v e h1 h2 => ?_⟩
  rw [List.getElem?_take] at h1 h2
  split at h1
  · rename_i q; rw [if_pos q] at h2; exact h.2 k v e h1 h2
  · cases h1
theorem EvsAre.drop {R : List (Addr × Obj)} {ws : List Value} {es : List Ev} (h : EvsAre R ws es) (n : Nat) : EvsAre R (ws.drop n) (es.drop n) := by
  refine ⟨by simp [h.1], fun k v e h1 h2 => ?_⟩
  rw [List.getElem?_drop] at h1 h2
  exact h.2 _ v e h1 h2
end
section
variable {prog : Program} {w : World} {A : Around} {E : Value → Shared → Prop} {s : Shared} {h₀ : Heap} {L l : Addr} {m : Str → Option Value} {news : List (Addr × Obj)} {value slice : Expr} {ws : List Value} {k : Nat} {vl vu : Value} {c : Int} {Q : Value → Shared → Prop}
theorem slice_take (F : Fr h₀ L s.heap m) (N : News h₀ L s.heap news) (hm : (l, W.listOf ws.toArray k) ∈ news) (hz : ws.length ≤ sizeLine) (pl : IsPart vl none) (pu : IsPart vu (some c)) (h0 : 0 ≤ c)
    (h : ∀ D h', Fr h₀ L h' m → News h₀ L h' ((D, W.listOf (ws.take c.toNat).toArray 0) :: news) → (∀ p ∈ news, p.1 < D) → Q (.ref D) { s with heap := h' })
    (hs : subscripted slice false (.ref l) (.ref s.heap.objs.size) = operate [.ref s.heap.objs.size, .ref l] (getItem (.ref l) (.ref s.heap.objs.size))) (ht : ∀ r, letTemporaryGo value (.ref l) r = pure ()) :
    wpAny (model prog w) A (subscriptTail value slice (.ref l) (.ref s.heap.objs.size)) Q E { s with heap := s.heap.push { cls := .type "slice", data := .fields #[vl, vu, .none] } } :=
  kms_slice_lit F N (its := ws.toArray) ⟨_, (N _ hm).1, rfl, _, rfl⟩ pl pu (pick_take h0) h hs ht (by simpa using hz)
theorem slice_drop (F : Fr h₀ L s.heap m) (N : News h₀ L s.heap news) (hm : (l, W.listOf ws.toArray k) ∈ news) (hz : ws.length ≤ sizeLine) (pl : IsPart vl (some c)) (pu : IsPart vu none) (h0 : 0 ≤ c)
    (h : ∀ D h', Fr h₀ L h' m → News h₀ L h' ((D, W.listOf (ws.drop c.toNat).toArray 0) :: news) → (∀ p ∈ news, p.1 < D) → Q (.ref D) { s with heap := h' })
    (hs : subscripted slice false (.ref l) (.ref s.heap.objs.size) = operate [.ref s.heap.objs.size, .ref l] (getItem (.ref l) (.ref s.heap.objs.size))) (ht : ∀ r, letTemporaryGo value (.ref l) r = pure ()) :
    wpAny (model prog w) A (subscriptTail value slice (.ref l) (.ref s.heap.objs.size)) Q E { s with heap := s.heap.push { cls := .type "slice", data := .fields #[vl, vu, .none] } } :=
  kms_slice_lit F N (its := ws.toArray) ⟨_, (N _ hm).1, rfl, _, rfl⟩ pl pu (pick_drop h0) h hs ht (by simpa using hz)
end
/-! ledgers: one lies in another -/
theorem sub_cons {a : Addr × Obj} {l r : List (Addr × Obj)} (h : ∀ p ∈ l, p ∈ r) : ∀ p ∈ a :: l, p ∈ a :: r := fun p hp => by
  rcases List.mem_cons.mp hp with e | hp
  · rw [e]; exact List.mem_cons_self
  · exact List.mem_cons_of_mem _ (h p hp)
theorem sub_skip {a : Addr × Obj} {l r : List (Addr × Obj)} (h : ∀ p ∈ l, p ∈ r) : ∀ p ∈ l, p ∈ a :: r := fun p hp => List.mem_cons_of_mem _ (h p hp)
theorem sub_appl {l r : List (Addr × Obj)} : ∀ p ∈ l, p ∈ l ++ r := fun p hp => List.mem_append_left _ hp
theorem sub_appr {l r : List (Addr × Obj)} : ∀ p ∈ r, p ∈ l ++ r := fun p hp => List.mem_append_right _ hp
theorem lst_list {g h : Heap} {L D : Addr} {ys : List Value} {rest : List (Addr × Obj)} (N : News g L h ((D, LCg.lst ys) :: rest)) : News g L h ((D, W.listOf ys.toArray ys.length) :: rest) := fun p hp => by
  rcases List.mem_cons.mp hp with e | hp
  · rw [e]; exact N (D, LCg.lst ys) List.mem_cons_self
  · exact N p (List.mem_cons_of_mem _ hp)
theorem len_at {prog : Program} {w : World} {A : Around} {E : Value → Shared → Prop} {s : Shared} {g : Heap} {L D : Addr} {ys : List Value} {k : Nat} {rest : List (Addr × Obj)} {Q : Value → Shared → Prop}
    (N : News g L s.heap ((D, W.listOf ys.toArray k) :: rest)) (hk : ys.length ≤ 200) (h : Q (.int ys.length (s.toks + 1)) { s with toks := s.toks + 1 + 1 }) : wpAny (model prog w) A (call (.builtin "len") [.ref D]) Q E s := by
  have hl : s.heap.IsList D ys.toArray := ⟨_, (N _ List.mem_cons_self).1, rfl, _, rfl⟩
  have e : ys.toArray.size = ys.length := List.size_toArray ..
  exact call_len_list hl (by rw [e]; omega) (by rw [e]; exact h)
theorem ne_of_off1 {D : Addr} {l : List (Addr × Obj)} (h : LCg.Off1 D l) : ∀ p ∈ l, p.1 ≠ D := by
  induction l with
  | nil => intro p hp; exact absurd hp List.not_mem_nil
  | cons q r ih =>
    intro p hp
    rcases List.mem_cons.mp hp with e | hp
    · rw [e]; exact And.left h
    · exact ih (And.right h) p hp
theorem sub_tr {l r t : List (Addr × Obj)} (h1 : ∀ p ∈ l, p ∈ r) (h2 : ∀ p ∈ r, p ∈ t) : ∀ p ∈ l, p ∈ t := fun p hp => h2 p (h1 p hp)
end
section -- W26c
open PySem PySem.W PyProof.Rows PySem.Calls PySem.Spec
set_option maxHeartbeats 2000000
theorem set_W26c_0 : True := by
  k_with_none
  trivial
noncomputable def isStop (e : Ev) : Bool := e.kind == Str.ofString "fault" || e.kind == Str.ofString "eof"
noncomputable def stopAt (es : List Ev) : Nat := es.findIdx isStop
noncomputable def shiftEv (n r : Int) (e : Ev) : Ev := ⟨e.kind, e.v, e.at_ + n, e.row + r, e.col⟩
noncomputable def evsOf (cs : List Int) : List Ev := evs cs (cs.length + 1) 0
theorem stop_before {es : List Ev} {k : Nat} {e : Ev} (h : es[k]? = some e) (hk : k < stopAt es) : isStop e = false := by
  obtain ⟨hl, he⟩ := List.getElem?_eq_some_iff.mp h
  have := List.not_of_lt_findIdx hk
  rw [he] at this
  simpa using this
theorem stop_here {es : List Ev} {k : Nat} {e : Ev} (h : es[k]? = some e) (hs : isStop e = true) (hk : k ≤ stopAt es) : k = stopAt es := by
  rcases Nat.lt_or_eq_of_le hk with q | q
  · rw [stop_before h q] at hs; cases hs
  · exact q
theorem stop_test {e : Ev} {b : Bool} (h : ([Str.ofString "fault", Str.ofString "eof"].any fun x => x == e.kind) = b) : isStop e = b := by
  rw [← h, isStop, List.any_cons, List.any_cons, List.any_nil, Bool.or_false, BEq.comm, BEq.comm (a := e.kind)]
theorem stop_exit {es : List Ev} {c : Int} {e : Ev} (h : es[c.toNat]? = some e) (ht : ([Str.ofString "fault", Str.ofString "eof"].any fun x => x == e.kind) = true) (h0 : 0 ≤ c) (h1 : c ≤ (stopAt es : Int)) : c = (stopAt es : Int) := by
  have := stop_here h (stop_test ht) (by omega)
  omega
theorem stop_go {es : List Ev} {c : Int} {e : Ev} (h : es[c.toNat]? = some e) (ht : ([Str.ofString "fault", Str.ofString "eof"].any fun x => x == e.kind) = false) (h0 : 0 ≤ c) (h1 : c ≤ (stopAt es : Int)) : c < (stopAt es : Int) := by
  rcases Int.lt_or_eq_of_le h1 with q | q
  · exact q
  · exfalso
    have e1 : c.toNat = stopAt es := by omega
    obtain ⟨hl, he⟩ := List.getElem?_eq_some_iff.mp h
    have h2 := List.findIdx_getElem (p := isStop) (xs := es) (w := by rw [e1] at hl; exact hl)
    have h3 := stop_test ht
    simp only [e1] at he
    rw [← he] at h3
    exact absurd (h3.symm.trans h2) (by simp)
end
section -- PQ1
open PySem PySem.W PyProof.Rows PySem.Calls PySem.Spec
set_option maxHeartbeats 1000000
structure Pre (l1 J : List Int) : Prop where
  same : ∀ i : Int, 0 ≤ i → i < l1.length → codeAt J i = codeAt l1 i
  mark : codeAt J l1.length = 10
  len : (l1.length : Int) < J.length
theorem set_PQ1_0 : True := by
  k_with_none
  trivial
theorem pq_out {cs : List Int} {i : Int} (h : (cs.length : Int) ≤ i) : codeAt cs i = -1 := by unfold codeAt; rw [if_pos h]
section
variable {l1 J : List Int} (P : Pre l1 J)
include P
/-- two looks: the same code, or the end of the first text against the new line -/
theorem Pre.look {i : Int} (h0 : 0 ≤ i) (h1 : i ≤ l1.length) : (i < l1.length ∧ codeAt J i = codeAt l1 i) ∨ (i = l1.length ∧ codeAt l1 i = -1 ∧ codeAt J i = 10) := by
  rcases Int.lt_or_eq_of_le h1 with q | q
  · exact .inl ⟨q, P.same i h0 q⟩
  · exact .inr ⟨q, pq_out (by omega), q ▸ P.mark⟩
theorem Pre.row (i : Int) (h0 : 0 ≤ i) (h1 : i ≤ l1.length) : skipRow J i = skipRow l1 i ∧ skipRow l1 i ≤ l1.length := by
  fun_induction skipRow l1 i with
  | case1 i h =>
    refine ⟨?_, h1⟩
    rw [skipRow, if_pos]
    rcases P.look h0 h1 with ⟨_, e⟩ | ⟨_, _, e⟩
    · rw [e]; exact h
    · exact .inr e
  | case2 i h ih =>
    rcases P.look h0 h1 with ⟨q, e⟩ | ⟨_, e, _⟩
    · have := ih (by omega) (by omega)
      rw [skipRow, if_neg (by rw [e]; exact h)]
      exact this
    · exact absurd (.inl e) h
theorem Pre.remark (i : Int) (h0 : 0 ≤ i) (h : (skipRemark l1 i).2 = true) : skipRemark J i = skipRemark l1 i ∧ (skipRemark l1 i).1 ≤ l1.length := by
  fun_induction skipRemark l1 i with
  | case1 i hc => cases h
  | case2 i hc hs =>
    have h1 := codeAt_lt hc
    have h2 := codeAt_lt (cs := l1) (i := i + 1) (by omega)
    refine ⟨?_, by dsimp only; omega⟩
    rw [skipRemark, if_neg (by rw [P.same i h0 h1]; exact hc), if_pos (by rw [P.same i h0 h1, P.same (i + 1) (by omega) h2]; exact hs)]
  | case3 i hc hs ih =>
    have h1 := codeAt_lt hc
    have := ih (by omega) h
    rw [skipRemark, if_neg (by rw [P.same i h0 h1]; exact hc), if_neg]
    · exact this
    · rw [P.same i h0 h1]
      rcases P.look (i := i + 1) (by omega) (by omega) with ⟨_, e⟩ | ⟨_, _, e⟩
      · rw [e]; exact hs
      · rw [e]; omega
theorem Pre.layout_step {i : Int} (h0 : 0 ≤ i) (h1 : i < l1.length) (hn : isLayout (codeAt l1 i) ≠ true) (h37 : codeAt l1 i ≠ 37) (h47 : ¬ (codeAt l1 i = 47 ∧ codeAt l1 (i + 1) = 42)) : skipLayout J i = (i, none) := by
  rw [skipLayout, if_neg (by rw [P.same i h0 h1]; exact hn), if_neg (by rw [P.same i h0 h1]; exact h37), if_neg]
  rw [P.same i h0 h1]
  rcases P.look (i := i + 1) (by omega) (by omega) with ⟨_, e⟩ | ⟨_, _, e⟩
  · rw [e]; exact h47
  · rw [e]; omega
theorem Pre.layout (i : Int) (h0 : 0 ≤ i) (h1 : i ≤ l1.length) (h : (skipLayout l1 i).2 = none) :
    (skipLayout l1 i).1 ≤ l1.length ∧ skipLayout J i = skipLayout J (skipLayout l1 i).1 ∧ ((skipLayout l1 i).1 < l1.length → skipLayout J i = skipLayout l1 i) := by
  fun_induction skipLayout l1 i with
  | case1 i hl ih =>
    have hi := codeAt_lt (cs := l1) (i := i) (fun q => by rw [q] at hl; exact absurd hl (by decide))
    have := ih (by omega) (by omega) h
    rw [show skipLayout J i = skipLayout J (i + 1) from by rw [skipLayout, if_pos (by rw [P.same i h0 hi]; exact hl)]]
    exact this
  | case2 i hl h37 ih =>
    have hi := codeAt_lt (cs := l1) (i := i) (by omega)
    have hr := P.row i h0 h1
    have hg := skipRow_ge l1 i
    have := ih (by omega) hr.2 h
    rw [show skipLayout J i = skipLayout J (skipRow l1 i) from by rw [skipLayout, if_neg (by rw [P.same i h0 hi]; exact hl), if_pos (by rw [P.same i h0 hi]; exact h37), hr.1]]
    exact this
  | case3 i hl h37 h47 hr ih =>
    have hi := codeAt_lt (cs := l1) (i := i) (by omega)
    have hi2 := codeAt_lt (cs := l1) (i := i + 1) (by omega)
    have hq := P.remark (i + 2) (by omega) hr
    have hg := skipRemark_ge l1 (i + 2)
    have := ih (by omega) hq.2 h
    rw [show skipLayout J i = skipLayout J (skipRemark l1 (i + 2)).1 from by
      rw [skipLayout, if_neg (by rw [P.same i h0 hi]; exact hl), if_neg (by rw [P.same i h0 hi]; exact h37), if_pos (by rw [P.same i h0 hi, P.same (i + 1) (by omega) hi2]; exact h47), if_pos (by rw [hq.1]; exact hr), hq.1]]
    exact this
  | case4 i hl h37 h47 hr => cases h
  | case5 i hl h37 h47 =>
    exact ⟨h1, rfl, fun q => P.layout_step h0 q hl h37 h47⟩
end
end
section -- PQ2
open PySem PySem.W PyProof.Rows PySem.Calls PySem.Spec
set_option maxHeartbeats 1000000
theorem set_PQ2_0 : True := by
  k_with_none
  trivial
theorem dv_10 : digitValue 10 = -1 := by decide
theorem dv_m1 : digitValue (-1) = -1 := by decide
theorem se_m1 : simpleEscape (-1) = -1 := by decide +kernel
theorem se_10 : simpleEscape 10 = -1 := by decide +kernel
theorem alnum_10 : isAlnum 10 = false := by decide
theorem symbol_10 : isSymbol 10 = false := by decide +kernel
section
variable {l1 J : List Int} (P : Pre l1 J)
include P
theorem Pre.scan {p : Int → Bool} (hp : p 10 = false) (i : Int) (h0 : 0 ≤ i) (h1 : i ≤ l1.length) : scanEnd p J i = scanEnd p l1 i ∧ scanEnd p l1 i ≤ l1.length := by
  fun_induction scanEnd p l1 i with
  | case1 i h ih =>
    have := ih (by omega) (by omega)
    rw [scanEnd, if_pos ⟨by have := P.len; omega, by rw [P.same i h0 h.1]; exact h.2⟩]
    exact this
  | case2 i h =>
    refine ⟨?_, h1⟩
    rw [scanEnd, if_neg]
    rcases P.look h0 h1 with ⟨q, e⟩ | ⟨_, _, e⟩
    · rw [e]; exact fun x => h ⟨q, x.2⟩
    · rw [e, hp]; exact fun x => absurd x.2 (by simp)
theorem Pre.digits (base i v : Int) (h0 : 0 ≤ i) (h1 : i ≤ l1.length) : digitsGo J base i v = digitsGo l1 base i v ∧ (digitsGo l1 base i v).1 ≤ l1.length := by
  fun_induction digitsGo l1 base i v with
  | case1 i v h =>
    refine ⟨?_, h1⟩
    rw [digitsGo, if_pos]
    rcases P.look h0 h1 with ⟨_, e⟩ | ⟨_, _, e⟩
    · rw [e]; exact h
    · rw [e, dv_10]; exact .inl (by decide)
  | case2 i v h ih =>
    have hi : i < l1.length := codeAt_lt (fun e => h (.inl (by rw [e, dv_m1]; decide)))
    have := ih (by omega) (by omega)
    rw [digitsGo, if_neg (by rw [P.same i h0 hi]; exact h), P.same i h0 hi]
    exact this
theorem Pre.escg (base i v : Int) (h0 : 0 ≤ i) (h1 : i ≤ l1.length) : escGo J base i v = escGo l1 base i v ∧ (escGo l1 base i v).1 ≤ l1.length := by
  fun_induction escGo l1 base i v with
  | case1 i v h =>
    refine ⟨?_, h1⟩
    rw [escGo, if_pos]
    rcases P.look h0 h1 with ⟨_, e⟩ | ⟨_, _, e⟩
    · rw [e]; exact h
    · rw [e, dv_10]; exact .inl (by decide)
  | case2 i v h ih =>
    have hi : i < l1.length := codeAt_lt (fun e => h (.inl (by rw [e, dv_m1]; decide)))
    have := ih (by omega) (by omega)
    rw [escGo, if_neg (by rw [P.same i h0 hi]; exact h), P.same i h0 hi]
    exact this
theorem Pre.esct {i st : Int} {r : Int × Int} (h0 : 0 ≤ r.1) (h : 0 ≤ (escTail l1 i st r).2) : escTail J i st r = escTail l1 i st r ∧ (escTail l1 i st r).1 ≤ l1.length := by
  unfold escTail at h ⊢
  split at h
  · exact absurd h (by dsimp only; omega)
  · rename_i q
    have hr : r.1 < l1.length := codeAt_lt (by omega)
    rw [if_neg (by rw [P.same r.1 h0 hr]; exact q), if_neg q]
    exact ⟨rfl, by dsimp only; omega⟩
theorem Pre.escape (i : Int) (h0 : 0 ≤ i) (h1 : i < l1.length) (h : 0 ≤ (escape l1 i).2) : escape J i = escape l1 i ∧ (escape l1 i).1 ≤ l1.length := by
  unfold Mine.escape at h ⊢
  rcases P.look (i := i + 1) (by omega) (by omega) with ⟨q, e⟩ | ⟨q, e1, e2⟩
  · rw [e]
    split at h
    · rename_i hs
      rw [if_pos hs, if_pos hs]
      exact ⟨rfl, by dsimp only; omega⟩
    · rename_i hs
      rw [if_neg hs, if_neg hs]
      split at h
      · rename_i hx
        rw [if_pos hx, if_pos hx]
        have hg := P.escg 16 (i + 1 + 1) 0 (by omega) (by omega)
        rw [hg.1]
        exact P.esct (by have := escGo_ge l1 16 (i + 1 + 1) 0; omega) h
      · rename_i hx
        rw [if_neg hx, if_neg hx]
        have hg := P.escg 8 (i + 1) 0 (by omega) (by omega)
        rw [hg.1]
        exact P.esct (by have := escGo_ge l1 8 (i + 1) 0; omega) h
  · exfalso
    rw [e1, if_neg (by rw [se_m1]; decide), if_neg (by decide)] at h
    have e9 : escGo l1 8 (i + 1) 0 = (i + 1, 0) := by rw [escGo, if_pos (by rw [e1, dv_m1]; exact .inl (by decide))]
    rw [e9, escTail, if_pos (.inl rfl)] at h
    exact absurd h (by dsimp only; omega)
theorem Pre.quoted (q b i : Int) (acc : List Int) {l : List Int} (hq : 0 ≤ q) (hq10 : q ≠ 10) (h0 : 0 ≤ i) (h1 : i ≤ l1.length) (h : (quotedGo l1 q b i acc).2 = .ok l) :
    quotedGo J q b i acc = quotedGo l1 q b i acc ∧ (quotedGo l1 q b i acc).1 ≤ l1.length := by
  fun_induction quotedGo l1 q b i acc with
  | case1 i acc hneg => omega
  | case2 i acc hneg hc hc2 ih =>
    have hi : i < l1.length := codeAt_lt (by omega)
    have hi2 : i + 1 < l1.length := codeAt_lt (by omega)
    have := ih (by omega) (by omega) h
    rw [quotedGo, if_neg hneg, if_pos (by rw [P.same i h0 hi]; exact hc), if_pos (by rw [P.same _ (by omega) hi2]; exact hc2)]
    exact this
  | case3 i acc hneg hc hc2 =>
    have hi : i < l1.length := codeAt_lt (by omega)
    refine ⟨?_, by dsimp only; omega⟩
    rw [quotedGo, if_neg hneg, if_pos (by rw [P.same i h0 hi]; exact hc), if_neg]
    rcases P.look (i := i + 1) (by omega) (by omega) with ⟨_, e⟩ | ⟨_, _, e⟩
    · rw [e]; exact hc2
    · rw [e]; exact Ne.symm hq10
  | case4 => cases h
  | case5 i acc hneg hc hend hbs ih =>
    have hi : i < l1.length := codeAt_lt (by omega)
    have hi2 : i + 1 < l1.length := codeAt_lt (by omega)
    have := ih (by omega) (by omega) h
    rw [quotedGo, if_neg hneg, if_neg (by rw [P.same i h0 hi]; exact hc), if_neg (by rw [P.same i h0 hi]; exact hend), if_pos (by rw [P.same i h0 hi, P.same _ (by omega) hi2]; exact hbs)]
    exact this
  | case6 => cases h
  | case7 i acc hneg hc hend hbs hb hneg2 ih =>
    have hi : i < l1.length := codeAt_lt (by omega)
    have hE := P.escape i h0 hi (by omega)
    have hg := escape_ge l1 i
    have := ih (by omega) hE.2 h
    rw [quotedGo, if_neg hneg, if_neg (by rw [P.same i h0 hi]; exact hc), if_neg (by rw [P.same i h0 hi]; exact hend), if_neg, if_pos (by rw [P.same i h0 hi]; exact hb), if_neg (by rw [hE.1]; exact hneg2), hE.1]
    · exact this
    · rw [P.same i h0 hi]
      rcases P.look (i := i + 1) (by omega) (by omega) with ⟨_, e⟩ | ⟨hl, e1, e⟩
      · rw [e]; exact hbs
      · exfalso
        have e9 : ¬ (Mine.escape l1 i).2 < 0 := hneg2
        unfold Mine.escape at e9
        rw [e1, if_neg (by rw [se_m1]; decide), if_neg (by decide)] at e9
        have e8 : escGo l1 8 (i + 1) 0 = (i + 1, 0) := by rw [escGo, if_pos (by rw [e1, dv_m1]; exact .inl (by decide))]
        rw [e8, escTail, if_pos (.inl rfl)] at e9
        exact e9 (by dsimp only; omega)
  | case8 i acc hneg hc hend hbs hb hqt ih =>
    have hi : i < l1.length := codeAt_lt (by omega)
    have := ih (by omega) (by omega) h
    rw [quotedGo, if_neg hneg, if_neg (by rw [P.same i h0 hi]; exact hc), if_neg (by rw [P.same i h0 hi]; exact hend), if_neg (by rw [P.same i h0 hi]; omega), if_neg (by rw [P.same i h0 hi]; exact hb), if_pos (by rw [P.same i h0 hi]; exact hqt), P.same i h0 hi]
    exact this
  | case9 => cases h
end
end
section -- PQ3
open PySem PySem.W PyProof.Rows PySem.Calls PySem.Spec
set_option maxHeartbeats 1000000
theorem set_PQ3_0 : True := by
  k_with_none
  trivial
theorem quotable_10 : isQuotable 10 = false := by decide
theorem quotable_m1 : isQuotable (-1) = false := by decide
theorem base_10 : numeralBase 10 = 0 := by decide
theorem base_m1 : numeralBase (-1) = 0 := by decide
theorem digit_10 : isDigit 10 = false := by decide
theorem digit_m1' : isDigit (-1) = false := by decide
noncomputable def NR.good : NR → Bool | .ok _ => true | _ => false
section
variable {l1 J : List Int} (P : Pre l1 J)
include P
theorem Pre.character (j : Int) (h0 : 0 ≤ j) (hj : j + 1 < l1.length) (h : (Mine.character l1 j).2.good = true) : Mine.character J j = Mine.character l1 j ∧ (Mine.character l1 j).1 ≤ l1.length := by
  unfold Mine.character at h ⊢
  rcases P.look (i := j + 2) (by omega) (by omega) with ⟨q, e⟩ | ⟨q, e1, e2⟩
  · rw [e]
    split at h
    · rename_i hb
      simp only [if_pos hb]
      split at h
      · cases h
      · rename_i hn
        have hE := P.escape (j + 2) (by omega) q (by omega)
        rw [if_neg (by rw [hE.1]; exact hn), if_neg hn, hE.1]
        exact ⟨rfl, hE.2⟩
    · rename_i hb
      simp only [if_neg hb]
      split at h
      · rename_i hq
        simp only [if_pos hq]
        split at h
        · rename_i hq2
          have h3 : j + 3 < l1.length := codeAt_lt (by omega)
          rw [if_pos (by rw [P.same _ (by omega) h3]; exact hq2), if_pos hq2]
          exact ⟨rfl, by dsimp only; omega⟩
        · cases h
      · rename_i hq
        simp only [if_neg hq]
        split at h
        · rename_i hz
          simp only [if_pos hz]
          exact ⟨trivial, by omega⟩
        · cases h
  · exfalso
    rw [e1, if_neg (by decide), if_neg (by decide), if_neg (by rw [quotable_m1]; simp)] at h
    cases h
theorem Pre.numeral (j : Int) (h0 : 0 ≤ j) (hj : j < l1.length) (h : (Mine.numeral l1 j).2.good = true) : Mine.numeral J j = Mine.numeral l1 j ∧ (Mine.numeral l1 j).1 ≤ l1.length := by
  have ej := P.same j h0 hj
  have hd := P.digits 10 j 0 h0 (by omega)
  have hdg := digitsGo_ge l1 10 j 0
  have tail : ∀ (h : ((if codeAt l1 (digitsGo l1 10 j 0).1 = 46 ∧ isDigit (codeAt l1 ((digitsGo l1 10 j 0).1 + 1)) = true then ((digitsGo l1 10 ((digitsGo l1 10 j 0).1 + 1) 0).1, NR.bad "bad_number" j)
      else ((digitsGo l1 10 j 0).1, NR.ok (digitsGo l1 10 j 0).2)) : Int × NR).2.good = true),
      ((if codeAt J (digitsGo l1 10 j 0).1 = 46 ∧ isDigit (codeAt J ((digitsGo l1 10 j 0).1 + 1)) = true then ((digitsGo J 10 ((digitsGo l1 10 j 0).1 + 1) 0).1, NR.bad "bad_number" j)
        else ((digitsGo l1 10 j 0).1, NR.ok (digitsGo l1 10 j 0).2)) : Int × NR) =
      (if codeAt l1 (digitsGo l1 10 j 0).1 = 46 ∧ isDigit (codeAt l1 ((digitsGo l1 10 j 0).1 + 1)) = true then ((digitsGo l1 10 ((digitsGo l1 10 j 0).1 + 1) 0).1, NR.bad "bad_number" j)
        else ((digitsGo l1 10 j 0).1, NR.ok (digitsGo l1 10 j 0).2)) ∧
      ((if codeAt l1 (digitsGo l1 10 j 0).1 = 46 ∧ isDigit (codeAt l1 ((digitsGo l1 10 j 0).1 + 1)) = true then ((digitsGo l1 10 ((digitsGo l1 10 j 0).1 + 1) 0).1, NR.bad "bad_number" j)
        else ((digitsGo l1 10 j 0).1, NR.ok (digitsGo l1 10 j 0).2)) : Int × NR).1 ≤ l1.length := by
    intro h
    split at h
    · cases h
    · rename_i hn
      rw [if_neg hn, if_neg]
      · exact ⟨rfl, hd.2⟩
      · intro hx
        rcases P.look (i := (digitsGo l1 10 j 0).1) (by omega) hd.2 with ⟨q, e⟩ | ⟨_, _, e⟩
        · rcases P.look (i := (digitsGo l1 10 j 0).1 + 1) (by omega) (by omega) with ⟨_, e2⟩ | ⟨_, _, e2⟩
          · rw [e, e2] at hx; exact hn hx
          · rw [e2, digit_10] at hx; exact absurd hx.2 (by simp)
        · rw [e] at hx; exact absurd hx.1 (by decide)
  unfold Mine.numeral at h ⊢
  rw [ej, hd.1]
  rcases P.look (i := j + 1) (by omega) (by omega) with ⟨q, e⟩ | ⟨q, e1, e2⟩
  · rw [e]
    by_cases hc : codeAt l1 j = 48 ∧ codeAt l1 (j + 1) = 39
    · simp only [if_pos hc] at h ⊢
      exact P.character j h0 q h
    · simp only [if_neg hc] at h ⊢
      rcases P.look (i := j + 2) (by omega) (by omega) with ⟨q2, e3⟩ | ⟨q2, e3, e4⟩
      · rw [e3]
        by_cases hb : codeAt l1 j = 48 ∧ 0 ≤ digitValue (codeAt l1 (j + 2)) ∧ digitValue (codeAt l1 (j + 2)) < numeralBase (codeAt l1 (j + 1))
        · have hg := P.digits (numeralBase (codeAt l1 (j + 1))) (j + 2) 0 (by omega) (by omega)
          simp only [if_pos hb, hg.1]
          exact ⟨trivial, hg.2⟩
        · simp only [if_neg hb] at h ⊢
          exact tail h
      · rw [e4, dv_10]
        rw [e3, dv_m1] at h ⊢
        have hz : ¬ (codeAt l1 j = 48 ∧ (0 : Int) ≤ -1 ∧ (-1 : Int) < numeralBase (codeAt l1 (j + 1))) := by omega
        simp only [if_neg hz] at h ⊢
        exact tail h
  · rw [e2, base_10]
    rw [e1, base_m1] at h ⊢
    have z1 : ¬ (codeAt l1 j = 48 ∧ (-1 : Int) = 39) := by omega
    have z2 : ¬ (codeAt l1 j = 48 ∧ (10 : Int) = 39) := by omega
    have z3 : ¬ (codeAt l1 j = 48 ∧ 0 ≤ digitValue (codeAt l1 (j + 2)) ∧ digitValue (codeAt l1 (j + 2)) < 0) := by omega
    have z4 : ¬ (codeAt l1 j = 48 ∧ 0 ≤ digitValue (codeAt J (j + 2)) ∧ digitValue (codeAt J (j + 2)) < 0) := by omega
    simp only [if_neg z1, if_neg z2, if_neg z3, if_neg z4] at h ⊢
    exact tail h
theorem Pre.slice (i e : Int) (h0 : 0 ≤ i) (he : e ≤ l1.length) (hs : ∀ k : Nat, k < l1.length → J[k]? = l1[k]?) : sliceC J i e = sliceC l1 i e := by
  unfold sliceC
  have hl := P.len
  rw [show min e.toNat J.length = e.toNat by omega, show min e.toNat l1.length = e.toNat by omega]
  apply List.ext_getElem?
  intro k
  rw [List.getElem?_take, List.getElem?_take, List.getElem?_drop, List.getElem?_drop]
  split
  · exact hs _ (by omega)
  · rfl
theorem Pre.ends (i : Int) (h0 : 0 ≤ i) (h1 : i ≤ l1.length) : endsAt J i = endsAt l1 i := by
  unfold endsAt
  rcases P.look h0 h1 with ⟨_, e⟩ | ⟨_, e1, e2⟩
  · rw [e]
  · rw [e1, e2]; decide
theorem Pre.sym (i : Int) (h0 : 0 ≤ i) (h1 : i < l1.length) (hs : ∀ k : Nat, k < l1.length → J[k]? = l1[k]?) : symRes J i = symRes l1 i ∧ (symRes l1 i).1 ≤ l1.length := by
  have hc := P.scan symbol_10 i h0 (by omega)
  unfold symRes
  rw [P.same i h0 h1, P.ends (i + 1) (by omega) (by omega), hc.1, P.slice i _ h0 hc.2 hs]
  refine ⟨rfl, ?_⟩
  split
  · dsimp only; omega
  · exact hc.2
noncomputable def NX.good : NX → Bool | .tok _ _ _ => true | _ => false
theorem nr_good {r : NR} {a : Int} (h : (nrTok r a).good = true) : r.good = true := by cases r; rfl; exact h
theorem qr_good {kind : Str} {t : Bool} {r : QR} {a : Int} (h : (qrTok kind t r a).good = true) : ∃ l, r = .ok l := by cases r; exact ⟨_, rfl⟩; exact absurd h (by simp [qrTok, NX.good])
theorem Pre.next (o b a : Int) (h0 : 0 ≤ a) (h1 : a < l1.length) (hs : ∀ k : Nat, k < l1.length → J[k]? = l1[k]?) (h : (nextAt l1 o b a).2.good = true) : nextAt J o b a = nextAt l1 o b a ∧ (nextAt l1 o b a).1 ≤ l1.length := by
  have hw := P.scan alnum_10 a h0 (by omega)
  have hq : ∀ (q : Int) (kind : Str) (t : Bool), 0 ≤ q → q ≠ 10 → (qrTok kind t (quotedGo l1 q a (a + 1) []).2 a).good = true → quotedGo J q a (a + 1) [] = quotedGo l1 q a (a + 1) [] ∧ (quotedGo l1 q a (a + 1) []).1 ≤ l1.length := fun q kind t hq0 hq1 hg => by
    obtain ⟨l, hl⟩ := qr_good P hg
    exact P.quoted q a (a + 1) [] hq0 hq1 (by omega) (by omega) hl
  have zJ : ¬ (J.length : Int) ≤ a := by have := P.len; omega
  have zl : ¬ (l1.length : Int) ≤ a := by omega
  unfold nextAt at h ⊢
  rw [P.same a h0 h1, hw.1, P.slice a _ h0 hw.2 hs]
  simp only [if_neg zJ, if_neg zl] at h ⊢
  by_cases c1 : codeAt l1 a = 40
  · simp only [if_pos c1]; exact ⟨trivial, by omega⟩
  simp only [if_neg c1] at h ⊢
  by_cases c2 : isSmall (codeAt l1 a) = true
  · simp only [if_pos c2]; exact ⟨trivial, hw.2⟩
  simp only [if_neg c2] at h ⊢
  by_cases c3 : isCapital (codeAt l1 a) = true ∨ codeAt l1 a = 95
  · simp only [if_pos c3]; exact ⟨trivial, hw.2⟩
  simp only [if_neg c3] at h ⊢
  by_cases c4 : isDigit (codeAt l1 a) = true
  · simp only [if_pos c4] at h ⊢
    have hn := P.numeral a h0 h1 (nr_good P h)
    rw [hn.1]; exact ⟨rfl, hn.2⟩
  simp only [if_neg c4] at h ⊢
  by_cases c5 : codeAt l1 a = 39
  · simp only [if_pos c5] at h ⊢
    have hn := hq 39 "qname" true (by decide) (by decide) h
    rw [hn.1]; exact ⟨rfl, hn.2⟩
  simp only [if_neg c5] at h ⊢
  by_cases c6 : codeAt l1 a = 34
  · simp only [if_pos c6] at h ⊢
    have hn := hq 34 "string" false (by decide) (by decide) h
    rw [hn.1]; exact ⟨rfl, hn.2⟩
  simp only [if_neg c6] at h ⊢
  by_cases c7 : codeAt l1 a = 96
  · simp only [if_pos c7] at h ⊢
    have hn := hq 96 "back" false (by decide) (by decide) h
    rw [hn.1]; exact ⟨rfl, hn.2⟩
  simp only [if_neg c7] at h ⊢
  by_cases c8 : isSymbol (codeAt l1 a) = true
  · simp only [if_pos c8] at h ⊢
    have hn := P.sym a h0 h1 hs
    rw [hn.1]; exact ⟨rfl, hn.2⟩
  simp only [if_neg c8] at h ⊢
  refine ⟨trivial, ?_⟩
  split
  · dsimp only; omega
  · split
    · dsimp only; omega
    · dsimp only; omega
end
end
section -- PQ4
open PySem PySem.W PyProof.Rows PySem.Calls PySem.Spec
set_option maxHeartbeats 1000000
structure Shf (d : Int) (l J : List Int) : Prop where
  code : ∀ i : Int, 0 ≤ i → codeAt J (i + d) = codeAt l i
  len : (J.length : Int) = l.length + d
  d0 : 0 ≤ d
  get : ∀ k : Nat, J[k + d.toNat]? = l[k]?
theorem set_PQ4_0 : True := by
  k_with_none
  trivial
noncomputable def NR.sh (d : Int) : NR → NR | .ok v => .ok v | .bad k a => .bad k (a + d)
noncomputable def QR.sh (d : Int) : QR → QR | .ok v => .ok v | .bad k a => .bad k (a + d)
noncomputable def NX.sh (d : Int) : NX → NX | .tok k v a => .tok k v (a + d) | .bad k a => .bad k (a + d)
section
variable {d : Int} {l J : List Int} (S : Shf d l J)
include S
theorem Shf.code' {i j : Int} (h : 0 ≤ i) (e : j = i + d) : codeAt J j = codeAt l i := by rw [e]; exact S.code i h
theorem Shf.row (i : Int) (h0 : 0 ≤ i) : skipRow J (i + d) = skipRow l i + d := by
  fun_induction skipRow l i with
  | case1 i h => rw [skipRow, if_pos (by rw [S.code i h0]; exact h)]
  | case2 i h ih => rw [skipRow, if_neg (by rw [S.code i h0]; exact h), show i + d + 1 = i + 1 + d by omega]; exact ih (by omega)
theorem Shf.remark (i : Int) (h0 : 0 ≤ i) : skipRemark J (i + d) = ((skipRemark l i).1 + d, (skipRemark l i).2) := by
  fun_induction skipRemark l i with
  | case1 i hc => rw [skipRemark, if_pos (by rw [S.code i h0]; exact hc)]
  | case2 i hc hs => rw [skipRemark, if_neg (by rw [S.code i h0]; exact hc), if_pos (by rw [S.code i h0, S.code' (i := i + 1) (by omega) (by omega)]; exact hs)]; exact Prod.ext (by dsimp only; omega) rfl
  | case3 i hc hs ih => rw [skipRemark, if_neg (by rw [S.code i h0]; exact hc), if_neg (by rw [S.code i h0, S.code' (i := i + 1) (by omega) (by omega)]; exact hs), show i + d + 1 = i + 1 + d by omega]; exact ih (by omega)
theorem Shf.layout (i : Int) (h0 : 0 ≤ i) : skipLayout J (i + d) = ((skipLayout l i).1 + d, (skipLayout l i).2.map (· + d)) := by
  fun_induction skipLayout l i with
  | case1 i hl ih => rw [skipLayout, if_pos (by rw [S.code i h0]; exact hl), show i + d + 1 = i + 1 + d by omega]; exact ih (by omega)
  | case2 i hl h37 ih =>
    have := skipRow_ge l i
    rw [skipLayout, if_neg (by rw [S.code i h0]; exact hl), if_pos (by rw [S.code i h0]; exact h37), S.row i h0]; exact ih (by omega)
  | case3 i hl h37 h47 hr ih =>
    have := skipRemark_ge l (i + 2)
    have hR := S.remark (i + 2) (by omega)
    rw [skipLayout, if_neg (by rw [S.code i h0]; exact hl), if_neg (by rw [S.code i h0]; exact h37), if_pos (by rw [S.code i h0, S.code' (i := i + 1) (by omega) (by omega)]; exact h47), show i + d + 2 = i + 2 + d by omega, hR, if_pos hr]
    exact ih (by omega)
  | case4 i hl h37 h47 hr =>
    have hR := S.remark (i + 2) (by omega)
    rw [skipLayout, if_neg (by rw [S.code i h0]; exact hl), if_neg (by rw [S.code i h0]; exact h37), if_pos (by rw [S.code i h0, S.code' (i := i + 1) (by omega) (by omega)]; exact h47), show i + d + 2 = i + 2 + d by omega, hR, if_neg hr]
    rfl
  | case5 i hl h37 h47 =>
    rw [skipLayout, if_neg (by rw [S.code i h0]; exact hl), if_neg (by rw [S.code i h0]; exact h37), if_neg (by rw [S.code i h0, S.code' (i := i + 1) (by omega) (by omega)]; exact h47)]
    rfl
theorem Shf.scan (p : Int → Bool) (i : Int) (h0 : 0 ≤ i) : scanEnd p J (i + d) = scanEnd p l i + d := by
  have hl := S.len
  fun_induction scanEnd p l i with
  | case1 i h ih => rw [scanEnd, if_pos ⟨by omega, by rw [S.code i h0]; exact h.2⟩, show i + d + 1 = i + 1 + d by omega]; exact ih (by omega)
  | case2 i h => rw [scanEnd, if_neg (fun x => h ⟨by omega, by rw [← S.code i h0]; exact x.2⟩)]
theorem Shf.digits (base i v : Int) (h0 : 0 ≤ i) : digitsGo J base (i + d) v = ((digitsGo l base i v).1 + d, (digitsGo l base i v).2) := by
  fun_induction digitsGo l base i v with
  | case1 i v h => rw [digitsGo, if_pos (by rw [S.code i h0]; exact h)]
  | case2 i v h ih => rw [digitsGo, if_neg (by rw [S.code i h0]; exact h), S.code i h0, show i + d + 1 = i + 1 + d by omega]; exact ih (by omega)
theorem Shf.escg (base i v : Int) (h0 : 0 ≤ i) : escGo J base (i + d) v = ((escGo l base i v).1 + d, (escGo l base i v).2) := by
  fun_induction escGo l base i v with
  | case1 i v h => rw [escGo, if_pos (by rw [S.code i h0]; exact h)]
  | case2 i v h ih => rw [escGo, if_neg (by rw [S.code i h0]; exact h), S.code i h0, show i + d + 1 = i + 1 + d by omega]; exact ih (by omega)
theorem Shf.esct (i st : Int) (r : Int × Int) (h0 : 0 ≤ r.1) : escTail J (i + d) (st + d) (r.1 + d, r.2) = ((escTail l i st r).1 + d, (escTail l i st r).2) := by
  unfold escTail
  dsimp only
  rw [S.code r.1 h0]
  by_cases h : r.1 = st ∨ r.2 > 1114111 ∨ codeAt l r.1 ≠ 92
  · rw [if_pos h, if_pos (by omega)]
  · rw [if_neg h, if_neg (by omega)]; exact Prod.ext (by dsimp only; omega) rfl
theorem Shf.escape (i : Int) (h0 : 0 ≤ i) : Mine.escape J (i + d) = ((Mine.escape l i).1 + d, (Mine.escape l i).2) := by
  unfold Mine.escape
  rw [S.code' (i := i + 1) (by omega) (by omega)]
  have e1 : i + d + 1 = i + 1 + d := by omega
  have e2 : i + d + 1 + 1 = i + 1 + 1 + d := by omega
  rw [e2, e1, S.escg 16 (i + 1 + 1) 0 (by omega), S.escg 8 (i + 1) 0 (by omega), S.esct i (i + 1 + 1) _ (by have := escGo_ge l 16 (i + 1 + 1) 0; omega), S.esct i (i + 1) _ (by have := escGo_ge l 8 (i + 1) 0; omega)]
  by_cases h1 : 0 ≤ simpleEscape (codeAt l (i + 1))
  · simp only [if_pos h1]
  · simp only [if_neg h1]
    by_cases h2 : codeAt l (i + 1) = 120
    · simp only [if_pos h2]
    · simp only [if_neg h2]
theorem Shf.abandon (q i : Int) (h0 : 0 ≤ i) : Mine.abandon J q (i + d) = Mine.abandon l q i + d := by
  fun_induction Mine.abandon l q i with
  | case1 i h => rw [Mine.abandon, if_pos (by rw [S.code i h0]; exact h)]
  | case2 i h h2 ih => rw [Mine.abandon, if_neg (by rw [S.code i h0]; exact h), if_pos (by rw [S.code i h0, S.code' (i := i + 1) (by omega) (by omega)]; exact h2), show i + d + 2 = i + 2 + d by omega]; exact ih (by omega)
  | case3 i h h2 h3 ih => rw [Mine.abandon, if_neg (by rw [S.code i h0]; exact h), if_neg (by rw [S.code i h0, S.code' (i := i + 1) (by omega) (by omega)]; exact h2), if_pos (by rw [S.code i h0, S.code' (i := i + 1) (by omega) (by omega)]; exact h3), show i + d + 2 = i + 2 + d by omega]; exact ih (by omega)
  | case4 i h h2 h3 h4 => rw [Mine.abandon, if_neg (by rw [S.code i h0]; exact h), if_neg (by rw [S.code i h0, S.code' (i := i + 1) (by omega) (by omega)]; exact h2), if_neg (by rw [S.code i h0, S.code' (i := i + 1) (by omega) (by omega)]; exact h3), if_pos (by rw [S.code i h0]; exact h4)]; omega
  | case5 i h h2 h3 h4 ih => rw [Mine.abandon, if_neg (by rw [S.code i h0]; exact h), if_neg (by rw [S.code i h0, S.code' (i := i + 1) (by omega) (by omega)]; exact h2), if_neg (by rw [S.code i h0, S.code' (i := i + 1) (by omega) (by omega)]; exact h3), if_neg (by rw [S.code i h0]; exact h4), show i + d + 1 = i + 1 + d by omega]; exact ih (by omega)
theorem Shf.quoted (q b i : Int) (acc : List Int) (h0 : 0 ≤ i) : quotedGo J q (b + d) (i + d) acc = ((quotedGo l q b i acc).1 + d, (quotedGo l q b i acc).2.sh d) := by
  have c1 : ∀ i : Int, 0 ≤ i → codeAt J (i + d + 1) = codeAt l (i + 1) := fun i h => S.code' (i := i + 1) (by omega) (by omega)
  have a1 : ∀ i : Int, i + d + 1 = i + 1 + d := fun i => by omega
  have a2 : ∀ i : Int, i + d + 2 = i + 2 + d := fun i => by omega
  fun_induction quotedGo l q b i acc with
  | case1 i acc hneg => rw [quotedGo, if_pos hneg]; rfl
  | case2 i acc hneg hc hc2 ih => rw [quotedGo, if_neg hneg, S.code i h0, if_pos hc, c1 i h0, if_pos hc2, a2]; exact ih (by omega)
  | case3 i acc hneg hc hc2 => rw [quotedGo, if_neg hneg, S.code i h0, if_pos hc, c1 i h0, if_neg hc2, a1]; rfl
  | case4 i acc hneg hc he => rw [quotedGo, if_neg hneg, S.code i h0, if_neg hc, if_pos he]; rfl
  | case5 i acc hneg hc he hbs ih => rw [quotedGo, if_neg hneg, S.code i h0, if_neg hc, if_neg he, c1 i h0, if_pos hbs, a2]; exact ih (by omega)
  | case6 i acc hneg hc he hbs hb hv => rw [quotedGo, if_neg hneg, S.code i h0, if_neg hc, if_neg he, c1 i h0, if_neg hbs, if_pos hb, S.escape i h0, if_pos hv, S.abandon q _ (by have := escape_ge l i; omega)]; rfl
  | case7 i acc hneg hc he hbs hb hv ih =>
    have hg := escape_ge l i
    rw [quotedGo, if_neg hneg, S.code i h0, if_neg hc, if_neg he, c1 i h0, if_neg hbs, if_pos hb, S.escape i h0, if_neg hv]; exact ih (by omega)
  | case8 i acc hneg hc he hbs hb hq ih => rw [quotedGo, if_neg hneg, S.code i h0, if_neg hc, if_neg he, c1 i h0, if_neg hbs, if_neg hb, if_pos hq, a1]; exact ih (by omega)
  | case9 i acc hneg hc he hbs hb hq => rw [quotedGo, if_neg hneg, S.code i h0, if_neg hc, if_neg he, c1 i h0, if_neg hbs, if_neg hb, if_neg hq, S.abandon q i h0]; rfl
theorem Shf.character (j : Int) (h0 : 0 ≤ j) : Mine.character J (j + d) = ((Mine.character l j).1 + d, (Mine.character l j).2.sh d) := by
  unfold Mine.character
  rw [S.code' (i := j + 2) (by omega) (by omega), S.code' (i := j + 3) (by omega) (by omega), show j + d + 2 = j + 2 + d by omega, show j + d + 3 = j + 3 + d by omega, show j + d + 4 = j + 4 + d by omega, S.escape (j + 2) (by omega)]
  dsimp only
  (repeat' split) <;> rfl
theorem Shf.numeral (j : Int) (h0 : 0 ≤ j) : Mine.numeral J (j + d) = ((Mine.numeral l j).1 + d, (Mine.numeral l j).2.sh d) := by
  have hg := digitsGo_ge l 10 j 0
  unfold Mine.numeral
  rw [S.code j h0, S.code' (i := j + 1) (by omega) (by omega), S.code' (i := j + 2) (by omega) (by omega), S.digits 10 j 0 h0, show j + d + 2 = j + 2 + d by omega, S.digits _ (j + 2) 0 (by omega), S.character j h0]
  dsimp only
  rw [S.code _ (by omega), S.code' (i := (digitsGo l 10 j 0).1 + 1) (by omega) (by omega), show (digitsGo l 10 j 0).1 + d + 1 = (digitsGo l 10 j 0).1 + 1 + d by omega, S.digits 10 _ 0 (by omega)]
  (repeat' split) <;> rfl
theorem Shf.slice (i e : Int) (h0 : 0 ≤ i) (he : 0 ≤ e) : sliceC J (i + d) (e + d) = sliceC l i e := by
  have hl := S.len
  have hd := S.d0
  unfold sliceC
  rw [slice_sh hd h0 he hl]
  apply List.ext_getElem?
  intro k
  rw [List.getElem?_take, List.getElem?_take, List.getElem?_drop, List.getElem?_drop]
  split
  · rw [Int.toNat_add h0 hd, Nat.add_right_comm]; exact S.get _
  · rfl
theorem Shf.ends (i : Int) (h0 : 0 ≤ i) : endsAt J (i + d) = endsAt l i := by unfold endsAt; rw [S.code i h0]
theorem Shf.sym (i : Int) (h0 : 0 ≤ i) : symRes J (i + d) = ((symRes l i).1 + d, (symRes l i).2) := by
  have hg := scanEnd_ge isSymbol l i
  unfold symRes
  rw [S.code i h0, show i + d + 1 = i + 1 + d by omega, S.ends (i + 1) (by omega), S.scan isSymbol i h0, S.slice i _ h0 (by omega)]
  split <;> rfl
theorem nr_sh (r : NR) (a : Int) : nrTok (r.sh d) (a + d) = (nrTok r a).sh d := by cases r <;> rfl
theorem qr_sh (k : Str) (t : Bool) (r : QR) (a : Int) : qrTok k t (r.sh d) (a + d) = (qrTok k t r a).sh d := by cases r <;> rfl
theorem Shf.next (o o' b b' a : Int) (h0 : 0 ≤ a) (ho : (a + d > b' ∨ a + d = o') ↔ (a > b ∨ a = o)) : nextAt J o' b' (a + d) = ((nextAt l o b a).1 + d, (nextAt l o b a).2.sh d) := by
  have hl := S.len
  have hg := scanEnd_ge isAlnum l a
  unfold nextAt
  rw [S.code a h0, show a + d + 1 = a + 1 + d by omega, S.scan isAlnum a h0, S.slice a _ h0 (by omega), S.numeral a h0, S.quoted 39 a (a + 1) [] (by omega), S.quoted 34 a (a + 1) [] (by omega), S.quoted 96 a (a + 1) [] (by omega), S.sym a h0]
  dsimp only
  rw [nr_sh S, qr_sh S, qr_sh S, qr_sh S]
  by_cases c0 : (l.length : Int) ≤ a
  · rw [if_pos (by omega), if_pos c0]; rfl
  rw [if_neg (by omega), if_neg c0]
  by_cases c1 : codeAt l a = 40
  · rw [if_pos c1, if_pos c1]
    by_cases c2 : a > b ∨ a = o
    · rw [if_pos c2, if_pos (ho.mpr c2)]; rfl
    · rw [if_neg c2, if_neg (fun x => c2 (ho.mp x))]; rfl
  rw [if_neg c1, if_neg c1]
  (repeat' split) <;> rfl
end
end
section -- PQ5
open PySem PySem.W PyProof.Rows PySem.Calls PySem.Spec
set_option maxHeartbeats 1000000
/-! places -/
theorem set_PQ5_0 : True := by
  k_with_none
  trivial
theorem place_pre {l1 J : List Int} (hl : l1.length ≤ J.length) (hs : ∀ k : Nat, k < l1.length → J[k]? = l1[k]?) (a : Int) (ha : a ≤ l1.length) (r c i : Int) (h0 : 0 ≤ i) : placeGo J a r c i = placeGo l1 a r c i := by
  have gd : ∀ i : Int, 0 ≤ i → i < l1.length → J.getD i.toNat 0 = l1.getD i.toNat 0 := fun i h1 h2 => by
    rw [List.getD_eq_getElem?_getD, List.getD_eq_getElem?_getD, hs _ (by omega)]
  fun_induction placeGo l1 a r c i with
  | case1 r c i h hc ih => rw [placeGo, if_pos (by omega), if_pos (by rw [gd i h0 h.2]; exact hc)]; exact ih (by omega)
  | case2 r c i h hc ih => rw [placeGo, if_pos (by omega), if_neg (by rw [gd i h0 h.2]; exact hc)]; exact ih (by omega)
  | case3 r c i h => rw [placeGo, if_neg (by omega)]
theorem place_sh {d : Int} {l J : List Int} (S : Shf d l J) (a r c i R : Int) (h0 : 0 ≤ i) : placeGo J (a + d) (r + R) c (i + d) = ((placeGo l a r c i).1 + R, (placeGo l a r c i).2) := by
  have hl := S.len
  have hd := S.d0
  have gd : ∀ i : Int, 0 ≤ i → J.getD (i + d).toNat 0 = l.getD i.toNat 0 := fun i h1 => by
    rw [List.getD_eq_getElem?_getD, List.getD_eq_getElem?_getD, show (i + d).toNat = i.toNat + d.toNat by omega, S.get]
  fun_induction placeGo l a r c i with
  | case1 r c i h hc ih => rw [placeGo, if_pos (by omega), if_pos (by rw [gd i h0]; exact hc), show r + R + 1 = r + 1 + R by omega, show i + d + 1 = i + 1 + d by omega]; exact ih (by omega)
  | case2 r c i h hc ih => rw [placeGo, if_pos (by omega), if_neg (by rw [gd i h0]; exact hc), show i + d + 1 = i + 1 + d by omega]; exact ih (by omega)
  | case3 r c i h => rw [placeGo, if_neg (by omega)]
/-- the walk over the first text and the new line -/
theorem place_over (J : List Int) (a : Int) : ∀ (l : List Int) (r c : Int) (i : Nat) (rest : List Int), J.drop i = l ++ 10 :: rest → (i : Int) + l.length + 1 ≤ a →
    placeGo J a r c i = placeGo J a (r + (l.filter (fun c => decide (c = 10))).length + 1) 1 ((i : Int) + l.length + 1) := by
  intro l
  induction l with
  | nil =>
    intro r c i rest hd ha
    have hlen : i < J.length := by
      have := congrArg List.length hd
      simp at this; omega
    have hg : J.getD i 0 = 10 := by
      rw [List.getD_eq_getElem?_getD, ← List.head?_drop, hd]; rfl
    rw [placeGo, if_pos ⟨by simp at ha; omega, by omega⟩, if_pos (by simpa using hg)]
    simp
  | cons x l ih =>
    intro r c i rest hd ha
    have hlen : i < J.length := by
      have := congrArg List.length hd
      simp at this; omega
    have hg : J.getD i 0 = x := by
      rw [List.getD_eq_getElem?_getD, ← List.head?_drop, hd]; rfl
    have hd' : J.drop (i + 1) = l ++ 10 :: rest := by
      rw [← List.drop_drop, hd]; rfl
    rw [List.length_cons] at ha
    rw [placeGo, if_pos ⟨by push_cast at ha; omega, by omega⟩]
    by_cases hx : x = 10
    · rw [if_pos (by rw [Int.toNat_natCast, hg]; exact hx)]
      have := ih (r + 1) 1 (i + 1) rest hd' (by push_cast at ha ⊢; omega)
      rw [show ((i : Int) + 1) = ((i + 1 : Nat) : Int) by omega, this]
      simp only [List.filter_cons, hx, decide_true, if_true, List.length_cons]
      congr 1 <;> (push_cast; omega)
    · rw [if_neg (by rw [Int.toNat_natCast, hg]; exact hx)]
      have := ih r (c + 1) (i + 1) rest hd' (by push_cast at ha ⊢; omega)
      rw [show ((i : Int) + 1) = ((i + 1 : Nat) : Int) by omega, this]
      simp only [List.filter_cons, hx, decide_false, List.length_cons]
      congr 1 <;> (push_cast; first | omega | (simp; omega) | simp)
end
section -- PQ6
open PySem PySem.W PyProof.Rows PySem.Calls PySem.Spec
set_option maxHeartbeats 1000000
theorem set_PQ6_0 : True := by
  k_with_none
  trivial
noncomputable def NX.isEof : NX → Prop | .tok k _ _ => k = Str.ofString "eof" | _ => False
theorem tok_inj {k k' : Str} {v v' : TV} {a a' : Int} (h : NX.tok k v a = NX.tok k' v' a') : k = k' ∧ v = v' ∧ a = a' := by injection h with h1 h2 h3; exact ⟨h1, h2, h3⟩
theorem nr_tok {r : NR} {a x : Int} {k : Str} {v : TV} (h : nrTok r a = .tok k v x) : x = a ∧ k ≠ Str.ofString "eof" := by
  cases r with
  | ok => have := tok_inj h; exact ⟨this.2.2.symm, by rw [← this.1]; decide⟩
  | bad => cases h
theorem qr_tok {kd : Str} {t : Bool} {r : QR} {a x : Int} {k : Str} {v : TV} (hk : kd ≠ Str.ofString "eof") (h : qrTok kd t r a = .tok k v x) : x = a ∧ k ≠ Str.ofString "eof" := by
  cases r with
  | ok => have := tok_inj h; exact ⟨this.2.2.symm, by rw [← this.1]; exact hk⟩
  | bad => cases h
/-- what a token says of its place: it stands where the layout ends; the end alone is called eof -/
theorem nextAt_tok {cs : List Int} {o b a x : Int} {k : Str} {v : TV} (h : (nextAt cs o b a).2 = .tok k v x) : x = a ∧ (k = Str.ofString "eof" ↔ (cs.length : Int) ≤ a) := by
  unfold nextAt at h
  by_cases c0 : (cs.length : Int) ≤ a
  · rw [if_pos c0] at h; have := tok_inj h; exact ⟨this.2.2.symm, ⟨fun _ => c0, fun _ => this.1.symm⟩⟩
  have fin : ∀ {kd : Str} {vv : TV}, kd ≠ Str.ofString "eof" → NX.tok kd vv a = .tok k v x → x = a ∧ (k = Str.ofString "eof" ↔ (cs.length : Int) ≤ a) := fun hk e => by
    have := tok_inj e
    exact ⟨this.2.2.symm, ⟨fun q => absurd (this.1.trans q) hk, fun q => absurd q c0⟩⟩
  have fin2 : x = a ∧ k ≠ Str.ofString "eof" → x = a ∧ (k = Str.ofString "eof" ↔ (cs.length : Int) ≤ a) := fun e => ⟨e.1, ⟨fun q => absurd q e.2, fun q => absurd q c0⟩⟩
  rw [if_neg c0] at h
  by_cases c1 : codeAt cs a = 40
  · rw [if_pos c1] at h
    by_cases c2 : a > b ∨ a = o
    · rw [if_pos c2] at h; exact fin (by decide) h
    · rw [if_neg c2] at h; exact fin (by decide) h
  rw [if_neg c1] at h
  by_cases c2 : isSmall (codeAt cs a) = true
  · rw [if_pos c2] at h; exact fin (by decide) h
  rw [if_neg c2] at h
  by_cases c3 : isCapital (codeAt cs a) = true ∨ codeAt cs a = 95
  · rw [if_pos c3] at h; exact fin (by decide) h
  rw [if_neg c3] at h
  by_cases c4 : isDigit (codeAt cs a) = true
  · rw [if_pos c4] at h; exact fin2 (nr_tok h)
  rw [if_neg c4] at h
  by_cases c5 : codeAt cs a = 39
  · rw [if_pos c5] at h; exact fin2 (qr_tok (by decide) h)
  rw [if_neg c5] at h
  by_cases c6 : codeAt cs a = 34
  · rw [if_pos c6] at h; exact fin2 (qr_tok (by decide) h)
  rw [if_neg c6] at h
  by_cases c7 : codeAt cs a = 96
  · rw [if_pos c7] at h; exact fin2 (qr_tok (by decide) h)
  rw [if_neg c7] at h
  by_cases c8 : isSymbol (codeAt cs a) = true
  · rw [if_pos c8] at h
    refine fin (kd := (symRes cs a).2.1) ?_ h
    unfold symRes; split
    · exact (show Str.ofString "end" ≠ Str.ofString "eof" by decide)
    · exact (show Str.ofString "name" ≠ Str.ofString "eof" by decide)
  rw [if_neg c8] at h
  split at h
  · exact fin (by decide) h
  · split at h
    · exact fin (by decide) h
    · cases h
theorem scan_gt {p : Int → Bool} {cs : List Int} {a : Int} (h : a < cs.length) (hp : p (codeAt cs a) = true) : a + 1 ≤ scanEnd p cs a := by
  rw [scanEnd, if_pos ⟨h, hp⟩]; exact scanEnd_ge p cs (a + 1)
theorem alnum_small {c : Int} (h : isSmall c = true) : isAlnum c = true := by simp [isAlnum, h]
theorem alnum_cap {c : Int} (h : isCapital c = true ∨ c = 95) : isAlnum c = true := by rcases h with h | h <;> simp [isAlnum, h]
theorem dv_digit {c : Int} (h : isDigit c = true) : digitValue c = c - 48 ∧ 0 ≤ c - 48 ∧ c - 48 < 10 := by
  refine ⟨by simp [digitValue, h], ?_⟩
  simp [isDigit] at h; omega
theorem character_gt (cs : List Int) (j : Int) : j + 1 ≤ (character cs j).1 := by
  unfold character
  have := escape_ge cs (j + 2)
  (repeat' split) <;> (try dsimp only) <;> omega
theorem numeral_gt {cs : List Int} {j : Int} (h : isDigit (codeAt cs j) = true) : j + 1 ≤ (numeral cs j).1 := by
  have hd := dv_digit h
  have h3 : j + 1 ≤ (digitsGo cs 10 j 0).1 := by
    rw [digitsGo, if_neg (by rw [hd.1]; omega)]; exact digitsGo_ge _ _ _ _
  have h1 := character_gt cs j
  have h2 := digitsGo_ge cs (numeralBase (codeAt cs (j + 1))) (j + 2) 0
  have h4 := digitsGo_ge cs 10 ((digitsGo cs 10 j 0).1 + 1) 0
  unfold numeral
  (repeat' split) <;> (try dsimp only) <;> omega
theorem nextAt_gt {cs : List Int} {o b a : Int} (h : a < cs.length) : a + 1 ≤ (nextAt cs o b a).1 := by
  have h3 := quotedGo_ge cs 39 a (a + 1) []
  have h4 := quotedGo_ge cs 34 a (a + 1) []
  have h5 := quotedGo_ge cs 96 a (a + 1) []
  unfold nextAt
  rw [if_neg (by omega)]
  by_cases c1 : codeAt cs a = 40
  · rw [if_pos c1]; exact Int.le_refl _
  rw [if_neg c1]
  by_cases c2 : isSmall (codeAt cs a) = true
  · rw [if_pos c2]; exact scan_gt h (alnum_small c2)
  rw [if_neg c2]
  by_cases c3 : isCapital (codeAt cs a) = true ∨ codeAt cs a = 95
  · rw [if_pos c3]; exact scan_gt h (alnum_cap c3)
  rw [if_neg c3]
  by_cases c4 : isDigit (codeAt cs a) = true
  · rw [if_pos c4]; exact numeral_gt c4
  rw [if_neg c4]
  by_cases c5 : codeAt cs a = 39
  · rw [if_pos c5]; exact h3
  rw [if_neg c5]
  by_cases c6 : codeAt cs a = 34
  · rw [if_pos c6]; exact h4
  rw [if_neg c6]
  by_cases c7 : codeAt cs a = 96
  · rw [if_pos c7]; exact h5
  rw [if_neg c7]
  by_cases c8 : isSymbol (codeAt cs a) = true
  · rw [if_pos c8]
    unfold symRes
    split
    · exact Int.le_refl _
    · exact scan_gt h c8
  rw [if_neg c8]
  split
  · exact Int.le_refl _
  · split <;> exact Int.le_refl _
theorem skipLayout_fly {cs : List Int} {i j : Int} (h : (skipLayout cs i).2 = some j) : i + 1 ≤ (skipLayout cs i).1 ∧ i < cs.length := by
  fun_induction skipLayout cs i with
  | case1 i hl ih => have := ih h; have := layout_lt hl; omega
  | case2 i hl h37 ih => have := ih h; have h1 := codeAt_lt (cs := cs) (i := i) (by omega); have := skipRow_ge cs i; omega
  | case3 i hl h37 h47 hr ih => have := ih h; have h1 := codeAt_lt (cs := cs) (i := i) (by omega); have := skipRemark_ge cs (i + 2); omega
  | case4 i hl h37 h47 hr => have h1 := codeAt_lt (cs := cs) (i := i) (by omega); have := skipRemark_ge cs (i + 2); dsimp only; omega
  | case5 => cases h
/-- every call that does not give the end moves on -/
theorem nextT_gt {cs : List Int} {o i : Int} (h : ¬ (nextT cs o i).2.isEof) : i + 1 ≤ (nextT cs o i).1 ∧ i < cs.length := by
  unfold nextT at h ⊢
  have hg := skipLayout_ge cs i
  cases hs : (skipLayout cs i).2 with
  | some j => exact skipLayout_fly hs
  | none =>
    rw [hs] at h
    dsimp only at h ⊢
    have hl : (skipLayout cs i).1 < cs.length := by
      rcases Int.lt_or_le (skipLayout cs i).1 cs.length with q | q
      · exact q
      · exfalso; apply h; unfold nextAt; rw [if_pos q]; rfl
    have := nextAt_gt (o := o) (b := i) hl
    omega
end
section -- PQ7
open PySem PySem.W PyProof.Rows PySem.Calls PySem.Spec
set_option maxHeartbeats 1000000
theorem set_PQ7_0 : True := by
  k_with_none
  trivial
theorem evs_len' (cs : List Int) (n : Nat) (i : Int) : (evs cs n i).length ≤ n := by
  induction n generalizing i with
  | zero => exact Nat.le_refl _
  | succ n ih =>
    have := ih (nextT cs 0 i).1
    rw [evs]
    split
    · split
      · simp
      · simp; omega
    · simp; omega
/-- enough turns to come to the end -/
noncomputable def Enough (cs : List Int) (n : Nat) (i : Int) : Prop := (cs.length : Int) - i + 1 ≤ n ∧ 1 ≤ n
theorem Enough.next {cs : List Int} {n : Nat} {i : Int} (h : Enough cs (n + 1) i) (hn : ¬ (nextT cs 0 i).2.isEof) : Enough cs n (nextT cs 0 i).1 := by
  have := nextT_gt hn
  obtain ⟨h1, h2⟩ := h
  exact ⟨by omega, by omega⟩
theorem evs_enough {cs : List Int} {n m : Nat} {i : Int} (hn : Enough cs n i) (hm : Enough cs m i) : evs cs n i = evs cs m i := by
  induction n generalizing i m with
  | zero => exact absurd hn.2 (by omega)
  | succ n ih =>
    cases m with
    | zero => exact absurd hm.2 (by omega)
    | succ m =>
      cases hx : (nextT cs 0 i).2 with
      | tok k v a =>
        by_cases hk : k = Str.ofString "eof"
        · subst hk
          rw [evs_eof hx, evs_eof hx]
        · have he : ¬ (nextT cs 0 i).2.isEof := by rw [hx]; exact hk
          rw [evs_tok hx hk, evs_tok hx hk, ih (hn.next he) (hm.next he)]
      | bad k a =>
        have he : ¬ (nextT cs 0 i).2.isEof := by rw [hx]; exact id
        rw [evs_bad hx, evs_bad hx, ih (hn.next he) (hm.next he)]
theorem stop_eof {cs : List Int} {v : TV} {a : Int} : isStop (tokEv cs (Str.ofString "eof") v a) = true := by simp [isStop, tokEv]
theorem stop_fault {cs : List Int} {v : TV} {a : Int} : isStop (tokEv cs (Str.ofString "fault") v a) = true := by simp [isStop, tokEv]
theorem evs_hasStop {cs : List Int} {n : Nat} {i : Int} (hn : Enough cs n i) : ∃ e ∈ evs cs n i, isStop e = true := by
  induction n generalizing i with
  | zero => exact absurd hn.2 (by omega)
  | succ n ih =>
    cases hx : (nextT cs 0 i).2 with
    | tok k v a =>
      by_cases hk : k = Str.ofString "eof"
      · subst hk
        rw [evs_eof hx]
        exact ⟨_, List.mem_singleton.mpr rfl, stop_eof⟩
      · have he : ¬ (nextT cs 0 i).2.isEof := by rw [hx]; exact hk
        obtain ⟨e, h1, h2⟩ := ih (hn.next he)
        rw [evs_tok hx hk]
        exact ⟨e, List.mem_cons_of_mem _ h1, h2⟩
    | bad k a =>
      rw [evs_bad hx]
      exact ⟨_, List.mem_cons_self, stop_fault⟩
theorem enough_all (cs : List Int) : Enough cs (cs.length + 1) 0 := ⟨by omega, by omega⟩
section
variable {l1 J : List Int} (P : Pre l1 J) (hs : ∀ k : Nat, k < l1.length → J[k]? = l1[k]?)
include P hs
theorem Pre.nextT {i : Int} (h0 : 0 ≤ i) (h1 : i ≤ l1.length) {k : Str} {v : TV} {a : Int} (h : (Mine.nextT l1 0 i).2 = .tok k v a) (hk : k ≠ Str.ofString "eof") :
    Mine.nextT J 0 i = Mine.nextT l1 0 i ∧ (Mine.nextT l1 0 i).1 ≤ l1.length ∧ a ≤ l1.length := by
  have hg := skipLayout_ge l1 i
  unfold Mine.nextT at h ⊢
  cases hl : (skipLayout l1 i).2 with
  | some j => rw [hl] at h; cases h
  | none =>
    rw [hl] at h
    dsimp only at h ⊢
    have hL := P.layout i h0 h1 hl
    have ht := nextAt_tok h
    have ha : (skipLayout l1 i).1 < l1.length := by
      rcases Int.lt_or_le (skipLayout l1 i).1 l1.length with q | q
      · exact q
      · exact absurd (ht.2.mpr q) hk
    rw [hL.2.2 ha, hl]
    dsimp only
    have hN := P.next 0 i (skipLayout l1 i).1 (by omega) ha hs (by rw [h]; rfl)
    exact ⟨hN.1, hN.2, by rw [ht.1]; exact hL.1⟩
theorem Pre.atEof {i : Int} (h0 : 0 ≤ i) (h1 : i ≤ l1.length) {v : TV} {a : Int} (h : (Mine.nextT l1 0 i).2 = .tok (Str.ofString "eof") v a) : skipLayout J i = skipLayout J (l1.length + 1) := by
  unfold Mine.nextT at h
  cases hl : (skipLayout l1 i).2 with
  | some j => rw [hl] at h; cases h
  | none =>
    rw [hl] at h
    dsimp only at h
    have hL := P.layout i h0 h1 hl
    have ht := nextAt_tok h
    have he : (skipLayout l1 i).1 = l1.length := Int.le_antisymm hL.1 (ht.2.mp rfl)
    rw [hL.2.1, he, skipLayout, if_pos (by rw [P.mark]; decide)]
end
section
variable {d : Int} {l J : List Int} (S : Shf d l J) (hd : 1 ≤ d)
include S hd
theorem Shf.nextT {i i' : Int} (h0 : 0 ≤ i) (hl : skipLayout J i' = skipLayout J (i + d)) (ho : ∀ a : Int, i ≤ a → ((a + d > i' ∨ a + d = 0) ↔ (a > i ∨ a = 0))) :
    Mine.nextT J 0 i' = ((Mine.nextT l 0 i).1 + d, (Mine.nextT l 0 i).2.sh d) := by
  have hg := skipLayout_ge l i
  unfold Mine.nextT
  rw [hl, S.layout i h0]
  cases hx : (skipLayout l i).2 with
  | some j => rfl
  | none => exact S.next 0 0 i i' (skipLayout l i).1 (by omega) (ho _ hg)
end
end
section -- PQ8
open PySem PySem.W PyProof.Rows PySem.Calls PySem.Spec
set_option maxHeartbeats 1000000
theorem set_PQ8_0 : True := by
  k_with_none
  trivial
noncomputable def joinC (l1 l2 : List Int) : List Int := l1 ++ [10] ++ l2
theorem joinC_len (l1 l2 : List Int) : (joinC l1 l2).length = l1.length + 1 + l2.length := by simp [joinC]; omega
theorem joinC_left (l1 l2 : List Int) (k : Nat) (h : k < l1.length) : (joinC l1 l2)[k]? = l1[k]? := by
  unfold joinC; rw [List.append_assoc, List.getElem?_append_left h]
theorem joinC_mid (l1 l2 : List Int) : (joinC l1 l2)[l1.length]? = some 10 := by
  unfold joinC; rw [List.append_assoc, List.getElem?_append_right (Nat.le_refl _), Nat.sub_self]; rfl
theorem joinC_right (l1 l2 : List Int) (k : Nat) : (joinC l1 l2)[k + (l1.length + 1)]? = l2[k]? := by
  unfold joinC; rw [List.getElem?_append_right (by simp)]; congr 1; simp
theorem codeAt_eq {a b : List Int} {i j : Int} (h : a[i.toNat]? = b[j.toNat]?) (hi : (i ≥ a.length) ↔ (j ≥ b.length)) : codeAt a i = codeAt b j := by
  have e : a.getD i.toNat 0 = b.getD j.toNat 0 := by rw [List.getD_eq_getElem?_getD, List.getD_eq_getElem?_getD, h]
  unfold codeAt
  rw [e]
  by_cases q : i ≥ a.length
  · rw [if_pos q, if_pos (hi.mp q)]
  · rw [if_neg q, if_neg (fun x => q (hi.mpr x))]
theorem joinC_pre (l1 l2 : List Int) : Pre l1 (joinC l1 l2) where
  same i h0 h1 := codeAt_eq (joinC_left l1 l2 _ (by omega)) (by rw [joinC_len]; omega)
  mark := by
    unfold codeAt
    rw [if_neg (by rw [joinC_len]; omega), List.getD_eq_getElem?_getD, Int.toNat_natCast, joinC_mid]; rfl
  len := by rw [joinC_len]; omega
theorem joinC_shf (l1 l2 : List Int) : Shf ((l1.length : Int) + 1) l2 (joinC l1 l2) where
  code i h0 := codeAt_eq (by rw [show (i + ((l1.length : Int) + 1)).toNat = i.toNat + (l1.length + 1) by omega, joinC_right]) (by rw [joinC_len]; omega)
  len := by rw [joinC_len]; omega
  d0 := by omega
  get k := by rw [show ((l1.length : Int) + 1).toNat = l1.length + 1 by omega]; exact joinC_right l1 l2 k
noncomputable def cnt10 (l : List Int) : Int := ((l.filter (fun c => decide (c = 10))).length : Int)
theorem place_join (l1 l2 : List Int) {a : Int} (ha : 0 ≤ a) : place (joinC l1 l2) (a + ((l1.length : Int) + 1)) = ((place l2 a).1 + (cnt10 l1 + 1), (place l2 a).2) := by
  have h1 := place_over (joinC l1 l2) (a + ((l1.length : Int) + 1)) l1 1 1 0 l2 (by simp [joinC]) (by simp; omega)
  have h2 := place_sh (joinC_shf l1 l2) a 1 1 0 (cnt10 l1 + 1) (Int.le_refl 0)
  unfold place
  rw [show (0 : Int) = ((0 : Nat) : Int) from rfl, h1, show (1 : Int) + ((l1.filter (fun c => decide (c = 10))).length : Int) + 1 = 1 + (cnt10 l1 + 1) by unfold cnt10; omega,
    show ((0 : Nat) : Int) + (l1.length : Int) + 1 = 0 + ((l1.length : Int) + 1) by omega, h2]
  rfl
theorem place_left (l1 l2 : List Int) {a : Int} (ha : a ≤ l1.length) : place (joinC l1 l2) a = place l1 a :=
  place_pre (by rw [joinC_len]; omega) (joinC_left l1 l2) a ha 1 1 0 (Int.le_refl 0)
theorem character_bad {cs : List Int} {j x : Int} {k : Str} (h : (character cs j).2 = .bad k x) : j ≤ x := by
  unfold character at h
  (repeat' split at h) <;> first | (cases h; done) | (injection h with _ h; omega)
theorem numeral_bad {cs : List Int} {j x : Int} {k : Str} (h : (numeral cs j).2 = .bad k x) : j ≤ x := by
  unfold numeral at h
  split at h
  · exact character_bad h
  · (repeat' split at h) <;> first | (cases h; done) | (injection h with _ h; omega)
theorem quoted_bad {cs : List Int} {q b i x : Int} {acc : List Int} {k : Str} (hb : b ≤ i) (h : (quotedGo cs q b i acc).2 = .bad k x) : b ≤ x := by
  fun_induction quotedGo cs q b i acc with
  | case1 => cases h
  | case2 i acc h0 h1 h2 ih => exact ih (by omega) h
  | case3 => cases h
  | case4 => injection h with _ h; omega
  | case5 i acc h0 h1 h2 h3 ih => exact ih (by omega) h
  | case6 => injection h with _ h; omega
  | case7 i acc h0 h1 h2 h3 h4 h5 ih => exact ih (by have := escape_ge cs i; omega) h
  | case8 i acc h0 h1 h2 h3 h4 h5 ih => exact ih (by omega) h
  | case9 => injection h with _ h; omega
theorem nrTok_bad {r : NR} {a x : Int} {k : Str} (h : nrTok r a = .bad k x) : r = .bad k x := by
  cases r with
  | ok => cases h
  | bad k' x' => injection h with h1 h2; rw [h1, h2]
theorem qrTok_bad {kd : Str} {t : Bool} {r : QR} {a x : Int} {k : Str} (h : qrTok kd t r a = .bad k x) : r = .bad k x := by
  cases r with
  | ok => cases h
  | bad k' x' => injection h with h1 h2; rw [h1, h2]
theorem nextAt_bad {cs : List Int} {o b a x : Int} {k : Str} (h : (nextAt cs o b a).2 = .bad k x) : a ≤ x := by
  unfold nextAt at h
  by_cases c0 : (cs.length : Int) ≤ a
  · rw [if_pos c0] at h; cases h
  rw [if_neg c0] at h
  by_cases c1 : codeAt cs a = 40
  · rw [if_pos c1] at h; cases h
  rw [if_neg c1] at h
  by_cases c2 : isSmall (codeAt cs a) = true
  · rw [if_pos c2] at h; cases h
  rw [if_neg c2] at h
  by_cases c3 : isCapital (codeAt cs a) = true ∨ codeAt cs a = 95
  · rw [if_pos c3] at h; cases h
  rw [if_neg c3] at h
  by_cases c4 : isDigit (codeAt cs a) = true
  · rw [if_pos c4] at h; exact numeral_bad (nrTok_bad h)
  rw [if_neg c4] at h
  by_cases c5 : codeAt cs a = 39
  · rw [if_pos c5] at h; exact quoted_bad (by omega) (qrTok_bad h)
  rw [if_neg c5] at h
  by_cases c6 : codeAt cs a = 34
  · rw [if_pos c6] at h; exact quoted_bad (by omega) (qrTok_bad h)
  rw [if_neg c6] at h
  by_cases c7 : codeAt cs a = 96
  · rw [if_pos c7] at h; exact quoted_bad (by omega) (qrTok_bad h)
  rw [if_neg c7] at h
  by_cases c8 : isSymbol (codeAt cs a) = true
  · rw [if_pos c8] at h; cases h
  rw [if_neg c8] at h
  by_cases c9 : inStr ")[]{},|" (codeAt cs a) = true
  · rw [if_pos c9] at h; cases h
  rw [if_neg c9] at h
  by_cases ca : inStr "!;" (codeAt cs a) = true
  · rw [if_pos ca] at h; cases h
  rw [if_neg ca] at h
  injection h with _ h
  omega
theorem layout_at {cs : List Int} {i j : Int} (h : (skipLayout cs i).2 = some j) : i ≤ j := by
  fun_induction skipLayout cs i with
  | case1 i hl ih => have := ih h; omega
  | case2 i hl h37 ih => have := ih h; have := skipRow_ge cs i; omega
  | case3 i hl h37 h47 hr ih => have := ih h; have := skipRemark_ge cs (i + 2); omega
  | case4 i hl h37 h47 hr => injection h with h; omega
  | case5 => cases h
theorem nextT_bad {cs : List Int} {i a : Int} (h0 : 0 ≤ i) {k : Str} (h : (nextT cs 0 i).2 = .bad k a) : 0 ≤ a := by
  have hg := skipLayout_ge cs i
  unfold nextT at h
  cases hl : (skipLayout cs i).2 with
  | some j => rw [hl] at h; have := layout_at hl; injection h with _ h; omega
  | none =>
    rw [hl] at h
    have := nextAt_bad h
    omega
theorem nextT_at {cs : List Int} {i a : Int} (h0 : 0 ≤ i) {k : Str} {v : TV} (h : (nextT cs 0 i).2 = .tok k v a) : 0 ≤ a := by
  have hg := skipLayout_ge cs i
  unfold nextT at h
  cases hl : (skipLayout cs i).2 with
  | some j => rw [hl] at h; cases h
  | none =>
    rw [hl] at h
    have := (nextAt_tok h).1
    omega
theorem tokEv_join (l1 l2 : List Int) {a : Int} (ha : 0 ≤ a) (k : Str) (v : TV) : tokEv (joinC l1 l2) k v (a + ((l1.length : Int) + 1)) = shiftEv ((l1.length : Int) + 1) (cnt10 l1 + 1) (tokEv l2 k v a) := by
  unfold tokEv shiftEv
  rw [place_join l1 l2 ha]
theorem tokEv_left (l1 l2 : List Int) {a : Int} (ha : a ≤ l1.length) (k : Str) (v : TV) : tokEv (joinC l1 l2) k v a = tokEv l1 k v a := by
  unfold tokEv; rw [place_left l1 l2 ha]
theorem nx_sh_tok {d : Int} {x : NX} {k : Str} {v : TV} {a : Int} (h : x = .tok k v a) : x.sh d = .tok k v (a + d) := by rw [h]; rfl
theorem nx_sh_bad {d : Int} {x : NX} {k : Str} {a : Int} (h : x = .bad k a) : x.sh d = .bad k (a + d) := by rw [h]; rfl
/-- one step in the joined text against one in the second -/
theorem evs_step (l1 l2 : List Int) {n : Nat} {i i' : Int} (h0 : 0 ≤ i)
    (hT : nextT (joinC l1 l2) 0 i' = ((nextT l2 0 i).1 + ((l1.length : Int) + 1), (nextT l2 0 i).2.sh ((l1.length : Int) + 1)))
    (rest : ¬ (nextT l2 0 i).2.isEof → evs (joinC l1 l2) n ((nextT l2 0 i).1 + ((l1.length : Int) + 1)) = (evs l2 n (nextT l2 0 i).1).map (shiftEv ((l1.length : Int) + 1) (cnt10 l1 + 1))) :
    evs (joinC l1 l2) (n + 1) i' = (evs l2 (n + 1) i).map (shiftEv ((l1.length : Int) + 1) (cnt10 l1 + 1)) := by
  cases hx : (nextT l2 0 i).2 with
  | tok k v a =>
    have ha := nextT_at h0 hx
    have hy : (nextT (joinC l1 l2) 0 i').2 = .tok k v (a + ((l1.length : Int) + 1)) := by rw [hT]; exact nx_sh_tok hx
    by_cases hk : k = Str.ofString "eof"
    · subst hk
      rw [evs_eof hx, evs_eof hy, tokEv_join l1 l2 ha]; rfl
    · have he : ¬ (nextT l2 0 i).2.isEof := by rw [hx]; exact hk
      rw [evs_tok hx hk, evs_tok hy hk, tokEv_join l1 l2 ha, hT]
      dsimp only
      rw [rest he]; rfl
  | bad k a =>
    have ha := nextT_bad h0 hx
    have hy : (nextT (joinC l1 l2) 0 i').2 = .bad k (a + ((l1.length : Int) + 1)) := by rw [hT]; exact nx_sh_bad hx
    have he : ¬ (nextT l2 0 i).2.isEof := by rw [hx]; exact id
    rw [evs_bad hx, evs_bad hy, tokEv_join l1 l2 ha, hT]
    dsimp only
    rw [rest he]; rfl
theorem evs_later (l1 l2 : List Int) (n : Nat) (i : Int) (h1 : 1 ≤ i) : evs (joinC l1 l2) n (i + ((l1.length : Int) + 1)) = (evs l2 n i).map (shiftEv ((l1.length : Int) + 1) (cnt10 l1 + 1)) := by
  induction n generalizing i with
  | zero => rfl
  | succ n ih =>
    refine evs_step l1 l2 (by omega) ((joinC_shf l1 l2).nextT (by omega) (by omega) rfl fun a ha => by omega) fun he => ?_
    have := nextT_gt he
    exact ih _ (by omega)
theorem evs_first (l1 l2 : List Int) (n : Nat) {i : Int} (h0 : 0 ≤ i) (hi : i ≤ l1.length) {v : TV} {a : Int} (h : (nextT l1 0 i).2 = .tok (Str.ofString "eof") v a) :
    evs (joinC l1 l2) (n + 1) i = (evs l2 (n + 1) 0).map (shiftEv ((l1.length : Int) + 1) (cnt10 l1 + 1)) := by
  refine evs_step l1 l2 (Int.le_refl 0) ((joinC_shf l1 l2).nextT (by omega) (Int.le_refl 0) ?_ fun a ha => by omega) fun he => ?_
  · rw [(joinC_pre l1 l2).atEof (joinC_left l1 l2) h0 hi h, Int.zero_add]
  · have := nextT_gt he
    exact evs_later l1 l2 n _ (by omega)
theorem stopAt_stop {e : Ev} {es : List Ev} (h : isStop e = true) : stopAt (e :: es) = 0 := by simp [stopAt, List.findIdx_cons, h]
theorem stopAt_go {e : Ev} {es : List Ev} (h : isStop e = false) : stopAt (e :: es) = stopAt es + 1 := by simp [stopAt, List.findIdx_cons, h]
theorem evs_main (l1 l2 : List Int) : ∀ (n m : Nat) (i : Int), 0 ≤ i → i ≤ l1.length → Enough l1 n i → Enough (joinC l1 l2) m i →
    (evs (joinC l1 l2) m i).take (stopAt (evs l1 n i)) = (evs l1 n i).take (stopAt (evs l1 n i)) ∧
    ∀ e, (evs l1 n i)[stopAt (evs l1 n i)]? = some e → e.kind ≠ Str.ofString "fault" → (evs (joinC l1 l2) m i).drop (stopAt (evs l1 n i)) = (evsOf l2).map (shiftEv ((l1.length : Int) + 1) (cnt10 l1 + 1)) := by
  intro n
  induction n with
  | zero => intro m i _ _ hn _; exact absurd hn.2 (by omega)
  | succ n ih =>
    intro m i h0 h1 hn hm
    obtain ⟨m, rfl⟩ : ∃ m', m = m' + 1 := ⟨m - 1, by have := hm.2; omega⟩
    cases hx : (nextT l1 0 i).2 with
    | tok k v a =>
      by_cases hk : k = Str.ofString "eof"
      · subst hk
        rw [evs_eof hx, stopAt_stop stop_eof]
        refine ⟨by rw [List.take_zero, List.take_zero], fun e _ _ => ?_⟩
        rw [List.drop_zero, evs_first l1 l2 m h0 h1 hx]
        congr 1
        refine evs_enough ?_ (enough_all l2)
        have := hm.1
        rw [joinC_len] at this
        exact ⟨by omega, by omega⟩
      · have hN := (joinC_pre l1 l2).nextT (joinC_left l1 l2) h0 h1 hx hk
        have he : ¬ (nextT l1 0 i).2.isEof := by rw [hx]; exact hk
        have heJ : ¬ (nextT (joinC l1 l2) 0 i).2.isEof := by rw [hN.1]; exact he
        have hg := nextT_gt he
        have hxJ : (nextT (joinC l1 l2) 0 i).2 = .tok k v a := by rw [hN.1]; exact hx
        rw [evs_tok hx hk, evs_tok hxJ hk, tokEv_left l1 l2 hN.2.2]
        cases hst : isStop (tokEv l1 k v a) with
        | true =>
          rw [stopAt_stop hst]
          refine ⟨by rw [List.take_zero, List.take_zero], fun e h hf => ?_⟩
          exfalso
          simp only [List.getElem?_cons_zero, Option.some.injEq] at h
          rw [← h] at hf
          have : k = Str.ofString "fault" ∨ k = Str.ofString "eof" := by simpa [isStop, tokEv] using hst
          rcases this with q | q
          · exact hf q
          · exact hk q
        | false =>
          rw [stopAt_go hst]
          have hI := ih m (nextT l1 0 i).1 (by omega) hN.2.1 (hn.next he) (by have := hm.next heJ; rw [hN.1] at this; exact this)
          rw [hN.1]
          refine ⟨by rw [List.take_succ_cons, List.take_succ_cons, hI.1], fun e h hf => ?_⟩
          rw [List.drop_succ_cons]
          exact hI.2 e (by simpa using h) hf
    | bad k a =>
      rw [evs_bad hx, stopAt_stop stop_fault]
      refine ⟨by rw [List.take_zero, List.take_zero], fun e h hf => ?_⟩
      exfalso
      simp only [List.getElem?_cons_zero, Option.some.injEq] at h
      rw [← h] at hf
      exact hf rfl
theorem evs_stop (cs : List Int) : stopAt (evsOf cs) < (evsOf cs).length := List.findIdx_lt_length_of_exists (evs_hasStop (enough_all cs))
theorem evs_len (cs : List Int) : (evsOf cs).length ≤ cs.length + 1 := evs_len' cs _ 0
theorem enough_join (l1 l2 : List Int) : Enough (joinC l1 l2) ((joinC l1 l2).length + 1) 0 := enough_all _
theorem evs_take (l1 l2 : List Int) : (evsOf (l1 ++ [10] ++ l2)).take (stopAt (evsOf l1)) = (evsOf l1).take (stopAt (evsOf l1)) :=
  (evs_main l1 l2 (l1.length + 1) ((joinC l1 l2).length + 1) 0 (Int.le_refl 0) (by omega) (enough_all l1) (enough_all _)).1
theorem evs_drop {l1 l2 : List Int} {e : Ev} (h : (evsOf l1)[stopAt (evsOf l1)]? = some e) (hk : e.kind ≠ Str.ofString "fault") :
    (evsOf (l1 ++ [10] ++ l2)).drop (stopAt (evsOf l1)) = (evsOf l2).map (shiftEv ((l1.length : Int) + 1) (((l1.filter (fun c => decide (c = 10))).length : Int) + 1)) :=
  (evs_main l1 l2 (l1.length + 1) ((joinC l1 l2).length + 1) 0 (Int.le_refl 0) (by omega) (enough_all l1) (enough_all _)).2 e h hk
end
section -- PQ9
open PySem PySem.W PyProof.Rows PySem.Calls PySem.Spec
set_option maxHeartbeats 1000000
theorem set_PQ9_0 : True := by
  k_with_none
  trivial
theorem ok_append {a b : Str} (ha : PyData.strOk a = true) (hb : PyData.strOk b = true) : PyData.strOk (a ++ b) = true := by
  unfold PyData.strOk at *
  rw [Str.cps_append, Array.all_append, ha, hb]; rfl
theorem ok_chr1 {c : Int} (h : c ≤ 1114111) : PyData.strOk (chr1 c) = true := by
  unfold PyData.strOk chr1
  simp; omega
theorem ok_empty : PyData.strOk (Str.ofString "") = true := by decide +kernel
theorem ok_fold {sep : Str} (hs : PyData.strOk sep = true) (rest : List Str) (acc : Array Nat) (ha : acc.all (· < 0x110000) = true) (h : ∀ z ∈ rest, PyData.strOk z = true) :
    (rest.foldl (fun acc p => acc ++ sep.cps ++ p.cps) acc).all (· < 0x110000) = true := by
  induction rest generalizing acc with
  | nil => exact ha
  | cons x rest ih =>
    rw [List.foldl_cons]
    refine ih _ ?_ fun z hz => h z (List.mem_cons_of_mem _ hz)
    have hx := h x List.mem_cons_self
    unfold PyData.strOk at hx hs
    rw [Array.all_append, Array.all_append, ha, hs, hx]; rfl
theorem ok_glued {sep : Str} (hs : PyData.strOk sep = true) {parts : List Str} (h : ∀ z ∈ parts, PyData.strOk z = true) : PyData.strOk (Builtin.Str.glued sep parts) = true := by
  cases parts with
  | nil => exact ok_empty
  | cons x rest =>
    have hx := h x List.mem_cons_self
    exact ok_fold hs rest x.cps hx fun z hz => h z (List.mem_cons_of_mem _ hz)
theorem ok_codes {l : List Int} (h : ∀ c ∈ l, c ≤ 1114111) : PyData.strOk (codesText l) = true :=
  ok_glued ok_empty fun z hz => by
    obtain ⟨c, hc, rfl⟩ := List.mem_map.mp hz
    exact ok_chr1 (h c hc)
theorem scan_le {p : Int → Bool} (hp : ∀ c, p c = true → 0 ≤ c) {cs : List Int} {i : Int} (h0 : 0 ≤ i) : ∀ c ∈ sliceC cs i (scanEnd p cs i), c ≤ 1114111 := by
  intro c hc
  obtain ⟨k, hk, rfl⟩ := List.mem_iff_getElem.mp hc
  exact (scan_rng0 hp h0 rfl _ hc).2
noncomputable def kindOk : NX → Prop
  | .tok k v _ => PyData.strOk k = true ∧ (match v with | .str z => PyData.strOk z = true | _ => True)
  | .bad k _ => PyData.strOk k = true
theorem character_k {cs : List Int} {j x : Int} {k : Str} (h : (character cs j).2 = .bad k x) : PyData.strOk k = true := by
  unfold character at h
  (repeat' split at h) <;> first | (cases h; done) | (injection h with h _; rw [← h]; decide +kernel)
theorem numeral_k {cs : List Int} {j x : Int} {k : Str} (h : (numeral cs j).2 = .bad k x) : PyData.strOk k = true := by
  unfold numeral at h
  split at h
  · exact character_k h
  · (repeat' split at h) <;> first | (cases h; done) | (injection h with h _; rw [← h]; decide +kernel)
theorem quoted_k {cs : List Int} {q b i x : Int} {acc : List Int} {k : Str} (h : (quotedGo cs q b i acc).2 = .bad k x) : PyData.strOk k = true := by
  fun_induction quotedGo cs q b i acc with
  | case1 => cases h
  | case2 i acc h0 h1 h2 ih => exact ih h
  | case3 => cases h
  | case4 => injection h with h _; rw [← h]; decide +kernel
  | case5 i acc h0 h1 h2 h3 ih => exact ih h
  | case6 => injection h with h _; rw [← h]; decide +kernel
  | case7 i acc h0 h1 h2 h3 h4 h5 ih => exact ih h
  | case8 i acc h0 h1 h2 h3 h4 h5 ih => exact ih h
  | case9 => injection h with h _; rw [← h]; decide +kernel
theorem nrTok_k {r : NR} {a : Int} (h : ∀ k x, r = .bad k x → PyData.strOk k = true) : kindOk (nrTok r a) := by
  cases r with
  | ok => exact ⟨by decide +kernel, trivial⟩
  | bad k x => exact h k x rfl
theorem qrTok_k {kd : Str} {t : Bool} {r : QR} {a : Int} (hk : PyData.strOk kd = true) (ho : ∀ l, t = true → r = .ok l → ∀ c ∈ l, c ≤ 1114111) (h : ∀ k x, r = .bad k x → PyData.strOk k = true) : kindOk (qrTok kd t r a) := by
  cases r with
  | ok l =>
    cases t with
    | true => exact ⟨hk, ok_codes (ho l rfl rfl)⟩
    | false => exact ⟨hk, trivial⟩
  | bad k x => exact h k x rfl
theorem nextAt_k {cs : List Int} {o b a : Int} (h0 : 0 ≤ a) : kindOk (nextAt cs o b a).2 := by
  have hm : PyData.strOk (chr1 (maxZ (codeAt cs a))) = true := ok_chr1 (by have := codeAt_le cs a; unfold maxZ; split <;> omega)
  unfold nextAt
  by_cases c0 : (cs.length : Int) ≤ a
  · rw [if_pos c0]; exact ⟨by decide +kernel, ok_empty⟩
  rw [if_neg c0]
  by_cases c1 : codeAt cs a = 40
  · rw [if_pos c1]
    by_cases c2 : a > b ∨ a = o
    · rw [if_pos c2]; exact ⟨by decide +kernel, (by decide +kernel : PyData.strOk (Str.ofString "(") = true)⟩
    · rw [if_neg c2]; exact ⟨by decide +kernel, (by decide +kernel : PyData.strOk (Str.ofString "(") = true)⟩
  rw [if_neg c1]
  by_cases c2 : isSmall (codeAt cs a) = true
  · rw [if_pos c2]; exact ⟨by decide +kernel, ok_codes (scan_le alnum_nn h0)⟩
  rw [if_neg c2]
  by_cases c3 : isCapital (codeAt cs a) = true ∨ codeAt cs a = 95
  · rw [if_pos c3]; exact ⟨by decide +kernel, ok_codes (scan_le alnum_nn h0)⟩
  rw [if_neg c3]
  by_cases c4 : isDigit (codeAt cs a) = true
  · rw [if_pos c4]; exact nrTok_k fun k x h => numeral_k h
  rw [if_neg c4]
  by_cases c5 : codeAt cs a = 39
  · rw [if_pos c5]; exact qrTok_k (by decide +kernel) (fun l _ h c hc => (quoted_rng39 h c hc).2) fun k x h => quoted_k h
  rw [if_neg c5]
  by_cases c6 : codeAt cs a = 34
  · rw [if_pos c6]; exact qrTok_k (by decide +kernel) (fun l h => by cases h) fun k x h => quoted_k h
  rw [if_neg c6]
  by_cases c7 : codeAt cs a = 96
  · rw [if_pos c7]; exact qrTok_k (by decide +kernel) (fun l h => by cases h) fun k x h => quoted_k h
  rw [if_neg c7]
  by_cases c8 : isSymbol (codeAt cs a) = true
  · rw [if_pos c8]
    unfold symRes
    by_cases c9 : codeAt cs a = 46 ∧ endsAt cs (a + 1) = true
    · rw [if_pos c9]; exact ⟨(by decide +kernel : PyData.strOk (Str.ofString "end") = true), (by decide +kernel : PyData.strOk (Str.ofString ".") = true)⟩
    · rw [if_neg c9]; exact ⟨(by decide +kernel : PyData.strOk (Str.ofString "name") = true), ok_codes (scan_le symbol_nn h0)⟩
  rw [if_neg c8]
  by_cases c9 : inStr ")[]{},|" (codeAt cs a) = true
  · rw [if_pos c9]; exact ⟨by decide +kernel, hm⟩
  rw [if_neg c9]
  by_cases ca : inStr "!;" (codeAt cs a) = true
  · rw [if_pos ca]; exact ⟨by decide +kernel, hm⟩
  rw [if_neg ca]
  exact (by decide +kernel : PyData.strOk (Str.ofString "undefined_char") = true)
theorem nextT_k {cs : List Int} {i : Int} (h0 : 0 ≤ i) : kindOk (nextT cs 0 i).2 := by
  have hg := skipLayout_ge cs i
  unfold nextT
  cases hl : (skipLayout cs i).2 with
  | some j => exact (by decide +kernel : PyData.strOk (Str.ofString "unfinished_remark") = true)
  | none => exact nextAt_k (by omega)
theorem evs_okGo (cs : List Int) (n : Nat) (i : Int) (h0 : 0 ≤ i) : ∀ e ∈ evs cs n i, evOk e = true := by
  induction n generalizing i with
  | zero => intro e he; exact absurd he List.not_mem_nil
  | succ n ih =>
    have hr := ih (nextT cs 0 i).1 (nextT_nn h0)
    have hk := nextT_k (cs := cs) h0
    have one : ∀ {k : Str} {v : TV} {a : Int}, PyData.strOk k = true → (match v with | .str z => PyData.strOk z = true | _ => True) → evOk (tokEv cs k v a) = true := fun {k v a} h1 h2 => by
      unfold evOk tokEv
      dsimp only
      rw [h1]
      cases v with
      | str z => exact h2
      | int _ => rfl
      | tup _ => rfl
    cases hx : (nextT cs 0 i).2 with
    | tok k v a =>
      rw [hx] at hk
      by_cases he : k = Str.ofString "eof"
      · rw [he] at hx hk
        rw [evs_eof hx]
        intro e h
        rw [List.mem_singleton.mp h]
        exact one hk.1 hk.2
      · rw [evs_tok hx he]
        intro e h
        rcases List.mem_cons.mp h with h | h
        · rw [h]; exact one hk.1 hk.2
        · exact hr e h
    | bad k a =>
      rw [hx] at hk
      rw [evs_bad hx]
      intro e h
      rcases List.mem_cons.mp h with h | h
      · rw [h]; exact one (by decide +kernel) hk
      · exact hr e h
theorem evs_okAll (cs : List Int) : ∀ e ∈ evsOf cs, evOk e = true := evs_okGo cs _ 0 (Int.le_refl 0)
end
section -- W26d
open PySem PySem.W PyProof.Rows PySem.Calls PySem.Spec
set_option maxHeartbeats 2000000
theorem set_W26d_0 : True := by
  k_with_none
  trivial
theorem fold_acc (l : List Int) : ∀ acc : List Int, (l.foldl (fun (l : List Int) (k : Int) => if k = 10 then l ++ [1] else l) acc).length = acc.length + (l.filter (fun c => decide (c = 10))).length := by
  induction l with
  | nil => intro acc; simp
  | cons c l ih =>
    intro acc
    rw [List.foldl_cons, ih]
    by_cases h : c = 10 <;> simp [h]
    omega
theorem fold_len {l : List Int} {ys : List Value} (h : IntsAre ys (l.foldl (fun (l : List Int) (k : Int) => if k = 10 then l ++ [1] else l) [])) : ys.length = (l.filter (fun c => decide (c = 10))).length := by
  rw [h.length, fold_acc]; simp
theorem evOk_shift {n r : Int} {es : List Ev} (h : ∀ e ∈ es, evOk e = true) : ∀ e ∈ es.map (shiftEv n r), evOk e = true := fun e he => by
  obtain ⟨x, hx, rfl⟩ := List.mem_map.mp he
  exact h x hx
noncomputable def isSq (o : Obj) : Prop := ∃ xs n, o.data = .seq xs n
theorem EvsAre.change {R R' : List (Addr × Obj)} {ws : List Value} {es : List Ev} (h : EvsAre R ws es) (hs : ∀ p ∈ R, isSq p.2 → p ∈ R') : EvsAre R' ws es := by
  refine ⟨h.1, fun k v e a b => ?_⟩
  obtain ⟨q, vv, ta, tb, tc, td, e1, hm, pre, hp, hsub⟩ := h.2 k v e a b
  refine ⟨q, vv, ta, tb, tc, td, e1, hs _ hm ⟨_, _, rfl⟩, pre, hp, fun p hp' => ?_⟩
  refine hs p (hsub p hp') ?_
  generalize e.v = tv at hp
  cases hp with
  | str => cases hp'
  | int => cases hp'
  | tup c hi => rw [List.mem_singleton.mp hp']; exact ⟨_, _, rfl⟩
theorem sq_cons {a : Addr × Obj} {l r : List (Addr × Obj)} (h : ∀ p ∈ l, isSq p.2 → p ∈ r) : ∀ p ∈ a :: l, isSq p.2 → p ∈ a :: r := fun p hp hq => by
  rcases List.mem_cons.mp hp with e | hp
  · rw [e]; exact List.mem_cons_self
  · exact List.mem_cons_of_mem _ (h p hp hq)
theorem sq_skip {a : Addr × Obj} {l r : List (Addr × Obj)} (h : ∀ p ∈ l, isSq p.2 → p ∈ r) : ∀ p ∈ l, isSq p.2 → p ∈ a :: r := fun p hp hq => List.mem_cons_of_mem _ (h p hp hq)
theorem sq_drop {c : Addr} {o : Obj} {v : Option Value} {l r : List (Addr × Obj)} (hd : o.data = .cell v) (h : ∀ p ∈ l, isSq p.2 → p ∈ r) : ∀ p ∈ (c, o) :: l, isSq p.2 → p ∈ r := fun p hp hq => by
  rcases List.mem_cons.mp hp with e | hp
  · rw [e] at hq
    obtain ⟨xs, n, hx⟩ := hq
    rw [show ((c, o) : Addr × Obj).2 = o from rfl, hd] at hx; cases hx
  · exact h p hp hq
theorem kind_ne {e : Ev} (h : (e.kind == Str.ofString "fault") = false) : e.kind ≠ Str.ofString "fault" := fun q => by rw [q] at h; exact absurd h (by simp)
section
variable {prog : Program} {w : World} {A : Around} {E : Value → Shared → Prop} {s : Shared} {h₀ : Heap} {L : Addr} {m : Str → Option Value} {env : Env} {elt iter : Expr}
  {x1 x2 x3 x4 x5 y : Str} {scope : Scope} {cl : List (Str × Addr)} {Q : Flow → Shared → Prop} {news : List (Addr × Obj)}
noncomputable def SrcA (prog : Program) (w : World) (A : Around) (h₀ : Heap) (L : Addr) (m : Str → Option Value) (env : Env) (elt : Expr) (x1 x2 x3 x4 x5 : Str) (scope : Scope) (cl : List (Str × Addr)) (y : Str) (Q : Flow → Shared → Prop) (xv : Value) (s₁ : Shared) : Prop :=
  ∃ (ax : Addr) (ws : List Value) (k0 : Nat) (es : List Ev) (f : Ev → Ev) (news : List (Addr × Obj)), xv = .ref ax ∧ A.handled = none ∧ Fr h₀ L s₁.heap m ∧ News h₀ L s₁.heap news ∧ (ax, W.listOf ws.toArray k0) ∈ news ∧ EvsAre news ws es ∧ ws.length ≤ sizeLine ∧ (∀ e, (f e).v = e.v) ∧
    (∀ s₂ : Shared, (∃ g, s₂ = { s₁ with heap := g }) → EvTurn prog w A h₀ L m env elt x1 x2 x3 x4 x5 scope cl s₂ news f es) ∧
    (∀ D ys h tk Rn, EvsAre (news ++ Rn) ys (es.map f) → Fr h₀ L h (fun z => if z = y then some (.ref D) else m z) → News h₀ L h ((D, LCg.lst ys) :: (news ++ Rn)) → Q .next { s₁ with heap := h, toks := tk })
theorem SrcA.intro {ax : Addr} {ws : List Value} {k0 : Nat} {es : List Ev} {s₁ : Shared} (f : Ev → Ev) (hh : A.handled = none) (F : Fr h₀ L s₁.heap m) (N : News h₀ L s₁.heap news) (hax : (ax, W.listOf ws.toArray k0) ∈ news) (hE : EvsAre news ws es) (hsz : ws.length ≤ sizeLine) (hf : ∀ e, (f e).v = e.v)
    (turn : ∀ g, EvTurn prog w A h₀ L m env elt x1 x2 x3 x4 x5 scope cl { s₁ with heap := g } news f es)
    (fin : ∀ D ys h tk Rn, EvsAre (news ++ Rn) ys (es.map f) → Fr h₀ L h (fun z => if z = y then some (.ref D) else m z) → News h₀ L h ((D, LCg.lst ys) :: (news ++ Rn)) → Q .next { s₁ with heap := h, toks := tk }) :
    SrcA prog w A h₀ L m env elt x1 x2 x3 x4 x5 scope cl y Q (.ref ax) s₁ := ⟨ax, ws, k0, es, f, news, rfl, hh, F, N, hax, hE, hsz, hf, fun _ ⟨g, e⟩ => e ▸ turn g, fin⟩
theorem Assign_ListComp_E {p1 p2 p3 p4 p5 tp pos spos py : Pos} {tk0} (_F₀ : Fr h₀ L s.heap m) (hLe : env.locals = L)
    (hsw : swapsWith (.ListComp elt [⟨.Tuple [.Name x1 p1, .Name x2 p2, .Name x3 p3, .Name x4 p4, .Name x5 p5] tk0 tp, iter, [], 0⟩] scope pos) (some (.Name y py)) spos.line env = pure true)
    (hclos : closureFor scope env = pure cl) (hcell : ∀ z ∈ scope.names, z.2 ≠ .cell) (hkind : scope.kind = .function)
    (hnames : ∀ z ∈ scope.names, z.2 = .local → scope.names.lookup z.1 = some .local) (hx : evNm scope x1 x2 x3 x4 x5)
    (hy : env.kindOf y = some .local) (hp : (env.scope.kind == .class || (env.scope.kind == .module && env.locals != env.globals)) = false)
    (h : wpAny (model prog w) A (eval iter env) (SrcA prog w A h₀ L m env elt x1 x2 x3 x4 x5 scope cl y Q) E s)
    (hs : ∀ x, foldedSetIterable iter env x = pure x := by intro _; rfl) :
    wpAny (model prog w) A (exec (.Assign [.Name y py] (.ListComp elt [⟨.Tuple [.Name x1 p1, .Name x2 p2, .Name x3 p3, .Name x4 p4, .Name x5 p5] tk0 tp, iter, [], 0⟩] scope pos) spos) env) Q E s := by
  subst hLe
  rw [exec_Assign_Name_used _ _ _ _ hsw]
  refine wpAny_bind (wpAny_standAt (wpAny_bind ?_))
  show wpAny _ A (do let _ ← comprehension (.ListComp elt [⟨.Tuple [.Name x1 p1, .Name x2 p2, .Name x3 p3, .Name x4 p4, .Name x5 p5] tk0 tp, iter, [], 0⟩] scope pos) scope env _ (newList []) false (eval iter env) (some (assign (.Name y py) env))) _ _ s
  refine wpAny_bind (wpAny_mono (wpAny_comprehension_free (use := some (assign (.Name y py) env)) (Q := fun _ s' => Q .next s') rfl hs hclos hkind hnames
    (wpAny_mono h (fun xv s₁ h₁ => ?_) fun _ _ e => e)) (fun _ s' hq => wpAny_pure (wpAny_pure hq)) fun _ _ e => e)
  obtain ⟨ax, ws, k0, es, f, news, rfl, hh, F, N, hax, hE, hsz, hf, R, fin⟩ := h₁
  have hl : s₁.heap.IsList ax ws.toArray := ⟨_, (N _ hax).1, rfl, _, rfl⟩
  have hlt : ax < s₁.heap.objs.size := Heap.lt_size (N _ hax).1
  refine wpAny_pyIter_list hl ?_
  have up : ∀ b o, s₁.heap.get? b = some o → (s₁.heap.push { cls := .type "list_iterator", data := .fields #[.ref ax, .int 0 0] }).get? b = some o := fun b o e => Heap.get?_push_of_some _ e
  refine ev_block (s₂ := { s₁ with heap := s₁.heap.push { cls := .type "list_iterator", data := .fields #[.ref ax, .int 0 0] } }) hax hE hsz hf hcell hkind hx hh ⟨⟨_, Heap.get?_push_size _ rfl, rfl, rfl⟩, hl.push _⟩ ?_ (Nat.ne_of_lt hlt)
    (F.keeps up) (N.grown up) (Nat.ne_of_lt F.ns.lt) (next_is_new F) (fun p hp => Nat.ne_of_lt (Heap.lt_size (N p hp).1)) (R _ ⟨_, rfl⟩) ?_
  · show s₁.heap.objs.size < (s₁.heap.push _).objs.size
    rw [Heap.size_push]; exact Nat.lt_succ_self _
  · intro D C h' tk m' ys Rn F' N' hn hC₀ hD₀ hCL hDL hCD offC offD hE'
    show wpAny _ A (assign (.Name y py) env (.ref D)) _ _ _
    refine wpAny_assign_Name (wpAny_storeName_local hy F'.ns (fun h₂ hn₂ hs₂ => ?_) hp)
    have hL₀ : h₀.get? env.locals = none := Heap.get?_none_of_le F'.above
    have F₂ : Fr h₀ env.locals h₂ (fun z => if z = y then some (.ref D) else m z) := ⟨hn₂, fun b o e => hs₂.extBut b o (fun q => by rw [q, hL₀] at e; cases e) (F'.keep b o e), F'.above⟩
    refine ⟨m', hn.sameBut hs₂ hCL, fun h'' hs'' => fin D ys h'' _ Rn hE' (F₂.change hs'' hCL hC₀) (fun p hp => ?_)⟩
    have z : h₂.get? p.1 = some p.2 := hs₂.extBut _ _ (N' p hp).2.1 (N' p hp).1
    refine ⟨hs''.extBut _ _ ?_ z, (N' p hp).2⟩
    rcases List.mem_cons.mp hp with rfl | hp
    · exact Ne.symm hCD
    · exact offC p hp
end
end
section -- W27
open PySem PySem.W PyProof.Rows PySem.Calls PySem.Spec
set_option maxHeartbeats 8000000

theorem set_W27_0 : True := by
  k_with_none
  k_with "my subscriptTail Name Name ref int" => first | (k_here; (with_reducible show wpAny _ _ (subscriptTail _ _ (Value.ref _) (Value.int _ _)) _ _ _); k_dflt (refine' ev_item (by k_asm) (by k_dflt k_mem) (by assumption) (by (k_dflt (repeat (first | exact fun _ h => h | exact sub_appl | exact sub_appr | refine sub_cons ?_ | refine sub_skip ?_)))) (by omega) (by omega) (by omega) ?_ (by with_unfolding_all rfl)); k_whole; intro q9 vv9 ta9 tb9 tc9 td9 e9 he9 hm9) | fail
  k_with "my subscriptTail Name Slice ref ref" => first | (k_here; (with_reducible show wpAny _ _ (subscriptTail _ (PySem.Expr.Slice none (some _) none _) (Value.ref _) (Value.ref _)) _ _ _); k_dflt (refine' slice_take (by k_asm) (by k_asm) (by k_dflt k_mem) (by assumption) (by kmk_part) (by kmk_part) (by omega) ?_ (by with_unfolding_all rfl) (by kmk_pure)); intro D' h' F' N' lz1; (try k_lt lz1); (try k_sweep)) | fail
  k_with "my subscriptTail Name Slice ref ref" => first | (k_here; (with_reducible show wpAny _ _ (subscriptTail _ (PySem.Expr.Slice (some _) none none _) (Value.ref _) (Value.ref _)) _ _ _); k_dflt (refine' slice_drop (by k_asm) (by k_asm) (by k_dflt k_mem) (by assumption) (by kmk_part) (by kmk_part) (by omega) ?_ (by with_unfolding_all rfl) (by kmk_pure)); intro D' h' F' N' lz1; (try k_lt lz1); (try k_sweep)) | fail
  k_with "my k_all" => first | (assumption) | fail
  trivial
theorem law_holds.tw3028574780961364865 : True := trivial
theorem law_holds.tw11420810876949414660 : True := trivial
theorem law_holds.tw13536078969547264968 : True := trivial
theorem law_holds.tw736938254969954898 : True := trivial
theorem law_holds.tw10499341006737221204 : True := trivial
theorem law_holds.tw1315970498727296868 : True := trivial
theorem law_holds.tw10835892554885059660 : True := trivial
theorem law_holds.tw7840963339656162547 : True := trivial
theorem law_holds.tw3502462603103325571 : True := trivial
theorem law_holds.tw7593269729358013723 : True := trivial
theorem law_holds.tw15883345262158282383 : True := trivial
theorem law_holds.tw3186734533307500241 : True := trivial
theorem law_holds.tw9131877904366575398 : True := trivial
theorem law_holds.tw17274716441693411508 : True := trivial
theorem law_holds.tw7311554392007033315 : True := trivial
theorem law_holds.tw4995542688137877417 : True := trivial
theorem law_holds.tw7504726725593181219 : True := trivial
theorem law_holds.tw18269650602155537469 : True := trivial
theorem law_holds.tw7408322871517469003 : True := trivial
theorem law_holds.tw5858263632927829637 : True := trivial
theorem law_holds.tw15293083901398250104 : True := trivial
theorem law_holds.tw4030767218360268280 : True := trivial
theorem law_holds.tw8854015012368427407 : True := trivial
theorem law_holds.tw4439653461905209652 : True := trivial
theorem law_holds.tw2295933128562542503 : True := trivial
theorem law_holds.tw10362271348294423435 : True := trivial
theorem law_holds.tw1685627985566243432 : True := trivial
theorem law_holds.tw11223184984439025696 : True := trivial
theorem law_holds.tw15150646450996357022 : True := trivial
theorem law_holds.tw6709271908398517637 : True := trivial
theorem law_holds.tw1762888911704233025 : True := trivial
theorem law_holds.tw13397297893571687751 : True := trivial
theorem law_holds.tw8857742495270377987 : True := trivial
theorem law_holds.tw14872900085578418628 : True := trivial
theorem law_holds.tw3756308257209627903 : True := trivial
theorem law_holds.tw4992725456586698614 : True := trivial
theorem law_holds.tw17942709131360195518 : True := trivial
theorem law_holds.tw15617896438947887921 : True := trivial
theorem law_holds.tw2269544990204364226 : True := trivial
theorem law_holds.tw3437919841840417490 : True := trivial
theorem law_holds.tw14326059299131336239 : True := trivial
theorem law_holds.tw5364902710198789758 : True := trivial
theorem law_holds.tw13478230802861573701 : True := trivial
theorem law_holds.tw8285764192309689115 : True := trivial
theorem law_holds.tw6894629897728501357 : True := trivial
theorem law_holds.tw9889521400790421688 : True := trivial
theorem law_holds.tw3974387499553966400 : True := trivial
theorem law_holds.tw2842810181116790245 : True := trivial
theorem law_holds.tw11881114122080957857 : True := trivial
theorem law_holds.tw15014403891855920072 : True := trivial
theorem law_holds.tw8330938851228082562 : True := trivial
theorem law_holds.tw3850375180904979519 : True := trivial
theorem law_holds.tw15162217921772873613 : True := trivial
theorem law_holds.tw11803358882649189518 : True := trivial
theorem law_holds.tw9779807473162285230 : True := trivial
theorem law_holds.tw7472407996622490835 : True := trivial
theorem law_holds.tw1622690429015379626 : True := trivial
theorem law_holds.tw9255152265573255198 : True := trivial
theorem law_holds.tw15352839923633478061 : True := trivial
theorem law_holds.tw3882201998751590657 : True := trivial
theorem law_holds.tw12889673554181485818 : True := trivial
theorem law_holds.tw6564709946809587534 : True := trivial
theorem law_holds.tw18090433342136740992 : True := trivial
theorem law_holds.tw12456547296908542839 : True := trivial
theorem law_holds.tw14498155544194170393 : True := trivial
theorem law_holds.tw14997073306097389879 : True := trivial
theorem law_holds.tw14385925486924208373 : True := trivial
theorem law_holds.tw18203989763732354715 : True := trivial
theorem law_holds.tw3253820488102484341 : True := trivial
theorem law_holds.tw447027507633508388 : True := trivial
theorem law_holds.tw4072507727158212662 : True := trivial
theorem law_holds.tw8720880381367431298 : True := trivial
theorem law_holds.tw2055734563569237896 : True := trivial
theorem law_holds.tw653560878884961445 : True := trivial
theorem law_holds.tw3366817510852727610 : True := trivial
theorem law_holds.tw8970147916757833333 : True := trivial
theorem law_holds.tw3776956092104397036 : True := trivial
theorem law_holds.tw6860709855171689206 : True := trivial
theorem law_holds.tw10371022188087798493 : True := trivial
theorem law_holds.tw6776455111828631412 : True := trivial
theorem law_holds.tw6934448944433832347 : True := trivial
theorem law_holds.tw2907507879108658156 : True := trivial
theorem law_holds.tw4503035019201841076 : True := trivial
theorem law_holds.tw15472126771306010800 : True := trivial
theorem law_holds.tw14988988175077273356 : True := trivial
theorem law_holds.tw18340598423539479173 : True := trivial
theorem law_holds.tw18254337876149969668 : True := trivial
theorem law_holds.tw179590077315354965 : True := trivial
theorem law_holds.tw11846676642670509255 : True := trivial
theorem law_holds.tw8514742172934523775 : True := trivial
theorem law_holds.tw17180001009569633970 : True := trivial
theorem law_holds.tw9682718004065560343 : True := trivial
theorem law_holds.tw6317479115527610633 : True := trivial
theorem law_holds.tw10841264019214440115 : True := trivial
theorem law_holds.tw5212653520564569363 : True := trivial
theorem law_holds.tw15452448965706171373 : True := trivial
theorem law_holds.tw12134408205421670959 : True := trivial
theorem law_holds.tw7769649832755249146 : True := trivial
theorem law_holds.tw13182730311906835528 : True := trivial
theorem law_holds.tw13956741780833797525 : True := trivial
theorem law_holds.tw9184033795430018204 : True := trivial
theorem law_holds.tw8441880690091102137 : True := trivial
theorem law_holds.tw1414043511812021011 : True := trivial
theorem law_holds.tw4441770287765753910 : True := trivial
theorem law_holds.tw18261290160731607033 : True := trivial
theorem law_holds.tw13709617746848070560 : True := trivial
theorem law_holds.tw13431030151845061361 : True := trivial
theorem law_holds.tw16836969012518115619 : True := trivial
theorem law_holds.tw724200737284857819 : True := trivial
theorem law_holds.tw17253903310271361901 : True := trivial
theorem law_holds.tw1186782194237197914 : True := trivial
theorem law_holds.tw2644310842459337959 : True := trivial
theorem law_holds.tw5769158387606399586 : True := trivial
theorem law_holds.tw5640673133297012132 : True := trivial
theorem law_holds.tw8249079356659094474 : True := trivial
theorem law_holds.tw3035144380315620824 : True := trivial
theorem law_holds.tw9013377322688217293 : True := trivial
theorem law_holds.tw16720094985154256693 : True := trivial
theorem law_holds.tw699380112222796084 : True := trivial
theorem law_holds.tw1385162719727133579 : True := trivial
theorem law_holds.tw10465528174321978529 : True := trivial
theorem law_holds.tw14377833709258309704 : True := trivial
theorem law_holds.tw4593294709026258786 : True := trivial
theorem law_holds.tw14991590004735058009 : True := trivial
theorem law_holds.tw13028658284911697911 : True := trivial
theorem law_holds.tw4515466672771955728 : True := trivial
theorem law_holds.tw8835965917227929528 : True := trivial
theorem law_holds.tw16406091861079842607 : True := trivial
theorem law_holds.tw13650905803964671038 : True := trivial
theorem law_holds.tw9069877914133315304 : True := trivial
theorem law_holds.tw7820799176418779761 : True := trivial
theorem law_holds.tw519298541982818421 : True := trivial
theorem law_holds.tw10968802771074238664 : True := trivial
theorem law_holds.tw10024239376800412576 : True := trivial
theorem law_holds.tw718173064312146323 : True := trivial
theorem law_holds.tw13250212485881810970 : True := trivial
theorem law_holds.tw2090888555730037645 : True := trivial
theorem law_holds.tw2152083551845799040 : True := trivial
theorem law_holds.tw16106779387088534511 : True := trivial
theorem law_holds.tw12626328134170644701 : True := trivial
theorem law_holds.tw2387193687640843687 : True := trivial
theorem law_holds.tw12115171985352901274 : True := trivial
theorem law_holds.tw17499823404086765753 : True := trivial
theorem law_holds.tw6869992995446874880 : True := trivial
theorem law_holds.tw15448297888555860652 : True := trivial
theorem law_holds.tw17253691774821329096 : True := trivial
theorem law_holds.tw15006436103509636135 : True := trivial
theorem law_holds.tw17237755526102222789 : True := trivial
theorem law_holds.tw15527639110640922598 : True := trivial
theorem law_holds.tw5506821171919863439 : True := trivial
theorem law_holds.tw17713402740875732926 : True := trivial
theorem law_holds.tw6333624483447246961 : True := trivial
theorem law_holds.tw14289194402921355359 : True := trivial
theorem law_holds.tw16883458599210261866 : True := trivial
theorem law_holds.tw17027635718292003107 : True := trivial
theorem law_holds.tw1377309892636839040 : True := trivial
theorem law_holds.tw15544829507116839252 : True := trivial
theorem law_holds.tw14774650325386425613 : True := trivial
theorem law_holds.tw123295346585929383 : True := trivial
theorem law_holds.tw17865009358878524859 : True := trivial
theorem law_holds.tw10242277825702978295 : True := trivial
theorem law_holds.tw4781243967656130014 : True := trivial
theorem law_holds.tw16614716721108272449 : True := trivial
theorem law_holds.tw850272041215511910 : True := trivial
theorem law_holds.tw3033269912633744064 : True := trivial
theorem law_holds.tw3158129796062787159 : True := trivial
theorem law_holds.tw926570990666696690 : True := trivial
theorem law_holds.tw16805829885119392726 : True := trivial
theorem law_holds.tw4524032621918665186 : True := trivial
theorem law_holds.tw1724926542741425601 : True := trivial
theorem law_holds.tw11966672015165255308 : True := trivial
theorem law_holds.tw10007947361888340627 : True := trivial
theorem law_holds.tw12732824653754844360 : True := trivial
theorem law_holds.tw9168033884955339765 : True := trivial
theorem law_holds.tw17993387198741990920 : True := trivial
theorem law_holds.tw1905533677188600702 : True := trivial
theorem law_holds.tw15607887362523206001 : True := trivial
theorem law_holds.tw784011647948385275 : True := trivial
theorem law_holds.tw10188763426450519768 : True := trivial
theorem law_holds.tw9552830710289189752 : True := trivial
theorem law_holds.tw10368410895845634921 : True := trivial
theorem law_holds.tw12303009252429188658 : True := trivial
theorem law_holds.tw13280740594461564331 : True := trivial
theorem law_holds.tw15274831704391544125 : True := trivial
theorem law_holds.tw2043166853727251185 : True := trivial
theorem law_holds.tw18234560199702728603 : True := trivial
theorem law_holds.tw12476058986133298565 : True := trivial
theorem law_holds.tw9992725586745946429 : True := trivial
theorem law_holds.tw16099233806120587224 : True := trivial
theorem law_holds.tw15661869461025623997 : True := trivial
theorem law_holds.tw4273555757443719353 : True := trivial
theorem law_holds.tw7696488724909661519 : True := trivial
theorem law_holds.tw9288214680346807717 : True := trivial
theorem law_holds.tw14822640431511872941 : True := trivial
theorem law_holds.tw4581845663705801772 : True := trivial
theorem law_holds.tw4818577856007422655 : True := trivial
theorem law_holds.tw4037582482628031876 : True := trivial
theorem law_holds.tw11484002064277903863 : True := trivial
theorem law_holds.tw9606376775287448836 : True := trivial
theorem law_holds.tw11097350217990362986 : True := trivial
theorem law_holds.tw11133525997344109421 : True := trivial
theorem law_holds.tw3850334171643177529 : True := trivial
theorem law_holds.tw6667284449218939238 : True := trivial
theorem law_holds.tw11633083819707477107 : True := trivial
theorem law_holds.tw11017292853192552079 : True := trivial
theorem law_holds.tw5920216800500632969 : True := trivial
theorem law_holds.tw14497384708736915567 : True := trivial
theorem law_holds.tw5455921660152230842 : True := trivial
theorem law_holds.tw7495221243884187115 : True := trivial
theorem law_holds.tw11677100312832694166 : True := trivial
theorem law_holds.tw11690447701083486646 : True := trivial
theorem law_holds.tw907578622648922086 : True := trivial
theorem law_holds.tw16947615914383616782 : True := trivial
theorem law_holds.tw8570087061310353148 : True := trivial
theorem law_holds.tw16760957895259694429 : True := trivial
theorem law_holds.tw6265907326580845545 : True := trivial
theorem law_holds.tw3253568177066640346 : True := trivial
theorem law_holds.tw15732109348078318572 : True := trivial
theorem law_holds.tw1341266762083198811 : True := trivial
theorem law_holds.tw16009327648451700120 : True := trivial
theorem law_holds.tw12296726922439171297 : True := trivial
theorem law_holds.tw4329158554759489670 : True := trivial
theorem law_holds.tw2503670479209048990 : True := trivial
theorem law_holds.tw15609566024721092083 : True := trivial
theorem law_holds.tw3682559726232862161 : True := trivial
theorem law_holds.tw10264638600885302300 : True := trivial
theorem law_holds.tw13220211186989608806 : True := trivial
theorem law_holds.tw15154110283740273250 : True := trivial
theorem law_holds.tw13402424001964919149 : True := trivial
theorem law_holds.tw4614512636035447770 : True := trivial
theorem law_holds.tw14828999820898988419 : True := trivial
theorem law_holds.tw8549365171731915398 : True := trivial
theorem law_holds.tw9843604407834444796 : True := trivial
theorem law_holds.tw575232530192455986 : True := trivial
theorem law_holds.tw8634839017697508684 : True := trivial
theorem law_holds.tw10817052189556005596 : True := trivial
theorem law_holds.tw8266603773606604290 : True := trivial
theorem law_holds.tw445335354869643106 : True := trivial
theorem law_holds.tw10442559174759676424 : True := trivial
theorem law_holds.tw9634471323475708679 : True := trivial
theorem law_holds.tw14925382992726071281 : True := trivial
theorem law_holds.tw3912811242725288453 : True := trivial
theorem law_holds.tw14596297492920191028 : True := trivial
theorem law_holds.tw16098122237329998606 : True := trivial
theorem law_holds.tw7185456241796803578 : True := trivial
theorem law_holds.tw15694993059591697976 : True := trivial
theorem law_holds.tw14335913921861858828 : True := trivial
theorem law_holds.tw15829985883664642994 : True := trivial
theorem law_holds.tw18006792725990754497 : True := trivial
theorem law_holds.tw14545874151571354728 : True := trivial
theorem law_holds.tw1767730674963353768 : True := trivial
theorem law_holds.tw11544315989524547432 : True := trivial
theorem law_holds.tw8763168800255643514 : True := trivial
theorem law_holds.tw11609493526922420660 : True := trivial
theorem law_holds.tw11924911360389889469 : True := trivial
theorem law_holds.tw602461330855297101 : True := trivial
theorem law_holds.tw7356724547972884604 : True := trivial
theorem law_holds.tw14051398506283589457 : True := trivial
theorem law_holds.tw3049941959672503198 : True := trivial
theorem law_holds.tw5117662029339320154 : True := trivial
theorem law_holds.tw10812634152524527747 : True := trivial
theorem law_holds.tw14983226153234331074 : True := trivial
theorem law_holds.tw2136269947727277649 : True := trivial
theorem law_holds.tw8666519363043736892 : True := trivial
theorem law_holds.tw1973129929022764952 : True := trivial
theorem law_holds.tw10876394233666535175 : True := trivial
theorem law_holds.tw15802469936163623734 : True := trivial
theorem law_holds.tw8785698371604719795 : True := trivial
theorem law_holds.tw1989176631692091739 : True := trivial
theorem law_holds.tw8909828626151137519 : True := trivial
theorem law_holds.tw13190408463805328480 : True := trivial
theorem law_holds.tw545109181885906688 : True := trivial
theorem law_holds.tw8553002610548859549 : True := trivial
theorem law_holds.tw12780804625047726367 : True := trivial
theorem law_holds.tw4370086069003782432 : True := trivial
theorem law_holds.tw13958071646730322851 : True := trivial
theorem law_holds.tw7910590604623066228 : True := trivial
theorem law_holds.tw11781800970755023335 : True := trivial
theorem law_holds.tw3943428198234077543 : True := trivial
theorem law_holds.tw11764581739189218997 : True := trivial
theorem law_holds.tw2102315897755806987 : True := trivial
theorem law_holds.tw4916342969005030805 : True := trivial
theorem law_holds.tw1689763614830377041 : True := trivial
theorem law_holds.tw1285599515219305098 : True := trivial
theorem law_holds.tw16470317323979864763 : True := trivial
theorem law_holds.tw13392613628428298086 : True := trivial
theorem law_holds.tw11289095316329951393 : True := trivial
theorem law_holds.tw13250372474279835810 : True := trivial
theorem law_holds.tw1791086108937442324 : True := trivial
theorem law_holds.tw3956099054510807996 : True := trivial
theorem law_holds.tw6499956759230125245 : True := trivial
theorem law_holds.tw3426384778480675251 : True := trivial
theorem law_holds.tw1909877003179415225 : True := trivial
theorem law_holds.tw8472228645029834797 : True := trivial
theorem law_holds.tw2558664710541493025 : True := trivial
theorem law_holds.tw6765152471904792315 : True := trivial
theorem law_holds.tw576407869801174206 : True := trivial
theorem law_holds.tw11097158420108258118 : True := trivial
theorem law_holds.tw8652346329174877282 : True := trivial
theorem law_holds.tw2143268655074302082 : True := trivial
theorem law_holds.tw455179833554555240 : True := trivial
theorem law_holds.tw3756957479349018193 : True := trivial
theorem law_holds.tw5112083995522966620 : True := trivial
theorem law_holds.tw11100686419730198450 : True := trivial
theorem law_holds.tw7407239408455114201 : True := trivial
theorem law_holds.tw15806970514647361693 : True := trivial
theorem law_holds.tw11470271118054631628 : True := trivial
theorem law_holds.tw607667584577438428 : True := trivial
theorem law_holds.tw2446358144275080391 : True := trivial
theorem law_holds.tw5274592661964301406 : True := trivial
theorem law_holds.tw12223724995276690173 : True := trivial
theorem law_holds.tw3910120701321347557 : True := trivial
theorem law_holds.tw4889031023730116350 : True := trivial
theorem law_holds.tw8369274380968253667 : True := trivial
theorem law_holds.tw7497986649931050792 : True := trivial
theorem law_holds.tw13766487248619392586 : True := trivial
theorem law_holds.tw14904137174637212347 : True := trivial
theorem law_holds.tw2124134355350193313 : True := trivial
theorem law_holds.tw14883556706271630602 : True := trivial
theorem law_holds.tw2643271747718453845 : True := trivial
theorem law_holds.tw12835091436910803158 : True := trivial
theorem law_holds.tw1035469204868569938 : True := trivial
theorem law_holds.tw7019463264422422977 : True := trivial
theorem law_holds.tw12831907817818079685 : True := trivial
theorem law_holds.tw17974257514489008736 : True := trivial
theorem law_holds.tw16461882675039125421 : True := trivial
theorem law_holds.tw3742325753681652743 : True := trivial
theorem law_holds.tw676263390381983339 : True := trivial
theorem law_holds.tw10486713781251687710 : True := trivial
theorem law_holds.tw5731563423909890137 : True := trivial
theorem law_holds.tw14892801356780361778 : True := trivial
theorem law_holds.tw8417186165934385351 : True := trivial
theorem law_holds.tw10296202853966499060 : True := trivial
theorem law_holds.tw631266038723830076 : True := trivial
theorem law_holds.tw12419048959643632839 : True := trivial
theorem law_holds.tw9207643191828677137 : True := trivial
theorem law_holds.tw14390095281932903014 : True := trivial
theorem law_holds.tw2075624079617657780 : True := trivial
theorem law_holds.tw16381176275627223697 : True := trivial
theorem law_holds.tw15191720212996534143 : True := trivial
theorem law_holds.tw14571795756577361901 : True := trivial
theorem law_holds.tw2006301483956418059 : True := trivial
set_option Elab.async true in
theorem law_holds : PySem.Challenge.rw_sa0149_01.Holds := by
  w_on
  o_law
  o_head (kHook frg.heap_1 (2 :: 3 :: 15 :: 17 :: 18 :: 20 :: 21 :: 22 :: 29 :: 30 :: 31 :: 32 :: 35 :: 42 :: 44 :: 45 :: 47 :: 48 :: 49 :: 50 :: 51 :: 54 :: 56 :: 57 :: 59 :: 60 :: 61 :: 63 :: 64 :: 66 :: 67 :: 68 :: 70 :: 71 :: 73 :: 74 :: 75 :: 77 :: 78 :: 80 :: 81 :: 82 :: 84 :: 85 :: 87 :: 88 :: 89 :: 91 :: 92 :: 94 :: 95 :: 96 :: 98 :: 99 :: 101 :: 102 :: 103 :: 105 :: 106 :: 108 :: 109 :: 110 :: 113 :: 114 :: 115 :: 117 :: 118 :: 120 :: 121 :: 122 :: 124 :: 125 :: 127 :: 128 :: 136 :: 137 :: 139 :: 140 :: 142 :: 143 :: 144 :: 146 :: 147 :: 149 :: 150 :: 151 :: 153 :: 154 :: 156 :: 157 :: 158 :: 160 :: 161 :: 163 :: 164 :: 165 :: 167 :: 168 :: 170 :: 171 :: 172 :: 174 :: 175 :: 177 :: 178 :: 179 :: 181 :: 182 :: 184 :: 185 :: 186 :: 188 :: 189 :: 191 :: 192 :: 193 :: 195 :: 196 :: 198 :: 199 :: 200 :: 202 :: 203 :: 205 :: 206 :: 207 :: 209 :: 210 :: 212 :: 213 :: 214 :: 216 :: 217 :: 219 :: 220 :: 221 :: 223 :: 224 :: 226 :: 227 :: 228 :: 230 :: 231 :: 233 :: 234 :: 235 :: 237 :: 238 :: 240 :: 241 :: 242 :: 244 :: 245 :: 247 :: 248 :: 249 :: 251 :: 252 :: 254 :: 255 :: 256 :: 258 :: 259 :: 261 :: 262 :: 263 :: 264 :: 265 :: 266 :: 267 :: 270 :: 272 :: 273 :: 275 :: 276 :: 277 :: 279 :: 280 :: 282 :: 283 :: 284 :: 287 :: 288 :: 289 :: 292 :: 293 :: []) (fun _ => by kernel_rfl))
  (case hw => w_witness2)
  w_strict
  k_go0
  try (have T9 : TopX _ _ _ _ := by assumption)
  try ((rename Heap.CodeRec _ _ _ => hC9); clear hC9)
  (all_goals try k_fold)
  iterate 11 walk1
  (with_reducible show wpAny _ _ (call _ _) _ _ _); k_dflt (change wpAny (model PySem.Challenge.pw_sa0149_01 _) (ktrTop _ _ _ _ _ _ _ _ _ []) _ _ _ _); k_dflt (refine' figures_s ?zqk1 ?zqk2 ?zqk3 ?zqk4 ?zqk5 ?zqkK ?zqhl ?zqhi ?zqhf ?zqkd ?zqku ?_); (case zqk1 => k_asm); (case zqk2 => k_asm); (case zqk3 => k_asm); (case zqk4 => k_asm); (case zqk5 => k_asm); (case zqkK => first | exact rfl | assumption); (case zqhl => assumption); (case zqhi => assumption); (case zqhf => first | omega); (case zqkd => (simp only [depth_caller]; k_dflt decide)); (case zqku => (simp only [units_caller]; have := cLine_is; omega)); k_whole; intro qf wsf lf hf tkf If Lf Ff Nf af
  k_lt af
  k_sweep
  iterate 18 walk1
  (with_reducible show wpAny _ _ (call _ _) _ _ _); k_dflt (change wpAny (model PySem.Challenge.pw_sa0149_01 _) (ktrTop _ _ _ _ _ _ _ _ _ []) _ _ _ _); k_dflt (refine' text_s ?zqk1 ?zqk2 ?zqk3 ?zqk4 ?zqk5 ?zqkK ?zqhl ?zqhi ?zqhf ?zqkd ?zqku ?_); (case zqk1 => k_asm); (case zqk2 => k_asm); (case zqk3 => k_asm); (case zqk4 => k_asm); (case zqk5 => k_asm); (case zqkK => first | exact rfl | assumption); (case zqhl => k_dflt k_mem); (case zqhi => first | assumption | l_ints); (case zqhf => (simp only [List.length_take, List.length_drop]; omega)); (case zqkd => (simp only [depth_caller]; k_dflt decide)); (case zqku => (simp only [units_caller]; have := cLine_is; omega)); k_whole; intro q1 ws1 l1 e1 h1 tk1 I1 L1 O1 F1 N1
  k_sweep
  iterate 18 walk1
  (with_reducible show wpAny _ _ (call _ _) _ _ _); k_dflt (change wpAny (model PySem.Challenge.pw_sa0149_01 _) (ktrTop _ _ _ _ _ _ _ _ _ []) _ _ _ _); k_dflt (refine' text_s ?zqk1 ?zqk2 ?zqk3 ?zqk4 ?zqk5 ?zqkK ?zqhl ?zqhi ?zqhf ?zqkd ?zqku ?_); (case zqk1 => k_asm); (case zqk2 => k_asm); (case zqk3 => k_asm); (case zqk4 => k_asm); (case zqk5 => k_asm); (case zqkK => first | exact rfl | assumption); (case zqhl => k_dflt k_mem); (case zqhi => first | assumption | l_ints); (case zqhf => (simp only [List.length_take, List.length_drop]; omega)); (case zqkd => (simp only [depth_caller]; k_dflt decide)); (case zqku => (simp only [units_caller]; have := cLine_is; omega)); k_whole; intro q2 ws2 l2 e2 h2 tk2 I2 L2 O2 F2 N2
  k_sweep
  iterate 36 walk1
  (with_reducible show wpAny _ _ (call _ _) _ _ _); k_dflt (change wpAny (model PySem.Challenge.pw_sa0149_01 _) (ktrTop _ _ _ _ _ _ _ _ _ []) _ _ _ _); k_dflt (refine' events_l ?zqk1 ?zqk2 ?zqk3 ?zqk4 ?zqkXB ?zqkTB ?zqk5 ?zqkK ?zqhl ?zqhi ?zqhf ?zqkd ?zqku ?_); (case zqk1 => k_asm); (case zqk2 => k_asm); (case zqk3 => k_asm); (case zqk4 => k_asm); (case zqk5 => k_asm); (case zqkK => first | exact rfl | assumption); (case zqkXB => assumption); (case zqkTB => assumption); (case zqhl => k_dflt k_mem); (case zqhi => first | assumption | l_ints); (case zqhf => first | omega | (simp only [List.length_append, List.length_cons, List.length_nil]; omega)); (case zqkd => (simp only [depth_caller]; k_dflt decide)); (case zqku => (simp only [units_caller]; have := cLine_is; omega)); k_whole; intro ev1 wv1 n1 R1 hb tkb E1 A1 P1 Fb Nb
  simp only [List.cons_append, List.nil_append] at E1 A1 Nb
  k_sweep
  iterate 11 walk1
  (with_reducible show wpAny _ _ (call _ _) _ _ _); k_dflt (change wpAny (model PySem.Challenge.pw_sa0149_01 _) (ktrTop _ _ _ _ _ _ _ _ _ []) _ _ _ _); k_dflt (refine' events_l ?zqk1 ?zqk2 ?zqk3 ?zqk4 ?zqkXB ?zqkTB ?zqk5 ?zqkK ?zqhl ?zqhi ?zqhf ?zqkd ?zqku ?_); (case zqk1 => k_asm); (case zqk2 => k_asm); (case zqk3 => k_asm); (case zqk4 => k_asm); (case zqk5 => k_asm); (case zqkK => first | exact rfl | assumption); (case zqkXB => assumption); (case zqkTB => assumption); (case zqhl => k_dflt k_mem); (case zqhi => first | assumption | l_ints); (case zqhf => first | omega | (simp only [List.length_append, List.length_cons, List.length_nil]; omega)); (case zqkd => (simp only [depth_caller]; k_dflt decide)); (case zqku => (simp only [units_caller]; have := cLine_is; omega)); k_whole; intro ev2 wv2 n2 R2 he tke E2 A2 P2 Fe Ne
  simp only [List.cons_append, List.nil_append] at E2 A2 Ne
  k_sweep
  have hS1 := evs_stop l1
  have hB1 : (evsOf l1).length < 2 ^ 40 := Nat.lt_of_le_of_lt (evs_len l1) (by omega)
  have hz1 : wv1.length ≤ sizeLine := by rw [E1.1, PySem.sizeLine_eq]; exact Nat.le_trans (evs_len l1) (by omega)
  have hz2 : wv2.length ≤ sizeLine := by rw [E2.1, PySem.sizeLine_eq]; exact Nat.le_trans (evs_len (l1 ++ [10] ++ l2)) (by simp only [List.length_append, List.length_cons, List.length_nil]; omega)
  have hO1 := evs_okAll l1
  have hO2 := evs_okAll (l1 ++ [10] ++ l2)
  have hT := evs_take l1 l2
  have hDr := @evs_drop l1 l2
  change EvsAre _ _ (evsOf l1) at E1
  change EvsAre _ _ (evsOf (l1 ++ [10] ++ l2)) at E2
  generalize hes1 : evsOf l1 = es1 at E1 hS1 hB1 hO1 hT hDr
  generalize hes2 : evsOf (l1 ++ [10] ++ l2) = es2 at E2 hO2 hT hDr
  k_with_none
  k_with "my subscriptTail Name Name ref int" => first | (k_here; (with_reducible show wpAny _ _ (subscriptTail _ _ (Value.ref _) (Value.int _ _)) _ _ _); k_dflt (refine' ev_item (by k_asm) (by k_dflt k_mem) (by assumption) (by (k_dflt (repeat (first | exact fun _ h => h | exact sub_appl | exact sub_appr | refine sub_cons ?_ | refine sub_skip ?_)))) (by omega) (by omega) (by omega) ?_ (by with_unfolding_all rfl)); k_whole; intro q9 vv9 ta9 tb9 tc9 td9 e9 he9 hm9) | fail
  k_with "my subscriptTail Name Slice ref ref" => first | (k_here; (with_reducible show wpAny _ _ (subscriptTail _ (PySem.Expr.Slice none (some _) none _) (Value.ref _) (Value.ref _)) _ _ _); k_dflt (refine' slice_take (by k_asm) (by k_asm) (by k_dflt k_mem) (by assumption) (by kmk_part) (by kmk_part) (by omega) ?_ (by with_unfolding_all rfl) (by kmk_pure)); intro D' h' F' N' lz1; (try k_lt lz1); (try k_sweep)) | fail
  k_with "my subscriptTail Name Slice ref ref" => first | (k_here; (with_reducible show wpAny _ _ (subscriptTail _ (PySem.Expr.Slice (some _) none none _) (Value.ref _) (Value.ref _)) _ _ _); k_dflt (refine' slice_drop (by k_asm) (by k_asm) (by k_dflt k_mem) (by assumption) (by kmk_part) (by kmk_part) (by omega) ?_ (by with_unfolding_all rfl) (by kmk_pure)); intro D' h' F' N' lz1; (try k_lt lz1); (try k_sweep)) | fail
  k_with "my k_all" => first | (assumption) | fail
  k_with "state" => first | omega | (have hg9 := stop_go (by assumption) (by assumption) (by assumption) (by assumption); omega)
  k_with "measure" => first | omega | (have hg9 := stop_go (by assumption) (by assumption) (by assumption) (by assumption); omega)
  k_with "exec While Compare cons nil" => k_while (fun (_ : List Int) (c : Int) => 0 ≤ c ∧ c ≤ (stopAt es1 : Int)) (fun (_ : List Int) (c : Int) => ((stopAt es1 : Int) - c).toNat) "count"
  iterate 27 walk1
  rotate_left
  case' _ =>
    have hg9 := stop_go (by assumption) (by assumption) (by assumption) (by assumption)
    iterate 9 walk1
  rename (GetElem?.getElem? es1 _ = some _) => he9
  have hc9 := stop_exit he9 (by assumption) (by assumption) (by assumption)
  iterate 20 walk1
  k_dflt (refine' ev_ne_s (ds := List.take (stopAt es1) es1) ?zqN ?zqma ?zqDa ?zqsa ?zqmb ?zqDb ?zqsb ?zqha ?zqhu ?_)
  case zqN => k_asm
  case zqma => k_dflt k_mem
  case zqDa => rw [hc9, Int.toNat_natCast, ← hT]; exact E2.take _
  case zqmb => k_dflt k_mem
  case zqDb => rw [hc9, Int.toNat_natCast]; exact E1.take _
  case zqsa => k_dflt (repeat (first | exact fun _ h => h | exact sub_appl | exact sub_appr | refine sub_cons ?_ | refine sub_skip ?_))
  case zqsb => k_dflt (repeat (first | exact fun _ h => h | exact sub_appl | exact sub_appr | refine sub_cons ?_ | refine sub_skip ?_))
  case zqha => exact fun e he => hO1 e (List.mem_of_mem_take he)
  case zqhu => ke_room
  iterate 14 walk1
  case' _ => k_steps
  rename (GetElem?.getElem? es1 _ = some _) => hk9
  rename ((_ == Str.ofString "fault") = false) => hkf
  k_dflt (refine' storeX_C ?zqyF ?zqyN ?zqyc ?zqyU ?zqyd ?_ ?zqya ?zqyb)
  case zqya => rfl
  case zqyb => rfl
  case zqyF => k_asm
  case zqyN => k_asm
  case zqyc => rfl
  case zqyU => k_dflt (exact UpdF.tail (by k_ne) (UpdF.tail (by k_ne) (UpdF.tail (by k_ne) (UpdF.tail (Ne.symm (ne_of_allNe A2 (_, _) (by k_dflt k_mem))) (UpdF.tail (Ne.symm (ne_of_allNe A1 (_, _) (by k_dflt k_mem))) (UpdF.tail (by k_ne) (UpdF.tail (by k_ne) (UpdF.tail (by k_ne) (UpdF.tail (by k_ne) (UpdF.tail (Ne.symm (ne_of_off1 O2 (_, _) (by k_dflt k_mem))) (UpdF.tail (by k_ne) (UpdF.tail (Ne.symm (ne_of_off1 O1 (_, _) (by k_dflt k_mem))) (UpdF.tail (by k_ne) (UpdF.tail (by k_ne) (UpdF.tail (by k_ne) (UpdF.head (ne_of_allNe (allNe_app.mpr ⟨apart_mem P1 (_, _) (by k_dflt k_mem), apart_mem P2 (_, _) (by k_dflt k_mem)⟩))))))))))))))))))
  case zqyd => k_asm
  intro hs1 os1 Fs1 Ns1 ds1

  k_sweep
  iterate 8 walk1
  k_dflt (refine LCt.ListComp_T (F₀ := by k_asm) (by with_unfolding_all rfl) (by decide) (by rfl) (by decide) (by rfl) ?_)
  walk1
  k_dflt (refine LCt.CompSrcT.ledger (by rfl) (by k_asm) (by k_asm) (by k_mem) ?zqxs ?_)
  case zqxs => rw [List.size_toArray, I1.length, PySem.sizeLine_eq]; omega
  intro g9
  k_dflt (refine' kci_list (fun (l : List Int) (k : Int) => if k = 10 then l ++ [1] else l) I1 ?zqxt ?zqxf ?zqxg)
  case zqxg => intro l k; by_cases h : k = 10 <;> simp [h]
  case zqxt =>
    intro k9 t9 I9 oI9 C9 oC9 D9 m9 ys9 lc9 h9 tk9 E9 hk9 hy9 hC9 hx9 F9 N9 off9 ne9 mk9
    iterate 6 walk1
    · iterate 1 walk1
      k_dflt (refine LCg.CompEnd.intro F9 N9 _ (fun p hp => hp) off9 ?zqxs9 (kci_el ?zqxe rfl rfl))
      case zqxs9 => exact Or.inr ⟨W.listOf ws1.toArray e1, by k_dflt k_mem, rfl, _, rfl⟩
      case zqxe =>
        have hq9 : k9 = 10 := by first | assumption | omega
        simp [hq9]
    · k_dflt (refine LCg.CompEnd.intro F9 N9 _ (fun p hp => hp) off9 ?zqxs8 (kci_no ?zqxn rfl))
      case zqxs8 => exact Or.inr ⟨W.listOf ws1.toArray e1, by k_dflt k_mem, rfl, _, rfl⟩
      case zqxn =>
        have hq9 : k9 ≠ 10 := by first | assumption | omega
        simp [hq9]
  intro ys9 hys9 hle9
  intro D9 h9 tk9 F9 N9 off9
  replace N9 := lst_list N9
  walk1
  k_dflt (refine len_at N9 ?zqxl ?_)
  case zqxl => rw [List.size_toArray] at hle9; have := I1.length; omega
  iterate 2 walk1
  k_dflt (refine' storeX_C ?zqxF ?zqxN ?zqxc ?zqxU ?zqxd ?_ ?zqxa ?zqxb)
  case zqxa => rfl
  case zqxb => rfl
  case zqxF => k_asm
  case zqxN => k_asm
  case zqxc => rfl
  case zqxU => k_dflt (exact UpdF.tail (Ne.symm (ne_of_off1 off9 (_, _) (by k_dflt k_mem))) (UpdF.tail (by k_ne) (UpdF.tail (by k_ne) (UpdF.tail (by k_ne) (UpdF.tail (Ne.symm (ne_of_allNe A2 (_, _) (by k_dflt k_mem))) (UpdF.tail (Ne.symm (ne_of_allNe A1 (_, _) (by k_dflt k_mem))) (UpdF.tail (by k_ne) (UpdF.tail (by k_ne) (UpdF.tail (by k_ne) (UpdF.tail (by k_ne) (UpdF.tail (Ne.symm (ne_of_off1 O2 (_, _) (by k_dflt k_mem))) (UpdF.tail (by k_ne) (UpdF.tail (Ne.symm (ne_of_off1 O1 (_, _) (by k_dflt k_mem))) (UpdF.tail (by k_ne) (UpdF.tail (by k_ne) (UpdF.head (List.forall_mem_cons.mpr ⟨(by k_ne), ne_of_allNe (allNe_app.mpr ⟨apart_mem P1 (_, _) (by k_dflt k_mem), apart_mem P2 (_, _) (by k_dflt k_mem)⟩)⟩)))))))))))))))))
  case zqxd => k_asm
  intro hs2 os2 Fs2 Ns2 ds2
  k_sweep
  iterate 2 walk1
  k_dflt (refine Assign_ListComp_E (_F₀ := by k_asm) (by rfl) (by with_unfolding_all rfl) (by with_unfolding_all rfl) (by decide) (by rfl) (by decide) ?zqxnm (by rfl) (by rfl) ?_)
  case zqxnm => exact ⟨⟨rfl, rfl, rfl, rfl, rfl⟩, by decide⟩
  iterate 7 walk1
  (with_reducible show wpAny _ _ (call _ _) _ _ _); k_dflt (change wpAny (model PySem.Challenge.pw_sa0149_01 _) (ktrTop _ _ _ _ _ _ _ _ _ []) _ _ _ _); k_dflt (refine' events_l ?zqvk1 ?zqvk2 ?zqvk3 ?zqvk4 ?zqvwXB ?zqvkTB ?zqvk5 ?zqvkK ?zqvhl ?zqvhi ?zqvhf ?zqvkd ?zqvku ?_); (case zqvk1 => k_asm); (case zqvk2 => k_asm); (case zqvk3 => k_asm); (case zqvk4 => k_asm); (case zqvk5 => k_asm); (case zqvkK => first | exact rfl | assumption); (case zqvwXB => assumption); (case zqvkTB => assumption); (case zqvhl => k_dflt k_mem); (case zqvhi => first | assumption | l_ints); (case zqvhf => first | omega | (simp only [List.length_append, List.length_cons, List.length_nil]; omega)); (case zqvkd => (simp only [depth_caller]; k_dflt decide)); (case zqvku => (simp only [units_caller]; have := cLine_is; omega)); k_whole; intro ev3 wv3 n3 R3 h3 tk3 E3 A3 P3 F3 N3
  simp only [List.cons_append, List.nil_append] at E3 A3 N3
  k_sweep
  change EvsAre _ _ (evsOf l2) at E3
  k_dflt (refine SrcA.intro (k0 := n3) (shiftEv ((l1.length : Int) + 1) ((ys9.length : Int) + 1)) rfl F3 N3 ?zqsax (E3.mono (sub_skip fun _ h => h)) ?zqssz (fun _ => rfl) ?zqstn ?zqsfn)
  case zqsax => exact List.mem_cons_self
  case zqssz => rw [E3.1, PySem.sizeLine_eq]; exact Nat.le_trans (evs_len l2) (by omega)
  case zqstn =>
    intro g8 e8 vv8 ta8 tb8 tc8 td8 Rn8 I8 oI8 C8 oC8 D8 m8 ys8 h8 tk8 E8 he8 hC8 y1 y2 y3 y4 y5 F8 N8
    simp only [List.cons_append, List.nil_append] at N8 ⊢
    iterate 19 walk1
    rename_i lz
    (with_reducible rename Fr _ _ _ _ => FF); (with_reducible rename News _ _ _ _ => NN)
    exact ⟨_, _, _, _, _, _, _, rfl, rfl, FF, NN, Nat.ne_of_gt lz.1, Nat.ne_of_gt lz.2.1, Nat.ne_of_gt lz.2.2.1⟩
  case zqsfn =>
    intro D7 ys7 h7 tk7 R7 E7 F7 N7
    simp only [List.cons_append, List.nil_append] at N7 E7
    iterate 12 walk1
    have hlen9 := fold_len hys9
    have hD9 := hDr (by rw [← hk9, hc9, Int.toNat_natCast]) (kind_ne hkf)
    k_dflt (refine' ev_eq_s (ds := List.map (shiftEv ((l1.length : Int) + 1) ((ys9.length : Int) + 1)) (evsOf l2)) ?zqtN ?zqtma ?zqtDa ?zqtsa ?zqtmb ?zqtDb ?zqtsb ?zqtha ?zqthu ?_)
    case zqtN => k_asm
    case zqtsa => exact fun _ h => h
    case zqtma => k_dflt k_mem
    case zqtDa =>
      rw [hc9, Int.toNat_natCast, hlen9, ← hD9]
      refine (E2.change ?zqtsq).drop _
      case zqtsq => k_dflt (repeat (first | exact fun p hp _ => List.mem_append_left _ (List.mem_append_left _ hp) | refine sq_cons ?_ | refine sq_drop (by assumption) ?_ | refine sq_skip ?_))
    case zqtmb => k_dflt k_mem
    case zqtDb => exact E7
    case zqtsb => k_dflt (repeat (first | exact fun _ h => h | exact sub_appl | exact sub_appr | refine sub_cons ?_ | refine sub_skip ?_))
    case zqtha => exact evOk_shift (evs_okAll l2)
    case zqthu => ke_room
    k_steps

end
end Mine
theorem PySem.Challenge.cw_sa0149_01_holds : PySem.Challenge.rw_sa0149_01.Holds :=
  Mine.law_holds
