import PyProof.Rows.All
import Wide.All
import OpenK.AllK
import Wide.FinOn
import PySem.Challenge.RW_rg0175_01
open PySem PySem.W PyProof.Rows
set_option Elab.async false
set_option maxRecDepth 100000
set_option maxHeartbeats 8000000
namespace Mine
/-! plain texts and numbers: no program in sight -/
def S (l : List Nat) : Str := ⟨l.toArray⟩
theorem S_cps (l : List Nat) : (S l).cps.toList = l := by simp [S]
theorem S_len (l : List Nat) : (S l).length = l.length := by simp [S, Str.length]
theorem S_app (a b : List Nat) : S a ++ S b = S (a ++ b) := by
  show (⟨(S a).cps ++ (S b).cps⟩ : Str) = _
  simp [S]
theorem S_inj {a b : List Nat} (h : S a = S b) : a = b := by
  have := congrArg (fun x : Str => x.cps.toList) h
  simpa [S] using this
theorem S_empty : Str.ofString "" = S [] := by decide
theorem S_one (c : Nat) : (⟨#[c]⟩ : Str) = S [c] := rfl
theorem S_pct : Str.ofString "%" = S [37] := by decide

def hexd (k : Nat) : Nat := if k < 10 then 48 + k else 55 + k
def unitsL (s : Nat) : List Nat := if s < 65536 then [s] else [55296 + (s - 65536) / 1024, 56320 + (s - 65536) % 1024]
def octL (o : Nat) : List Nat := [37, hexd (o / 16), hexd (o % 16)]
def octets (s : Nat) : List Nat :=
  if s < 128 then [s] else if s < 2048 then [192 + s / 64, 128 + s % 64]
  else if s < 65536 then [224 + s / 4096, 128 + s / 64 % 64, 128 + s % 64]
  else [240 + s / 262144, 128 + s / 4096 % 64, 128 + s / 64 % 64, 128 + s % 64]
def encL (s : Nat) : List Nat := if s < 128 then [s] else (octets s).flatMap octL
def Good (s : Nat) : Prop := (97 ≤ s ∧ s ≤ 122) ∨ (128 ≤ s ∧ s < 55296) ∨ (57344 ≤ s ∧ s ≤ 1114111)

def hexText : Str := Str.ofString "0123456789ABCDEF"
def lowText : Str := Str.ofString "0123456789abcdef"
theorem hex_at' : ∀ k, k < 16 → (Str.ofString "0123456789ABCDEF").cps[k]? = some (hexd k) := by decide +kernel
theorem hex_at {i : Int} (h0 : 0 ≤ i) (h1 : i < 16) : (Str.ofString "0123456789ABCDEF").cps[i.toNat]? = some (hexd i.toNat) := hex_at' _ (by omega)
theorem hex_find' : ∀ k, k < 16 → Txt.find (Str.ofString "0123456789ABCDEF") ⟨#[hexd k]⟩ = (k : Int) := by decide +kernel
theorem low_find' : ∀ k, k < 16 → Txt.find (Str.ofString "0123456789abcdef") ⟨#[hexd k]⟩ ≤ (k : Int) := by decide +kernel

def ChAt (x : Str) (i : Int) (c : Nat) : Prop := 0 ≤ i ∧ x.cps[i.toNat]? = some c
theorem ChAt.lt {x : Str} {i : Int} {c : Nat} (h : ChAt x i c) : i < (x.length : Int) := by
  obtain ⟨h0, h1⟩ := h
  have := (Array.getElem?_eq_some_iff.mp h1).1
  have e : x.length = x.cps.size := rfl
  omega
theorem chAt_app {p q : List Nat} {c : Nat} {i : Int} (hi : i = (p.length : Int)) : ChAt (S (p ++ c :: q)) i c := by
  subst hi
  refine ⟨by omega, ?_⟩
  simp [S]
theorem item_of {x : Str} {i : Int} {c : Nat} (h : ChAt x i c) : Txt.item x i = ⟨#[c]⟩ := by
  have hl := h.lt
  obtain ⟨h0, h1⟩ := h
  unfold Txt.item Txt.charAt seqIndex?
  simp only [if_neg (show ¬ i < 0 by omega)]
  rw [if_pos (by simp; omega)]
  simp [h1]

/-! the steps of the machine that this text takes, with neat values -/
section
variable {prog : Program} {w : World} {A : Around} {E : Value → Shared → Prop} {s : Shared} {a b : Int} {t u : Tok} {Q : Value → Shared → Prop}
theorem shr_d {n : Int} (d : Int) (hn : 0 ≤ n) (hd : (2 : Int) ^ n.toNat = d) (h : Q (.int (a / d) s.toks) { s with toks := s.toks + 1 }) : wpAny (model prog w) A (binaryOp .RShift (.int a t) (.int n u)) Q E s := by
  refine rshift_int hn ?_
  rw [hd, Int.fdiv_eq_ediv_of_nonneg _ (by rw [← hd]; exact Int.le_of_lt (kbt_pos _))]
  exact h
theorem shr10 (h : Q (.int (a / 1024) s.toks) { s with toks := s.toks + 1 }) : wpAny (model prog w) A (binaryOp .RShift (.int a t) (.int 10 u)) Q E s := shr_d 1024 (by decide) (by decide) h
theorem shr6 (h : Q (.int (a / 64) s.toks) { s with toks := s.toks + 1 }) : wpAny (model prog w) A (binaryOp .RShift (.int a t) (.int 6 u)) Q E s := shr_d 64 (by decide) (by decide) h
theorem shr4 (h : Q (.int (a / 16) s.toks) { s with toks := s.toks + 1 }) : wpAny (model prog w) A (binaryOp .RShift (.int a t) (.int 4 u)) Q E s := shr_d 16 (by decide) (by decide) h
theorem shr3 (h : Q (.int (a / 8) s.toks) { s with toks := s.toks + 1 }) : wpAny (model prog w) A (binaryOp .RShift (.int a t) (.int 3 u)) Q E s := shr_d 8 (by decide) (by decide) h
theorem shr2 (h : Q (.int (a / 4) s.toks) { s with toks := s.toks + 1 }) : wpAny (model prog w) A (binaryOp .RShift (.int a t) (.int 2 u)) Q E s := shr_d 4 (by decide) (by decide) h
theorem shr1 (h : Q (.int (a / 2) s.toks) { s with toks := s.toks + 1 }) : wpAny (model prog w) A (binaryOp .RShift (.int a t) (.int 1 u)) Q E s := shr_d 2 (by decide) (by decide) h
theorem shl6 (h0 : 0 ≤ a) (h1 : a < 16777216) (h : Q (.int (a * 64) s.toks) { s with toks := s.toks + 1 }) : wpAny (model prog w) A (binaryOp .LShift (.int a t) (.int 6 u)) Q E s := by
  refine lshift_int_small (by decide) (by decide) (by omega) ?_
  exact h
theorem and_mask (k : Nat) (d m : Int) (hd : (2 : Int) ^ k = d) (hm : m = d - 1) (h : Q (.int (a % d) s.toks) { s with toks := s.toks + 1 }) : wpAny (model prog w) A (binaryOp .BitAnd (.int a t) (.int m u)) Q E s := by
  refine and_int ?_
  subst hm; subst hd
  rw [kbt_mask]
  exact h
theorem and63 (h : Q (.int (a % 64) s.toks) { s with toks := s.toks + 1 }) : wpAny (model prog w) A (binaryOp .BitAnd (.int a t) (.int 63 u)) Q E s := and_mask 6 64 63 (by decide) (by decide) h
theorem and15 (h : Q (.int (a % 16) s.toks) { s with toks := s.toks + 1 }) : wpAny (model prog w) A (binaryOp .BitAnd (.int a t) (.int 15 u)) Q E s := and_mask 4 16 15 (by decide) (by decide) h
theorem and7 (h : Q (.int (a % 8) s.toks) { s with toks := s.toks + 1 }) : wpAny (model prog w) A (binaryOp .BitAnd (.int a t) (.int 7 u)) Q E s := and_mask 3 8 7 (by decide) (by decide) h
theorem and31 (h : Q (.int (a % 32) s.toks) { s with toks := s.toks + 1 }) : wpAny (model prog w) A (binaryOp .BitAnd (.int a t) (.int 31 u)) Q E s := and_mask 5 32 31 (by decide) (by decide) h
theorem and1023 (h : Q (.int (a % 1024) s.toks) { s with toks := s.toks + 1 }) : wpAny (model prog w) A (binaryOp .BitAnd (.int a t) (.int 1023 u)) Q E s := and_mask 10 1024 1023 (by decide) (by decide) h
theorem band192 (h0 : 128 ≤ a) (h1 : a < 192) : Builtin.bitAnd a 192 = 128 := by
  have key : ∀ n : Nat, n < 64 → (128 + n) &&& 192 = 128 := by decide +kernel
  rw [bitAnd_pp (by omega) (by decide)]
  have := key (a.toNat - 128) (by omega)
  have e : 128 + (a.toNat - 128) = a.toNat := by omega
  rw [e] at this
  show ((a.toNat &&& 192 : Nat) : Int) = 128
  rw [this]; rfl
theorem and192 (h0 : 128 ≤ a) (h1 : a < 192) (h : Q (.int 128 s.toks) { s with toks := s.toks + 1 }) : wpAny (model prog w) A (binaryOp .BitAnd (.int a t) (.int 192 u)) Q E s := by
  refine and_int ?_
  rw [band192 h0 h1]; exact h
theorem bor_disj (k : Nat) (q r : Int) (hq : 0 ≤ q) (h0 : 0 ≤ r) (h1 : r < 2 ^ k) : Builtin.bitOr (q * 2 ^ k) r = q * 2 ^ k + r := by
  rw [bitOr_and]
  have hp := kbt_pos k
  have e : Builtin.bitAnd (q * 2 ^ k) r = 0 := by
    have hc := kbt_cast k
    rw [bitAnd_pp (Int.mul_nonneg hq (Int.le_of_lt hp)) h0]
    have hn : r.toNat < 2 ^ k := by omega
    have e1 : (q * 2 ^ k).toNat = 2 ^ k * q.toNat := by
      have : (((2 ^ k * q.toNat : Nat)) : Int) = q * 2 ^ k := by
        rw [Int.natCast_mul, hc, Int.toNat_of_nonneg hq, Int.mul_comm]
      omega
    rw [e1]
    have e2 : 2 ^ k * q.toNat &&& r.toNat = 0 := by
      refine Nat.eq_of_testBit_eq fun i => ?_
      rw [Nat.testBit_and, Nat.zero_testBit, Nat.testBit_two_pow_mul]
      by_cases hi : k ≤ i
      · rw [Nat.testBit_lt_two_pow (Nat.lt_of_lt_of_le hn (Nat.pow_le_pow_right (by decide) hi))]
        simp
      · simp [hi]
    rw [e2]; rfl
  rw [e]; omega
theorem or_d (k : Nat) (q d m : Int) (hd : (2 : Int) ^ k = d) (hm : a = q * d) (hq : 0 ≤ q) (h0 : 0 ≤ b) (h1 : b < d) (h : Q (.int (a + b) s.toks) { s with toks := s.toks + 1 }) : wpAny (model prog w) A (binaryOp .BitOr (.int a t) (.int b u)) Q E s := by
  refine or_int ?_
  subst hd; subst hm
  rw [bor_disj k q b hq h0 h1]
  exact h
theorem or128 (h0 : 0 ≤ b) (h1 : b < 128) (h : Q (.int (128 + b) s.toks) { s with toks := s.toks + 1 }) : wpAny (model prog w) A (binaryOp .BitOr (.int 128 t) (.int b u)) Q E s := or_d 7 1 128 0 (by decide) (by decide) (by decide) h0 h1 h
theorem or192 (h0 : 0 ≤ b) (h1 : b < 32) (h : Q (.int (192 + b) s.toks) { s with toks := s.toks + 1 }) : wpAny (model prog w) A (binaryOp .BitOr (.int 192 t) (.int b u)) Q E s := or_d 6 3 64 0 (by decide) (by decide) (by decide) h0 (by omega) h
theorem or224 (h0 : 0 ≤ b) (h1 : b < 16) (h : Q (.int (224 + b) s.toks) { s with toks := s.toks + 1 }) : wpAny (model prog w) A (binaryOp .BitOr (.int 224 t) (.int b u)) Q E s := or_d 5 7 32 0 (by decide) (by decide) (by decide) h0 (by omega) h
theorem or240 (h0 : 0 ≤ b) (h1 : b < 8) (h : Q (.int (240 + b) s.toks) { s with toks := s.toks + 1 }) : wpAny (model prog w) A (binaryOp .BitOr (.int 240 t) (.int b u)) Q E s := or_d 4 15 16 0 (by decide) (by decide) (by decide) h0 (by omega) h
theorem orm64 (ha : 0 ≤ a) (h0 : 0 ≤ b) (h1 : b < 64) (h : Q (.int (a * 64 + b) s.toks) { s with toks := s.toks + 1 }) : wpAny (model prog w) A (binaryOp .BitOr (.int (a * 64) t) (.int b u)) Q E s := or_d 6 a 64 0 (by decide) rfl ha h0 h1 h
end
section
variable {prog : Program} {w : World} {A : Around} {E : Value → Shared → Prop} {s : Shared} {value slice : PySem.Expr} {x : Str} {t u : Tok} {Q : Value → Shared → Prop}
theorem item_at {i : Int} {c : Nat} (hc : ChAt x i c) (hl : x.length ≤ 100000) (h : Q (.str ⟨#[c]⟩ s.toks) { s with toks := s.toks + 1 })
    (hs : subscripted slice false (.str x t) (.int i u) = operate [.str x t, .int i u] (getItem (.str x t) (.int i u)) := by with_unfolding_all rfl)
    (ht : ∀ r, letTemporaryGo value (.str x t) r = pure () := by intro _; with_unfolding_all rfl) :
    wpAny (model prog w) A (subscriptTail value slice (.str x t) (.int i u)) Q E s := by
  have h1 := hc.lt
  have h0 := hc.1
  refine item_str (fitsSsize_of (N := 1000000) (by omega) (by omega) (by decide)) (by omega) h1 (fun _ => ?_) hs ht
  rw [item_of hc]; exact h
theorem hex_item {i : Int} (h0 : 0 ≤ i) (h1 : i < 16) (h : Q (.str ⟨#[hexd i.toNat]⟩ s.toks) { s with toks := s.toks + 1 })
    (hs : subscripted slice false (.str (Str.ofString "0123456789ABCDEF") t) (.int i u) = operate [.str (Str.ofString "0123456789ABCDEF") t, .int i u] (getItem (.str (Str.ofString "0123456789ABCDEF") t) (.int i u)) := by with_unfolding_all rfl)
    (ht : ∀ r, letTemporaryGo value (.str (Str.ofString "0123456789ABCDEF") t) r = pure () := by intro _; with_unfolding_all rfl) :
    wpAny (model prog w) A (subscriptTail value slice (.str (Str.ofString "0123456789ABCDEF") t) (.int i u)) Q E s :=
  item_at ⟨h0, hex_at h0 h1⟩ (by decide) h hs ht
end
section
variable {prog : Program} {w : World} {A : Around} {E : Value → Shared → Prop} {s : Shared} {t u : Tok} {Q : Value → Shared → Prop}
theorem shr127_2 (h : Q (.int 31 s.toks) { s with toks := s.toks + 1 }) : wpAny (model prog w) A (binaryOp .RShift (.int 127 t) (.int 2 u)) Q E s := shr2 h
theorem shr127_3 (h : Q (.int 15 s.toks) { s with toks := s.toks + 1 }) : wpAny (model prog w) A (binaryOp .RShift (.int 127 t) (.int 3 u)) Q E s := shr3 h
theorem shr127_4 (h : Q (.int 7 s.toks) { s with toks := s.toks + 1 }) : wpAny (model prog w) A (binaryOp .RShift (.int 127 t) (.int 4 u)) Q E s := shr4 h
theorem shr64_1 (h : Q (.int 32 s.toks) { s with toks := s.toks + 1 }) : wpAny (model prog w) A (binaryOp .RShift (.int 64 t) (.int 1 u)) Q E s := shr1 h
theorem shr32_1 (h : Q (.int 16 s.toks) { s with toks := s.toks + 1 }) : wpAny (model prog w) A (binaryOp .RShift (.int 32 t) (.int 1 u)) Q E s := shr1 h
theorem shr16_1 (h : Q (.int 8 s.toks) { s with toks := s.toks + 1 }) : wpAny (model prog w) A (binaryOp .RShift (.int 16 t) (.int 1 u)) Q E s := shr1 h
end

open_top hd for PySem.Challenge.rw_rg0175_01

/-! what each def does, as a claim over every frame that may call it -/
abbrev TopK (mean : ExcName → Option Value) (mg mb : Str → Option Value) (h : Heap) : Prop := Top hd.view_39 (looseW hd.view_39 [Str.ofString "PLAIN", Str.ofString "LEAST_SIGNS"]) mean mg mb h
abbrev Ent (w : World) (mean : ExcName → Option Value) (mg mb : Str → Option Value) (news : List (Addr × Obj)) (d u : Nat) (f : Addr) (vs : List Value) (Ret : Heap → Addr → (Str → Option Value) → Shared → (Value → Shared → Prop) → Prop) : Prop :=
  ∀ (dp un : Nat) (gd : Option (List Code)) (cn : Str) (cs : Scope) (a : Addr) (ccd : Value) (cl : List (Str × Addr)) (outer : List Env) (A₀ : Around) (base h₀ : Heap) (L : Addr) (m : Str → Option Value) (s : Shared) (Q E : Value → Shared → Prop),
    Below A₀ base outer h₀ → Fr h₀ L s.heap m → (hd.heap_39 w.params).In h₀ → News h₀ L s.heap news → TopK mean mg mb h₀ → cs.kind = .function → dp + d < recursionLimit → un + u < cLine → Ret h₀ L m s Q →
    wpAny (model PySem.Challenge.rw_rg0175_01.row.prog w) (ktrTop dp un gd cn cs L a ccd cl outer) (call (.ref f) vs) Q E s
abbrev RetV (news : List (Addr × Obj)) (R : Tok → Value) (h₀ : Heap) (L : Addr) (m : Str → Option Value) (s : Shared) (Q : Value → Shared → Prop) : Prop :=
  ∀ (t : Tok) (h' : Heap) (tk' : Nat), Fr h₀ L h' m → News h₀ L h' news → Q (R t) { s with heap := h', toks := tk' }

section
local macro_rules | `(tactic| walk_at "binaryOp RShift int int") => `(tactic| (k_here; (with_reducible first | refine shr127_2 ?_ | refine shr127_3 ?_ | refine shr127_4 ?_ | refine shr64_1 ?_ | refine shr32_1 ?_ | refine shr16_1 ?_ | refine shr10 ?_ | refine shr6 ?_ | refine shr4 ?_ | refine shr3 ?_ | refine shr2 ?_ | refine shr1 ?_); (try dsimp only)))
local macro_rules | `(tactic| walk_at "binaryOp BitAnd int int") => `(tactic| (k_here; (with_reducible first | refine and63 ?_ | refine and15 ?_ | refine and7 ?_ | refine and31 ?_ | refine and1023 ?_ | refine and192 (by omega) (by omega) ?_); (try dsimp only)))
local macro_rules | `(tactic| walk_at "binaryOp BitOr int int") => `(tactic| (k_here; (with_reducible first | refine or128 (by omega) (by omega) ?_ | refine or192 (by omega) (by omega) ?_ | refine or224 (by omega) (by omega) ?_ | refine or240 (by omega) (by omega) ?_ | refine orm64 (by omega) (by omega) (by omega) ?_); (try dsimp only)))
local macro_rules | `(tactic| walk_at "binaryOp LShift int int") => `(tactic| (k_here; (with_reducible refine shl6 (by omega) (by omega) ?_); (try dsimp only)))
local macro_rules | `(tactic| walk_at "call builtin:chr") => `(tactic| (k_here; (with_reducible refine chr_of_range (by omega) (by omega) ?_); (try dsimp only)))
local macro_rules | `(tactic| walk_at "subscriptTail Name BinOp str int") => `(tactic| (k_here; refine hex_item (by omega) (by omega) ?_; (try dsimp only)))
local macro_rules | `(tactic| walk_at "subscriptTail Name BinOp str int") => `(tactic| (k_here; refine item_at (by assumption) (by omega) ?_; (try dsimp only)))
local macro_rules | `(tactic| walk_at "subscriptTail Name Name str int") => `(tactic| (k_here; refine item_at (by assumption) (by omega) ?_; (try dsimp only)))

section
variable (w : World) (mean : ExcName → Option Value) (mg mb : Str → Option Value) (news : List (Addr × Obj))
theorem c_isHigh (x : Int) (t : Tok) : Ent w mean mg mb news 10 100 49 [.int x t] (RetV news fun _ => .bool (decide (55296 ≤ x ∧ x ≤ 56319))) := by
  w_top off; unfold Ent RetV; k_fill; intros; rename_i hret
  refine wpAny_call ?_
  k_dflt cell_enter
  k_steps
  all_goals (refine cb_retB hret ?_ (by k_asm) (by k_asm); simp; try omega)
theorem c_isLow (x : Int) (t : Tok) : Ent w mean mg mb news 10 100 56 [.int x t] (RetV news fun _ => .bool (decide (56320 ≤ x ∧ x ≤ 57343))) := by
  w_top off; unfold Ent RetV; k_fill; intros; rename_i hret
  refine wpAny_call ?_
  k_dflt cell_enter
  k_steps
  all_goals (refine cb_retB hret ?_ (by k_asm) (by k_asm); simp; try omega)
theorem c_unitsOf (x : Int) (t : Tok) (h0 : 0 ≤ x) (h1 : x ≤ 1114111) : Ent w mean mg mb news 10 100 70 [.int x t] (RetV news fun t => .str (S (unitsL x.toNat)) t) := by
  w_top off; unfold Ent RetV; k_fill; intros; rename_i hret
  refine wpAny_call ?_
  k_dflt cell_enter
  k_steps
  all_goals (refine cb_retS hret ?_ (by k_asm) (by k_asm))
  · show S [x.toNat] = _
    unfold unitsL
    rw [if_pos (by omega)]
  · rw [S_one, S_one, S_app]
    unfold unitsL
    rw [if_neg (by omega), show (55296 + (x - 65536) / 1024).toNat = 55296 + (x.toNat - 65536) / 1024 by omega, show (56320 + (x - 65536) % 1024).toNat = 56320 + (x.toNat - 65536) % 1024 by omega]
    rfl
theorem c_octetText (x : Int) (t : Tok) (h0 : 0 ≤ x) (h1 : x < 256) : Ent w mean mg mb news 10 100 82 [.int x t] (RetV news fun t => .str (S (octL x.toNat)) t) := by
  w_top off; unfold Ent RetV; k_fill; intros; rename_i hret
  refine wpAny_call ?_
  k_dflt cell_enter
  k_steps
  all_goals (refine cb_retS hret ?_ (by k_asm) (by k_asm))
  rw [S_pct, S_one, S_one, S_app, S_app, show (x / 16).toNat = x.toNat / 16 by omega, show (x % 16).toNat = x.toNat % 16 by omega]
  rfl
def countN (x : Int) : Int := if x < 128 then 1 else if x < 192 ∨ 248 ≤ x then 0 else if x < 224 then 2 else if x < 240 then 3 else 4
theorem c_octetCount (x : Int) (t : Tok) : Ent w mean mg mb news 10 100 115 [.int x t] (RetV news fun t => .int (countN x) t) := by
  w_top off; unfold Ent RetV; k_fill; intros; rename_i hret
  refine wpAny_call ?_
  k_dflt cell_enter
  k_steps
  all_goals (refine cb_retI hret ?_ (by k_asm) (by k_asm); unfold countN; (repeat' split) <;> first | rfl | omega)
end

end
section
local macro_rules | `(tactic| walk_at "binaryOp RShift int int") => `(tactic| (k_here; (with_reducible first | refine shr127_2 ?_ | refine shr127_3 ?_ | refine shr127_4 ?_ | refine shr64_1 ?_ | refine shr32_1 ?_ | refine shr16_1 ?_ | refine shr10 ?_ | refine shr6 ?_ | refine shr4 ?_ | refine shr3 ?_ | refine shr2 ?_ | refine shr1 ?_); (try dsimp only)))
local macro_rules | `(tactic| walk_at "binaryOp BitAnd int int") => `(tactic| (k_here; (with_reducible first | refine and63 ?_ | refine and15 ?_ | refine and7 ?_ | refine and31 ?_ | refine and1023 ?_ | refine and192 (by omega) (by omega) ?_); (try dsimp only)))
local macro_rules | `(tactic| walk_at "binaryOp BitOr int int") => `(tactic| (k_here; (with_reducible first | refine or128 (by omega) (by omega) ?_ | refine or192 (by omega) (by omega) ?_ | refine or224 (by omega) (by omega) ?_ | refine or240 (by omega) (by omega) ?_ | refine orm64 (by omega) (by omega) (by omega) ?_); (try dsimp only)))
local macro_rules | `(tactic| walk_at "binaryOp LShift int int") => `(tactic| (k_here; (with_reducible refine shl6 (by omega) (by omega) ?_); (try dsimp only)))
local macro_rules | `(tactic| walk_at "call builtin:chr") => `(tactic| (k_here; (with_reducible refine chr_of_range (by omega) (by omega) ?_); (try dsimp only)))
local macro_rules | `(tactic| walk_at "subscriptTail Name BinOp str int") => `(tactic| (k_here; refine hex_item (by omega) (by omega) ?_; (try dsimp only)))
local macro_rules | `(tactic| walk_at "subscriptTail Name BinOp str int") => `(tactic| (k_here; refine item_at (by assumption) (by omega) ?_; (try dsimp only)))
local macro_rules | `(tactic| walk_at "subscriptTail Name Name str int") => `(tactic| (k_here; refine item_at (by assumption) (by omega) ?_; (try dsimp only)))

local macro_rules | `(tactic| walk_at "call ref") => `(tactic| (k_here; k_dflt (refine' c_isHigh _ _ _ _ _ _ _ _ _ _ _ _ _ _ _ _ _ _ _ _ _ _ _ _ ?k1 ?k2 ?k3 ?k4 ?k5 ?kK ?kd ?ku ?_); (case k1 => k_asm); (case k2 => k_asm); (case k3 => k_asm); (case k4 => k_asm); (case k5 => k_asm); (case kK => first | exact rfl | assumption); (case kd => ktr_room); (case ku => ktr_units); (intro t9 h9 tk9 F9 N9; (try dsimp only); (try k_fold); (try k_sweep))))
local macro_rules | `(tactic| walk_at "call ref") => `(tactic| (k_here; k_dflt (refine' c_isLow _ _ _ _ _ _ _ _ _ _ _ _ _ _ _ _ _ _ _ _ _ _ _ _ ?k1 ?k2 ?k3 ?k4 ?k5 ?kK ?kd ?ku ?_); (case k1 => k_asm); (case k2 => k_asm); (case k3 => k_asm); (case k4 => k_asm); (case k5 => k_asm); (case kK => first | exact rfl | assumption); (case kd => ktr_room); (case ku => ktr_units); (intro t9 h9 tk9 F9 N9; (try dsimp only); (try k_fold); (try k_sweep))))

section
variable (w : World) (mean : ExcName → Option Value) (mg mb : Str → Option Value) (news : List (Addr × Obj))
theorem c_whole1 (x : Str) (tx : Tok) (i : Int) (ti : Tok) (c : Nat) (hc : ChAt x i c) (hl : x.length ≤ 100000) (h : c < 55296 ∨ 57344 ≤ c) :
    Ent w mean mg mb news 20 200 89 [.str x tx, .int i ti] (RetV news fun t => .int c t) := by
  w_top off; unfold Ent RetV; k_fill; intros; rename_i hret
  refine wpAny_call ?_
  k_dflt cell_enter
  k_steps
  all_goals exact hret _ _ _ (by k_asm) (by k_asm)
theorem c_whole2 (x : Str) (tx : Tok) (i : Int) (ti : Tok) (c d : Nat) (hc : ChAt x i c) (hd : ChAt x (i + 1) d) (hl : x.length ≤ 100000) (h0 : 55296 ≤ c) (h1 : c ≤ 56319) (h2 : 56320 ≤ d) (h3 : d ≤ 57343) :
    Ent w mean mg mb news 20 200 89 [.str x tx, .int i ti] (RetV news fun t => .int (((c : Int) - 55296) * 1024 + ((d : Int) - 56320) + 65536) t) := by
  have hlt := hd.lt
  w_top off; unfold Ent RetV; k_fill; intros; rename_i hret
  refine wpAny_call ?_
  k_dflt cell_enter
  k_steps
  all_goals exact hret _ _ _ (by k_asm) (by k_asm)
end

end
section
variable {prog : Program} {w : World} {A : Around} {E : Value → Shared → Prop} {s : Shared} {t u : Tok} {Q : Value → Shared → Prop}
theorem find_hex {k : Nat} (hk : k < 16) (h : Q (.int (k : Int) s.toks) { s with toks := s.toks + 1 }) : wpAny (model prog w) A (call (.builtin "str.find") [.str (Str.ofString "0123456789ABCDEF") t, .str ⟨#[hexd k]⟩ u]) Q E s := by
  refine SC.find ?_
  rw [hex_find' k hk]
  exact h
theorem find_low {k : Nat} (hk : k < 16) (h : ∀ z : Int, z ≤ (k : Int) → Q (.int z s.toks) { s with toks := s.toks + 1 }) : wpAny (model prog w) A (call (.builtin "str.find") [.str (Str.ofString "0123456789abcdef") t, .str ⟨#[hexd k]⟩ u]) Q E s := by
  refine SC.find ?_
  exact h _ (low_find' k hk)
end
theorem slice2 {x : Str} {i j : Int} {c d : Nat} (h1 : ChAt x i c) (h2 : ChAt x (i + 1) d) (hj : j = i + 2) : Txt.slice x (some i) (some j) = S [c, d] := by
  have hl := h2.lt
  obtain ⟨h0, h1⟩ := h1
  obtain ⟨_, h2⟩ := h2
  have e : x.cps.toList.length = x.length := by simp [Str.length]
  refine (eq_of_beq (slice_closes (x := x) (i := i) (j := j) ⟨h0, by omega, by rw [e]; omega⟩)).trans ?_
  have hn : (i + 1).toNat = i.toNat + 1 := by omega
  rw [hn] at h2
  have hj' : (j - i).toNat = 2 := by omega
  rw [hj']
  have g1 : x.cps.toList[i.toNat]? = some c := by simpa using h1
  have g2 : x.cps.toList[i.toNat + 1]? = some d := by simpa using h2
  have e2 : (x.cps.toList.drop i.toNat).take 2 = [c, d] := by
    obtain ⟨k1, q1⟩ := List.getElem?_eq_some_iff.mp g1
    obtain ⟨k2, q2⟩ := List.getElem?_eq_some_iff.mp g2
    rw [List.drop_eq_getElem_cons k1, List.drop_eq_getElem_cons k2, q1, q2]
    rfl
  rw [e2]
  rfl

section
local macro_rules | `(tactic| walk_at "binaryOp RShift int int") => `(tactic| (k_here; (with_reducible first | refine shr127_2 ?_ | refine shr127_3 ?_ | refine shr127_4 ?_ | refine shr64_1 ?_ | refine shr32_1 ?_ | refine shr16_1 ?_ | refine shr10 ?_ | refine shr6 ?_ | refine shr4 ?_ | refine shr3 ?_ | refine shr2 ?_ | refine shr1 ?_); (try dsimp only)))
local macro_rules | `(tactic| walk_at "binaryOp BitAnd int int") => `(tactic| (k_here; (with_reducible first | refine and63 ?_ | refine and15 ?_ | refine and7 ?_ | refine and31 ?_ | refine and1023 ?_ | refine and192 (by omega) (by omega) ?_); (try dsimp only)))
local macro_rules | `(tactic| walk_at "binaryOp BitOr int int") => `(tactic| (k_here; (with_reducible first | refine or128 (by omega) (by omega) ?_ | refine or192 (by omega) (by omega) ?_ | refine or224 (by omega) (by omega) ?_ | refine or240 (by omega) (by omega) ?_ | refine orm64 (by omega) (by omega) (by omega) ?_); (try dsimp only)))
local macro_rules | `(tactic| walk_at "binaryOp LShift int int") => `(tactic| (k_here; (with_reducible refine shl6 (by omega) (by omega) ?_); (try dsimp only)))
local macro_rules | `(tactic| walk_at "call builtin:chr") => `(tactic| (k_here; (with_reducible refine chr_of_range (by omega) (by omega) ?_); (try dsimp only)))
local macro_rules | `(tactic| walk_at "subscriptTail Name BinOp str int") => `(tactic| (k_here; refine hex_item (by omega) (by omega) ?_; (try dsimp only)))
local macro_rules | `(tactic| walk_at "subscriptTail Name BinOp str int") => `(tactic| (k_here; refine item_at (by assumption) (by omega) ?_; (try dsimp only)))
local macro_rules | `(tactic| walk_at "subscriptTail Name Name str int") => `(tactic| (k_here; refine item_at (by assumption) (by omega) ?_; (try dsimp only)))

local macro_rules | `(tactic| walk_at "UnrEnd") => `(tactic| ((rename News _ _ _ _ => nE'); (refine UnrEnd.intro (by assumption) nE' _ (by first | exact fun _ hp => hp | exact fun _ hp => List.Mem.tail _ hp | exact fun _ hp => List.Mem.tail _ (List.Mem.tail _ hp)) (by k_all) ?_); (try (refine And.intro (by k_mem) ?_))))
local macro_rules | `(tactic| walk_at "call builtin:str.find") => `(tactic| (k_here; first | (refine find_hex (by omega) ?_; (try dsimp only)) | (refine find_low (by omega) ?_; intro z9 hz9; (try dsimp only))))
local macro_rules | `(tactic| walk_at "exec For Name Name cons nil") => `(tactic| (k_here; (rename Fr _ _ _ _ => lF'); (with_unfolding_all refine' For_invVF lF' ?k1 ?k2 ?_; (case k1 => exact rfl); (case k2 => exact rfl); k_whole)))
local macro_rules | `(tactic| walk_at "pyIter str") => `(tactic| ((with_reducible show wpAny _ _ (pyIter (Value.str (S [_, _]) _)) (fun it s₂ => LoopAtV _ _ _ _ _ _ _ _ _ it s₂) _ _); k_here; ((rename Fr _ _ _ _ => lF'); (rename News _ _ _ _ => lN'); (with_unfolding_all refine iter_strUnr (l := [⟨#[hexd _]⟩, ⟨#[hexd _]⟩]) (by rfl) lF' lN' (by rfl) ?_); clear lF' lN'; intro i' l1; (try k_lt l1))))
local macro_rules | `(tactic| is_list) => `(tactic| exact News.isList (by assumption) (by assumption))
local macro_rules | `(tactic| walk_at "pyIter ref") => `(tactic| ((with_reducible show wpAny _ _ (pyIter (Value.ref _)) (fun it s₂ => LoopAtV _ _ _ _ _ _ _ _ _ it s₂) _ _); k_here; (rename Fr _ _ _ _ => lF'); (rename News _ _ _ _ => lN'); (with_unfolding_all refine iter_listUnr (by rfl) lF' lN' (by k_mem) (by rfl) (by rfl) ?_); clear lF' lN'; intro i' l1; (try k_lt l1)))
local macro_rules | `(tactic| walk_at "exec For Name Subscript cons nil") => `(tactic| (k_here; (rename Fr _ _ _ _ => lF'); (with_unfolding_all refine' For_invVF lF' ?k1 ?k2 ?_; (case k1 => exact rfl); (case k2 => exact rfl); k_whole)))
local macro_rules | `(tactic| walk_at "subscriptTail Name Name ref int") => `(tactic| (k_here; k_dflt (refine' topList_K ?F ?X ?l ?a ?b ?d ?_; (case F => k_asm); (case X => k_asm); (case l => k_is); (case a => decide); (case b => decide); (case d => rfl); k_whole)))
local macro_rules | `(tactic| walk_at "subscriptTail Name Constant ref int") => `(tactic| (k_here; (with_reducible show wpAny _ _ (subscriptTail _ _ (Value.ref _) (Value.int _ _)) _ _ _); (with_unfolding_all refine' item_litK ?k1 ?k2 ?k3 ?k4 ?_ ?k6; (case k1 => is_list); (case k2 => decide); (case k3 => decide); (case k4 => rfl); (case k6 => with_unfolding_all rfl); k_whole)))

section
variable (w : World) (mean : ExcName → Option Value) (mg mb : Str → Option Value) (news : List (Addr × Obj))
theorem c_hexValue (tx : Tok) (a b : Nat) (ha : a < 16) (hb : b < 16) : Ent w mean mg mb news 10 100 101 [.str (S [hexd a, hexd b]) tx] (RetV news fun t => .int (16 * (a : Int) + b) t) := by
  w_top off; unfold Ent RetV; k_fill; intros; rename_i hret; have kMk := kstMark
  refine wpAny_call ?_
  k_dflt cell_enter
  k_steps
  all_goals (refine cb_retI hret ?_ (by k_asm) (by k_asm); (repeat' split) <;> omega)
theorem c_hexValueE (y : Str) (tx : Tok) (a b : Nat) (hy : y = S [hexd a, hexd b]) (ha : a < 16) (hb : b < 16) : Ent w mean mg mb news 10 100 101 [.str y tx] (RetV news fun t => .int (16 * (a : Int) + b) t) := by
  subst hy
  exact c_hexValue w mean mg mb news tx a b ha hb
end

end
section
local macro_rules | `(tactic| walk_at "binaryOp RShift int int") => `(tactic| (k_here; (with_reducible first | refine shr127_2 ?_ | refine shr127_3 ?_ | refine shr127_4 ?_ | refine shr64_1 ?_ | refine shr32_1 ?_ | refine shr16_1 ?_ | refine shr10 ?_ | refine shr6 ?_ | refine shr4 ?_ | refine shr3 ?_ | refine shr2 ?_ | refine shr1 ?_); (try dsimp only)))
local macro_rules | `(tactic| walk_at "binaryOp BitAnd int int") => `(tactic| (k_here; (with_reducible first | refine and63 ?_ | refine and15 ?_ | refine and7 ?_ | refine and31 ?_ | refine and1023 ?_ | refine and192 (by omega) (by omega) ?_); (try dsimp only)))
local macro_rules | `(tactic| walk_at "binaryOp BitOr int int") => `(tactic| (k_here; (with_reducible first | refine or128 (by omega) (by omega) ?_ | refine or192 (by omega) (by omega) ?_ | refine or224 (by omega) (by omega) ?_ | refine or240 (by omega) (by omega) ?_ | refine orm64 (by omega) (by omega) (by omega) ?_); (try dsimp only)))
local macro_rules | `(tactic| walk_at "binaryOp LShift int int") => `(tactic| (k_here; (with_reducible refine shl6 (by omega) (by omega) ?_); (try dsimp only)))
local macro_rules | `(tactic| walk_at "call builtin:chr") => `(tactic| (k_here; (with_reducible refine chr_of_range (by omega) (by omega) ?_); (try dsimp only)))
local macro_rules | `(tactic| walk_at "subscriptTail Name BinOp str int") => `(tactic| (k_here; refine hex_item (by omega) (by omega) ?_; (try dsimp only)))
local macro_rules | `(tactic| walk_at "subscriptTail Name BinOp str int") => `(tactic| (k_here; refine item_at (by assumption) (by omega) ?_; (try dsimp only)))
local macro_rules | `(tactic| walk_at "subscriptTail Name Name str int") => `(tactic| (k_here; refine item_at (by assumption) (by omega) ?_; (try dsimp only)))

local macro_rules | `(tactic| walk_at "UnrEnd") => `(tactic| ((rename News _ _ _ _ => nE'); (refine UnrEnd.intro (by assumption) nE' _ (by first | exact fun _ hp => hp | exact fun _ hp => List.Mem.tail _ hp | exact fun _ hp => List.Mem.tail _ (List.Mem.tail _ hp)) (by k_all) ?_); (try (refine And.intro (by k_mem) ?_))))
local macro_rules | `(tactic| walk_at "call builtin:str.find") => `(tactic| (k_here; first | (refine find_hex (by omega) ?_; (try dsimp only)) | (refine find_low (by omega) ?_; intro z9 hz9; (try dsimp only))))
local macro_rules | `(tactic| walk_at "exec For Name Name cons nil") => `(tactic| (k_here; (rename Fr _ _ _ _ => lF'); (with_unfolding_all refine' For_invVF lF' ?k1 ?k2 ?_; (case k1 => exact rfl); (case k2 => exact rfl); k_whole)))
local macro_rules | `(tactic| walk_at "pyIter str") => `(tactic| ((with_reducible show wpAny _ _ (pyIter (Value.str (S [_, _]) _)) (fun it s₂ => LoopAtV _ _ _ _ _ _ _ _ _ it s₂) _ _); k_here; ((rename Fr _ _ _ _ => lF'); (rename News _ _ _ _ => lN'); (with_unfolding_all refine iter_strUnr (l := [⟨#[hexd _]⟩, ⟨#[hexd _]⟩]) (by rfl) lF' lN' (by rfl) ?_); clear lF' lN'; intro i' l1; (try k_lt l1))))
local macro_rules | `(tactic| is_list) => `(tactic| exact News.isList (by assumption) (by assumption))
local macro_rules | `(tactic| walk_at "pyIter ref") => `(tactic| ((with_reducible show wpAny _ _ (pyIter (Value.ref _)) (fun it s₂ => LoopAtV _ _ _ _ _ _ _ _ _ it s₂) _ _); k_here; (rename Fr _ _ _ _ => lF'); (rename News _ _ _ _ => lN'); (with_unfolding_all refine iter_listUnr (by rfl) lF' lN' (by k_mem) (by rfl) (by rfl) ?_); clear lF' lN'; intro i' l1; (try k_lt l1)))
local macro_rules | `(tactic| walk_at "exec For Name Subscript cons nil") => `(tactic| (k_here; (rename Fr _ _ _ _ => lF'); (with_unfolding_all refine' For_invVF lF' ?k1 ?k2 ?_; (case k1 => exact rfl); (case k2 => exact rfl); k_whole)))
local macro_rules | `(tactic| walk_at "subscriptTail Name Name ref int") => `(tactic| (k_here; k_dflt (refine' topList_K ?F ?X ?l ?a ?b ?d ?_; (case F => k_asm); (case X => k_asm); (case l => k_is); (case a => decide); (case b => decide); (case d => rfl); k_whole)))
local macro_rules | `(tactic| walk_at "subscriptTail Name Constant ref int") => `(tactic| (k_here; (with_reducible show wpAny _ _ (subscriptTail _ _ (Value.ref _) (Value.int _ _)) _ _ _); (with_unfolding_all refine' item_litK ?k1 ?k2 ?k3 ?k4 ?_ ?k6; (case k1 => is_list); (case k2 => decide); (case k3 => decide); (case k4 => rfl); (case k6 => with_unfolding_all rfl); k_whole)))

local macro_rules | `(tactic| walk_at "call ref") => `(tactic| (k_here; k_dflt (refine' c_hexValueE _ _ _ _ _ _ _ _ _ (slice2 (by assumption) (by assumption) (by omega)) (by omega) (by omega) _ _ _ _ _ _ _ _ _ _ _ _ _ _ _ _ _ ?k1 ?k2 ?k3 ?k4 ?k5 ?kK ?kd ?ku ?_); (case k1 => k_asm); (case k2 => k_asm); (case k3 => k_asm); (case k4 => k_asm); (case k5 => k_asm); (case kK => first | exact rfl | assumption); (case kd => ktr_room); (case ku => ktr_units); (intro t9 h9 tk9 F9 N9; (try dsimp only); (try k_fold); (try k_sweep))))

section
variable (w : World) (mean : ExcName → Option Value) (mg mb : Str → Option Value) (news : List (Addr × Obj))
theorem c_octetAt (x : Str) (tx : Tok) (i : Int) (ti : Tok) (o : Nat) (h37 : ChAt x i 37) (ha : ChAt x (i + 1) (hexd (o / 16))) (hb : ChAt x (i + 1 + 1) (hexd (o % 16))) (ho : o < 256) (hl : x.length ≤ 100000) :
    Ent w mean mg mb news 20 200 108 [.str x tx, .int i ti] (RetV news fun t => .int (o : Int) t) := by
  have hlt := hb.lt
  have h0 := h37.1
  w_top off; unfold Ent RetV; k_fill; intros; rename_i hret; have kMk := kstMark
  refine wpAny_call ?_
  k_dflt cell_enter
  k_steps
  all_goals (refine cb_retI hret ?_ (by k_asm) (by k_asm); omega)
end

end
section
local macro_rules | `(tactic| walk_at "binaryOp RShift int int") => `(tactic| (k_here; (with_reducible first | refine shr127_2 ?_ | refine shr127_3 ?_ | refine shr127_4 ?_ | refine shr64_1 ?_ | refine shr32_1 ?_ | refine shr16_1 ?_ | refine shr10 ?_ | refine shr6 ?_ | refine shr4 ?_ | refine shr3 ?_ | refine shr2 ?_ | refine shr1 ?_); (try dsimp only)))
local macro_rules | `(tactic| walk_at "binaryOp BitAnd int int") => `(tactic| (k_here; (with_reducible first | refine and63 ?_ | refine and15 ?_ | refine and7 ?_ | refine and31 ?_ | refine and1023 ?_ | refine and192 (by omega) (by omega) ?_); (try dsimp only)))
local macro_rules | `(tactic| walk_at "binaryOp BitOr int int") => `(tactic| (k_here; (with_reducible first | refine or128 (by omega) (by omega) ?_ | refine or192 (by omega) (by omega) ?_ | refine or224 (by omega) (by omega) ?_ | refine or240 (by omega) (by omega) ?_ | refine orm64 (by omega) (by omega) (by omega) ?_); (try dsimp only)))
local macro_rules | `(tactic| walk_at "binaryOp LShift int int") => `(tactic| (k_here; (with_reducible refine shl6 (by omega) (by omega) ?_); (try dsimp only)))
local macro_rules | `(tactic| walk_at "call builtin:chr") => `(tactic| (k_here; (with_reducible refine chr_of_range (by omega) (by omega) ?_); (try dsimp only)))
local macro_rules | `(tactic| walk_at "subscriptTail Name BinOp str int") => `(tactic| (k_here; refine hex_item (by omega) (by omega) ?_; (try dsimp only)))
local macro_rules | `(tactic| walk_at "subscriptTail Name BinOp str int") => `(tactic| (k_here; refine item_at (by assumption) (by omega) ?_; (try dsimp only)))
local macro_rules | `(tactic| walk_at "subscriptTail Name Name str int") => `(tactic| (k_here; refine item_at (by assumption) (by omega) ?_; (try dsimp only)))

local macro_rules | `(tactic| walk_at "UnrEnd") => `(tactic| ((rename News _ _ _ _ => nE'); (refine UnrEnd.intro (by assumption) nE' _ (by first | exact fun _ hp => hp | exact fun _ hp => List.Mem.tail _ hp | exact fun _ hp => List.Mem.tail _ (List.Mem.tail _ hp)) (by k_all) ?_); (try (refine And.intro (by k_mem) ?_))))
local macro_rules | `(tactic| walk_at "call builtin:str.find") => `(tactic| (k_here; first | (refine find_hex (by omega) ?_; (try dsimp only)) | (refine find_low (by omega) ?_; intro z9 hz9; (try dsimp only))))
local macro_rules | `(tactic| walk_at "exec For Name Name cons nil") => `(tactic| (k_here; (rename Fr _ _ _ _ => lF'); (with_unfolding_all refine' For_invVF lF' ?k1 ?k2 ?_; (case k1 => exact rfl); (case k2 => exact rfl); k_whole)))
local macro_rules | `(tactic| walk_at "pyIter str") => `(tactic| ((with_reducible show wpAny _ _ (pyIter (Value.str (S [_, _]) _)) (fun it s₂ => LoopAtV _ _ _ _ _ _ _ _ _ it s₂) _ _); k_here; ((rename Fr _ _ _ _ => lF'); (rename News _ _ _ _ => lN'); (with_unfolding_all refine iter_strUnr (l := [⟨#[hexd _]⟩, ⟨#[hexd _]⟩]) (by rfl) lF' lN' (by rfl) ?_); clear lF' lN'; intro i' l1; (try k_lt l1))))
local macro_rules | `(tactic| is_list) => `(tactic| exact News.isList (by assumption) (by assumption))
local macro_rules | `(tactic| walk_at "pyIter ref") => `(tactic| ((with_reducible show wpAny _ _ (pyIter (Value.ref _)) (fun it s₂ => LoopAtV _ _ _ _ _ _ _ _ _ it s₂) _ _); k_here; (rename Fr _ _ _ _ => lF'); (rename News _ _ _ _ => lN'); (with_unfolding_all refine iter_listUnr (by rfl) lF' lN' (by k_mem) (by rfl) (by rfl) ?_); clear lF' lN'; intro i' l1; (try k_lt l1)))
local macro_rules | `(tactic| walk_at "exec For Name Subscript cons nil") => `(tactic| (k_here; (rename Fr _ _ _ _ => lF'); (with_unfolding_all refine' For_invVF lF' ?k1 ?k2 ?_; (case k1 => exact rfl); (case k2 => exact rfl); k_whole)))
local macro_rules | `(tactic| walk_at "subscriptTail Name Name ref int") => `(tactic| (k_here; k_dflt (refine' topList_K ?F ?X ?l ?a ?b ?d ?_; (case F => k_asm); (case X => k_asm); (case l => k_is); (case a => decide); (case b => decide); (case d => rfl); k_whole)))
local macro_rules | `(tactic| walk_at "subscriptTail Name Constant ref int") => `(tactic| (k_here; (with_reducible show wpAny _ _ (subscriptTail _ _ (Value.ref _) (Value.int _ _)) _ _ _); (with_unfolding_all refine' item_litK ?k1 ?k2 ?k3 ?k4 ?_ ?k6; (case k1 => is_list); (case k2 => decide); (case k3 => decide); (case k4 => rfl); (case k6 => with_unfolding_all rfl); k_whole)))

local macro_rules | `(tactic| walk_at "call ref") => `(tactic| (k_here; k_dflt (refine' c_isHigh _ _ _ _ _ _ _ _ _ _ _ _ _ _ _ _ _ _ _ _ _ _ _ _ ?k1 ?k2 ?k3 ?k4 ?k5 ?kK ?kd ?ku ?_); (case k1 => k_asm); (case k2 => k_asm); (case k3 => k_asm); (case k4 => k_asm); (case k5 => k_asm); (case kK => first | exact rfl | assumption); (case kd => ktr_room); (case ku => ktr_units); (intro t9 h9 tk9 F9 N9; (try dsimp only); (try k_fold); (try k_sweep))))
local macro_rules | `(tactic| walk_at "call ref") => `(tactic| (k_here; k_dflt (refine' c_isLow _ _ _ _ _ _ _ _ _ _ _ _ _ _ _ _ _ _ _ _ _ _ _ _ ?k1 ?k2 ?k3 ?k4 ?k5 ?kK ?kd ?ku ?_); (case k1 => k_asm); (case k2 => k_asm); (case k3 => k_asm); (case k4 => k_asm); (case k5 => k_asm); (case kK => first | exact rfl | assumption); (case kd => ktr_room); (case ku => ktr_units); (intro t9 h9 tk9 F9 N9; (try dsimp only); (try k_fold); (try k_sweep))))

section
variable (w : World) (mean : ExcName → Option Value) (mg mb : Str → Option Value) (news : List (Addr × Obj))
theorem c_sign2 (l : Addr) (s a b : Int) (ta tb : Tok) (n : Nat) (hm : (l, (listOf #[Value.int a ta, Value.int b tb] n)) ∈ news) (h0 : 128 ≤ s) (h1 : s < 2048) (ha : a = 192 + s / 64) (hb : b = 128 + s % 64) :
    Ent w mean mg mb news 20 200 122 [.ref l] (RetV news fun t => .int s t) := by
  w_top off; unfold Ent RetV; k_fill; intros; rename_i hret; have kMk := kstMark
  refine wpAny_call ?_
  k_dflt cell_enter
  k_steps
  all_goals (refine cb_retI hret ?_ (by k_asm) (by first | k_asm | (rename News _ _ _ _ => kNN; exact fun p hp => kNN p (List.Mem.tail _ hp))); omega)
theorem c_sign3 (l : Addr) (s a b c : Int) (ta tb tc : Tok) (n : Nat) (hm : (l, (listOf #[Value.int a ta, Value.int b tb, Value.int c tc] n)) ∈ news) (h0 : 2048 ≤ s) (h1 : s < 65536) (hs : s < 55296 ∨ 57344 ≤ s)
    (ha : a = 224 + s / 4096) (hb : b = 128 + s / 64 % 64) (hc : c = 128 + s % 64) :
    Ent w mean mg mb news 20 200 122 [.ref l] (RetV news fun t => .int s t) := by
  w_top off; unfold Ent RetV; k_fill; intros; rename_i hret; have kMk := kstMark
  refine wpAny_call ?_
  k_dflt cell_enter
  k_steps
  all_goals (refine cb_retI hret ?_ (by k_asm) (by first | k_asm | (rename News _ _ _ _ => kNN; exact fun p hp => kNN p (List.Mem.tail _ hp))); omega)
theorem c_sign4 (l : Addr) (s a b c d : Int) (ta tb tc td : Tok) (n : Nat) (hm : (l, (listOf #[Value.int a ta, Value.int b tb, Value.int c tc, Value.int d td] n)) ∈ news) (h0 : 65536 ≤ s) (h1 : s ≤ 1114111)
    (ha : a = 240 + s / 262144) (hb : b = 128 + s / 4096 % 64) (hc : c = 128 + s / 64 % 64) (hd : d = 128 + s % 64) :
    Ent w mean mg mb news 20 200 122 [.ref l] (RetV news fun t => .int s t) := by
  w_top off; unfold Ent RetV; k_fill; intros; rename_i hret; have kMk := kstMark
  refine wpAny_call ?_
  k_dflt cell_enter
  k_steps
  all_goals (refine cb_retI hret ?_ (by k_asm) (by first | k_asm | (rename News _ _ _ _ => kNN; exact fun p hp => kNN p (List.Mem.tail _ hp))); omega)
end

end
section
local macro_rules | `(tactic| walk_at "binaryOp RShift int int") => `(tactic| (k_here; (with_reducible first | refine shr127_2 ?_ | refine shr127_3 ?_ | refine shr127_4 ?_ | refine shr64_1 ?_ | refine shr32_1 ?_ | refine shr16_1 ?_ | refine shr10 ?_ | refine shr6 ?_ | refine shr4 ?_ | refine shr3 ?_ | refine shr2 ?_ | refine shr1 ?_); (try dsimp only)))
local macro_rules | `(tactic| walk_at "binaryOp BitAnd int int") => `(tactic| (k_here; (with_reducible first | refine and63 ?_ | refine and15 ?_ | refine and7 ?_ | refine and31 ?_ | refine and1023 ?_ | refine and192 (by omega) (by omega) ?_); (try dsimp only)))
local macro_rules | `(tactic| walk_at "binaryOp BitOr int int") => `(tactic| (k_here; (with_reducible first | refine or128 (by omega) (by omega) ?_ | refine or192 (by omega) (by omega) ?_ | refine or224 (by omega) (by omega) ?_ | refine or240 (by omega) (by omega) ?_ | refine orm64 (by omega) (by omega) (by omega) ?_); (try dsimp only)))
local macro_rules | `(tactic| walk_at "binaryOp LShift int int") => `(tactic| (k_here; (with_reducible refine shl6 (by omega) (by omega) ?_); (try dsimp only)))
local macro_rules | `(tactic| walk_at "call builtin:chr") => `(tactic| (k_here; (with_reducible refine chr_of_range (by omega) (by omega) ?_); (try dsimp only)))
local macro_rules | `(tactic| walk_at "subscriptTail Name BinOp str int") => `(tactic| (k_here; refine hex_item (by omega) (by omega) ?_; (try dsimp only)))
local macro_rules | `(tactic| walk_at "subscriptTail Name BinOp str int") => `(tactic| (k_here; refine item_at (by assumption) (by omega) ?_; (try dsimp only)))
local macro_rules | `(tactic| walk_at "subscriptTail Name Name str int") => `(tactic| (k_here; refine item_at (by assumption) (by omega) ?_; (try dsimp only)))

local macro_rules | `(tactic| walk_at "UnrEnd") => `(tactic| ((rename News _ _ _ _ => nE'); (refine UnrEnd.intro (by assumption) nE' _ (by first | exact fun _ hp => hp | exact fun _ hp => List.Mem.tail _ hp | exact fun _ hp => List.Mem.tail _ (List.Mem.tail _ hp)) (by k_all) ?_); (try (refine And.intro (by k_mem) ?_))))
local macro_rules | `(tactic| walk_at "call builtin:str.find") => `(tactic| (k_here; first | (refine find_hex (by omega) ?_; (try dsimp only)) | (refine find_low (by omega) ?_; intro z9 hz9; (try dsimp only))))
local macro_rules | `(tactic| walk_at "exec For Name Name cons nil") => `(tactic| (k_here; (rename Fr _ _ _ _ => lF'); (with_unfolding_all refine' For_invVF lF' ?k1 ?k2 ?_; (case k1 => exact rfl); (case k2 => exact rfl); k_whole)))
local macro_rules | `(tactic| walk_at "pyIter str") => `(tactic| ((with_reducible show wpAny _ _ (pyIter (Value.str (S [_, _]) _)) (fun it s₂ => LoopAtV _ _ _ _ _ _ _ _ _ it s₂) _ _); k_here; ((rename Fr _ _ _ _ => lF'); (rename News _ _ _ _ => lN'); (with_unfolding_all refine iter_strUnr (l := [⟨#[hexd _]⟩, ⟨#[hexd _]⟩]) (by rfl) lF' lN' (by rfl) ?_); clear lF' lN'; intro i' l1; (try k_lt l1))))
local macro_rules | `(tactic| is_list) => `(tactic| exact News.isList (by assumption) (by assumption))
local macro_rules | `(tactic| walk_at "pyIter ref") => `(tactic| ((with_reducible show wpAny _ _ (pyIter (Value.ref _)) (fun it s₂ => LoopAtV _ _ _ _ _ _ _ _ _ it s₂) _ _); k_here; (rename Fr _ _ _ _ => lF'); (rename News _ _ _ _ => lN'); (with_unfolding_all refine iter_listUnr (by rfl) lF' lN' (by k_mem) (by rfl) (by rfl) ?_); clear lF' lN'; intro i' l1; (try k_lt l1)))
local macro_rules | `(tactic| walk_at "exec For Name Subscript cons nil") => `(tactic| (k_here; (rename Fr _ _ _ _ => lF'); (with_unfolding_all refine' For_invVF lF' ?k1 ?k2 ?_; (case k1 => exact rfl); (case k2 => exact rfl); k_whole)))
local macro_rules | `(tactic| walk_at "subscriptTail Name Name ref int") => `(tactic| (k_here; k_dflt (refine' topList_K ?F ?X ?l ?a ?b ?d ?_; (case F => k_asm); (case X => k_asm); (case l => k_is); (case a => decide); (case b => decide); (case d => rfl); k_whole)))
local macro_rules | `(tactic| walk_at "subscriptTail Name Constant ref int") => `(tactic| (k_here; (with_reducible show wpAny _ _ (subscriptTail _ _ (Value.ref _) (Value.int _ _)) _ _ _); (with_unfolding_all refine' item_litK ?k1 ?k2 ?k3 ?k4 ?_ ?k6; (case k1 => is_list); (case k2 => decide); (case k3 => decide); (case k4 => rfl); (case k6 => with_unfolding_all rfl); k_whole)))

local macro_rules | `(tactic| walk_at "WhlIf") => `(tactic| (first | (refine WhlIf.yes (decide_eq_true (by omega)) ?_) | (refine WhlIf.no (decide_eq_false (by omega)) ?_)))

theorem neN_lt {a b : Nat} (h : a < b) : @LT.lt Nat _ a b := h
abbrev RetL (news : List (Addr × Obj)) (vs : List Value → Prop) (h₀ : Heap) (L : Addr) (m : Str → Option Value) (s : Shared) (Q : Value → Shared → Prop) : Prop :=
  ∀ (l : Addr) (xs : List Value) (n : Nat) (h' : Heap) (tk' : Nat), vs xs → Fr h₀ L h' m → News h₀ L h' ((l, listOf xs.toArray n) :: news) → (∀ p ∈ news, p.1 < l) → Q (.ref l) { s with heap := h', toks := tk' }
section
variable (w : World) (mean : ExcName → Option Value) (mg mb : Str → Option Value) (news : List (Addr × Obj))
theorem c_octs2 (s : Int) (ts : Tok) (h0 : 128 ≤ s) (h1 : s < 2048) :
    Ent w mean mg mb news 20 200 63 [.int s ts] (RetL news fun xs => ∃ t0 t1, xs = [Value.int (192 + s / 64) t0, Value.int (128 + s % 64) t1]) := by
  w_top off; unfold Ent RetL; k_fill; intros; rename_i hret; have kMk := kstMark
  refine wpAny_call ?_
  k_dflt cell_enter
  k_steps
  all_goals (
    have hd : ∀ z : Int, z / 64 / 64 = z / 4096 := fun z => by omega
    have hd2 : ∀ z : Int, z / 4096 / 64 = z / 262144 := fun z => by omega
    (rename News _ _ _ _ => kNN)
    (rename (∀ p ∈ news, _) => hbase)
    (try simp only [hd, hd2] at kNN)
    refine' hret _ _ _ _ _ ⟨?t0, ?t1, rfl⟩ (by k_asm) ?hN ?hlt
    (case hN =>
      intro p hp
      refine kNN p ?_
      rcases List.mem_cons.mp hp with hp | hp
      · rw [hp]; exact List.Mem.head _
      · repeat' (first | exact hp | refine List.Mem.tail _ ?_))
    (case hlt =>
      intro p hp
      exact Nat.lt_trans (hbase p hp) (neN_lt (by omega))))
theorem c_octs3 (s : Int) (ts : Tok) (h0 : 2048 ≤ s) (h1 : s < 65536) :
    Ent w mean mg mb news 20 200 63 [.int s ts] (RetL news fun xs => ∃ t0 t1 t2, xs = [Value.int (224 + s / 4096) t0, Value.int (128 + s / 64 % 64) t1, Value.int (128 + s % 64) t2]) := by
  w_top off; unfold Ent RetL; k_fill; intros; rename_i hret; have kMk := kstMark
  refine wpAny_call ?_
  k_dflt cell_enter
  k_steps
  all_goals (
    have hd : ∀ z : Int, z / 64 / 64 = z / 4096 := fun z => by omega
    have hd2 : ∀ z : Int, z / 4096 / 64 = z / 262144 := fun z => by omega
    (rename News _ _ _ _ => kNN)
    (rename (∀ p ∈ news, _) => hbase)
    (try simp only [hd, hd2] at kNN)
    refine' hret _ _ _ _ _ ⟨?t0, ?t1, ?t2, rfl⟩ (by k_asm) ?hN ?hlt
    (case hN =>
      intro p hp
      refine kNN p ?_
      rcases List.mem_cons.mp hp with hp | hp
      · rw [hp]; exact List.Mem.head _
      · repeat' (first | exact hp | refine List.Mem.tail _ ?_))
    (case hlt =>
      intro p hp
      exact Nat.lt_trans (hbase p hp) (neN_lt (by omega))))
theorem c_octs4 (s : Int) (ts : Tok) (h0 : 65536 ≤ s) (h1 : s ≤ 1114111) :
    Ent w mean mg mb news 20 200 63 [.int s ts] (RetL news fun xs => ∃ t0 t1 t2 t3, xs = [Value.int (240 + s / 262144) t0, Value.int (128 + s / 4096 % 64) t1, Value.int (128 + s / 64 % 64) t2, Value.int (128 + s % 64) t3]) := by
  w_top off; unfold Ent RetL; k_fill; intros; rename_i hret; have kMk := kstMark
  refine wpAny_call ?_
  k_dflt cell_enter
  k_steps
  all_goals (
    have hd : ∀ z : Int, z / 64 / 64 = z / 4096 := fun z => by omega
    have hd2 : ∀ z : Int, z / 4096 / 64 = z / 262144 := fun z => by omega
    (rename News _ _ _ _ => kNN)
    (rename (∀ p ∈ news, _) => hbase)
    (try simp only [hd, hd2] at kNN)
    refine' hret _ _ _ _ _ ⟨?t0, ?t1, ?t2, ?t3, rfl⟩ (by k_asm) ?hN ?hlt
    (case hN =>
      intro p hp
      refine kNN p ?_
      rcases List.mem_cons.mp hp with hp | hp
      · rw [hp]; exact List.Mem.head _
      · repeat' (first | exact hp | refine List.Mem.tail _ ?_))
    (case hlt =>
      intro p hp
      exact Nat.lt_trans (hbase p hp) (neN_lt (by omega))))
end

end
/-! comprehensions whose element is a text, by a claim on one element -/
section
variable {prog : Program} {w : World} {A : Around} {E : Value → Shared → Prop} {s : Shared} {h₀ : Heap} {L : Addr} {m : Str → Option Value} {env : Env}
theorem strs_snoc {y : Str} {t : Tok} : ∀ {vs : List Value} {ys : List Str}, StrsAre vs ys → StrsAre (vs ++ [.str y t]) (ys ++ [y])
  | _, _, .nil => .cons y t .nil
  | _, _, .cons z u r => .cons z u (strs_snoc r)
theorem strs_len : ∀ {vs : List Value} {ys : List Str}, StrsAre vs ys → vs.length = ys.length
  | _, _, .nil => rfl
  | _, _, .cons z u r => congrArg (· + 1) (strs_len r)
/-- one element is reckoned: a text, the ledger as it was -/
abbrev ElT (h₀ : Heap) (L : Addr) (m : Str → Option Value) (s : Shared) (news : List (Addr × Obj)) (r : Str) (y : Value) (s₂ : Shared) : Prop :=
  ∃ t h' tk', y = .str r t ∧ s₂ = { s with heap := h', toks := tk' } ∧ Fr h₀ L h' m ∧ News h₀ L h' news
theorem strs_rest {α : Type} {elt : PySem.Expr} {x : Str} {scope : Scope} {cl : List (Str × Addr)} {Sn : List (Addr × Obj) → Prop} {P : Nat → Value → Prop} {Fin : List Value → List (Addr × Obj) → Prop} {news : List (Addr × Obj)} {n : Nat}
    (ks : List α) (V : α → Value → Prop) (g : α → Str) (hks : ks.length = n) (hP : ∀ i v, i < n → P i v → ∃ k, ks[i]? = some k ∧ V k v) (hS : Sn news)
    (turn : ∀ k v I oI C oC D m₂ ys h tk (E' : Value → Shared → Prop), k ∈ ks → V k v → LCg.NsObj oC m₂ → m₂ x = some v → Fr h₀ L h m → News h₀ L h ((I, oI) :: (C, oC) :: (D, LCg.lst ys) :: news) → LCg.Off3 I C D news → ((@Ne Nat I C) ∧ (@Ne Nat I D) ∧ (@Ne Nat C D)) →
      wpAny (model prog w) A (eval elt (compEnvC scope cl C env)) (ElT h₀ L m s ((I, oI) :: (C, oC) :: (D, LCg.lst ys) :: news) (g k)) E' { s with heap := h, toks := tk })
    (fin : ∀ ys, StrsAre ys (ks.map g) → Fin ys news) : LCg.CompRest prog w A h₀ L m env elt x scope cl s Sn P Fin n 0 [] news := by
  have key : ∀ (j i : Nat) (ys : List Value), i + j = n → StrsAre ys ((ks.take i).map g) → LCg.CompRest prog w A h₀ L m env elt x scope cl s Sn P Fin j i ys news := by
    intro j
    induction j with
    | zero =>
      intro i ys hi hy
      have e : i = ks.length := by omega
      subst e
      rw [List.take_length] at hy
      exact LCg.CompRest.zero (fin ys hy)
    | succ j ih =>
      intro i ys hi hy
      refine LCg.CompRest.succ ?_
      intro v I oI C oC D m₂ h tk E' hv hC hx F N off ne
      obtain ⟨k, hk, hV⟩ := hP i v (by omega) hv
      refine wpAny_mono (turn k v I oI C oC D m₂ ys h tk E' (List.mem_of_getElem? hk) hV hC hx F N off ne) (fun y s₂ hq => ?_) fun _ _ e => e
      obtain ⟨t', h', tk', hy', e, F', N'⟩ := hq
      refine ⟨h', tk', news, e, F', N', off, hS, ?_⟩
      rw [hy']
      refine ih (i + 1) _ (by omega) ?_
      rw [List.take_add_one, hk]
      simpa using strs_snoc hy
  exact key n 0 [] (by omega) (by simp only [List.take_zero, List.map_nil]; exact .nil)
def SrcStr (prog : Program) (w : World) (A : Around) (h₀ : Heap) (L : Addr) (m : Str → Option Value) (env : Env) (elt : PySem.Expr) (x : Str) (scope : Scope) (cl : List (Str × Addr)) (Fin : Shared → List Value → List (Addr × Obj) → Prop) (xv : Value) (s₁ : Shared) : Prop :=
  ∃ xt tx news, xv = .str xt tx ∧ A.handled = none ∧ Fr h₀ L s₁.heap m ∧ News h₀ L s₁.heap news ∧ xt.cps.size ≤ sizeLine ∧
    ∀ s₂ : Shared, (∃ h, s₂ = { s₁ with heap := h }) → LCg.CompRest prog w A h₀ L m env elt x scope cl s₂ (fun _ => True) (SignAt xt) (Fin s₂) xt.cps.size 0 [] news
theorem SrcStr.of {elt : PySem.Expr} {x : Str} {scope : Scope} {cl : List (Str × Addr)} {Fin : Shared → List Value → List (Addr × Obj) → Prop} {s₁ : Shared} {xt : Str} {tx : Tok} {news : List (Addr × Obj)} (hh : A.handled = none) (F : Fr h₀ L s₁.heap m) (N : News h₀ L s₁.heap news) (hsz : xt.cps.size ≤ sizeLine)
    (h : ∀ g, LCg.CompRest prog w A h₀ L m env elt x scope cl { s₁ with heap := g } (fun _ => True) (SignAt xt) (Fin { s₁ with heap := g }) xt.cps.size 0 [] news) : SrcStr prog w A h₀ L m env elt x scope cl Fin (.str xt tx) s₁ :=
  ⟨xt, tx, news, rfl, hh, F, N, hsz, fun _ ⟨g, e⟩ => e ▸ h g⟩
theorem comp_str {elt iter : PySem.Expr} {x : Str} {px : Pos} {scope : Scope} {cl : List (Str × Addr)} {pos : Pos} {Q : Value → Shared → Prop} (F₀ : Fr h₀ L s.heap m)
    (hclos : closureFor scope env = pure cl) (hcell : ∀ y ∈ scope.names, y.2 ≠ .cell) (hkind : scope.kind = .function)
    (hnames : ∀ y ∈ scope.names, y.2 = .local → scope.names.lookup y.1 = some .local) (hx : scope.names.lookup x = some .local)
    (h : wpAny (model prog w) A (eval iter env) (SrcStr prog w A h₀ L m env elt x scope cl (fun s₂ => LCg.FinE h₀ L m s₂ Q)) E s)
    (hs : ∀ x, foldedSetIterable iter env x = pure x := by intro _; rfl) :
    wpAny (model prog w) A (eval (.ListComp elt [⟨.Name x px, iter, [], 0⟩] scope pos) env) Q E s := by
  rw [eval_ListComp]
  refine wpAny_comprehension_free (use := none) rfl hs hclos hkind hnames (wpAny_mono h (fun xv s₁ h₁ => ?_) fun _ _ e => e)
  obtain ⟨xt, tx, news, rfl, hh, F, N, hsz, R⟩ := h₁
  have up : ∀ o b o', s₁.heap.get? b = some o' → (s₁.heap.push o).get? b = some o' := fun o b o' e => Heap.get?_push_of_some _ e
  have bel : ∀ o : Obj, ∀ b ∈ [s₁.heap.objs.size], b < (s₁.heap.push o).objs.size := fun o b hb => by
    rw [List.mem_singleton.mp hb, Heap.size_push]
    exact Nat.lt_succ_self _
  have stay : ∀ (T : String) i (h h' : Heap) (o : Obj) (nw : List (Addr × Obj)), h.IsStrIter s₁.heap.objs.size T xt tx i → h.get? s₁.heap.objs.size = some o → h'.get? s₁.heap.objs.size = some o → (∀ b o, h₀.get? b = some o → h'.get? b = some o) → News h₀ L h' nw → True → h'.IsStrIter s₁.heap.objs.size T xt tx i :=
    fun T i h h' o nw st e e' _ _ _ => by
      obtain ⟨o', q, r⟩ := st
      rw [e] at q
      cases q
      exact ⟨o, e', r⟩
  have off : ∀ p ∈ news, p.1 ≠ s₁.heap.objs.size := fun p hp => Nat.ne_of_lt (Heap.lt_size (N p hp).1)
  cases ha : xt.cps.all (· < 128)
  · refine wpAny_pyIter_wide ha ?_
    refine LCg.block_U (Walks.strWide hh s₁.heap.objs.size xt tx) hsz (fun i h st => by obtain ⟨o, e, _⟩ := st; exact ⟨o, e⟩) (stay _) hcell hkind hx ⟨_, Heap.get?_push_size _ rfl, rfl, rfl⟩ (bel _) (F.keeps (up _)) (N.grown (up _)) (Nat.ne_of_lt F.ns.lt) (next_is_new F) off trivial (R _ ⟨_, rfl⟩) ?_
    intro D C h tk m' ys news' F' N' o1 hn hC₀ hD₀ hCL hDL hCD offC fin
    refine ⟨m', hn, fun h'' hs'' => fin D h'' tk (F'.change hs'' hCL hC₀) (fun p hp => ?_) o1⟩
    refine ⟨hs''.extBut _ _ ?_ (N' p hp).1, (N' p hp).2⟩
    rcases List.mem_cons.mp hp with rfl | hp
    · exact Ne.symm hCD
    · exact offC p hp
  · refine wpAny_pyIter_ascii ha ?_
    refine LCg.block_U (Walks.strAscii hh s₁.heap.objs.size xt tx) hsz (fun i h st => by obtain ⟨o, e, _⟩ := st; exact ⟨o, e⟩) (stay _) hcell hkind hx ⟨_, Heap.get?_push_size _ rfl, rfl, rfl⟩ (bel _) (F.keeps (up _)) (N.grown (up _)) (Nat.ne_of_lt F.ns.lt) (next_is_new F) off trivial (R _ ⟨_, rfl⟩) ?_
    intro D C h tk m' ys news' F' N' o1 hn hC₀ hD₀ hCL hDL hCD offC fin
    refine ⟨m', hn, fun h'' hs'' => fin D h'' tk (F'.change hs'' hCL hC₀) (fun p hp => ?_) o1⟩
    refine ⟨hs''.extBut _ _ ?_ (N' p hp).1, (N' p hp).2⟩
    rcases List.mem_cons.mp hp with rfl | hp
    · exact Ne.symm hCD
    · exact offC p hp
end

theorem join_flat : ∀ xs : List (List Nat), Str.join (S []) (xs.map S) = S xs.flatten
  | [] => rfl
  | [x] => by simp [Str.join]
  | x :: y :: r => by
    show S x ++ S [] ++ Str.join (S []) ((y :: r).map S) = _
    rw [join_flat (y :: r), S_app, S_app]
    simp
theorem txtJoin_flat (xs : List (List Nat)) : Txt.join (Str.ofString "") (xs.map S) = S xs.flatten := by
  show Builtin.Str.glued (Str.ofString "") (xs.map S) = _
  rw [StrLaws.glued_eq_join, S_empty, join_flat]
section
variable {prog : Program} {w : World} {A : Around} {E : Value → Shared → Prop} {s : Shared} {t : Tok} {Q : Value → Shared → Prop}
theorem sum_lens (xs : List (List Nat)) : ((xs.map S).map (·.length)).sum = xs.flatten.length := by
  induction xs with
  | nil => rfl
  | cons x r ih =>
    rw [List.map_cons, List.map_cons, List.sum_cons, ih, S_len, List.flatten_cons, List.length_append]
theorem join_S {D : Addr} {ys : List Value} (xs : List (List Nat)) (hl : s.heap.IsList D ys.toArray) (hy : StrsAre ys (xs.map S)) (hn : xs.flatten.length ≤ 100000)
    (h : ∀ t' k, Q (.str (S xs.flatten) t') { s with toks := k }) : wpAny (model prog w) A (call (.builtin "str.join") [.str (Str.ofString "") t, .ref D]) Q E s := by
  refine join_list (items := ys.toArray) (ys := xs.map S) hl (by simpa using hy) ?_ fun t' k => ?_
  · rw [sum_lens, show (Str.ofString "").length = 0 by decide]
    omega
  · rw [txtJoin_flat]
    exact h t' k
end
theorem units_len (s : Nat) : (unitsL s).length ≤ 2 := by
  unfold unitsL
  split <;> simp
theorem flat_len {f : Nat → List Nat} {b : Nat} (hf : ∀ c, (f c).length ≤ b) : ∀ l : List Nat, (l.flatMap f).length ≤ b * l.length
  | [] => by simp
  | c :: r => by
    have h1 := hf c
    have h2 := flat_len hf r
    rw [List.flatMap_cons, List.length_append, List.length_cons, Nat.mul_succ]
    omega

section
local macro_rules | `(tactic| walk_at "binaryOp RShift int int") => `(tactic| (k_here; (with_reducible first | refine shr127_2 ?_ | refine shr127_3 ?_ | refine shr127_4 ?_ | refine shr64_1 ?_ | refine shr32_1 ?_ | refine shr16_1 ?_ | refine shr10 ?_ | refine shr6 ?_ | refine shr4 ?_ | refine shr3 ?_ | refine shr2 ?_ | refine shr1 ?_); (try dsimp only)))
local macro_rules | `(tactic| walk_at "binaryOp BitAnd int int") => `(tactic| (k_here; (with_reducible first | refine and63 ?_ | refine and15 ?_ | refine and7 ?_ | refine and31 ?_ | refine and1023 ?_ | refine and192 (by omega) (by omega) ?_); (try dsimp only)))
local macro_rules | `(tactic| walk_at "binaryOp BitOr int int") => `(tactic| (k_here; (with_reducible first | refine or128 (by omega) (by omega) ?_ | refine or192 (by omega) (by omega) ?_ | refine or224 (by omega) (by omega) ?_ | refine or240 (by omega) (by omega) ?_ | refine orm64 (by omega) (by omega) (by omega) ?_); (try dsimp only)))
local macro_rules | `(tactic| walk_at "binaryOp LShift int int") => `(tactic| (k_here; (with_reducible refine shl6 (by omega) (by omega) ?_); (try dsimp only)))
local macro_rules | `(tactic| walk_at "call builtin:chr") => `(tactic| (k_here; (with_reducible refine chr_of_range (by omega) (by omega) ?_); (try dsimp only)))
local macro_rules | `(tactic| walk_at "subscriptTail Name BinOp str int") => `(tactic| (k_here; refine hex_item (by omega) (by omega) ?_; (try dsimp only)))
local macro_rules | `(tactic| walk_at "subscriptTail Name BinOp str int") => `(tactic| (k_here; refine item_at (by assumption) (by omega) ?_; (try dsimp only)))
local macro_rules | `(tactic| walk_at "subscriptTail Name Name str int") => `(tactic| (k_here; refine item_at (by assumption) (by omega) ?_; (try dsimp only)))

local macro_rules | `(tactic| walk_at "call ref") => `(tactic| (k_here; k_dflt (refine' c_unitsOf _ _ _ _ _ _ _ (by omega) (by omega) _ _ _ _ _ _ _ _ _ _ _ _ _ _ _ _ _ ?k1 ?k2 ?k3 ?k4 ?k5 ?kK ?kd ?ku ?_); (case k1 => k_asm); (case k2 => k_asm); (case k3 => k_asm); (case k4 => k_asm); (case k5 => k_asm); (case kK => first | exact rfl | assumption); (case kd => ktr_room); (case ku => ktr_units); (intro t9 h9 tk9 F9 N9; (try dsimp only); (try k_fold); (try k_sweep))))

local macro_rules | `(tactic| walk_at "eval ListComp") => `(tactic| (k_here; k_dflt (refine comp_str (by k_asm) (by rfl) (by decide) (by rfl) (by decide) (by rfl) ?_)))

theorem S_at {l : List Nat} {i c : Nat} (h : (S l).cps[i]? = some c) : l[i]? = some c := by simpa [S] using h
theorem S_size (l : List Nat) : (S l).cps.size = l.length := by simp [S]
section
variable (w : World) (mean : ExcName → Option Value) (mg mb : Str → Option Value) (news : List (Addr × Obj))
theorem c_unitsText (l : List Nat) (tx : Tok) (hl : ∀ c ∈ l, c ≤ 1114111) (hlen : l.length ≤ 100) : Ent w mean mg mb news 20 200 75 [.str (S l) tx] (RetV news fun t => .str (S (l.flatMap unitsL)) t) := by
  w_top off; unfold Ent RetV; k_fill; intros; rename_i hret; have kMk := kstMark
  refine wpAny_call ?_
  k_dflt cell_enter
  k_steps
  refine SrcStr.of rfl (by k_asm) (by k_asm) (by rw [S_size, PySem.sizeLine_eq]; omega) fun g => ?_
  refine strs_rest (n := (S l).cps.size) l (fun c v => ∃ u, v = .str ⟨#[c]⟩ u) (fun c => S (unitsL c)) (S_size l).symm ?_ trivial ?_ ?_
  · rintro i v _ ⟨c, u, hc, rfl⟩
    exact ⟨c, S_at hc, u, rfl⟩
  · rintro c v I oI C oC D m₂ ys h tk E' hc ⟨u, rfl⟩ hC hx F N off ne
    have hc1 := hl c hc
    k_steps
    all_goals first | k_asm | fail "an element's end"
  · intro ys hy
    k_steps
    have hfl := flat_len units_len l
    have e : (l.map fun c => S (unitsL c)) = (l.map unitsL).map S := by rw [List.map_map]; rfl
    rw [e] at hy
    refine join_S (l.map unitsL) (News.isList (by k_asm) (List.Mem.head _)) hy (by rw [← List.flatMap_def]; omega) fun t' k => ?_
    rw [← List.flatMap_def]
    k_steps
    all_goals (refine cb_retS hret rfl (by k_asm) ?_)
    all_goals (rename News _ _ _ _ => kNN; first | exact kNN | exact fun p hp => kNN p (List.Mem.tail _ hp))
end

end
theorem good_le {s : Nat} (h : Good s) : s ≤ 1114111 := by unfold Good at h; omega
theorem octets_lt {s : Nat} (h0 : 128 ≤ s) (h1 : s ≤ 1114111) : ∀ o ∈ octets s, o < 256 := by
  intro o ho
  unfold octets at ho
  split at ho
  · omega
  · split at ho
    · simp only [List.mem_cons, List.not_mem_nil, or_false] at ho
      omega
    · split at ho
      · simp only [List.mem_cons, List.not_mem_nil, or_false] at ho
        omega
      · simp only [List.mem_cons, List.not_mem_nil, or_false] at ho
        omega
theorem octets_len (s : Nat) : (octets s).length ≤ 4 := by
  unfold octets
  split
  · simp
  · split
    · simp
    · split <;> simp
theorem enc_len (s : Nat) : (encL s).length ≤ 12 := by
  unfold encL
  split
  · simp
  · have h1 := octets_len s
    have h2 := flat_len (f := octL) (b := 3) (fun c => by simp [octL]) (octets s)
    omega
theorem encL_big {s : Nat} (h : 128 ≤ s) : encL s = ((octets s).map octL).flatten := by
  unfold encL
  rw [if_neg (by omega), List.flatMap_def]
abbrev OctInts (s : Nat) (xs : List Value) : Prop := IntsAre xs ((octets s).map fun (o : Nat) => (o : Int))
section
variable (w : World) (mean : ExcName → Option Value) (mg mb : Str → Option Value) (news : List (Addr × Obj))
theorem c_octs (z : Int) (tz : Tok) (s : Nat) (hz : z = (s : Int)) (h0 : 128 ≤ s) (h1 : s ≤ 1114111) : Ent w mean mg mb news 20 200 63 [.int z tz] (RetL news (OctInts s)) := by
  subst hz
  intro dp un gd cn cs a ccd cl outer A₀ base h₀ L m sh Q E B F X N T hk hd hu hret
  by_cases h2 : s < 2048
  · refine c_octs2 w mean mg mb news s tz (by omega) (by omega) dp un gd cn cs a ccd cl outer A₀ base h₀ L m sh Q E B F X N T hk hd hu ?_
    rintro l xs n h' tk' ⟨ta, tb, rfl⟩ F' N' hl
    refine hret l _ n h' tk' ?_ F' N' hl
    unfold OctInts octets
    rw [if_neg (by omega), if_pos h2]
    exact IntsAre.cons _ _ (IntsAre.cons _ _ IntsAre.nil)
  · by_cases h3 : s < 65536
    · refine c_octs3 w mean mg mb news s tz (by omega) (by omega) dp un gd cn cs a ccd cl outer A₀ base h₀ L m sh Q E B F X N T hk hd hu ?_
      rintro l xs n h' tk' ⟨ta, tb, tc, rfl⟩ F' N' hl
      refine hret l _ n h' tk' ?_ F' N' hl
      unfold OctInts octets
      rw [if_neg (by omega), if_neg h2, if_pos h3]
      exact IntsAre.cons _ _ (IntsAre.cons _ _ (IntsAre.cons _ _ IntsAre.nil))
    · refine c_octs4 w mean mg mb news s tz (by omega) (by omega) dp un gd cn cs a ccd cl outer A₀ base h₀ L m sh Q E B F X N T hk hd hu ?_
      rintro l xs n h' tk' ⟨ta, tb, tc, td, rfl⟩ F' N' hl
      refine hret l _ n h' tk' ?_ F' N' hl
      unfold OctInts octets
      rw [if_neg (by omega), if_neg h2, if_neg h3]
      exact IntsAre.cons _ _ (IntsAre.cons _ _ (IntsAre.cons _ _ (IntsAre.cons _ _ IntsAre.nil)))
theorem c_wholeS (x : Str) (tx : Tok) (i : Int) (ti : Tok) (s c d : Nat) (hc : ChAt x i c) (hd : ChAt x (i + 1) d) (hl : x.length ≤ 100000) (h0 : 65536 ≤ s) (h1 : s ≤ 1114111) (e1 : c = 55296 + (s - 65536) / 1024) (e2 : d = 56320 + (s - 65536) % 1024) :
    Ent w mean mg mb news 20 200 89 [.str x tx, .int i ti] (RetV news fun t => .int s t) := by
  intro dp un gd cn cs a ccd cl outer A₀ base h₀ L m sh Q E B F X N T hk hdd hu hret
  refine c_whole2 w mean mg mb news x tx i ti c d hc hd hl (by omega) (by omega) (by omega) (by omega) dp un gd cn cs a ccd cl outer A₀ base h₀ L m sh Q E B F X N T hk hdd hu ?_
  intro t h' tk' F' N'
  have e : ((c : Int) - 55296) * 1024 + ((d : Int) - 56320) + 65536 = (s : Int) := by omega
  rw [e]
  exact hret t h' tk' F' N'
end

theorem plain_yes {c : Nat} (h0 : 97 ≤ c) (h1 : c ≤ 122) : decide (c ∈ (Str.ofString "ABCDEFGHIJKLMNOPQRSTUVWXYZabcdefghijklmnopqrstuvwxyz0123456789-_.!~*'()").cps.toList) = true := by
  have key : ∀ k, k < 26 → decide (97 + k ∈ (Str.ofString "ABCDEFGHIJKLMNOPQRSTUVWXYZabcdefghijklmnopqrstuvwxyz0123456789-_.!~*'()").cps.toList) = true := by decide +kernel
  have := key (c - 97) (by omega)
  rwa [show 97 + (c - 97) = c by omega] at this
theorem plain_no {c : Nat} (h0 : 128 ≤ c) : decide (c ∈ (Str.ofString "ABCDEFGHIJKLMNOPQRSTUVWXYZabcdefghijklmnopqrstuvwxyz0123456789-_.!~*'()").cps.toList) = false := by
  have key : ((Str.ofString "ABCDEFGHIJKLMNOPQRSTUVWXYZabcdefghijklmnopqrstuvwxyz0123456789-_.!~*'()").cps.toList.all fun k => decide (k < 128)) = true := by decide +kernel
  rw [decide_eq_false_iff_not]
  intro h
  have := List.all_eq_true.mp key c h
  rw [decide_eq_true_eq] at this
  omega
section
variable {prog : Program} {w : World} {A : Around} {E : Value → Shared → Prop} {s : Shared} {t u : Tok} {Q : Value → Shared → Prop} {c : Nat}
theorem in_plain_yes (h0 : 97 ≤ c) (h1 : c ≤ 122) (h : Q (.bool true) s) : wpAny (model prog w) A (compareOp .In (.str ⟨#[c]⟩ u) (.str (Str.ofString "ABCDEFGHIJKLMNOPQRSTUVWXYZabcdefghijklmnopqrstuvwxyz0123456789-_.!~*'()") t)) Q E s := by
  refine in_str ?_
  rw [StrLaws.found_one, plain_yes h0 h1]
  exact h
theorem in_plain_no (h0 : 128 ≤ c) (h : Q (.bool false) s) : wpAny (model prog w) A (compareOp .In (.str ⟨#[c]⟩ u) (.str (Str.ofString "ABCDEFGHIJKLMNOPQRSTUVWXYZabcdefghijklmnopqrstuvwxyz0123456789-_.!~*'()") t)) Q E s := by
  refine in_str ?_
  rw [StrLaws.found_one, plain_no h0]
  exact h
end
/-- what the loop of encode_signs holds: the signs read, those to come, what is found, the count of its appends, a token -/
structure EncSt where
  pre : List Nat
  post : List Nat
  ys : List Value
  cnt : Nat
  tk : Tok

def Halt (P : Prop) : Prop := P
theorem Halt.at {P : Prop} (h : Halt P) : P := h
section
variable {prog : Program} {w : World} {A : Around} {E : Value → Shared → Prop} {Q : Flow → Shared → Prop} {s : Shared} {env : Env} {h₀ : Heap} {L : Addr}
abbrev encPs (c : EncSt) : List (Str × Value) := [(Str.ofString "at", .int ((c.pre.flatMap unitsL).length : Int) c.tk)]
abbrev EncEnd (h₀ : Heap) (L : Addr) (s : Shared) (l : Addr) (news : List (Addr × Obj)) (m₀ : Str → Option Value) (signs : List Nat) : EncSt → Shared → Prop :=
  KswEnd h₀ L s (fun c => (l, listOf c.ys.toArray c.cnt) :: news) encPs (fun c => StrsAre c.ys ((c.pre.map encL).map S)) [Str.ofString "sign"] m₀ (fun c => signs = c.pre ++ c.post) (fun c => c.post.length)
theorem enc_while {l : Addr} {news : List (Addr × Obj)} {test : PySem.Expr} {body : List Stmt} {pos : Pos} {m₀ : Str → Option Value} (signs : List Nat) {t0 : Tok}
    (F : Fr h₀ L s.heap m₀) (N : News h₀ L s.heap ((l, listOf #[] 0) :: news)) (hk : m₀ (Str.ofString "at") = some (.int 0 t0))
    (turn : ∀ (c : EncSt) (u : Str → Option Value) h tk, StrsAre c.ys ((c.pre.map encL).map S) → signs = c.pre ++ c.post → Fr h₀ L h (kstB (fun z => if [Str.ofString "sign"].contains z then u z else m₀ z) (encPs c)) → News h₀ L h ((l, listOf c.ys.toArray c.cnt) :: news) →
      wpAny (model prog w) A (isTrue test env (eval test env)) (fun b s₂ =>
        if b = true then wpAny (model prog w) A (execs body env) (fun f s₃ => match f with
          | .ret v => Q (.ret v) s₃
          | .brk => Q .next s₃
          | _ => EncEnd h₀ L s l news m₀ signs c s₃) E s₂ else Q .next s₂) E { s with heap := h, toks := tk })
    (hE : PassesOwn (model prog w) A env E := by passes_own) :
    wpAny (model prog w) A (exec (.While test body [] pos) env) Q E s := by
  refine ksw_while (fun c : EncSt => (l, listOf c.ys.toArray c.cnt) :: news) encPs (fun c => StrsAre c.ys ((c.pre.map encL).map S)) [Str.ofString "sign"] (fun c => signs = c.pre ++ c.post) (fun c => c.post.length) ⟨[], signs, [], 0, t0⟩
    F N .nil ?_ rfl ?_ hE
  · intro p hp
    rw [List.mem_singleton.mp hp]
    exact hk
  · intro c u h tk hf hp F' N'
    exact turn c u h tk hf hp F' N'
end

theorem enc_end {h₀ : Heap} {L l : Addr} {s : Shared} {news news' : List (Addr × Obj)} {m₀ m' : Str → Option Value} {signs pre r : List Nat} {z : Nat} {ys : List Value} {cnt : Nat} {tc t1 t2 : Tok} {h' : Heap} {tk : Nat} {y : Str} {a : Int}
    (F : Fr h₀ L h' m') (N : News h₀ L h' news') (hl : (l, listOf (ys.toArray.push (.str y t1)) (cnt + 1)) ∈ news') (hn : ∀ p ∈ news, p ∈ news') (hf : StrsAre ys ((pre.map encL).map S)) (hp : signs = pre ++ z :: r)
    (hat : m' (Str.ofString "at") = some (.int a t2)) (ha : a = ((pre.flatMap unitsL).length : Int) + ((unitsL z).length : Int)) (hy : y = S (encL z))
    (hr : ∀ x, x ≠ Str.ofString "at" → x ≠ Str.ofString "sign" → m' x = m₀ x) : EncEnd h₀ L s l news m₀ signs ⟨pre, z :: r, ys, cnt, tc⟩ { s with heap := h', toks := tk } := by
  refine ksw_end (⟨pre ++ [z], r, ys ++ [.str y t1], cnt + 1, t2⟩ : EncSt) F N ?_ ?_ ?_ ?_ ?_ ?_
  · intro p hp
    rcases List.mem_cons.mp hp with rfl | hp
    · simpa using hl
    · exact hn p hp
  · show StrsAre (ys ++ [.str y t1]) (((pre ++ [z]).map encL).map S)
    rw [List.map_append, List.map_append]
    subst hy
    exact strs_snoc hf
  · intro p hp
    rw [List.mem_singleton.mp hp, hat, ha]
    show some (Value.int _ t2) = some (Value.int (((pre ++ [z]).flatMap unitsL).length : Int) t2)
    rw [List.flatMap_append, List.length_append, List.flatMap_cons, List.flatMap_nil, List.append_nil]
    rfl
  · intro x hx hs
    refine hr x (hx _ (List.Mem.head _)) ?_
    simpa using hs
  · show signs = (pre ++ [z]) ++ r
    rw [hp, List.append_assoc]; rfl
  · show r.length < (z :: r).length
    exact Nat.lt_succ_self _
theorem octs_at {z : Nat} {xs : List Value} (hi : OctInts z xs) {i : Nat} {v : Value} (h : xs.toArray[i]? = some v) : ∃ k, (octets z)[i]? = some k ∧ ∃ t, v = .int (k : Int) t := by
  obtain ⟨k, t, e, hk⟩ := IntsAre.at hi i v (by simpa using h)
  rw [List.getElem?_map] at hk
  cases ho : (octets z)[i]? with
  | none => rw [ho] at hk; cases hk
  | some o =>
    rw [ho] at hk
    cases hk
    exact ⟨o, rfl, t, e⟩
theorem octs_len {z : Nat} {xs : List Value} (hi : OctInts z xs) : xs.length = (octets z).length := by
  have this := IntsAre.length hi
  rw [List.length_map] at this
  exact this

section
local macro_rules | `(tactic| walk_at "binaryOp RShift int int") => `(tactic| (k_here; (with_reducible first | refine shr127_2 ?_ | refine shr127_3 ?_ | refine shr127_4 ?_ | refine shr64_1 ?_ | refine shr32_1 ?_ | refine shr16_1 ?_ | refine shr10 ?_ | refine shr6 ?_ | refine shr4 ?_ | refine shr3 ?_ | refine shr2 ?_ | refine shr1 ?_); (try dsimp only)))
local macro_rules | `(tactic| walk_at "binaryOp BitAnd int int") => `(tactic| (k_here; (with_reducible first | refine and63 ?_ | refine and15 ?_ | refine and7 ?_ | refine and31 ?_ | refine and1023 ?_ | refine and192 (by omega) (by omega) ?_); (try dsimp only)))
local macro_rules | `(tactic| walk_at "binaryOp BitOr int int") => `(tactic| (k_here; (with_reducible first | refine or128 (by omega) (by omega) ?_ | refine or192 (by omega) (by omega) ?_ | refine or224 (by omega) (by omega) ?_ | refine or240 (by omega) (by omega) ?_ | refine orm64 (by omega) (by omega) (by omega) ?_); (try dsimp only)))
local macro_rules | `(tactic| walk_at "binaryOp LShift int int") => `(tactic| (k_here; (with_reducible refine shl6 (by omega) (by omega) ?_); (try dsimp only)))
local macro_rules | `(tactic| walk_at "call builtin:chr") => `(tactic| (k_here; (with_reducible refine chr_of_range (by omega) (by omega) ?_); (try dsimp only)))
local macro_rules | `(tactic| walk_at "subscriptTail Name BinOp str int") => `(tactic| (k_here; refine hex_item (by omega) (by omega) ?_; (try dsimp only)))
local macro_rules | `(tactic| walk_at "subscriptTail Name BinOp str int") => `(tactic| (k_here; refine item_at (by assumption) (by omega) ?_; (try dsimp only)))
local macro_rules | `(tactic| walk_at "subscriptTail Name Name str int") => `(tactic| (k_here; refine item_at (by assumption) (by omega) ?_; (try dsimp only)))

local macro_rules | `(tactic| walk_at "call ref") => `(tactic| (k_here; k_dflt (refine' c_octs _ _ _ _ _ _ _ _ rfl (by omega) (by omega) _ _ _ _ _ _ _ _ _ _ _ _ _ _ _ _ _ ?k1 ?k2 ?k3 ?k4 ?k5 ?kK ?kd ?ku ?_); (case k1 => k_asm); (case k2 => k_asm); (case k3 => k_asm); (case k4 => k_asm); (case k5 => k_asm); (case kK => first | exact rfl | assumption); (case kd => ktr_room); (case ku => ktr_units); (intro l9 xs9 n9 h9 tk9 hx9 F9 N9 l1; (try k_lt l1); (try dsimp only); (try k_fold); (try k_sweep))))
local macro_rules | `(tactic| walk_at "call ref") => `(tactic| (k_here; k_dflt (refine' c_octetText _ _ _ _ _ _ _ (by omega) (by omega) _ _ _ _ _ _ _ _ _ _ _ _ _ _ _ _ _ ?k1 ?k2 ?k3 ?k4 ?k5 ?kK ?kd ?ku ?_); (case k1 => k_asm); (case k2 => k_asm); (case k3 => k_asm); (case k4 => k_asm); (case k5 => k_asm); (case kK => first | exact rfl | assumption); (case kd => ktr_room); (case ku => ktr_units); (intro t9 h9 tk9 F9 N9; (try dsimp only); (try k_fold); (try k_sweep))))
local macro_rules | `(tactic| walk_at "call ref") => `(tactic| (k_here; k_dflt (refine' c_whole1 _ _ _ _ _ _ _ _ _ _ (by assumption) (by omega) (by omega) _ _ _ _ _ _ _ _ _ _ _ _ _ _ _ _ _ ?k1 ?k2 ?k3 ?k4 ?k5 ?kK ?kd ?ku ?_); (case k1 => k_asm); (case k2 => k_asm); (case k3 => k_asm); (case k4 => k_asm); (case k5 => k_asm); (case kK => first | exact rfl | assumption); (case kd => ktr_room); (case ku => ktr_units); (intro t9 h9 tk9 F9 N9; (try dsimp only); (try k_fold); (try k_sweep))))
local macro_rules | `(tactic| walk_at "call ref") => `(tactic| (k_here; k_dflt (refine' c_wholeS _ _ _ _ _ _ _ _ _ _ _ _ (by assumption) (by assumption) (by omega) (by omega) (by omega) rfl rfl _ _ _ _ _ _ _ _ _ _ _ _ _ _ _ _ _ ?k1 ?k2 ?k3 ?k4 ?k5 ?kK ?kd ?ku ?_); (case k1 => k_asm); (case k2 => k_asm); (case k3 => k_asm); (case k4 => k_asm); (case k5 => k_asm); (case kK => first | exact rfl | assumption); (case kd => ktr_room); (case ku => ktr_units); (intro t9 h9 tk9 F9 N9; (try dsimp only); (try k_fold); (try k_sweep))))

local macro_rules | `(tactic| walk_at "compareOp In str str") => `(tactic| (k_here; first | refine in_plain_yes (by omega) (by omega) ?_ | refine in_plain_no (by omega) ?_))
local macro_rules | `(tactic| walk_at "exec While Compare cons nil") => `(tactic| (k_here; refine Halt.at ?_))
local macro_rules | `(tactic| walk_at "eval ListComp") => `(tactic| (k_here; k_dflt (refine LCg.ListComp_U (F₀ := by k_asm) (by rfl) (by decide) (by rfl) (by decide) (by rfl) ?_)))
local macro_rules | `(tactic| walk_at "CompSrc") => `(tactic| (k_here; refine Halt.at ?_))

theorem flat_at {f : Nat → List Nat} {pre r : List Nat} {s : Nat} : (pre ++ s :: r).flatMap f = pre.flatMap f ++ (f s ++ r.flatMap f) := by
  rw [List.flatMap_append, List.flatMap_cons]
section
variable (w : World) (mean : ExcName → Option Value) (mg mb : Str → Option Value) (news : List (Addr × Obj))
theorem c_encode (signs : List Nat) (tx tk : Tok) (hg : ∀ s ∈ signs, Good s) (hlen : signs.length ≤ 20) :
    Ent w mean mg mb news 30 300 94 [.str (S (signs.flatMap unitsL)) tx, .str (Str.ofString "ABCDEFGHIJKLMNOPQRSTUVWXYZabcdefghijklmnopqrstuvwxyz0123456789-_.!~*'()") tk] (RetV news fun t => .str (S (signs.flatMap encL)) t) := by
  have hL := flat_len units_len signs
  have hX : (S (signs.flatMap unitsL)).length ≤ 100000 := by rw [S_len]; omega
  w_top off; unfold Ent RetV; k_fill; intros; rename_i hret; have kMk := kstMark
  refine wpAny_call ?_
  k_dflt cell_enter
  k_steps
  unfold Halt
  (rename Fr _ _ _ _ => F0)
  (rename News _ _ _ _ => N0)
  (rename (∀ p ∈ news, _) => hbase)
  refine enc_while signs F0 (fun p hp => N0 p (List.Mem.tail _ hp)) rfl ?_ (by with_unfolding_all passes_own)
  clear N0 F0
  intro c u h tk hf hp F1 N1
  obtain ⟨pre, post, ys, cnt, tc⟩ := c
  dsimp only at hf hp N1
  have hys := strs_len hf
  rw [List.length_map, List.length_map] at hys
  cases post with
  | nil =>
    have hXl : (S (signs.flatMap unitsL)).length = (pre.flatMap unitsL).length := by rw [S_len, hp, List.append_nil]
    k_steps
    have hfl := flat_len enc_len pre
    have hpl : pre.length ≤ 20 := by rw [hp, List.length_append] at hlen; omega
    refine join_S (pre.map encL) (News.isList (by k_asm) (List.Mem.head _)) hf (by rw [← List.flatMap_def]; omega) fun t' k => ?_
    rw [← List.flatMap_def]
    k_steps
    all_goals (refine cb_retS hret (by rw [hp, List.append_nil]) (by k_asm) ?_)
    all_goals (rename News _ _ _ _ => kNN; first | exact kNN | exact fun p hp => kNN p (List.Mem.tail _ hp))
  | cons z r =>
    have hz : Good z := hg z (by rw [hp]; exact List.mem_append_right _ (List.Mem.head _))
    have hpl : pre.length + (r.length + 1) ≤ 20 := by rw [hp, List.length_append, List.length_cons] at hlen; exact hlen
    have hXl : (S (signs.flatMap unitsL)).length = (pre.flatMap unitsL).length + ((unitsL z).length + (r.flatMap unitsL).length) := by
      rw [S_len, hp, flat_at, List.length_append, List.length_append]
    by_cases h1 : z < 65536
    · have hu : unitsL z = [z] := by unfold unitsL; rw [if_pos h1]
      rw [hu, List.length_singleton] at hXl
      have hc : ChAt (S (signs.flatMap unitsL)) ((pre.flatMap unitsL).length : Int) z := by
        rw [hp, flat_at, hu]; exact chAt_app rfl
      by_cases h2 : z < 128
      · have h97 : 97 ≤ z ∧ z ≤ 122 := by unfold Good at hz; omega
        k_steps
        dsimp only
        (rename Fr _ _ _ _ => F9)
        (rename News _ _ _ _ => N9)
        refine enc_end F9 N9 (List.Mem.head _) (fun p hp => List.Mem.tail _ hp) hf hp rfl (by rw [hu]; rfl) ?_ ?_
        · rw [S_one]; unfold encL; rw [if_pos h2]
        · intro x hx1 hx2
          simp [kstB, hx1, hx2]
      · have hz' : z < 55296 ∨ 57344 ≤ z := by unfold Good at hz; omega
        k_steps
        unfold Halt
        (rename OctInts _ _ => hox)
        have hol := octs_len hox
        have hol2 := octets_len z
        (rename Fr _ _ _ _ => F2)
        (rename News _ _ _ _ => N2)
        refine LCg.CompSrc.ledger (by rfl) F2 N2 (List.Mem.head _) (by rw [PySem.sizeLine_eq, List.size_toArray]; omega) fun g => ?_
        refine strs_rest (octets z) (fun o v => ∃ t, v = .int (o : Int) t) (fun o => S (octL o)) (by rw [List.size_toArray]; exact hol.symm) (fun i v _ hv => octs_at hox hv) (Or.inr ⟨_, List.Mem.head _, rfl, _, rfl⟩) ?_ ?_
        · rintro o v I oI C oC D m₂ ys' h tk E' ho ⟨t, rfl⟩ hC hx F N off ne
          have ho1 := octets_lt (by omega) (by omega) o ho
          clear F2 N2
          k_steps
          all_goals first | k_asm | fail "an element's end"
        · intro ys' hy
          clear F2 N2
          k_steps
          have e : ((octets z).map fun c => S (octL c)) = ((octets z).map octL).map S := by rw [List.map_map]; rfl
          rw [e] at hy
          have hfl := flat_len (f := octL) (b := 3) (fun c => by simp [octL]) (octets z)
          refine join_S ((octets z).map octL) (News.isList (by k_asm) (List.Mem.head _)) hy (by rw [← List.flatMap_def]; omega) fun t' k => ?_
          rw [← encL_big (by omega)]
          k_steps
          dsimp only
          (rename Fr _ _ _ _ => F9)
          (rename News _ _ _ _ => N9)
          refine enc_end F9 N9 (List.Mem.tail _ (List.Mem.tail _ (List.Mem.head _))) (fun p hp => List.Mem.tail _ (List.Mem.tail _ (List.Mem.tail _ hp))) hf hp rfl (by rw [hu]; rfl) rfl ?_
          intro x hx1 hx2
          simp [kstB, hx1, hx2]
    · have hu : unitsL z = [55296 + (z - 65536) / 1024, 56320 + (z - 65536) % 1024] := by unfold unitsL; rw [if_neg h1]
      have hz1 := good_le hz
      rw [hu, List.length_cons, List.length_singleton] at hXl
      have hc : ChAt (S (signs.flatMap unitsL)) ((pre.flatMap unitsL).length : Int) (55296 + (z - 65536) / 1024) := by
        rw [hp, flat_at, hu]; exact chAt_app rfl
      have hd : ChAt (S (signs.flatMap unitsL)) ((pre.flatMap unitsL).length + 1 : Int) (56320 + (z - 65536) % 1024) := by
        rw [hp, flat_at, hu]
        show ChAt (S (pre.flatMap unitsL ++ ([55296 + (z - 65536) / 1024] ++ ((56320 + (z - 65536) % 1024) :: r.flatMap unitsL)))) _ _
        rw [← List.append_assoc]
        refine chAt_app ?_
        rw [List.length_append, List.length_singleton]; rfl
      k_steps
      unfold Halt
      (rename OctInts _ _ => hox)
      have hol := octs_len hox
      have hol2 := octets_len z
      (rename Fr _ _ _ _ => F2)
      (rename News _ _ _ _ => N2)
      refine LCg.CompSrc.ledger (by rfl) F2 N2 (List.Mem.head _) (by rw [PySem.sizeLine_eq, List.size_toArray]; omega) fun g => ?_
      refine strs_rest (octets z) (fun o v => ∃ t, v = .int (o : Int) t) (fun o => S (octL o)) (by rw [List.size_toArray]; exact hol.symm) (fun i v _ hv => octs_at hox hv) (Or.inr ⟨_, List.Mem.head _, rfl, _, rfl⟩) ?_ ?_
      · rintro o v I oI C oC D m₂ ys' h tk E' ho ⟨t, rfl⟩ hC hx F N off ne
        have ho1 := octets_lt (by omega) (by omega) o ho
        clear F2 N2
        k_steps
        all_goals first | k_asm | fail "an element's end"
      · intro ys' hy
        clear F2 N2
        k_steps
        have e : ((octets z).map fun c => S (octL c)) = ((octets z).map octL).map S := by rw [List.map_map]; rfl
        rw [e] at hy
        have hfl := flat_len (f := octL) (b := 3) (fun c => by simp [octL]) (octets z)
        refine join_S ((octets z).map octL) (News.isList (by k_asm) (List.Mem.head _)) hy (by rw [← List.flatMap_def]; omega) fun t' k => ?_
        rw [← encL_big (by omega)]
        k_steps
        dsimp only
        (rename Fr _ _ _ _ => F9)
        (rename News _ _ _ _ => N9)
        refine enc_end F9 N9 (List.Mem.tail _ (List.Mem.tail _ (List.Mem.head _))) (fun p hp => List.Mem.tail _ (List.Mem.tail _ (List.Mem.tail _ hp))) hf hp rfl (by rw [hu]; rfl) rfl ?_
        intro x hx1 hx2
        simp [kstB, hx1, hx2]
end

end
theorem octL_len (o : Nat) : (octL o).length = 3 := rfl
theorem octs_flat_len (l : List Nat) : (l.flatMap octL).length = 3 * l.length := by
  induction l with
  | nil => rfl
  | cons a r ih => rw [List.flatMap_cons, List.length_append, ih, octL_len, List.length_cons]; omega
theorem encL_flat {z : Nat} (h : 128 ≤ z) : encL z = (octets z).flatMap octL := by rw [encL_big h, ← List.flatMap_def]
theorem octets_ge (z : Nat) (h : 128 ≤ z) : 2 ≤ (octets z).length := by
  unfold octets
  rw [if_neg (by omega)]
  split
  · simp
  · split <;> simp
/-- the three letters of the octet at place i -/
theorem enc_at {P R : List Nat} {l : List Nat} {i o : Nat} (h : l[i]? = some o) :
    ChAt (S (P ++ (l.flatMap octL ++ R))) ((P.length : Int) + 3 * (i : Int)) 37 ∧ ChAt (S (P ++ (l.flatMap octL ++ R))) ((P.length : Int) + 3 * (i : Int) + 1) (hexd (o / 16)) ∧ ChAt (S (P ++ (l.flatMap octL ++ R))) ((P.length : Int) + 3 * (i : Int) + 1 + 1) (hexd (o % 16)) := by
  obtain ⟨hi, ho⟩ := List.getElem?_eq_some_iff.mp h
  have e : l = l.take i ++ o :: l.drop (i + 1) := by
    rw [← ho, ← List.drop_eq_getElem_cons hi, List.take_append_drop]
  have e2 : P ++ (l.flatMap octL ++ R) = (P ++ (l.take i).flatMap octL) ++ (37 :: hexd (o / 16) :: hexd (o % 16) :: ((l.drop (i + 1)).flatMap octL ++ R)) := by
    conv => lhs; rw [e]
    rw [List.flatMap_append, List.flatMap_cons]
    simp [octL]
  have hl : (P ++ (l.take i).flatMap octL).length = P.length + 3 * i := by
    rw [List.length_append, octs_flat_len, List.length_take, Nat.min_eq_left (Nat.le_of_lt hi)]
  rw [e2]
  refine ⟨chAt_app (by rw [hl]; omega), ?_, ?_⟩
  · have := chAt_app (p := (P ++ (l.take i).flatMap octL) ++ [37]) (q := hexd (o % 16) :: ((l.drop (i + 1)).flatMap octL ++ R)) (c := hexd (o / 16)) (i := (P.length : Int) + 3 * (i : Int) + 1) (by rw [List.length_append, hl, List.length_singleton]; omega)
    rwa [List.append_assoc] at this
  · have := chAt_app (p := (P ++ (l.take i).flatMap octL) ++ [37, hexd (o / 16)]) (q := ((l.drop (i + 1)).flatMap octL ++ R)) (c := hexd (o % 16)) (i := (P.length : Int) + 3 * (i : Int) + 1 + 1) (by rw [List.length_append, hl, List.length_cons, List.length_singleton]; omega)
    rwa [List.append_assoc] at this
theorem count_first {z o : Nat} (h0 : 128 ≤ z) (h1 : z ≤ 1114111) (ho : (octets z)[0]? = some o) : countN (o : Int) = ((octets z).length : Int) := by
  unfold octets at ho ⊢
  rw [if_neg (by omega)] at ho ⊢
  by_cases h2 : z < 2048
  · rw [if_pos h2] at ho ⊢
    simp at ho
    subst ho
    unfold countN
    rw [if_neg (by omega), if_neg (by omega), if_pos (by omega)]
    rfl
  · rw [if_neg h2] at ho ⊢
    by_cases h3 : z < 65536
    · rw [if_pos h3] at ho ⊢
      simp at ho
      subst ho
      unfold countN
      rw [if_neg (by omega), if_neg (by omega), if_neg (by omega), if_pos (by omega)]
      rfl
    · rw [if_neg h3] at ho ⊢
      simp at ho
      subst ho
      unfold countN
      rw [if_neg (by omega), if_neg (by omega), if_neg (by omega), if_neg (by omega)]
      rfl
theorem in_empty {y : List Nat} (h : y ≠ []) : (!(Builtin.Str.occurrences (Str.ofString "") (S y) 0 (Str.ofString "").length 1).isEmpty) = false := by
  cases hb : (!(Builtin.Str.occurrences (Str.ofString "") (S y) 0 (Str.ofString "").length 1).isEmpty) with
  | false => rfl
  | true =>
    obtain ⟨i, hi, _⟩ := (StrLaws.found_iff _ _).mp hb
    rw [S_len, show (Str.ofString "").length = 0 by decide] at hi
    cases y with
    | nil => exact absurd rfl h
    | cons a r => rw [List.length_cons] at hi; omega
theorem units_ne (z : Nat) : unitsL z ≠ [] := by
  unfold unitsL
  split <;> simp
theorem S_ne_pct {c : Nat} (h : c ≠ 37) : ((⟨#[c]⟩ : Str) != Str.ofString "%") = true := by
  rw [bne_iff_ne, S_pct, S_one]
  intro e
  have := S_inj e
  simp at this
  exact h this
section
variable {prog : Program} {w : World} {A : Around} {E : Value → Shared → Prop} {s : Shared} {t u : Tok} {Q : Value → Shared → Prop}
theorem in_left {y : List Nat} (hy : y ≠ []) (h : Q (.bool false) s) : wpAny (model prog w) A (compareOp .In (.str (S y) u) (.str (Str.ofString "") t)) Q E s := by
  refine in_str ?_
  rw [in_empty hy]
  exact h
theorem ne_pct {c : Nat} (hc : c ≠ 37) (h : Q (.bool true) s) : wpAny (model prog w) A (compareOp .NotEq (.str ⟨#[c]⟩ u) (.str (Str.ofString "%") t)) Q E s := by
  refine ne_str ?_
  rw [S_ne_pct hc]
  exact h
theorem ints_snoc {y : Int} {t : Tok} : ∀ {vs : List Value} {ys : List Int}, IntsAre vs ys → IntsAre (vs ++ [.int y t]) (ys ++ [y])
  | _, _, .nil => .cons y t .nil
  | _, _, .cons z u r => .cons z u (ints_snoc r)
end
section
variable {prog : Program} {w : World} {A : Around} {E : Value → Shared → Prop} {s : Shared} {h₀ : Heap} {L : Addr} {m : Str → Option Value} {env : Env}
/-- one element is reckoned: an int, the ledger as it was -/
abbrev ElI (h₀ : Heap) (L : Addr) (m : Str → Option Value) (s : Shared) (news : List (Addr × Obj)) (r : Int) (y : Value) (s₂ : Shared) : Prop :=
  ∃ t h' tk', y = .int r t ∧ s₂ = { s with heap := h', toks := tk' } ∧ Fr h₀ L h' m ∧ News h₀ L h' news
theorem ints_rest {α : Type} {elt : PySem.Expr} {x : Str} {scope : Scope} {cl : List (Str × Addr)} {Sn : List (Addr × Obj) → Prop} {P : Nat → Value → Prop} {Fin : List Value → List (Addr × Obj) → Prop} {news : List (Addr × Obj)} {n : Nat}
    (ks : List α) (g : α → Int) (hks : ks.length = n) (hS : Sn news)
    (turn : ∀ i k v I oI C oC D m₂ ys h tk (E' : Value → Shared → Prop), i < n → ks[i]? = some k → P i v → LCg.NsObj oC m₂ → m₂ x = some v → Fr h₀ L h m → News h₀ L h ((I, oI) :: (C, oC) :: (D, LCg.lst ys) :: news) → LCg.Off3 I C D news → ((@Ne Nat I C) ∧ (@Ne Nat I D) ∧ (@Ne Nat C D)) →
      wpAny (model prog w) A (eval elt (compEnvC scope cl C env)) (ElI h₀ L m s ((I, oI) :: (C, oC) :: (D, LCg.lst ys) :: news) (g k)) E' { s with heap := h, toks := tk })
    (fin : ∀ ys, IntsAre ys (ks.map g) → Fin ys news) : LCg.CompRest prog w A h₀ L m env elt x scope cl s Sn P Fin n 0 [] news := by
  have key : ∀ (j i : Nat) (ys : List Value), i + j = n → IntsAre ys ((ks.take i).map g) → LCg.CompRest prog w A h₀ L m env elt x scope cl s Sn P Fin j i ys news := by
    intro j
    induction j with
    | zero =>
      intro i ys hi hy
      have e : i = ks.length := by omega
      subst e
      rw [List.take_length] at hy
      exact LCg.CompRest.zero (fin ys hy)
    | succ j ih =>
      intro i ys hi hy
      refine LCg.CompRest.succ ?_
      intro v I oI C oC D m₂ h tk E' hv hC hx F N off ne
      have hk : ks[i]? = some ks[i] := List.getElem?_eq_getElem (by omega)
      refine wpAny_mono (turn i ks[i] v I oI C oC D m₂ ys h tk E' (by omega) hk hv hC hx F N off ne) (fun y s₂ hq => ?_) fun _ _ e => e
      obtain ⟨t', h', tk', hy', e, F', N'⟩ := hq
      refine ⟨h', tk', news, e, F', N', off, hS, ?_⟩
      rw [hy']
      refine ih (i + 1) _ (by omega) ?_
      rw [List.take_add_one, hk, List.map_append]
      exact ints_snoc hy
  exact key n 0 [] (by omega) (by simp only [List.take_zero, List.map_nil]; exact .nil)
end
section
variable (w : World) (mean : ExcName → Option Value) (mg mb : Str → Option Value) (news : List (Addr × Obj))
theorem c_unitsN (x : Int) (t : Tok) (z : Nat) (hz : x = (z : Int)) (h1 : z ≤ 1114111) : Ent w mean mg mb news 10 100 70 [.int x t] (RetV news fun t => .str (S (unitsL z)) t) := by
  subst hz
  exact c_unitsOf w mean mg mb news z t (by omega) (by omega)
theorem c_count (x : Int) (t : Tok) (z o : Nat) (hx : x = (o : Int)) (ho : (octets z)[0]? = some o) (h0 : 128 ≤ z) (h1 : z ≤ 1114111) : Ent w mean mg mb news 10 100 115 [.int x t] (RetV news fun t => .int ((octets z).length : Int) t) := by
  subst hx
  rw [← count_first h0 h1 ho]
  exact c_octetCount w mean mg mb news o t
theorem c_signO (l : Addr) (xs : List Value) (n : Nat) (z : Nat) (hm : (l, listOf xs.toArray n) ∈ news) (hi : OctInts z xs) (hz : Good z) (h0 : 128 ≤ z) :
    Ent w mean mg mb news 20 200 122 [.ref l] (RetV news fun t => .int z t) := by
  have h1 := good_le hz
  have hz' : z < 55296 ∨ 57344 ≤ z := by unfold Good at hz; omega
  unfold OctInts octets at hi
  rw [if_neg (by omega)] at hi
  by_cases h2 : z < 2048
  · rw [if_pos h2] at hi
    cases hi with
    | cons _ ta hi =>
      cases hi with
      | cons _ tb hi =>
        cases hi
        exact c_sign2 w mean mg mb news l z _ _ ta tb n hm (by first | omega | (dsimp only; omega)) (by first | omega | (dsimp only; omega)) (by first | omega | (dsimp only; omega)) (by first | omega | (dsimp only; omega))
  · rw [if_neg h2] at hi
    by_cases h3 : z < 65536
    · rw [if_pos h3] at hi
      cases hi with
      | cons _ ta hi =>
        cases hi with
        | cons _ tb hi =>
          cases hi with
          | cons _ tc hi =>
            cases hi
            exact c_sign3 w mean mg mb news l z _ _ _ ta tb tc n hm (by first | omega | (dsimp only; omega)) (by first | omega | (dsimp only; omega)) (by first | omega | (dsimp only; omega)) (by first | omega | (dsimp only; omega)) (by first | omega | (dsimp only; omega)) (by first | omega | (dsimp only; omega))
    · rw [if_neg h3] at hi
      cases hi with
      | cons _ ta hi =>
        cases hi with
        | cons _ tb hi =>
          cases hi with
          | cons _ tc hi =>
            cases hi with
            | cons _ td hi =>
              cases hi
              exact c_sign4 w mean mg mb news l z _ _ _ _ ta tb tc td n hm (by first | omega | (dsimp only; omega)) (by first | omega | (dsimp only; omega)) (by first | omega | (dsimp only; omega)) (by first | omega | (dsimp only; omega)) (by first | omega | (dsimp only; omega)) (by first | omega | (dsimp only; omega))
end

/-- what the loop of decode_signs holds: the signs read, those to come, what is found, the count of its appends, the cell of the place -/
structure DecSt where
  pre : List Nat
  post : List Nat
  ys : List Value
  cnt : Nat
  tk : Tok
  oc : Obj
section
variable {prog : Program} {w : World} {A : Around} {E : Value → Shared → Prop} {Q : Flow → Shared → Prop} {s : Shared} {env : Env} {h₀ : Heap} {L : Addr}
abbrev decStored : List Str := [Str.ofString "many", Str.ofString "octets", Str.ofString "units"]
abbrev DecEnd (h₀ : Heap) (L : Addr) (s : Shared) (l aC aT : Addr) (oT : Obj) (news : List (Addr × Obj)) (m₀ : Str → Option Value) (signs : List Nat) : DecSt → Shared → Prop :=
  KswEnd h₀ L s (fun c => (l, listOf c.ys.toArray c.cnt) :: (aC, c.oc) :: (aT, oT) :: news) (fun _ => []) (fun c => StrsAre c.ys ((c.pre.map unitsL).map S) ∧ c.oc.data = .cell (some (.int ((c.pre.flatMap encL).length : Int) c.tk))) decStored m₀ (fun c => signs = c.pre ++ c.post) (fun c => c.post.length)
theorem dec_while {l aC aT : Addr} {oT oC : Obj} {news : List (Addr × Obj)} {test : PySem.Expr} {body : List Stmt} {pos : Pos} {m₀ : Str → Option Value} (signs : List Nat) {t0 : Tok}
    (F : Fr h₀ L s.heap m₀) (N : News h₀ L s.heap ((l, listOf #[] 0) :: (aC, oC) :: (aT, oT) :: news)) (hk : oC.data = .cell (some (.int 0 t0)))
    (turn : ∀ (c : DecSt) (u : Str → Option Value) h tk, StrsAre c.ys ((c.pre.map unitsL).map S) → c.oc.data = .cell (some (.int ((c.pre.flatMap encL).length : Int) c.tk)) → signs = c.pre ++ c.post → Fr h₀ L h (fun z => if decStored.contains z then u z else m₀ z) → News h₀ L h ((l, listOf c.ys.toArray c.cnt) :: (aC, c.oc) :: (aT, oT) :: news) →
      wpAny (model prog w) A (isTrue test env (eval test env)) (fun b s₂ =>
        if b = true then wpAny (model prog w) A (execs body env) (fun f s₃ => match f with
          | .ret v => Q (.ret v) s₃
          | .brk => Q .next s₃
          | _ => DecEnd h₀ L s l aC aT oT news m₀ signs c s₃) E s₂ else Q .next s₂) E { s with heap := h, toks := tk })
    (hE : PassesOwn (model prog w) A env E := by passes_own) :
    wpAny (model prog w) A (exec (.While test body [] pos) env) Q E s := by
  refine ksw_while (fun c : DecSt => (l, listOf c.ys.toArray c.cnt) :: (aC, c.oc) :: (aT, oT) :: news) (fun _ => []) (fun c => StrsAre c.ys ((c.pre.map unitsL).map S) ∧ c.oc.data = .cell (some (.int ((c.pre.flatMap encL).length : Int) c.tk))) decStored (fun c => signs = c.pre ++ c.post) (fun c => c.post.length) ⟨[], signs, [], 0, t0, oC⟩
    F N ⟨.nil, hk⟩ (fun p hp => nomatch hp) rfl ?_ hE
  intro c u h tk hf hp F' N'
  exact turn c u h tk hf.1 hf.2 hp F' N'
theorem dec_end {l aC aT : Addr} {oT oC oC' : Obj} {news news' : List (Addr × Obj)} {m₀ m' : Str → Option Value} {signs pre r : List Nat} {z : Nat} {ys : List Value} {cnt : Nat} {tc t1 t2 : Tok} {h' : Heap} {tk : Nat} {y : Str} {a : Int}
    (F : Fr h₀ L h' m') (N : News h₀ L h' news') (hl : (l, listOf (ys.toArray.push (.str y t1)) (cnt + 1)) ∈ news') (hc : (aC, oC') ∈ news') (ht : (aT, oT) ∈ news') (hn : ∀ p ∈ news, p ∈ news') (hf : StrsAre ys ((pre.map unitsL).map S)) (hp : signs = pre ++ z :: r)
    (hat : oC'.data = .cell (some (.int a t2))) (ha : a = ((pre.flatMap encL).length : Int) + ((encL z).length : Int)) (hy : y = S (unitsL z))
    (hr : ∀ x, x ≠ Str.ofString "many" → x ≠ Str.ofString "octets" → x ≠ Str.ofString "units" → m' x = m₀ x) : DecEnd h₀ L s l aC aT oT news m₀ signs ⟨pre, z :: r, ys, cnt, tc, oC⟩ { s with heap := h', toks := tk } := by
  refine ksw_end (⟨pre ++ [z], r, ys ++ [.str y t1], cnt + 1, t2, oC'⟩ : DecSt) F N ?_ ?_ (fun p hp => nomatch hp) ?_ ?_ ?_
  · intro p hp
    rcases List.mem_cons.mp hp with rfl | hp
    · simpa using hl
    · rcases List.mem_cons.mp hp with rfl | hp
      · exact hc
      · rcases List.mem_cons.mp hp with rfl | hp
        · exact ht
        · exact hn p hp
  · refine ⟨?_, ?_⟩
    · show StrsAre (ys ++ [.str y t1]) (((pre ++ [z]).map unitsL).map S)
      rw [List.map_append, List.map_append]
      subst hy
      exact strs_snoc hf
    · show oC'.data = .cell (some (.int (((pre ++ [z]).flatMap encL).length : Int) t2))
      rw [hat, ha, List.flatMap_append, List.length_append, List.flatMap_cons, List.flatMap_nil, List.append_nil]
      rfl
  · intro x _ hs
    have hs' : x ≠ Str.ofString "many" ∧ x ≠ Str.ofString "octets" ∧ x ≠ Str.ofString "units" := by simpa using hs
    exact hr x hs'.1 hs'.2.1 hs'.2.2
  · show signs = (pre ++ [z]) ++ r
    rw [hp, List.append_assoc]; rfl
  · show r.length < (z :: r).length
    exact Nat.lt_succ_self _
end

section
local macro_rules | `(tactic| walk_at "binaryOp RShift int int") => `(tactic| (k_here; (with_reducible first | refine shr127_2 ?_ | refine shr127_3 ?_ | refine shr127_4 ?_ | refine shr64_1 ?_ | refine shr32_1 ?_ | refine shr16_1 ?_ | refine shr10 ?_ | refine shr6 ?_ | refine shr4 ?_ | refine shr3 ?_ | refine shr2 ?_ | refine shr1 ?_); (try dsimp only)))
local macro_rules | `(tactic| walk_at "binaryOp BitAnd int int") => `(tactic| (k_here; (with_reducible first | refine and63 ?_ | refine and15 ?_ | refine and7 ?_ | refine and31 ?_ | refine and1023 ?_ | refine and192 (by omega) (by omega) ?_); (try dsimp only)))
local macro_rules | `(tactic| walk_at "binaryOp BitOr int int") => `(tactic| (k_here; (with_reducible first | refine or128 (by omega) (by omega) ?_ | refine or192 (by omega) (by omega) ?_ | refine or224 (by omega) (by omega) ?_ | refine or240 (by omega) (by omega) ?_ | refine orm64 (by omega) (by omega) (by omega) ?_); (try dsimp only)))
local macro_rules | `(tactic| walk_at "binaryOp LShift int int") => `(tactic| (k_here; (with_reducible refine shl6 (by omega) (by omega) ?_); (try dsimp only)))
local macro_rules | `(tactic| walk_at "call builtin:chr") => `(tactic| (k_here; (with_reducible refine chr_of_range (by omega) (by omega) ?_); (try dsimp only)))
local macro_rules | `(tactic| walk_at "subscriptTail Name BinOp str int") => `(tactic| (k_here; refine hex_item (by omega) (by omega) ?_; (try dsimp only)))
local macro_rules | `(tactic| walk_at "subscriptTail Name BinOp str int") => `(tactic| (k_here; refine item_at (by assumption) (by omega) ?_; (try dsimp only)))
local macro_rules | `(tactic| walk_at "subscriptTail Name Name str int") => `(tactic| (k_here; refine item_at (by assumption) (by omega) ?_; (try dsimp only)))

local macro_rules | `(tactic| walk_at "call ref") => `(tactic| (k_here; k_dflt (refine' c_octetAt _ _ _ _ _ _ _ _ _ _ (by assumption) (by assumption) (by assumption) (by omega) (by omega) _ _ _ _ _ _ _ _ _ _ _ _ _ _ _ _ _ ?k1 ?k2 ?k3 ?k4 ?k5 ?kK ?kd ?ku ?_); (case k1 => k_asm); (case k2 => k_asm); (case k3 => k_asm); (case k4 => k_asm); (case k5 => k_asm); (case kK => first | exact rfl | assumption); (case kd => ktr_room); (case ku => ktr_units); (intro t9 h9 tk9 F9 N9; (try dsimp only); (try k_fold); (try k_sweep))))
local macro_rules | `(tactic| walk_at "call ref") => `(tactic| (k_here; k_dflt (refine' c_count _ _ _ _ _ _ _ _ _ rfl (by assumption) (by omega) (by omega) _ _ _ _ _ _ _ _ _ _ _ _ _ _ _ _ _ ?k1 ?k2 ?k3 ?k4 ?k5 ?kK ?kd ?ku ?_); (case k1 => k_asm); (case k2 => k_asm); (case k3 => k_asm); (case k4 => k_asm); (case k5 => k_asm); (case kK => first | exact rfl | assumption); (case kd => ktr_room); (case ku => ktr_units); (intro t9 h9 tk9 F9 N9; (try dsimp only); (try k_fold); (try k_sweep))))
local macro_rules | `(tactic| walk_at "call ref") => `(tactic| (k_here; k_dflt (refine' c_signO _ _ _ _ _ _ _ _ _ ?hm ?hi ?hz ?h0 _ _ _ _ _ _ _ _ _ _ _ _ _ _ _ _ _ ?k1 ?k2 ?k3 ?k4 ?k5 ?kK ?kd ?ku ?_); (case k1 => k_asm); (case k2 => k_asm); (case k3 => k_asm); (case k4 => k_asm); (case k5 => k_asm); (case kK => first | exact rfl | assumption); (case kd => ktr_room); (case ku => ktr_units); (case hm => k_mem); (case hi => assumption); (case hz => assumption); (case h0 => omega); (intro t9 h9 tk9 F9 N9; (try dsimp only); (try k_fold); (try k_sweep))))
local macro_rules | `(tactic| walk_at "call ref") => `(tactic| (k_here; k_dflt (refine' c_unitsN _ _ _ _ _ _ _ _ rfl (by omega) _ _ _ _ _ _ _ _ _ _ _ _ _ _ _ _ _ ?k1 ?k2 ?k3 ?k4 ?k5 ?kK ?kd ?ku ?_); (case k1 => k_asm); (case k2 => k_asm); (case k3 => k_asm); (case k4 => k_asm); (case k5 => k_asm); (case kK => first | exact rfl | assumption); (case kd => ktr_room); (case ku => ktr_units); (intro t9 h9 tk9 F9 N9; (try dsimp only); (try k_fold); (try k_sweep))))

local macro_rules | `(tactic| walk_at "exec While Compare cons nil") => `(tactic| (k_here; refine Halt.at ?_))
local macro_rules | `(tactic| walk_at "exec Assign cons ListComp") => `(tactic| (k_here; k_dflt (refine LCg.Assign_ListComp_U (F₀ := by k_asm) (by rfl) (by with_unfolding_all rfl) (by with_unfolding_all rfl) (by decide) (by rfl) (by decide) (by rfl) (by rfl) (by rfl) ?_)))
local macro_rules | `(tactic| walk_at "CompSrc") => `(tactic| (k_here; refine Halt.at ?_))
local macro_rules | `(tactic| walk_at "compareOp In str str") => `(tactic| (k_here; refine in_left (units_ne _) ?_))
local macro_rules | `(tactic| walk_at "compareOp NotEq str str") => `(tactic| (k_here; refine ne_pct (by omega) ?_))

section
variable (w : World) (mean : ExcName → Option Value) (mg mb : Str → Option Value) (news : List (Addr × Obj))
theorem c_decode (signs : List Nat) (tx tk : Tok) (hg : ∀ s ∈ signs, Good s) (hlen : signs.length ≤ 20) :
    Ent w mean mg mb news 30 300 127 [.str (S (signs.flatMap encL)) tx, .str (Str.ofString "") tk] (RetV news fun t => .str (S (signs.flatMap unitsL)) t) := by
  have hL := flat_len enc_len signs
  have hX : (S (signs.flatMap encL)).length ≤ 100000 := by rw [S_len]; omega
  w_top off; unfold Ent RetV; k_fill; intros; rename_i hret; have kMk := kstMark
  refine wpAny_call ?_
  k_dflt (refine' code_defC ?k1 ?k2 ?k3 ?k4 ?k5 ?kA ?kF ?kK ?k6 ?k7 ?k8 ?k9 ?kB ?kD ?_ ?c2 ?c3 ?c4; (case kA => exact rfl); (case kF => exact rfl); (case kK => assumption); (case k1 => k_asm); (case k2 => k_asm); (case k3 => k_asm); (case k4 => k_asm); (case k5 => k_asm); (case k6 => k_is); (case k7 => k_is); (case k8 => ktr_room); (case k9 => exact BindsTo.of_eq rfl); (case kB => exact rfl); (case kD => decide +kernel); (case c2 => exact rfl); (case c3 => exact rfl); (case c4 => exact rfl); k_whole)
  intro g' L' h' tk' cells' FG' F' N' Y' B' X' T' l1
  obtain ⟨o1, o2, hE, d1, d2⟩ := CellsAre.two Y'
  subst hE
  clear Y'
  change o1.data = .cell none at d1
  change o2.data = .cell (some (.str (S (signs.flatMap encL)) tx)) at d2
  simp only [List.cons_append, List.nil_append] at N'
  (try dsimp only)
  k_fold
  have l2 : ∀ p ∈ news, p.1 < L' + 1 := fun p hp => Nat.lt_succ_of_lt (l1 p hp)
  have l3 : ∀ p ∈ news, p.1 < L' + 1 + 1 := fun p hp => Nat.lt_succ_of_lt (l2 p hp)
  k_steps
  unfold Halt
  (rename Fr _ _ _ _ => F0)
  (rename News _ _ _ _ => N0)
  refine dec_while signs F0 (fun p hp => N0 p (List.Mem.tail _ hp)) (by assumption) ?_ (by with_unfolding_all passes_own)
  clear N0 F0
  intro c u h tk hf hcd hp F1 N1
  obtain ⟨pre, post, ys, cnt, tc, oc⟩ := c
  dsimp only at hf hp N1 hcd
  have hys := strs_len hf
  rw [List.length_map, List.length_map] at hys
  cases post with
  | nil =>
    have hXl : (S (signs.flatMap encL)).length = (pre.flatMap encL).length := by rw [S_len, hp, List.append_nil]
    k_steps
    have hfl := flat_len units_len pre
    have hpl : pre.length ≤ 20 := by rw [hp, List.length_append] at hlen; omega
    refine join_S (pre.map unitsL) (News.isList (by k_asm) (List.Mem.head _)) hf (by rw [← List.flatMap_def]; omega) fun t' k => ?_
    rw [← List.flatMap_def]
    k_steps
    all_goals (refine cb_retS hret (by rw [hp, List.append_nil]) (by k_asm) ?_)
    all_goals (rename News _ _ _ _ => kNN; exact fun p hp => kNN p (List.Mem.tail _ (List.Mem.tail _ (List.Mem.tail _ hp))))
  | cons z r =>
    have hz : Good z := hg z (by rw [hp]; exact List.mem_append_right _ (List.Mem.head _))
    have hz1 := good_le hz
    have hpl : pre.length + (r.length + 1) ≤ 20 := by rw [hp, List.length_append, List.length_cons] at hlen; exact hlen
    have hXl : (S (signs.flatMap encL)).length = (pre.flatMap encL).length + ((encL z).length + (r.flatMap encL).length) := by
      rw [S_len, hp, flat_at, List.length_append, List.length_append]
    by_cases h2 : z < 128
    · have h97 : 97 ≤ z ∧ z ≤ 122 := by unfold Good at hz; omega
      have he : encL z = [z] := by unfold encL; rw [if_pos h2]
      have hu : unitsL z = [z] := by unfold unitsL; rw [if_pos (by omega)]
      rw [he, List.length_singleton] at hXl
      have hc : ChAt (S (signs.flatMap encL)) ((pre.flatMap encL).length : Int) z := by
        rw [hp, flat_at, he]; exact chAt_app rfl
      k_steps
      dsimp only
      (rename Fr _ _ _ _ => F9)
      (rename News _ _ _ _ => N9)
      refine dec_end F9 N9 (List.Mem.head _) (List.Mem.tail _ (List.Mem.head _)) (List.Mem.tail _ (List.Mem.tail _ (List.Mem.head _))) (fun p hp => List.Mem.tail _ (List.Mem.tail _ (List.Mem.tail _ hp))) hf hp (by assumption) (by rw [he]; rfl) (by rw [S_one, hu]) ?_
      intro x hx1 hx2 hx3
      simp [hx1, hx2, hx3]
    · have hoe := encL_flat (z := z) (by omega)
      have hog := octets_ge z (by omega)
      have hol := octets_len z
      have hel : (encL z).length = 3 * (octets z).length := by rw [hoe, octs_flat_len]
      have hXe : S (signs.flatMap encL) = S (pre.flatMap encL ++ ((octets z).flatMap octL ++ r.flatMap encL)) := by rw [hp, flat_at, hoe]
      have hall : ∀ (i o : Nat), (octets z)[i]? = some o → ChAt (S (signs.flatMap encL)) (((pre.flatMap encL).length : Int) + 3 * (i : Int)) 37 ∧ ChAt (S (signs.flatMap encL)) (((pre.flatMap encL).length : Int) + 3 * (i : Int) + 1) (hexd (o / 16)) ∧ ChAt (S (signs.flatMap encL)) (((pre.flatMap encL).length : Int) + 3 * (i : Int) + 1 + 1) (hexd (o % 16)) := fun i o ho => by
        rw [hXe]; exact enc_at ho
      obtain ⟨o, ho⟩ : ∃ o, (octets z)[0]? = some o := ⟨_, List.getElem?_eq_getElem (by omega)⟩
      have holt := octets_lt (by omega) hz1 o (List.mem_of_getElem? ho)
      have hA := hall 0 o ho
      have hz0 : ((pre.flatMap encL).length : Int) + 3 * ((0 : Nat) : Int) = ((pre.flatMap encL).length : Int) := by omega
      rw [hz0] at hA
      obtain ⟨hA1, hA2, hA3⟩ := hA
      k_steps
      · exfalso; omega
      · unfold Halt
        (rename Fr _ _ _ _ => F2)
        (rename News _ _ _ _ => N2)
        (rename IsRange _ _ _ _ _ _ _ _ => R2)
        refine LCg.CompSrc.range (by rfl) F2 N2 R2 (small_one (by omega) (by omega) (by omega) (by omega)) (rangeSize_nat _ _) (by rw [PySem.sizeLine_eq]; omega) fun g => ?_
        refine ints_rest (octets z) (fun o => (o : Int)) rfl trivial ?_ ?_
        · rintro i o v I oI C oC D m₂ ys' h tk E' hi ho ⟨t, rfl⟩ hC hx F N off ne
          have ho1 := octets_lt (by omega) (by omega) o (List.mem_of_getElem? ho)
          have hB := hall i o ho
          rw [show (3 : Int) * (i : Int) = 3 * (0 + (i : Int)) by omega] at hB
          obtain ⟨hB1, hB2, hB3⟩ := hB
          clear F2 N2
          k_steps
          all_goals first | k_asm | fail "an element's end"
        · intro ys' hy
          clear F2 N2
          k_steps
          dsimp only
          (rename Fr _ _ _ _ => F9)
          (rename News _ _ _ _ => N9)
          refine dec_end F9 N9 (List.Mem.tail _ (List.Mem.head _)) (List.Mem.tail _ (List.Mem.tail _ (List.Mem.head _))) (List.Mem.tail _ (List.Mem.tail _ (List.Mem.tail _ (List.Mem.head _)))) (fun p hp => List.Mem.tail _ (List.Mem.tail _ (List.Mem.tail _ (List.Mem.tail _ hp)))) hf hp (by assumption) (by rw [hel]; omega) rfl ?_
          intro x hx1 hx2 hx3
          simp [hx1, hx2, hx3]
end

end
section
variable {prog : Program} {w : World} {A : Around} {E : Value → Shared → Prop} {s : Shared} {a b : Int} {t u : Tok} {Q : Value → Shared → Prop}
theorem mod_pos (hb : 0 < b) (h : Q (.int (a % b) s.toks) { s with toks := s.toks + 1 }) : wpAny (model prog w) A (binaryOp .Mod (.int a t) (.int b u)) Q E s := by
  refine mod_int' (by omega) ?_
  rw [Int.fmod_eq_emod_of_nonneg _ (by omega)]
  exact h
theorem div_pos (hb : 0 < b) (hl : b.natAbs.log2 < 9000) (h : Q (.int (a / b) s.toks) { s with toks := s.toks + 1 }) : wpAny (model prog w) A (binaryOp .FloorDiv (.int a t) (.int b u)) Q E s := by
  refine floordiv_int (by omega) ?_ (Or.inl (PyProof.noPylong_of_log2 hl))
  rw [Int.fdiv_eq_ediv_of_nonneg _ (by omega)]
  exact h
end

section
local macro_rules | `(tactic| walk_at "binaryOp RShift int int") => `(tactic| (k_here; (with_reducible first | refine shr127_2 ?_ | refine shr127_3 ?_ | refine shr127_4 ?_ | refine shr64_1 ?_ | refine shr32_1 ?_ | refine shr16_1 ?_ | refine shr10 ?_ | refine shr6 ?_ | refine shr4 ?_ | refine shr3 ?_ | refine shr2 ?_ | refine shr1 ?_); (try dsimp only)))
local macro_rules | `(tactic| walk_at "binaryOp BitAnd int int") => `(tactic| (k_here; (with_reducible first | refine and63 ?_ | refine and15 ?_ | refine and7 ?_ | refine and31 ?_ | refine and1023 ?_ | refine and192 (by omega) (by omega) ?_); (try dsimp only)))
local macro_rules | `(tactic| walk_at "binaryOp BitOr int int") => `(tactic| (k_here; (with_reducible first | refine or128 (by omega) (by omega) ?_ | refine or192 (by omega) (by omega) ?_ | refine or224 (by omega) (by omega) ?_ | refine or240 (by omega) (by omega) ?_ | refine orm64 (by omega) (by omega) (by omega) ?_); (try dsimp only)))
local macro_rules | `(tactic| walk_at "binaryOp LShift int int") => `(tactic| (k_here; (with_reducible refine shl6 (by omega) (by omega) ?_); (try dsimp only)))
local macro_rules | `(tactic| walk_at "call builtin:chr") => `(tactic| (k_here; (with_reducible refine chr_of_range (by omega) (by omega) ?_); (try dsimp only)))
local macro_rules | `(tactic| walk_at "subscriptTail Name BinOp str int") => `(tactic| (k_here; refine hex_item (by omega) (by omega) ?_; (try dsimp only)))
local macro_rules | `(tactic| walk_at "subscriptTail Name BinOp str int") => `(tactic| (k_here; refine item_at (by assumption) (by omega) ?_; (try dsimp only)))
local macro_rules | `(tactic| walk_at "subscriptTail Name Name str int") => `(tactic| (k_here; refine item_at (by assumption) (by omega) ?_; (try dsimp only)))

local macro_rules | `(tactic| walk_at "binaryOp Mod int int") => `(tactic| (k_here; refine mod_pos (by decide) ?_; (try dsimp only)))
local macro_rules | `(tactic| walk_at "binaryOp FloorDiv int int") => `(tactic| (k_here; refine div_pos (by decide) (by decide +kernel) ?_; (try dsimp only)))

local macro_rules | `(tactic| walk_at "call ref") => `(tactic| (k_here; k_dflt (refine' c_encode _ _ _ _ _ _ _ _ (by assumption) (by assumption) _ _ _ _ _ _ _ _ _ _ _ _ _ _ _ _ _ ?k1 ?k2 ?k3 ?k4 ?k5 ?kK ?kd ?ku ?_); (case k1 => k_asm); (case k2 => k_asm); (case k3 => k_asm); (case k4 => k_asm); (case k5 => k_asm); (case kK => first | exact rfl | assumption); (case kd => ktr_room); (case ku => ktr_units); (intro t9 h9 tk9 F9 N9; (try dsimp only); (try k_fold); (try k_sweep))))
local macro_rules | `(tactic| walk_at "call ref") => `(tactic| (k_here; k_dflt (refine' c_decode _ _ _ _ _ _ _ _ (by assumption) (by assumption) _ _ _ _ _ _ _ _ _ _ _ _ _ _ _ _ _ ?k1 ?k2 ?k3 ?k4 ?k5 ?kK ?kd ?ku ?_); (case k1 => k_asm); (case k2 => k_asm); (case k3 => k_asm); (case k4 => k_asm); (case k5 => k_asm); (case kK => first | exact rfl | assumption); (case kd => ktr_room); (case ku => ktr_units); (intro t9 h9 tk9 F9 N9; (try dsimp only); (try k_fold); (try k_sweep))))

def lawSign (x : Int) : Int :=
  if x % 5 = 0 then 65536 + x / 5 * 4099 % 1048576 else if x % 5 = 1 then 97 + x / 5 % 26 else if x % 5 = 2 then 128 + x / 5 * 37 % 1920
  else if x % 5 = 3 then 2048 + x / 5 * 997 % 53248 else 57344 + x / 5 * 61 % 8192
theorem lawSign_good (x : Int) : 0 ≤ lawSign x ∧ Good (lawSign x).toNat := by
  have key : ∀ y : Int, (97 ≤ y ∧ y ≤ 122) ∨ (128 ≤ y ∧ y < 55296) ∨ (57344 ≤ y ∧ y ≤ 1114111) → 0 ≤ y ∧ Good y.toNat := by
    intro y hy
    unfold Good
    omega
  refine key _ ?_
  unfold lawSign
  split
  · omega
  · split
    · omega
    · split
      · omega
      · split <;> omega
section
variable (w : World) (mean : ExcName → Option Value) (mg mb : Str → Option Value) (news : List (Addr × Obj))
theorem c_encComp (signs : List Nat) (tx : Tok) (hg : ∀ s ∈ signs, Good s) (hlen : signs.length ≤ 20) :
    Ent w mean mg mb news 40 400 134 [.str (S (signs.flatMap unitsL)) tx] (RetV news fun t => .str (S (signs.flatMap encL)) t) := by
  w_top off; unfold Ent RetV; k_fill; intros; rename_i hret
  refine wpAny_call ?_
  k_dflt cell_enter
  k_steps
  all_goals (refine cb_retS hret rfl (by k_asm) (by k_asm))
theorem c_decComp (signs : List Nat) (tx : Tok) (hg : ∀ s ∈ signs, Good s) (hlen : signs.length ≤ 20) :
    Ent w mean mg mb news 40 400 141 [.str (S (signs.flatMap encL)) tx] (RetV news fun t => .str (S (signs.flatMap unitsL)) t) := by
  w_top off; unfold Ent RetV; k_fill; intros; rename_i hret
  refine wpAny_call ?_
  k_dflt cell_enter
  k_steps
  all_goals (refine cb_retS hret rfl (by k_asm) (by k_asm))
theorem c_lawSign (x : Int) (t : Tok) (h0 : 0 ≤ x) : Ent w mean mg mb news 10 100 148 [.int x t] (RetV news fun t => .int (lawSign x) t) := by
  w_top off; unfold Ent RetV; k_fill; intros; rename_i hret; have kMk := kstMark
  refine wpAny_call ?_
  k_dflt cell_enter
  k_steps
  all_goals (
    refine cb_retI hret ?_ (by k_asm) ?_
    · unfold lawSign
      (repeat' split) <;> first | rfl | omega
    · (rename News _ _ _ _ => kNN; first | exact kNN | exact fun p hp => kNN p (List.Mem.tail _ hp)))
theorem c_lawUnits (x : Int) (t : Tok) (z : Nat) (hz : x = (z : Int)) (h1 : z ≤ 1114111) : Ent w mean mg mb news 10 100 155 [.int x t] (RetV news fun t => .str (S (unitsL z)) t) := by
  w_top off; unfold Ent RetV; k_fill; intros; rename_i hret
  refine wpAny_call ?_
  k_dflt cell_enter
  k_steps
  all_goals (refine cb_retS hret ?_ (by k_asm) (by k_asm))
  · subst hz
    show S [(z : Int).toNat] = _
    unfold unitsL
    rw [if_pos (by omega)]
    rfl
  · subst hz
    rw [S_one, S_one, S_app]
    unfold unitsL
    rw [if_neg (by omega), show (55296 + ((z : Int) - 65536) / 1024).toNat = 55296 + (z - 65536) / 1024 by omega, show (56320 + ((z : Int) - 65536) % 1024).toNat = 56320 + (z - 65536) % 1024 by omega]
    rfl
end

end
/-- the same, closed to the walk -/
def ElW (h₀ : Heap) (L : Addr) (m : Str → Option Value) (s : Shared) (news : List (Addr × Obj)) (r : Str) (y : Value) (s₂ : Shared) : Prop := ElT h₀ L m s news r y s₂
theorem elw_in {M : Model} {A : Around} {tr : Sem Value} {h₀ : Heap} {L : Addr} {m : Str → Option Value} {s s₀ : Shared} {news : List (Addr × Obj)} {r : Str} {E : Value → Shared → Prop} (h : wpAny M A tr (ElW h₀ L m s news r) E s₀) : wpAny M A tr (ElT h₀ L m s news r) E s₀ := h
theorem elw_end {h₀ h' : Heap} {L : Addr} {m : Str → Option Value} {s : Shared} {news : List (Addr × Obj)} {r x : Str} {t : Tok} {tk' : Nat} (e : x = r) (F : Fr h₀ L h' m) (N : News h₀ L h' news) : ElW h₀ L m s news r (.str x t) { s with heap := h', toks := tk' } := by
  subst e
  exact ⟨t, h', tk', rfl, rfl, F, N⟩
theorem octL_text (o : Nat) (h : o < 256) : Str.ofString "%" ++ ⟨#[hexd ((o : Int) / 16).toNat]⟩ ++ ⟨#[hexd ((o : Int) % 16).toNat]⟩ = S (octL o) := by
  rw [S_pct, S_one, S_one, S_app, S_app, show ((o : Int) / 16).toNat = o / 16 by omega, show ((o : Int) % 16).toNat = o % 16 by omega]
  rfl

section
local macro_rules | `(tactic| walk_at "binaryOp RShift int int") => `(tactic| (k_here; (with_reducible first | refine shr127_2 ?_ | refine shr127_3 ?_ | refine shr127_4 ?_ | refine shr64_1 ?_ | refine shr32_1 ?_ | refine shr16_1 ?_ | refine shr10 ?_ | refine shr6 ?_ | refine shr4 ?_ | refine shr3 ?_ | refine shr2 ?_ | refine shr1 ?_); (try dsimp only)))
local macro_rules | `(tactic| walk_at "binaryOp BitAnd int int") => `(tactic| (k_here; (with_reducible first | refine and63 ?_ | refine and15 ?_ | refine and7 ?_ | refine and31 ?_ | refine and1023 ?_ | refine and192 (by omega) (by omega) ?_); (try dsimp only)))
local macro_rules | `(tactic| walk_at "binaryOp BitOr int int") => `(tactic| (k_here; (with_reducible first | refine or128 (by omega) (by omega) ?_ | refine or192 (by omega) (by omega) ?_ | refine or224 (by omega) (by omega) ?_ | refine or240 (by omega) (by omega) ?_ | refine orm64 (by omega) (by omega) (by omega) ?_); (try dsimp only)))
local macro_rules | `(tactic| walk_at "binaryOp LShift int int") => `(tactic| (k_here; (with_reducible refine shl6 (by omega) (by omega) ?_); (try dsimp only)))
local macro_rules | `(tactic| walk_at "call builtin:chr") => `(tactic| (k_here; (with_reducible refine chr_of_range (by omega) (by omega) ?_); (try dsimp only)))
local macro_rules | `(tactic| walk_at "subscriptTail Name BinOp str int") => `(tactic| (k_here; refine hex_item (by omega) (by omega) ?_; (try dsimp only)))
local macro_rules | `(tactic| walk_at "subscriptTail Name BinOp str int") => `(tactic| (k_here; refine item_at (by assumption) (by omega) ?_; (try dsimp only)))
local macro_rules | `(tactic| walk_at "subscriptTail Name Name str int") => `(tactic| (k_here; refine item_at (by assumption) (by omega) ?_; (try dsimp only)))

local macro_rules | `(tactic| walk_at "binaryOp Mod int int") => `(tactic| (k_here; refine mod_pos (by decide) ?_; (try dsimp only)))
local macro_rules | `(tactic| walk_at "binaryOp FloorDiv int int") => `(tactic| (k_here; refine div_pos (by decide) (by decide +kernel) ?_; (try dsimp only)))

local macro_rules | `(tactic| walk_at "eval ListComp") => `(tactic| (k_here; k_dflt (refine LCg.ListComp_U (F₀ := by k_asm) (by with_unfolding_all rfl) (by decide) (by rfl) (by decide) (by rfl) ?_)))
local macro_rules | `(tactic| walk_at "CompSrc") => `(tactic| (k_here; refine Halt.at ?_))

section
variable (w : World) (mean : ExcName → Option Value) (mg mb : Str → Option Value) (news : List (Addr × Obj))
theorem c_lawOcts (x : Int) (t : Tok) (z : Nat) (hz : x = (z : Int)) (h1 : z ≤ 1114111) : Ent w mean mg mb news 10 100 160 [.int x t] (RetV news fun t => .str (S (encL z)) t) := by
  subst hz
  w_top off; unfold Ent RetV; k_fill; intros; rename_i hret; have kMk := kstMark
  refine wpAny_call ?_
  k_dflt (refine' code_defC ?k1 ?k2 ?k3 ?k4 ?k5 ?kA ?kF ?kK ?k6 ?k7 ?k8 ?k9 ?kB ?kD ?_ ?c2 ?c3 ?c4; (case kA => exact rfl); (case kF => exact rfl); (case kK => assumption); (case k1 => k_asm); (case k2 => k_asm); (case k3 => k_asm); (case k4 => k_asm); (case k5 => k_asm); (case k6 => k_is); (case k7 => k_is); (case k8 => ktr_room); (case k9 => exact BindsTo.of_eq rfl); (case kB => exact rfl); (case kD => decide +kernel); (case c2 => exact rfl); (case c3 => exact rfl); (case c4 => exact rfl); k_whole)
  intro g' L' h' tk' cells' FG' F' N' Y' B' X' T' l1
  obtain ⟨o1, hE, d1⟩ := CellsAre.one Y'
  subst hE
  clear Y'
  change o1.data = .cell none at d1
  simp only [List.cons_append, List.nil_append] at N'
  (try dsimp only)
  k_fold
  have l2 : ∀ p ∈ news, p.1 < L' + 1 := fun p hp => Nat.lt_succ_of_lt (l1 p hp)
  by_cases hA : z < 128
  · k_steps
    refine cb_retS hret ?_ (by k_asm) ?_
    · show S [(z : Int).toNat] = _
      unfold encL
      rw [if_pos hA]
      rfl
    · (rename News _ _ _ _ => kNN; exact fun p hp => kNN p (List.Mem.tail _ hp))
  · by_cases hB : z < 2048
    · k_steps
      unfold Halt
      have hox : ∀ (t0 t1 : Tok), OctInts z [Value.int (192 + (z : Int) / 64) t0, Value.int (128 + (z : Int) % 64) t1] := by
        intro t0 t1
        unfold OctInts octets
        rw [if_neg (by omega), if_pos hB]
        exact IntsAre.cons _ _ (IntsAre.cons _ _ (IntsAre.nil))
      have hoe := encL_flat (z := z) (by omega)
      have hol := octets_len z
      (rename Fr _ _ _ _ => F2)
      (rename News _ _ _ _ => N2)
      refine LCg.CompSrc.ledger (by rfl) F2 N2 (List.Mem.head _) (by rw [PySem.sizeLine_eq]; exact Nat.le_of_ble_eq_true rfl) fun g => ?_
      refine strs_rest (octets z) (fun o v => ∃ t, v = .int (o : Int) t) (fun o => S (octL o)) (by have := octs_len (hox 0 0); rw [← this]; rfl) (fun i v _ hv => octs_at (hox _ _) hv) (Or.inr ⟨_, List.Mem.head _, rfl, _, rfl⟩) ?_ ?_
      · rintro o v I oI C oC D m₂ ys' h tk E' ho ⟨t, rfl⟩ hCx hx F N off ne
        have ho1 := octets_lt (by omega) (by omega) o ho
        clear F2 N2
        refine elw_in ?_
        k_steps
        all_goals (refine elw_end (octL_text o ho1) (by k_asm) (by k_asm))
      · intro ys' hy
        clear F2 N2
        k_steps
        have e : ((octets z).map fun c => S (octL c)) = ((octets z).map octL).map S := by rw [List.map_map]; rfl
        rw [e] at hy
        have hfl := octs_flat_len (octets z)
        refine join_S ((octets z).map octL) (News.isList (by k_asm) (List.Mem.head _)) hy (by rw [← List.flatMap_def]; omega) fun t' k => ?_
        rw [← encL_big (by omega)]
        k_steps
        all_goals (refine cb_retS hret rfl (by k_asm) ?_)
        all_goals (rename News _ _ _ _ => kNN; intro p hp; refine kNN p ?_; repeat' (first | exact hp | refine List.Mem.tail _ ?_))
    · by_cases hC : z < 65536
      · k_steps
        unfold Halt
        have hox : ∀ (t0 t1 t2 : Tok), OctInts z [Value.int (224 + (z : Int) / 4096) t0, Value.int (128 + (z : Int) / 64 % 64) t1, Value.int (128 + (z : Int) % 64) t2] := by
          intro t0 t1 t2
          unfold OctInts octets
          rw [if_neg (by omega), if_neg hB, if_pos hC]
          exact IntsAre.cons _ _ (IntsAre.cons _ _ (IntsAre.cons _ _ (IntsAre.nil)))
        have hoe := encL_flat (z := z) (by omega)
        have hol := octets_len z
        (rename Fr _ _ _ _ => F2)
        (rename News _ _ _ _ => N2)
        refine LCg.CompSrc.ledger (by rfl) F2 N2 (List.Mem.head _) (by rw [PySem.sizeLine_eq]; exact Nat.le_of_ble_eq_true rfl) fun g => ?_
        refine strs_rest (octets z) (fun o v => ∃ t, v = .int (o : Int) t) (fun o => S (octL o)) (by have := octs_len (hox 0 0 0); rw [← this]; rfl) (fun i v _ hv => octs_at (hox _ _ _) hv) (Or.inr ⟨_, List.Mem.head _, rfl, _, rfl⟩) ?_ ?_
        · rintro o v I oI C oC D m₂ ys' h tk E' ho ⟨t, rfl⟩ hCx hx F N off ne
          have ho1 := octets_lt (by omega) (by omega) o ho
          clear F2 N2
          refine elw_in ?_
          k_steps
          all_goals (refine elw_end (octL_text o ho1) (by k_asm) (by k_asm))
        · intro ys' hy
          clear F2 N2
          k_steps
          have e : ((octets z).map fun c => S (octL c)) = ((octets z).map octL).map S := by rw [List.map_map]; rfl
          rw [e] at hy
          have hfl := octs_flat_len (octets z)
          refine join_S ((octets z).map octL) (News.isList (by k_asm) (List.Mem.head _)) hy (by rw [← List.flatMap_def]; omega) fun t' k => ?_
          rw [← encL_big (by omega)]
          k_steps
          all_goals (refine cb_retS hret rfl (by k_asm) ?_)
          all_goals (rename News _ _ _ _ => kNN; intro p hp; refine kNN p ?_; repeat' (first | exact hp | refine List.Mem.tail _ ?_))
      · k_steps
        unfold Halt
        have hox : ∀ (t0 t1 t2 t3 : Tok), OctInts z [Value.int (240 + (z : Int) / 262144) t0, Value.int (128 + (z : Int) / 4096 % 64) t1, Value.int (128 + (z : Int) / 64 % 64) t2, Value.int (128 + (z : Int) % 64) t3] := by
          intro t0 t1 t2 t3
          unfold OctInts octets
          rw [if_neg (by omega), if_neg hB, if_neg hC]
          exact IntsAre.cons _ _ (IntsAre.cons _ _ (IntsAre.cons _ _ (IntsAre.cons _ _ (IntsAre.nil))))
        have hoe := encL_flat (z := z) (by omega)
        have hol := octets_len z
        (rename Fr _ _ _ _ => F2)
        (rename News _ _ _ _ => N2)
        refine LCg.CompSrc.ledger (by rfl) F2 N2 (List.Mem.head _) (by rw [PySem.sizeLine_eq]; exact Nat.le_of_ble_eq_true rfl) fun g => ?_
        refine strs_rest (octets z) (fun o v => ∃ t, v = .int (o : Int) t) (fun o => S (octL o)) (by have := octs_len (hox 0 0 0 0); rw [← this]; rfl) (fun i v _ hv => octs_at (hox _ _ _ _) hv) (Or.inr ⟨_, List.Mem.head _, rfl, _, rfl⟩) ?_ ?_
        · rintro o v I oI C oC D m₂ ys' h tk E' ho ⟨t, rfl⟩ hCx hx F N off ne
          have ho1 := octets_lt (by omega) (by omega) o ho
          clear F2 N2
          refine elw_in ?_
          k_steps
          all_goals (refine elw_end (octL_text o ho1) (by k_asm) (by k_asm))
        · intro ys' hy
          clear F2 N2
          k_steps
          have e : ((octets z).map fun c => S (octL c)) = ((octets z).map octL).map S := by rw [List.map_map]; rfl
          rw [e] at hy
          have hfl := octs_flat_len (octets z)
          refine join_S ((octets z).map octL) (News.isList (by k_asm) (List.Mem.head _)) hy (by rw [← List.flatMap_def]; omega) fun t' k => ?_
          rw [← encL_big (by omega)]
          k_steps
          all_goals (refine cb_retS hret rfl (by k_asm) ?_)
          all_goals (rename News _ _ _ _ => kNN; intro p hp; refine kNN p ?_; repeat' (first | exact hp | refine List.Mem.tail _ ?_))
end

end
theorem nats_at {ks : List Nat} {xs : List Value} (hi : IntsAre xs (ks.map fun (k : Nat) => (k : Int))) {i : Nat} {v : Value} (h : xs.toArray[i]? = some v) : ∃ k, ks[i]? = some k ∧ ∃ t, v = .int (k : Int) t := by
  obtain ⟨k, t, e, hk⟩ := IntsAre.at hi i v (by simpa using h)
  rw [List.getElem?_map] at hk
  cases ho : ks[i]? with
  | none => rw [ho] at hk; cases hk
  | some o =>
    rw [ho] at hk
    cases hk
    exact ⟨o, rfl, t, e⟩
theorem nats_len {ks : List Nat} {xs : List Value} (hi : IntsAre xs (ks.map fun (k : Nat) => (k : Int))) : xs.length = ks.length := by
  have this := IntsAre.length hi
  rw [List.length_map] at this
  exact this
theorem good_list {ys : List Value} {l : List Int} {f : Int → Int} (hf : ∀ c, 0 ≤ f c ∧ Good (f c).toNat) (hy : IntsAre ys (l.map f)) (hl : l.length ≤ 5) :
    ∃ ks : List Nat, IntsAre ys (ks.map fun (k : Nat) => (k : Int)) ∧ ks.length ≤ 5 ∧ ∀ k ∈ ks, Good k := by
  refine ⟨l.map fun c => (f c).toNat, ?_, by rw [List.length_map]; exact hl, ?_⟩
  · rw [List.map_map]
    have e : ((fun (k : Nat) => (k : Int)) ∘ fun c => (f c).toNat) = f := by
      funext c
      exact Int.toNat_of_nonneg (hf c).1
    rw [e]
    exact hy
  · intro k hk
    obtain ⟨c, _, rfl⟩ := List.mem_map.mp hk
    exact (hf c).2
section
variable {prog : Program} {w : World} {A : Around} {E : Value → Shared → Prop} {s : Shared} {h₀ : Heap} {L : Addr} {m : Str → Option Value} {env : Env}
theorem ints_over {elt : PySem.Expr} {x : Str} {scope : Scope} {cl : List (Str × Addr)} {Sn : List (Addr × Obj) → Prop} {Fin : List Value → List (Addr × Obj) → Prop} {news : List (Addr × Obj)} {vs : List Value} {ns : List Int}
    (g : Int → Int) (hi : IntsAre vs ns) (hS : Sn news)
    (turn : ∀ k t I oI C oC D m₂ ys h tk (E' : Value → Shared → Prop), LCg.NsObj oC m₂ → m₂ x = some (.int k t) → Fr h₀ L h m → News h₀ L h ((I, oI) :: (C, oC) :: (D, LCg.lst ys) :: news) → LCg.Off3 I C D news → ((@Ne Nat I C) ∧ (@Ne Nat I D) ∧ (@Ne Nat C D)) →
      wpAny (model prog w) A (eval elt (compEnvC scope cl C env)) (ElI h₀ L m s ((I, oI) :: (C, oC) :: (D, LCg.lst ys) :: news) (g k)) E' { s with heap := h, toks := tk })
    (fin : ∀ ys, IntsAre ys (ns.map g) → Fin ys news) : LCg.CompRest prog w A h₀ L m env elt x scope cl s Sn (fun i v => vs.toArray[i]? = some v) Fin vs.toArray.size 0 [] news := by
  refine ints_rest ns g (by rw [List.size_toArray]; exact (IntsAre.length hi).symm) hS ?_ fin
  intro i k v I oI C oC D m₂ ys h tk E' hin hk hv hC hx F N off ne
  obtain ⟨k', t, e, hk'⟩ := IntsAre.at hi i v (by simpa using hv)
  rw [hk] at hk'
  cases hk'
  subst e
  exact turn k t I oI C oC D m₂ ys h tk E' hC hx F N off ne
end

theorem good_list2 {ws : List Value} {l : List Int} {f : Int → Int} (hf : ∀ c, 0 ≤ f c ∧ Good (f c).toNat) (hy : IntsAre ws (l.map f ++ [65536, 98])) (hl : l.length ≤ 5) :
    ∃ ks : List Nat, IntsAre ws (ks.map fun (k : Nat) => (k : Int)) ∧ ks.length ≤ 7 ∧ ∀ k ∈ ks, Good k := by
  refine ⟨(l.map fun c => (f c).toNat) ++ [65536, 98], ?_, ?_, ?_⟩
  · rw [List.map_append, List.map_map]
    have e : ((fun (k : Nat) => (k : Int)) ∘ fun c => (f c).toNat) = f := by
      funext c
      exact Int.toNat_of_nonneg (hf c).1
    rw [e]
    exact hy
  · rw [List.length_append, List.length_map]
    simp only [List.length_cons, List.length_nil]
    omega
  · intro k hk
    rcases List.mem_append.mp hk with hk | hk
    · obtain ⟨c, _, rfl⟩ := List.mem_map.mp hk
      exact (hf c).2
    · simp only [List.mem_cons, List.not_mem_nil, or_false] at hk
      unfold Good
      omega
theorem units_small {z : Nat} (h : z ≤ 1114111) : ∀ c ∈ unitsL z, c < 65536 := by
  intro c hc
  unfold unitsL at hc
  split at hc
  · rw [List.mem_singleton.mp hc]; assumption
  · simp only [List.mem_cons, List.not_mem_nil, or_false] at hc
    omega
theorem units_again : ∀ {l : List Nat}, (∀ c ∈ l, c < 65536) → l.flatMap unitsL = l
  | [], _ => rfl
  | a :: r, h => by
    have ha : unitsL a = [a] := by unfold unitsL; rw [if_pos (h a (List.Mem.head _))]
    rw [List.flatMap_cons, ha, units_again (l := r) fun c hc => h c (List.Mem.tail _ hc)]
    rfl
theorem ones_flat : ∀ l : List Nat, (l.map fun k => [k]).flatten = l
  | [] => rfl
  | a :: r => by rw [List.map_cons, List.flatten_cons, ones_flat r]; rfl
section
variable {prog : Program} {w : World} {A : Around} {E : Value → Shared → Prop} {s : Shared} {t u : Tok} {Q : Value → Shared → Prop} {x y : Str}
theorem ne_same (h : Q (.bool false) s) : wpAny (model prog w) A (compareOp .NotEq (.str x u) (.str x t)) Q E s := by
  refine ne_str ?_
  rw [show (x != x) = false by simp]
  exact h
theorem eq_same (e : x = y) (h : Q (.bool true) s) : wpAny (model prog w) A (compareOp .Eq (.str x u) (.str y t)) Q E s := by
  subst e
  refine eq_str ?_
  rw [show (x == x) = true by simp]
  exact h
end

section
local macro_rules | `(tactic| walk_at "binaryOp RShift int int") => `(tactic| (k_here; (with_reducible first | refine shr127_2 ?_ | refine shr127_3 ?_ | refine shr127_4 ?_ | refine shr64_1 ?_ | refine shr32_1 ?_ | refine shr16_1 ?_ | refine shr10 ?_ | refine shr6 ?_ | refine shr4 ?_ | refine shr3 ?_ | refine shr2 ?_ | refine shr1 ?_); (try dsimp only)))
local macro_rules | `(tactic| walk_at "binaryOp BitAnd int int") => `(tactic| (k_here; (with_reducible first | refine and63 ?_ | refine and15 ?_ | refine and7 ?_ | refine and31 ?_ | refine and1023 ?_ | refine and192 (by omega) (by omega) ?_); (try dsimp only)))
local macro_rules | `(tactic| walk_at "binaryOp BitOr int int") => `(tactic| (k_here; (with_reducible first | refine or128 (by omega) (by omega) ?_ | refine or192 (by omega) (by omega) ?_ | refine or224 (by omega) (by omega) ?_ | refine or240 (by omega) (by omega) ?_ | refine orm64 (by omega) (by omega) (by omega) ?_); (try dsimp only)))
local macro_rules | `(tactic| walk_at "binaryOp LShift int int") => `(tactic| (k_here; (with_reducible refine shl6 (by omega) (by omega) ?_); (try dsimp only)))
local macro_rules | `(tactic| walk_at "call builtin:chr") => `(tactic| (k_here; (with_reducible refine chr_of_range (by omega) (by omega) ?_); (try dsimp only)))
local macro_rules | `(tactic| walk_at "subscriptTail Name BinOp str int") => `(tactic| (k_here; refine hex_item (by omega) (by omega) ?_; (try dsimp only)))
local macro_rules | `(tactic| walk_at "subscriptTail Name BinOp str int") => `(tactic| (k_here; refine item_at (by assumption) (by omega) ?_; (try dsimp only)))
local macro_rules | `(tactic| walk_at "subscriptTail Name Name str int") => `(tactic| (k_here; refine item_at (by assumption) (by omega) ?_; (try dsimp only)))

local macro_rules | `(tactic| walk_at "call ref") => `(tactic| (k_here; k_dflt (refine' c_lawSign _ _ _ _ _ _ _ (by omega) _ _ _ _ _ _ _ _ _ _ _ _ _ _ _ _ _ ?k1 ?k2 ?k3 ?k4 ?k5 ?kK ?kd ?ku ?_); (case k1 => k_asm); (case k2 => k_asm); (case k3 => k_asm); (case k4 => k_asm); (case k5 => k_asm); (case kK => first | exact rfl | assumption); (case kd => ktr_room); (case ku => ktr_units); (intro t9 h9 tk9 F9 N9; (try dsimp only); (try k_fold); (try k_sweep))))
local macro_rules | `(tactic| walk_at "call ref") => `(tactic| (k_here; k_dflt (refine' c_lawUnits _ _ _ _ _ _ _ _ rfl (by omega) _ _ _ _ _ _ _ _ _ _ _ _ _ _ _ _ _ ?k1 ?k2 ?k3 ?k4 ?k5 ?kK ?kd ?ku ?_); (case k1 => k_asm); (case k2 => k_asm); (case k3 => k_asm); (case k4 => k_asm); (case k5 => k_asm); (case kK => first | exact rfl | assumption); (case kd => ktr_room); (case ku => ktr_units); (intro t9 h9 tk9 F9 N9; (try dsimp only); (try k_fold); (try k_sweep))))
local macro_rules | `(tactic| walk_at "call ref") => `(tactic| (k_here; k_dflt (refine' c_lawOcts _ _ _ _ _ _ _ _ rfl (by omega) _ _ _ _ _ _ _ _ _ _ _ _ _ _ _ _ _ ?k1 ?k2 ?k3 ?k4 ?k5 ?kK ?kd ?ku ?_); (case k1 => k_asm); (case k2 => k_asm); (case k3 => k_asm); (case k4 => k_asm); (case k5 => k_asm); (case kK => first | exact rfl | assumption); (case kd => ktr_room); (case ku => ktr_units); (intro t9 h9 tk9 F9 N9; (try dsimp only); (try k_fold); (try k_sweep))))
local macro_rules | `(tactic| walk_at "call ref") => `(tactic| (k_here; k_dflt (refine' c_unitsText _ _ _ _ _ _ _ (by assumption) (by assumption) _ _ _ _ _ _ _ _ _ _ _ _ _ _ _ _ _ ?k1 ?k2 ?k3 ?k4 ?k5 ?kK ?kd ?ku ?_); (case k1 => k_asm); (case k2 => k_asm); (case k3 => k_asm); (case k4 => k_asm); (case k5 => k_asm); (case kK => first | exact rfl | assumption); (case kd => ktr_room); (case ku => ktr_units); (intro t9 h9 tk9 F9 N9; (try dsimp only); (try k_fold); (try k_sweep))))
local macro_rules | `(tactic| walk_at "call ref") => `(tactic| (k_here; k_dflt (refine' c_encComp _ _ _ _ _ _ _ (by assumption) (by assumption) _ _ _ _ _ _ _ _ _ _ _ _ _ _ _ _ _ ?k1 ?k2 ?k3 ?k4 ?k5 ?kK ?kd ?ku ?_); (case k1 => k_asm); (case k2 => k_asm); (case k3 => k_asm); (case k4 => k_asm); (case k5 => k_asm); (case kK => first | exact rfl | assumption); (case kd => ktr_room); (case ku => ktr_units); (intro t9 h9 tk9 F9 N9; (try dsimp only); (try k_fold); (try k_sweep))))
local macro_rules | `(tactic| walk_at "call ref") => `(tactic| (k_here; k_dflt (refine' c_decComp _ _ _ _ _ _ _ (by assumption) (by assumption) _ _ _ _ _ _ _ _ _ _ _ _ _ _ _ _ _ ?k1 ?k2 ?k3 ?k4 ?k5 ?kK ?kd ?ku ?_); (case k1 => k_asm); (case k2 => k_asm); (case k3 => k_asm); (case k4 => k_asm); (case k5 => k_asm); (case kK => first | exact rfl | assumption); (case kd => ktr_room); (case ku => ktr_units); (intro t9 h9 tk9 F9 N9; (try dsimp only); (try k_fold); (try k_sweep))))

local macro_rules | `(tactic| walk_at "eval ListComp") => `(tactic| (k_here; k_dflt (refine LCg.ListComp_U (F₀ := by k_asm) (by rfl) (by decide) (by rfl) (by decide) (by rfl) ?_)))
local macro_rules | `(tactic| walk_at "CompSrc") => `(tactic| (k_here; refine Halt.at ?_))
local macro_rules | `(tactic| walk_at "compareOp NotEq str str") => `(tactic| (k_here; refine ne_same ?_))
local macro_rules | `(tactic| walk_at "compareOp Eq str str") => `(tactic| (k_here; refine eq_same (by first | rfl | assumption) ?_))

theorem law_holds : PySem.Challenge.rw_rg0175_01.Holds := by
  refine hd ?_
  k_go0
  (all_goals try k_fold)
  have kMk := kstMark
  k_steps
  unfold Halt
  (rename IntsAre _ (List.take _ _) => hI5)
  (rename Fr _ _ _ _ => F2)
  (rename News _ _ _ _ => N2)
  refine LCg.CompSrc.ledger (by rfl) F2 N2 (List.Mem.head _) (by rw [PySem.sizeLine_eq, List.size_toArray, IntsAre.length hI5]; exact Nat.le_trans (List.length_take_le _ _) (by decide)) fun g => ?_
  refine ints_over (fun c => lawSign (if c < 0 then -c else c)) hI5 (Or.inr ⟨_, List.Mem.head _, rfl, _, rfl⟩) ?_ ?_
  · intro k t I oI C oC D m₂ ys' h tk E' hC hx F N off ne
    clear F2 N2
    k_steps
    all_goals first | k_asm | fail "an element's end"
  · intro ys hy
    clear F2 N2
    k_steps
    (rename IntsAre _ (_ ++ [65536, 98]) => hI7)
    obtain ⟨kk, hK, hKl, hKg⟩ := good_list2 (fun c => lawSign_good _) hI7 (List.length_take_le _ _)
    clear hI7 hy hI5
    have hK1 : ∀ c ∈ kk, c ≤ 1114111 := fun c hc => good_le (hKg c hc)
    have hK2 : kk.length ≤ 100 := by omega
    have hK3 : kk.length ≤ 20 := by omega
    have hU1 := flat_len units_len kk
    have hU2 := flat_len enc_len kk
    have hU3 : ∀ c ∈ kk.flatMap unitsL, c < 65536 := fun c hc => by
      obtain ⟨z, hz, hc⟩ := List.mem_flatMap.mp hc
      exact units_small (hK1 z hz) c hc
    have hU4 : ∀ c ∈ kk.flatMap unitsL, c ≤ 1114111 := fun c hc => by have := hU3 c hc; omega
    have hU5 : (kk.flatMap unitsL).length ≤ 100 := by omega
    have hU6 : S ((kk.flatMap unitsL).flatMap unitsL) = S (kk.flatMap unitsL) := by rw [units_again hU3]
    unfold Halt
    (rename Fr _ _ _ _ => F2)
    (rename News _ _ _ _ => N2)
    refine LCg.CompSrc.ledger (by rfl) F2 N2 (by k_mem) (by rw [PySem.sizeLine_eq, List.size_toArray, nats_len hK]; omega) fun g => ?_
    refine strs_rest kk (fun k v => ∃ t, v = .int (k : Int) t) (fun k => S ([k])) (by rw [List.size_toArray]; exact (nats_len hK).symm) (fun i v _ hv => nats_at hK hv) (Or.inr ⟨_, by k_mem, rfl, _, rfl⟩) ?_ ?_
    · rintro k v I oI C oC D m₂ ys' h tk E' hk ⟨t, rfl⟩ hCx hx F N off ne
      have hk1 := good_le (hKg k hk)
      clear F2 N2
      refine elw_in ?_
      k_steps
      all_goals (refine elw_end rfl (by k_asm) (by k_asm))
    intro ys2 hy2
    clear F2 N2
    k_steps
    have e2 : (kk.map fun k => S ([k])) = (kk.map (fun k => [k])).map S := by rw [List.map_map]; rfl
    rw [e2] at hy2
    refine join_S (kk.map fun k => [k]) (News.isList (by k_asm) (by k_mem)) hy2 (by rw [ones_flat]; omega) fun t2 k2 => ?_
    rw [ones_flat]
    k_steps
    unfold Halt
    (rename Fr _ _ _ _ => F2)
    (rename News _ _ _ _ => N2)
    refine LCg.CompSrc.ledger (by rfl) F2 N2 (by k_mem) (by rw [PySem.sizeLine_eq, List.size_toArray, nats_len hK]; omega) fun g => ?_
    refine strs_rest kk (fun k v => ∃ t, v = .int (k : Int) t) (fun k => S (unitsL k)) (by rw [List.size_toArray]; exact (nats_len hK).symm) (fun i v _ hv => nats_at hK hv) (Or.inr ⟨_, by k_mem, rfl, _, rfl⟩) ?_ ?_
    · rintro k v I oI C oC D m₂ ys' h tk E' hk ⟨t, rfl⟩ hCx hx F N off ne
      have hk1 := good_le (hKg k hk)
      clear F2 N2
      refine elw_in ?_
      k_steps
      all_goals (refine elw_end rfl (by k_asm) (by k_asm))
    intro ys2 hy2
    clear F2 N2
    k_steps
    have e2 : (kk.map fun k => S (unitsL k)) = (kk.map (unitsL)).map S := by rw [List.map_map]; rfl
    rw [e2] at hy2
    refine join_S (kk.map unitsL) (News.isList (by k_asm) (by k_mem)) hy2 (by rw [← List.flatMap_def]; omega) fun t2 k2 => ?_
    rw [← List.flatMap_def]
    k_steps
    unfold Halt
    (rename Fr _ _ _ _ => F2)
    (rename News _ _ _ _ => N2)
    refine LCg.CompSrc.ledger (by rfl) F2 N2 (by k_mem) (by rw [PySem.sizeLine_eq, List.size_toArray, nats_len hK]; omega) fun g => ?_
    refine strs_rest kk (fun k v => ∃ t, v = .int (k : Int) t) (fun k => S (encL k)) (by rw [List.size_toArray]; exact (nats_len hK).symm) (fun i v _ hv => nats_at hK hv) (Or.inr ⟨_, by k_mem, rfl, _, rfl⟩) ?_ ?_
    · rintro k v I oI C oC D m₂ ys' h tk E' hk ⟨t, rfl⟩ hCx hx F N off ne
      have hk1 := good_le (hKg k hk)
      clear F2 N2
      refine elw_in ?_
      k_steps
      all_goals (refine elw_end rfl (by k_asm) (by k_asm))
    intro ys2 hy2
    clear F2 N2
    k_steps
    have e2 : (kk.map fun k => S (encL k)) = (kk.map (encL)).map S := by rw [List.map_map]; rfl
    rw [e2] at hy2
    refine join_S (kk.map encL) (News.isList (by k_asm) (by k_mem)) hy2 (by rw [← List.flatMap_def]; omega) fun t2 k2 => ?_
    rw [← List.flatMap_def]
    k_steps

end
end Mine
theorem PySem.Challenge.cw_rg0175_01_holds : PySem.Challenge.rw_rg0175_01.Holds := by
  exact Mine.law_holds
#print axioms PySem.Challenge.cw_rg0175_01_holds
