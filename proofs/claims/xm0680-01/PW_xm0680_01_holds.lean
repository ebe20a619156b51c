import PyProof.Rows.All
import Wide.All
import OpenK.AllK
import Wide.FinOn
import PySem.Challenge.RW_xm0680_01
set_option Elab.async false

section
open PySem PySem.W PyProof.Rows
set_option maxRecDepth 100000
set_option maxHeartbeats 8000000
open_top Mine.hd for PySem.Challenge.rw_xm0680_01
end

section
open PySem PySem.W PySem.Spec PySem.Calls PyProof.Rows
set_option maxRecDepth 100000
namespace Mine

/-- what a call of one of the text's defs gives back, over a ledger -/
def Gives (k : Nat) (w : World) (f : Addr) (vs : List Value) (news : List (Addr × Obj)) (post : Value → List (Addr × Obj) → Prop) : Prop :=
  ∀ (p : Program) (loose : List Str) (mean : ExcName → Option Value) (mg mb : Str → Option Value) (dp un : Nat) (gd : Option (List Code)) (cn : Str) (cs : Scope) (a : Addr) (ccd : Value) (cl : List (Str × Addr)) (outer : List Env) (A₀ : Around) (base h₀ : Heap) (L : Addr) (m : Str → Option Value) (s : Shared) (Q E : Value → Shared → Prop),
    Below A₀ base outer h₀ → Fr h₀ L s.heap m → (Mine.hd.heap_39 w.params).In h₀ → News h₀ L s.heap news → Top p loose mean mg mb h₀ → cs.kind = .function → dp + k < recursionLimit → un + 8 * k < cLine →
    (∀ v news' h' tk', Fr h₀ L h' m → News h₀ L h' news' → post v news' → Q v { s with heap := h', toks := tk' }) →
    wpAny (model PySem.Challenge.rw_xm0680_01.row.prog w) (ktrTop dp un gd cn cs L a ccd cl outer) (call (.ref f) vs) Q E s
end Mine
end

section
open PySem PySem.W PySem.Spec PySem.Calls PyProof.Rows
set_option maxRecDepth 100000
set_option maxHeartbeats 8000000
namespace Mine
def hexd (d : Nat) : Nat := if d < 10 then 48 + d else 87 + d
def figS (r few : Nat) (p : Nat × List Nat) : Nat × List Nat := if 0 < p.1 ∨ p.2.length < few then (p.1 / r, hexd (p.1 % r) :: p.2) else p
/-- the figures laid ahead of acc, while there is a number left or too few of them: by a count of turns -/
def figF (r few k n : Nat) (acc : List Nat) : List Nat := ((List.replicate k ()).foldl (fun p _ => figS r few p) (n, acc)).2
theorem figF_succ {r few k n : Nat} {acc : List Nat} : figF r few (k + 1) n acc = if 0 < n ∨ acc.length < few then figF r few k (n / r) (hexd (n % r) :: acc) else figF r few k n acc := by
  unfold figF
  rw [List.replicate_succ, List.foldl_cons]
  unfold figS
  dsimp only
  split <;> rfl
theorem figF_stop {r few n : Nat} {acc : List Nat} (h : ¬ (0 < n ∨ acc.length < few)) : ∀ k, figF r few k n acc = acc
  | 0 => rfl
  | k + 1 => by rw [figF_succ, if_neg h, figF_stop h k]
@[irreducible] def figL (r few : Nat) (n : Nat) (acc : List Nat) : List Nat := figF r few (n + few) n acc
theorem figF_less {r few n : Nat} {acc : List Nat} {k : Nat} (hr : 2 ≤ r) (h : 0 < n ∨ acc.length < few) (hk : n + (few - acc.length) ≤ k + 1) : n / r + (few - (hexd (n % r) :: acc).length) ≤ k := by
  simp only [List.length_cons]
  rcases Nat.eq_zero_or_pos n with h0 | h0
  · subst h0
    rw [Nat.zero_div]
    omega
  · have := Nat.div_lt_self h0 hr
    omega
theorem figF_more {r few : Nat} (hr : 2 ≤ r) : ∀ (k n : Nat) (acc : List Nat), n + (few - acc.length) ≤ k → figF r few (k + 1) n acc = figF r few k n acc
  | 0, n, acc, h => by rw [figF_stop (by omega), figF_stop (by omega)]
  | k + 1, n, acc, h => by
    by_cases hc : 0 < n ∨ acc.length < few
    · rw [figF_succ (k := k + 1), if_pos hc, figF_succ (k := k) (n := n) (acc := acc), if_pos hc]
      exact figF_more hr k _ _ (figF_less hr hc h)
    · rw [figF_stop hc, figF_stop hc]
theorem figF_same {r few : Nat} (hr : 2 ≤ r) {n : Nat} {acc : List Nat} : ∀ (j : Nat), figF r few (n + (few - acc.length) + j) n acc = figF r few (n + (few - acc.length)) n acc
  | 0 => rfl
  | j + 1 => (figF_more hr (n + (few - acc.length) + j) n acc (by omega)).trans (figF_same hr j)
theorem figF_any {r few n k : Nat} {acc : List Nat} (hr : 2 ≤ r) (h : n + (few - acc.length) ≤ k) : figF r few k n acc = figL r few n acc := by
  unfold figL
  obtain ⟨j, rfl⟩ := Nat.exists_eq_add_of_le h
  have e : n + few = n + (few - acc.length) + (few - (few - acc.length)) := by omega
  rw [figF_same hr j, e, figF_same hr]
theorem figL_go {r few n : Nat} {acc : List Nat} (h : 0 < n ∨ acc.length < few) (hr : 2 ≤ r) : figL r few n acc = figL r few (n / r) (hexd (n % r) :: acc) := by
  have hk : n + (few - acc.length) ≤ (n + few - 1) + 1 := by omega
  rw [← figF_any hr hk, figF_succ, if_pos h]
  exact figF_any hr (figF_less hr h hk)
theorem figL_stop {r few n : Nat} {acc : List Nat} (h : ¬ (0 < n ∨ acc.length < few)) : figL r few n acc = acc := by
  unfold figL
  exact figF_stop h _
def figs (r few : Nat) (n : Nat) : Str := ⟨(figL r (max 1 few) n []).toArray⟩

def FigInv (radix few number : Int) (found : Str) (n : Int) : Prop :=
  0 ≤ n ∧ n * 2 ^ found.length ≤ 2 ^ 110 ∧ found.length ≤ 111 ∧ figL radix.toNat (max 1 few.toNat) n.toNat found.cps.toList = figL radix.toNat (max 1 few.toNat) number.toNat []
theorem FigInv.start {radix few number : Int} (h0 : 0 ≤ number) (h1 : number ≤ 2 ^ 110) : FigInv radix few number (Str.ofString "") number := by
  have e : (Str.ofString "").length = 0 := by decide +kernel
  have e2 : (Str.ofString "").cps.toList = [] := by decide +kernel
  refine ⟨h0, ?_, ?_, ?_⟩
  · rw [e]; omega
  · rw [e]; omega
  · rw [e2]
theorem FigInv.len {radix few number : Int} {found : Str} {n : Int} (h : FigInv radix few number found n) : found.length ≤ 111 := h.2.2.1
theorem FigInv.len63 {radix few number : Int} {found : Str} {n : Int} (h : FigInv radix few number found n) : ¬ ((found.length : Int) ≥ 2 ^ 63) := by have := h.len; omega
theorem FigInv.nn {radix few number : Int} {found : Str} {n : Int} (h : FigInv radix few number found n) : 0 ≤ n := h.1
theorem FigInv.cat {radix few number : Int} {found : Str} {n : Int} {c : Nat} (h : FigInv radix few number found n) : (⟨#[c]⟩ : Str).length + found.length ≤ sizeLine := by
  have := h.len
  rw [sizeLine_eq]
  show 1 + _ ≤ _
  omega
theorem item16 : ∀ d : Nat, d < 16 → Txt.item (Str.ofString "0123456789abcdef") (d : Int) = ⟨#[hexd d]⟩ := by decide +kernel
theorem len16 : (Str.ofString "0123456789abcdef").length = 16 := by decide +kernel
theorem fmod_nat {n r : Int} (hr : r = 10 ∨ r = 16) (hn : 0 ≤ n) : n.fmod r = ((n.toNat % r.toNat : Nat) : Int) := by
  rw [Int.fmod_eq_emod_of_nonneg _ (by omega)]
  rcases hr with rfl | rfl
  · show n % 10 = ((n.toNat % 10 : Nat) : Int); omega
  · show n % 16 = ((n.toNat % 16 : Nat) : Int); omega
theorem fdiv_nat {n r : Int} (hr : r = 10 ∨ r = 16) (hn : 0 ≤ n) : n.fdiv r = ((n.toNat / r.toNat : Nat) : Int) := by
  rw [Int.fdiv_eq_ediv_of_nonneg _ (by omega)]
  rcases hr with rfl | rfl
  · show n / 10 = ((n.toNat / 10 : Nat) : Int); omega
  · show n / 16 = ((n.toNat / 16 : Nat) : Int); omega
theorem fig_item {prog : Program} {w : World} {A : Around} {E : Value → Shared → Prop} {s : Shared} {value slice : PySem.Expr} {t u : Tok} {n r : Int} {Q : Value → Shared → Prop} (hr : r = 10 ∨ r = 16) (hn : 0 ≤ n)
    (h : Q (.str ⟨#[hexd (n.toNat % r.toNat)]⟩ s.toks) { s with toks := s.toks + 1 })
    (hs : subscripted slice false (.str (Str.ofString "0123456789abcdef") t) (.int (n.fmod r) u) = operate [.str (Str.ofString "0123456789abcdef") t, .int (n.fmod r) u] (getItem (.str (Str.ofString "0123456789abcdef") t) (.int (n.fmod r) u)) := by with_unfolding_all rfl)
    (ht : ∀ r, letTemporaryGo value (.str (Str.ofString "0123456789abcdef") t) r = pure () := by intro _; with_unfolding_all rfl) :
    wpAny (model prog w) A (subscriptTail value slice (.str (Str.ofString "0123456789abcdef") t) (.int (n.fmod r) u)) Q E s := by
  have hlt : n.toNat % r.toNat < 16 := by
    rcases hr with rfl | rfl
    · show n.toNat % 10 < 16; omega
    · show n.toNat % 16 < 16; omega
  have e := item16 _ hlt
  rw [← fmod_nat hr hn] at e
  refine KXi.item (n := 16) len16 (by rw [fmod_nat hr hn]; omega) (by rw [fmod_nat hr hn]; omega) (by decide) (fun _ => ?_) hs ht
  rw [e]
  exact h
theorem FigInv.turn {radix few number : Int} {found : Str} {n : Int} (hr : radix = 10 ∨ radix = 16) (hf : 0 ≤ few) (hf8 : few ≤ 8) (h : FigInv radix few number found n) (hgo : 0 < n ∨ (found.length : Int) < if few > 1 then few else 1) :
    FigInv radix few number (⟨#[hexd (n.toNat % radix.toNat)]⟩ ++ found) (n.fdiv radix) := by
  obtain ⟨h0, h1, h2, h3⟩ := h
  have hlen : (⟨#[hexd (n.toNat % radix.toNat)]⟩ ++ found : Str).length = found.length + 1 := by
    rw [strLen_append]; show 1 + _ = _; omega
  rw [fdiv_nat hr h0]
  refine ⟨Int.natCast_nonneg _, ?_, ?_, ?_⟩
  · rw [hlen, Int.pow_succ]
    have hd : ((n.toNat / radix.toNat : Nat) : Int) * 2 ≤ n := by
      rcases hr with rfl | rfl
      · show ((n.toNat / 10 : Nat) : Int) * 2 ≤ n; omega
      · show ((n.toNat / 16 : Nat) : Int) * 2 ≤ n; omega
    have hp : (0 : Int) ≤ 2 ^ found.length := Int.le_of_lt (Int.pow_pos (by decide))
    have := Int.mul_le_mul_of_nonneg_right hd hp
    rw [Int.mul_comm (2 ^ found.length) 2, ← Int.mul_assoc]
    exact Int.le_trans this h1
  · rw [hlen]
    rcases Int.lt_or_le 0 n with hn | hn
    · have hp : (2 : Int) ^ found.length ≤ 2 ^ 110 := by
        have h5 : (1 : Int) * 2 ^ found.length ≤ n * 2 ^ found.length := Int.mul_le_mul_of_nonneg_right (by omega) (Int.le_of_lt (Int.pow_pos (by decide)))
        omega
      have hq : (2 : Nat) ^ found.length ≤ 2 ^ 110 := by exact_mod_cast hp
      have := (Nat.pow_le_pow_iff_right (by decide : 1 < 2)).mp hq
      omega
    · omega
  · have hgo' : 0 < n.toNat ∨ found.cps.toList.length < max 1 few.toNat := by
      rcases hgo with q | q
      · left; omega
      · right
        have : found.cps.toList.length = found.length := by simp [Str.length]
        split at q <;> omega
    rw [← h3, figL_go hgo' (by rcases hr with rfl | rfl <;> decide)]
    have : (⟨#[hexd (n.toNat % radix.toNat)]⟩ ++ found : Str).cps.toList = hexd (n.toNat % radix.toNat) :: found.cps.toList := by
      rw [Str.cps_append]; simp
    rw [this, Int.toNat_natCast]
theorem FigInv.meas {radix few number : Int} {found : Str} {n : Int} {c : Nat} (hr : radix = 10 ∨ radix = 16) (hf : 0 ≤ few) (hf8 : few ≤ 8) (h : FigInv radix few number found n) (hgo : 0 < n ∨ (found.length : Int) < if few > 1 then few else 1) :
    (n.fdiv radix).toNat + (9 - (⟨#[c]⟩ ++ found : Str).length) < n.toNat + (9 - found.length) := by
  have h0 := h.1
  have hlen : (⟨#[c]⟩ ++ found : Str).length = found.length + 1 := by
    rw [strLen_append]; show 1 + _ = _; omega
  rw [fdiv_nat hr h0, hlen, Int.toNat_natCast]
  rcases hr with rfl | rfl
  · show n.toNat / 10 + _ < _; split at hgo <;> omega
  · show n.toNat / 16 + _ < _; split at hgo <;> omega
theorem FigInv.fin {radix few number : Int} {found : Str} {n : Int} (h : FigInv radix few number found n) (hn : ¬ 0 < n) (hl : ¬ (found.length : Int) < if few > 1 then few else 1) : found = figs radix.toNat few.toNat number.toNat := by
  obtain ⟨h0, h1, h2, h3⟩ := h
  have : found.cps.toList.length = found.length := by simp [Str.length]
  rw [figL_stop (by split at hl <;> omega)] at h3
  unfold figs
  rw [← h3]
theorem str_ex {x y : Str} {t : Tok} (h : x = y) : ∃ t', Value.str x t = Value.str y t' := ⟨t, by rw [h]⟩
local macro_rules | `(tactic| walk_at "call builtin:len") => `(tactic| ((with_reducible show wpAny _ _ (PySem.call (Value.builtin "len") [Value.str _ _]) _ _ _); refine len_str (FigInv.len63 (by assumption)) ?_))
local macro_rules | `(tactic| walk_at "subscriptTail") => `(tactic| ((with_reducible show wpAny _ _ (subscriptTail _ _ (Value.str _ _) (Value.int (Int.fmod _ _) _)) _ _ _); refine fig_item (by assumption) (FigInv.nn (by assumption)) ?_))
local macro_rules | `(tactic| walk_at "binaryOp Add str str") => `(tactic| (refine add_str (fun t' tk => ?_) (FigInv.cat (by assumption))))
theorem figures_gives (w : World) (number radix few : Int) (tn tr tf : Tok) (news : List (Addr × Obj)) (h0 : 0 ≤ number) (h1 : number ≤ 2 ^ 110) (hr : radix = 10 ∨ radix = 16) (hf : 0 ≤ few) (hf8 : few ≤ 8) :
    Gives 2 w 71 [.int number tn, .int radix tr, .int few tf] news (fun v news' => news' = news ∧ ∃ t, v = .str (figs radix.toNat few.toNat number.toNat) t) := by
  unfold Gives
  w_top off
  k_fill
  intro p loose mean mg mb dp un gd cn cs a ccd cl outer A₀ base h₀ L m s₁ Q E B F X N T hk hd hu hret
  refine wpAny_call ?_
  k_dflt cell_enter
  k_with "state" => first | exact FigInv.start h0 h1 | exact FigInv.turn hr hf hf8 (by assumption) (Or.inl (by assumption)) | exact FigInv.turn hr hf hf8 (by assumption) (Or.inr (by assumption))
  k_with "measure" => first | exact FigInv.meas hr hf hf8 (by assumption) (Or.inl (by assumption)) | exact FigInv.meas hr hf hf8 (by assumption) (Or.inr (by assumption))
  k_with "exec While BoolOp cons nil" => k_while (fun _ found n => FigInv radix few number found n) (fun _ found n => n.toNat + (9 - found.length)) "found" "number"
  k_steps
  exact hret _ _ _ _ (by assumption) (by assumption) ⟨rfl, str_ex (FigInv.fin (by assumption) (by assumption) (by assumption))⟩
end Mine
end

section
open PySem PySem.W PySem.Spec PySem.Calls PyProof.Rows
set_option maxRecDepth 100000
namespace Mine
/-- the figures of a number, as codes -/
def D (r n : Nat) : List Nat := (Nat.toDigits r n).map Char.toNat
theorem digit_code : ∀ d : Nat, d < 16 → (Nat.digitChar d).toNat = hexd d := by decide
theorem D_if {r n : Nat} (h1 : 1 < r) (h2 : r ≤ 16) : D r n = if n < r then [hexd n] else D r (n / r) ++ [hexd (n % r)] := by
  unfold D
  rw [Nat.toDigits_eq_if h1]
  split
  · rename_i h
    rw [List.map_cons, digit_code n (by omega)]
    rfl
  · rw [List.map_append, List.map_cons, digit_code _ (Nat.lt_of_lt_of_le (Nat.mod_lt _ (by omega)) h2)]
    rfl
theorem D_len {r n : Nat} : 1 ≤ (D r n).length := by
  unfold D
  rw [List.length_map]
  exact PySem.toDigits_len_ge r n
theorem D_zero {r : Nat} : D r 0 = [48] := by
  unfold D
  rw [Nat.toDigits_zero]
  rfl
theorem figL_zero {r few : Nat} (h1 : 1 < r) : ∀ (m : Nat) (acc : List Nat), few - acc.length = m → figL r few 0 acc = List.replicate m 48 ++ acc
  | 0, acc, h => by
    rw [figL_stop (by omega)]
    rfl
  | m + 1, acc, h => by
    rw [figL_go (by omega) (by omega), Nat.zero_div, Nat.zero_mod, figL_zero h1 m _ (by simp only [List.length_cons]; omega)]
    have e : hexd 0 = 48 := rfl
    rw [e, List.replicate_succ']
    simp
theorem figL_pos {r few : Nat} (h1 : 1 < r) (h2 : r ≤ 16) (n : Nat) : ∀ acc, 0 < n → figL r few n acc = List.replicate (few - ((D r n).length + acc.length)) 48 ++ D r n ++ acc := by
  induction n using Nat.strongRecOn with
  | ind n ih =>
    intro acc hn
    rw [figL_go (Or.inl hn) (by omega), D_if h1 h2]
    split
    · rename_i h
      rw [Nat.div_eq_of_lt h, Nat.mod_eq_of_lt h, figL_zero h1 _ _ rfl]
      simp [Nat.add_comm]
    · rename_i h
      rw [ih (n / r) (Nat.div_lt_self hn h1) _ (Nat.div_pos (by omega) (by omega))]
      simp only [List.length_cons, List.length_append, List.length_nil, List.append_assoc, List.cons_append, List.nil_append]
      congr 2
      omega
theorem figs_list {r few n : Nat} (h1 : 1 < r) (h2 : r ≤ 16) : (figs r few n).cps.toList = List.replicate (few - (D r n).length) 48 ++ D r n := by
  unfold figs
  have hl := @D_len r n
  rcases Nat.eq_zero_or_pos n with h0 | h0
  · subst h0
    show figL r (max 1 few) 0 [] = _
    rw [figL_zero h1 _ [] rfl, D_zero]
    simp only [List.length_nil, List.length_cons, List.append_nil]
    have e : max 1 few - 0 = (few - (0 + 1)) + 1 := by omega
    rw [e, List.replicate_succ']
  · show figL r (max 1 few) n [] = _
    rw [figL_pos h1 h2 n [] h0]
    simp only [List.length_nil, List.append_nil]
    congr 2
    omega
theorem D_le {r n k : Nat} (h1 : 2 ≤ r) (hk : 1 ≤ k) (hn : n < r ^ k) : (D r n).length ≤ k := by
  unfold D
  rw [List.length_map]
  exact PySem.toDigits_len_pow h1 hk hn
theorem hex_list {n : Int} (h : 0 ≤ n) : (baseText "0x" 16 n).cps.toList = 48 :: 120 :: D 16 n.toNat := by
  rw [baseText_nonneg h]
  have e0 : (Str.ofString "").cps = #[] := by decide +kernel
  have e1 : (Str.ofString "0x").cps = #[48, 120] := by decide +kernel
  have e2 : n.natAbs = n.toNat := by omega
  rw [Str.cps_append, Str.cps_append, e0, e1, e2, Str.ofString_eq_toList]
  simp [D]
theorem hex_neg_list {n : Int} (h : 0 < n) : (baseText "0x" 16 (0 - n)).cps.toList = 45 :: 48 :: 120 :: D 16 n.toNat := by
  rw [baseText_neg (by omega)]
  have e0 : (Str.ofString "-").cps = #[45] := by decide +kernel
  have e1 : (Str.ofString "0x").cps = #[48, 120] := by decide +kernel
  have e2 : (0 - n).natAbs = n.toNat := by omega
  rw [Str.cps_append, Str.cps_append, e0, e1, e2, Str.ofString_eq_toList]
  simp [D]
theorem len_list (x : Str) : x.length = x.cps.toList.length := by simp [Str.length]
theorem hex_len_le {n : Int} {k : Nat} (h : 0 ≤ n) (hk : 1 ≤ k) (hn : n.toNat < 16 ^ k) : (baseText "0x" 16 n).length ≤ k + 2 := by
  rw [len_list, hex_list h]
  have := D_le (r := 16) (by decide) hk hn
  simp only [List.length_cons]
  omega
theorem hexNeg_len_le {n : Int} {k : Nat} (h : 0 < n) (hk : 1 ≤ k) (hn : n.toNat < 16 ^ k) : (baseText "0x" 16 (0 - n)).length ≤ k + 3 := by
  rw [len_list, hex_neg_list h]
  have := D_le (r := 16) (by decide) hk hn
  simp only [List.length_cons]
  omega
theorem slice_two {n : Int} (h : 0 ≤ n) : (Txt.slice (baseText "0x" 16 n) (some 2) none).cps.toList = D 16 n.toNat := by
  have hl : (baseText "0x" 16 n).length = 2 + (D 16 n.toNat).length := by
    rw [len_list, hex_list h]
    simp only [List.length_cons]
    omega
  rw [slice_from_eq (b := ((baseText "0x" 16 n).length : Int)) (by decide) (by omega) rfl, hl]
  show List.take _ (List.drop (Int.toNat 2) _) = _
  rw [hex_list h]
  show List.take (((2 + (D 16 n.toNat).length : Nat) : Int) - 2).toNat (D 16 n.toNat) = _
  exact List.take_of_length_le (by omega)
theorem rjust_figs {n : Int} {many : Int} (h : 0 ≤ n) : Txt.rjustF (Txt.slice (baseText "0x" 16 n) (some 2) none) many 48 = figs 16 many.toNat n.toNat := by
  apply Str.ext'
  apply Array.toList_inj.mp
  rw [rjustF_list, figs_list (by decide) (by decide), slice_two h, len_list, slice_two h]
end Mine
end

section
open PySem PySem.W PySem.Spec PySem.Calls PyProof.Rows
set_option maxRecDepth 100000
set_option maxHeartbeats 8000000
namespace Mine
theorem hex_size {n : Int} (h0 : 0 ≤ n) (h1 : n ≤ 2 ^ 110) : (baseText "0x" 16 n).length ≤ sizeLine := by
  have h : n.toNat < 16 ^ 30 := by
    have e : (16 : Nat) ^ 30 = 2 ^ 120 := by decide
    omega
  have := hex_len_le h0 (by decide) h
  rw [sizeLine_eq]
  omega
theorem padOk8 {i : Int} (h0 : 0 ≤ i) (h1 : i ≤ 8) : PadOk i = true := by
  have : i = 0 ∨ i = 1 ∨ i = 2 ∨ i = 3 ∨ i = 4 ∨ i = 5 ∨ i = 6 ∨ i = 7 ∨ i = 8 := by omega
  rcases this with h | h | h | h | h | h | h | h | h <;> subst h <;> decide +kernel
local macro_rules | `(tactic| walk_at "call builtin:hex") => `(tactic| (refine P.hex_of_int ?_ (hex_size (by assumption) (by assumption))))
theorem hex_gives (w : World) (number many : Int) (tn tm : Tok) (news : List (Addr × Obj)) (h0 : 0 ≤ number) (h1 : number ≤ 2 ^ 110) (hf : 0 ≤ many) (hf8 : many ≤ 8) :
    Gives 2 w 29 [.int number tn, .int many tm] news (fun v news' => news' = news ∧ ∃ t, v = .str (figs 16 many.toNat number.toNat) t) := by
  unfold Gives
  w_top off
  k_fill
  intro p loose mean mg mb dp un gd cn cs a ccd cl outer A₀ base h₀ L m s₁ Q E B F X N T hk hd hu hret
  refine wpAny_call ?_
  k_dflt cell_enter
  have hsize := hex_size h0 h1
  k_steps
  exact hret _ _ _ _ (by assumption) (by assumption) ⟨rfl, str_ex (rjust_figs h0)⟩
/-- a def's call taken: one text comes back, the ledger stands -/
theorem Gives.useS {k : Nat} {w : World} {f : Addr} {vs : List Value} {news : List (Addr × Obj)} {x : Str} {p : Program} {loose : List Str} {mean : ExcName → Option Value} {mg mb : Str → Option Value} {dp un : Nat} {gd : Option (List Code)} {cn : Str} {cs : Scope} {a : Addr} {ccd : Value} {cl : List (Str × Addr)} {outer : List Env} {A₀ : Around} {base h₀ : Heap} {L : Addr} {m : Str → Option Value} {s : Shared} {Q E : Value → Shared → Prop}
    (G : Gives k w f vs news (fun v news' => news' = news ∧ ∃ t, v = .str x t))
    (B : Below A₀ base outer h₀) (F : Fr h₀ L s.heap m) (X : (Mine.hd.heap_39 w.params).In h₀) (N : News h₀ L s.heap news) (T : Top p loose mean mg mb h₀) (hk : cs.kind = .function) (hd : dp + k < recursionLimit) (hu : un + 8 * k < cLine)
    (ret : ∀ t h' tk', Fr h₀ L h' m → News h₀ L h' news → Q (.str x t) { s with heap := h', toks := tk' }) :
    wpAny (model PySem.Challenge.rw_xm0680_01.row.prog w) (ktrTop dp un gd cn cs L a ccd cl outer) (call (.ref f) vs) Q E s := by
  refine G _ _ _ _ _ _ _ _ _ _ _ _ _ _ _ _ _ _ _ _ _ _ B F X N T hk hd hu ?_
  rintro v news' h' tk' F' N' ⟨rfl, t, rfl⟩
  exact ret t h' tk' F' N'
end Mine
end

section
open PySem PySem.W PySem.Spec PySem.Calls PyProof.Rows
set_option maxRecDepth 100000
set_option maxHeartbeats 8000000
namespace Mine
local macro_rules | `(tactic| walk_at "call ref") => `(tactic| (k_here; (with_reducible show wpAny _ _ (PySem.call (Value.ref 29) [Value.int _ _, Value.int _ _]) _ _ _); k_dflt (refine' Gives.useS (hex_gives _ _ _ _ _ _ ?h0 ?h1 ?h2 ?h3) ?k1 ?k2 ?k3 ?k4 ?k5 ?kK ?kd ?ku ?_; (case k1 => k_asm); (case k2 => k_asm); (case k3 => k_asm); (case k4 => k_asm); (case k5 => k_asm); (case kK => first | exact rfl | assumption); (case kd => ktr_room); (case ku => ktr_units); (case h0 => omega); (case h1 => omega); (case h2 => decide); (case h3 => decide); k_whole; intro _ _ _ _ _; (try dsimp only); (try k_fold))))
theorem len_q : (Str.ofString "'").length = 1 := by decide +kernel
theorem len_qU : (Str.ofString "'\\U").length = 3 := by decide +kernel
theorem figs_len {r few n k : Nat} (h1 : 1 < r) (h2 : r ≤ 16) (hk : 1 ≤ k) (hn : n < r ^ k) (hf : few ≤ k) : (figs r few n).length ≤ k := by
  rw [len_list, figs_list h1 h2]
  have := D_le h1 hk hn
  simp only [List.length_append, List.length_replicate]
  omega
def charT (c : Nat) : Str := if 32 ≤ c ∧ c < 127 ∧ c ≠ 39 ∧ c ≠ 92 then Str.ofString "'" ++ ⟨#[c]⟩ ++ Str.ofString "'" else Str.ofString "'\\U" ++ figs 16 8 c ++ Str.ofString "'"
theorem charT_yes {c : Int} (h0 : 0 ≤ c) (h : 32 ≤ c ∧ c < 127 ∧ c ≠ 39 ∧ c ≠ 92) : charT c.toNat = Str.ofString "'" ++ ⟨#[c.toNat]⟩ ++ Str.ofString "'" := by
  unfold charT
  rw [if_pos (by omega)]
theorem charT_no {c : Int} (h0 : 0 ≤ c) (h : ¬ (32 ≤ c ∧ c < 127 ∧ c ≠ 39 ∧ c ≠ 92)) : charT c.toNat = Str.ofString "'\\U" ++ figs 16 8 c.toNat ++ Str.ofString "'" := by
  unfold charT
  rw [if_neg (by omega)]
local macro_rules | `(tactic| walk_at "binaryOp Add str str") => `(tactic| (refine add_str (fun t' tk => ?_) ?sz; (case sz => (simp only [strLen_append, sizeLine_eq, len_q, len_qU, Str.length, List.size_toArray, List.length_cons, List.length_nil] at *; omega))))
theorem any_t {c : Int} (h : ([39, 92].any fun x => x == c) = true) : c = 39 ∨ c = 92 := by
  simp only [List.any_cons, List.any_nil, Bool.or_false, Bool.or_eq_true, beq_iff_eq] at h
  omega
theorem any_f {c : Int} (h : ([39, 92].any fun x => x == c) = false) : c ≠ 39 ∧ c ≠ 92 := by
  simp only [List.any_cons, List.any_nil, Bool.or_false, Bool.or_eq_false_iff, beq_eq_false_iff_ne] at h
  omega
theorem news_tail {h₀ : Heap} {L : Addr} {h : Heap} {q : Addr × Obj} {news : List (Addr × Obj)} (N : News h₀ L h (q :: news)) : News h₀ L h news := fun p hp => N p (.tail _ hp)
theorem char_figs {c : Int} (h0 : 0 ≤ c) (h1 : c < 1114112) : (figs 16 (Int.toNat 8) c.toNat).length ≤ 8 := by
  have e : (16 : Nat) ^ 8 = 4294967296 := by decide
  exact figs_len (by decide) (by decide) (by decide) (by omega) (by decide)
theorem char_gives (w : World) (code : Int) (tn : Tok) (news : List (Addr × Obj)) (h0 : 0 ≤ code) (h1 : code < 1114112) :
    Gives 4 w 36 [.int code tn] news (fun v news' => news' = news ∧ ∃ t, v = .str (charT code.toNat) t) := by
  unfold Gives
  w_top off
  k_fill
  intro p loose mean mg mb dp un gd cn cs a ccd cl outer A₀ base h₀ L m s₁ Q E B F X N T hk hd hu hret
  refine wpAny_call ?_
  k_dflt cell_enter
  have hfl : (figs 16 (Int.toNat 8) code.toNat).length ≤ 8 := char_figs h0 h1
  k_steps
  · exact hret _ _ _ _ (by assumption) (by first | assumption | exact news_tail (by assumption)) ⟨rfl, str_ex (charT_no h0 (by have h9 := any_t (by assumption); omega)).symm⟩
  · exact hret _ _ _ _ (by assumption) (by first | assumption | exact news_tail (by assumption)) ⟨rfl, str_ex (charT_yes h0 (by have h9 := any_f (by assumption); omega)).symm⟩
  · exact hret _ _ _ _ (by assumption) (by first | assumption | exact news_tail (by assumption)) ⟨rfl, str_ex (charT_no h0 (by omega)).symm⟩
  · exact hret _ _ _ _ (by assumption) (by first | assumption | exact news_tail (by assumption)) ⟨rfl, str_ex (charT_no h0 (by omega)).symm⟩
end Mine
end

section
open PySem PySem.W PySem.Spec PySem.Calls PyProof.Rows
set_option maxRecDepth 100000
namespace Mine
theorem range_place {a b x : Int} : (Builtin.Range.rangePlace? a b 1 x).isSome = (decide (a ≤ x) && decide (x < b)) := by
  unfold Builtin.Range.rangePlace?
  simp only [show (1 : Int) > 0 by decide, if_true, Int.emod_one, beq_self_eq_true, Bool.and_true]
  split
  · rename_i h; rw [h]; rfl
  · rename_i h
    have : (decide (a ≤ x) && decide (x < b)) = false := by simpa using h
    rw [this]; rfl
theorem in_range {prog : Program} {w : World} {A : Around} {E : Value → Shared → Prop} {s : Shared} {r : Addr} {a b x : Int} {t u v tx : Tok} {Q : Value → Shared → Prop} (hr : IsRange s.heap r a b 1 t u v)
    (h : Q (.bool (decide (a ≤ x) && decide (x < b))) s) : wpAny (model prog w) A (compareOp .In (.int x tx) (.ref r)) Q E s := by
  have hT : s.TypeIs (.ref r) "range" := ⟨_, hr, rfl⟩
  refine In_slot hT F.slot_range_contains (wpAny_call_entry F.slot_range_contains hT F.entry_range_contains ?_ (F.args_range_contains_2 _ _))
  show wpAny _ _ (rule "range.contains.reckoned" >>= fun _ => Builtin.Range.rangeFields (.ref r) >>= fun p => ret (.bool (Builtin.Range.rangePlace? p.1 p.2.1 p.2.2 x).isSome)) _ _ s
  refine wpAny_bind (wpAny_rule ?_)
  refine wpAny_bind ?_
  show wpAny _ _ (field (.ref r) 0 >>= _) _ _ s
  refine wpAny_bind (wpAny_field hr rfl (x := .int a t) rfl ?_)
  show wpAny _ _ (field (.ref r) 1 >>= _) _ _ s
  refine wpAny_bind (wpAny_field hr rfl (x := .int b u) rfl ?_)
  show wpAny _ _ (field (.ref r) 2 >>= _) _ _ s
  refine wpAny_bind (wpAny_field hr rfl (x := .int 1 v) rfl ?_)
  refine wpAny_pure ?_
  rw [range_place]
  exact wpAny_pure ⟨_, rfl, wpAny_truthy_bool h⟩
end Mine
end

section
open PySem PySem.W PySem.Spec PySem.Calls PyProof.Rows
set_option maxRecDepth 100000
set_option maxHeartbeats 8000000
namespace Mine
local macro_rules | `(tactic| walk_at "call ref") => `(tactic| (k_here; (with_reducible show wpAny _ _ (PySem.call (Value.ref 71) [Value.int _ _, Value.int _ _, Value.int _ _]) _ _ _); k_dflt (refine' Gives.useS (figures_gives _ _ _ _ _ _ _ _ ?h0 ?h1 ?hr ?h2 ?h3) ?k1 ?k2 ?k3 ?k4 ?k5 ?kK ?kd ?ku ?_; (case k1 => k_asm); (case k2 => k_asm); (case k3 => k_asm); (case k4 => k_asm); (case k5 => k_asm); (case kK => first | exact rfl | assumption); (case kd => ktr_room); (case ku => ktr_units); (case h0 => omega); (case h1 => omega); (case hr => decide); (case h2 => decide); (case h3 => decide); k_whole; intro _ _ _ _ _; (try dsimp only); (try k_fold))))
local macro_rules | `(tactic| walk_at "binaryOp Add str str") => `(tactic| (refine add_str (fun t' tk => ?_) ?sz; (case sz => (simp only [strLen_append, sizeLine_eq, len_q, len_qU, Str.length, List.size_toArray, List.length_cons, List.length_nil] at *; omega))))
local macro_rules | `(tactic| walk_at "compareOp In") => `(tactic| ((with_reducible show wpAny _ _ (compareOp CmpOp.In (Value.int _ _) (Value.ref _)) _ _ _); refine in_range (by assumption) ?_))
theorem q_is : Str.ofString "'" = ⟨#[39]⟩ := by decide +kernel
theorem b_is : Str.ofString "\\" = ⟨#[92]⟩ := by decide +kernel
theorem one_eq {a b : Nat} : ((⟨#[a]⟩ : Str) = ⟨#[b]⟩) ↔ a = b := by
  constructor
  · intro h
    have := congrArg Str.cps h
    simpa using this
  · rintro rfl
    rfl
theorem any2_t {c : Int} (h0 : 0 ≤ c) (h : ([Str.ofString "'", Str.ofString "\\"].any fun x => x == ⟨#[c.toNat]⟩) = true) : c = 39 ∨ c = 92 := by
  rw [q_is, b_is] at h
  simp only [List.any_cons, List.any_nil, Bool.or_false, Bool.or_eq_true, beq_iff_eq, one_eq] at h
  omega
theorem any2_f {c : Int} (h0 : 0 ≤ c) (h : ([Str.ofString "'", Str.ofString "\\"].any fun x => x == ⟨#[c.toNat]⟩) = false) : c ≠ 39 ∧ c ≠ 92 := by
  rw [q_is, b_is] at h
  simp only [List.any_cons, List.any_nil, Bool.or_false, Bool.or_eq_false_iff, beq_eq_false_iff_ne, ne_eq, one_eq] at h
  omega
theorem in_t {c a b : Int} (h : (decide (a ≤ c) && decide (c < b)) = true) : a ≤ c ∧ c < b := by simpa using h
theorem in_f {c a b : Int} (h : (decide (a ≤ c) && decide (c < b)) = false) : ¬ (a ≤ c ∧ c < b) := by simpa using h
theorem sign_gives (w : World) (code : Int) (tn : Tok) (news : List (Addr × Obj)) (h0 : 0 ≤ code) (h1 : code < 1114112) :
    Gives 4 w 85 [.int code tn] news (fun v news' => news' = news ∧ ∃ t, v = .str (charT code.toNat) t) := by
  unfold Gives
  w_top off
  k_fill
  intro p loose mean mg mb dp un gd cn cs a ccd cl outer A₀ base h₀ L m s₁ Q E B F X N T hk hd hu hret
  refine wpAny_call ?_
  k_dflt cell_enter
  have hfl : (figs (Int.toNat 16) (Int.toNat 8) code.toNat).length ≤ 8 := char_figs h0 h1
  k_steps
  · exact hret _ _ _ _ (by assumption) (by first | assumption | exact news_tail (by assumption)) ⟨rfl, str_ex (charT_no h0 (by have h9 := any2_t h0 (by assumption); omega)).symm⟩
  · exact hret _ _ _ _ (by assumption) (by first | assumption | exact news_tail (by assumption)) ⟨rfl, str_ex (charT_yes h0 (by have h9 := any2_f h0 (by assumption); have h8 := in_t (c := code) (by assumption); omega)).symm⟩
  · exact hret _ _ _ _ (by assumption) (by first | assumption | exact news_tail (by assumption)) ⟨rfl, str_ex (charT_no h0 (by have h8 := in_f (c := code) (by assumption); omega)).symm⟩
end Mine
end

section
open PySem PySem.W PySem.Spec PySem.Calls PyProof.Rows
set_option maxRecDepth 100000
namespace Mine
/-- a def entered: own is shown to it, rest stands behind its base -/
theorem enterOwn {prog : Program} {w : World} {A₀ A : Around} {s : Shared} {K : Frag} {p : Program} {loose : List Str} {mean : ExcName → Option Value} {mg mb : Str → Option Value} {base h₀ : Heap} {L : Addr} {m : Str → Option Value} {own rest : List (Addr × Obj)} {env : Env} {outer : List Env} {R : Result → Shared → Prop} {name qual : Str} {params : Arguments} {body : List Stmt} {scope : Scope} {dV kV doc pm cdv ct oc : Value} {an od : Option Addr} {osl : Array (Option Value)} {f : Addr} {args : Args} {binds : List (Str × Value)}
    (B : Below A₀ base outer h₀) (F : Fr h₀ L s.heap m) (X₀ : K.In h₀) (N : News h₀ L s.heap own) (T : Top p loose mean mg mb h₀) (hA : A.frames = some (env :: outer)) (hf : env.frame = some L) (hke : env.scope.kind = .function)
    (ho : K.lookup f = some ⟨oc, od, .func (fnOf name qual params body scope dV kV doc pm an cdv ct), osl⟩) (hcd : codeIn K cdv qual = true) (hroom : A.depth < recursionLimit)
    (hbind : BindsTo s (fnOf name qual params body scope dV kV doc pm an cdv ct) args binds) (hloc : ∀ y ∈ binds, scope.names.lookup y.1 = some .local)
    (NR : News h₀ L s.heap rest) (hap : ∀ q ∈ rest, q.1 ∉ own.map (·.1))
    (h : ∀ g L' h₁, Fr h₀ L g m → Fr g L' h₁ (fun y => binds.reverse.lookup y) → News g L' h₁ own → Below A base (env :: outer) g → K.In g → Top p loose mean mg mb g →
      wpAny (model prog w) (A.deeper (envOf qual scope L' f cdv)) (execs body (envOf qual scope L' f cdv))
        (fun fl s' => LeaveK h₀ L m g (fun r s'' => News h₀ L s''.heap rest → R r s'') (match fl with | .ret v => v | _ => .none) s')
        (fun e s' => wpAny (model prog w) (A.deeper (envOf qual scope L' f cdv)) (leaving (envOf qual scope L' f cdv) e) (fun _ s'' => R (.error e) s'') (fun e' s'' => R (.error e') s'') s')
        { s with heap := h₁, toks := s.toks + binds.length })
    (hco : scope.isCoroutine = false) (hgen : scope.isGenerator = false) (hk : scope.kind = .function)
    (hcell : ∀ x ∈ scope.names, x.2 ≠ .cell) : codeAny (model prog w) A (.call (.ref f) args) R s := by
  obtain ⟨FG, BG, st, lv⟩ := groundX (R := R) B F N hA hf hke
  refine codeAny_call_def (fd := fnOf name qual params body scope dV kV doc pm an cdv ct) (body := body) (binds := binds) hroom ((X₀.keeps F.keep) _ _ ho) rfl (T.nolimit.keeps F.keep) (codeRec_of (X₀.keeps F.keep) hcd) rfl hbind hcell hloc (fun h₁ hns hk₁ => ?_) hco hgen hk
  refine wpAny_mono (h _ s.heap.objs.size h₁ FG ⟨hns, fun b o e => hk₁ b o (of_hideAll _ e), Nat.le_of_eq (hideAll_size _ _)⟩
    (fun q hq => ⟨hk₁ _ _ (N q hq).1, Nat.ne_of_lt (Heap.lt_size (N q hq).1), hideAll_none _ (List.mem_map_of_mem hq)⟩) BG (X₀.keeps st) (T.keeps st)) (fun fl s' hl => lv _ _ ?_) fun _ _ y => y
  obtain ⟨L', m', news', F', N', k⟩ := hl
  exact ⟨L', m', news', F', N', fun F₂ N₂ => k F₂ N₂ fun q hq => ⟨F'.keep _ _ (hideAll_get _ (NR q hq).1 (hap q hq)), (NR q hq).2⟩⟩
end Mine
end

section
open PySem PySem.W PySem.Spec PySem.Calls PyProof.Rows
set_option maxRecDepth 100000
set_option maxHeartbeats 8000000
namespace Mine
local macro_rules | `(tactic| cell_enter) => `(tactic| (refine' enterOwn (own := []) ?k1 ?k2 ?k3 ?k4 ?k5 ?kA ?kF ?kK ?k6 ?k7 ?k8 ?k9 ?kB ?kR ?kP ?_ ?c2 ?c3 ?c4 ?c5; (case kA => exact rfl); (case kF => exact rfl); (case kK => assumption); (case k1 => k_asm); (case k2 => k_asm); (case k3 => k_asm); (case k4 => exact News.nil); (case k5 => k_asm); (case kR => k_asm); (case kP => intro _ _ h9; exact nomatch h9); (case k6 => k_is); (case k7 => k_is); (case k8 => ktr_room); (case k9 => exact BindsTo.of_eq rfl); (case c5 => decide); (case kB => exact locs rfl); (case c2 => exact rfl); (case c3 => exact rfl); (case c4 => exact rfl); k_whole; intro g' L' h' FG' F' N' B' X' T'; (try dsimp only); (try k_lift B'); (try k_fold)))
theorem len_bx : (Str.ofString "\\x").length = 2 := by decide +kernel
theorem len_b : (Str.ofString "\\").length = 1 := by decide +kernel
local macro_rules | `(tactic| walk_at "call ref") => `(tactic| (k_here; (with_reducible show wpAny _ _ (PySem.call (Value.ref 71) [Value.int _ _, Value.int _ _, Value.int _ _]) _ _ _); k_dflt (refine' Gives.useS (figures_gives _ _ _ _ _ _ _ _ ?h0 ?h1 ?hr ?h2 ?h3) ?k1 ?k2 ?k3 ?k4 ?k5 ?kK ?kd ?ku ?_; (case k1 => k_asm); (case k2 => k_asm); (case k3 => k_asm); (case k4 => k_asm); (case k5 => k_asm); (case kK => first | exact rfl | assumption); (case kd => ktr_room); (case ku => ktr_units); (case h0 => omega); (case h1 => omega); (case hr => decide); (case h2 => decide); (case h3 => decide); k_whole; intro _ _ _ _ _; (try dsimp only); (try k_fold))))
local macro_rules | `(tactic| walk_at "binaryOp Add str str") => `(tactic| (refine add_str (fun t' tk => ?_) ?sz; (case sz => (simp only [strLen_append, sizeLine_eq, len_q, len_qU, len_bx, len_b, Str.length, List.size_toArray, List.length_cons, List.length_nil] at *; omega))))
local macro_rules | `(tactic| walk_at "compareOp In") => `(tactic| ((with_reducible show wpAny _ _ (compareOp CmpOp.In (Value.int _ _) (Value.ref _)) _ _ _); refine in_range (by assumption) ?_))
theorem oct_figs {c : Int} (h0 : 0 ≤ c) (h1 : c < 256) : (figs (Int.toNat 16) (Int.toNat 2) c.toNat).length ≤ 2 := by
  have h : c.toNat < 256 := by omega
  exact figs_len (by decide) (by decide) (by decide) (show c.toNat < 16 ^ 2 from h) (by decide)
def octT (c : Nat) : Str :=
  if c = 9 then Str.ofString "\\t" else if c = 10 then Str.ofString "\\n" else if c = 13 then Str.ofString "\\r" else if c = 34 then Str.ofString "\\\"" else if c = 36 then Str.ofString "\\$" else if c = 92 then Str.ofString "\\\\"
  else if 32 ≤ c ∧ c < 127 then ⟨#[c]⟩ else Str.ofString "\\x" ++ figs 16 2 c
theorem oct9 {c : Int} (h : c = 9) : Str.ofString "\\" ++ Str.ofString "t" = octT c.toNat := by
  subst h
  decide +kernel
theorem oct10 {c : Int} (h : c = 10) : Str.ofString "\\" ++ Str.ofString "n" = octT c.toNat := by
  subst h
  decide +kernel
theorem oct13 {c : Int} (h : c = 13) : Str.ofString "\\" ++ Str.ofString "r" = octT c.toNat := by
  subst h
  decide +kernel
theorem oct34 {c : Int} (h : c = 34) : Str.ofString "\\" ++ Str.ofString "\"" = octT c.toNat := by
  subst h
  decide +kernel
theorem oct36 {c : Int} (h : c = 36) : Str.ofString "\\" ++ Str.ofString "$" = octT c.toNat := by
  subst h
  decide +kernel
theorem oct92 {c : Int} (h : c = 92) : Str.ofString "\\" ++ Str.ofString "\\" = octT c.toNat := by
  subst h
  decide +kernel
theorem oct_plain {c : Int} (h0 : 0 ≤ c) (h1 : c ≠ 9) (h2 : c ≠ 10) (h3 : c ≠ 13) (h4 : c ≠ 34) (h5 : c ≠ 36) (h6 : c ≠ 92) (h : 32 ≤ c ∧ c < 127) : ⟨#[c.toNat]⟩ = octT c.toNat := by
  unfold octT
  rw [if_neg (by omega), if_neg (by omega), if_neg (by omega), if_neg (by omega), if_neg (by omega), if_neg (by omega), if_pos (by omega)]
theorem oct_hex {c : Int} (h0 : 0 ≤ c) (h1 : c ≠ 9) (h2 : c ≠ 10) (h3 : c ≠ 13) (h4 : c ≠ 34) (h5 : c ≠ 36) (h6 : c ≠ 92) (h : ¬ (32 ≤ c ∧ c < 127)) : Str.ofString "\\x" ++ figs (Int.toNat 16) (Int.toNat 2) c.toNat = octT c.toNat := by
  unfold octT
  rw [if_neg (by omega), if_neg (by omega), if_neg (by omega), if_neg (by omega), if_neg (by omega), if_neg (by omega), if_neg (by omega)]
  rfl
local macro_rules | `(tactic| walk_at "exec For Tuple List cons nil") => `(tactic| (k_here; (rename Fr _ _ _ _ => lF'); k_dflt (refine' For_turns ?F ?_ ?hs ?hE; (case F => exact lF'); (case hs => (intro _; rfl)); (case hE => passes_own); k_whole)))
theorem octet_gives (w : World) (octet : Int) (tn : Tok) (news : List (Addr × Obj)) (h0 : 0 ≤ octet) (h1 : octet < 256) :
    Gives 4 w 78 [.int octet tn] news (fun v news' => news' = news ∧ ∃ t, v = .str (octT octet.toNat) t) := by
  unfold Gives
  w_top off
  k_fill
  intro p loose mean mg mb dp un gd cn cs a ccd cl outer A₀ base h₀ L m s₁ Q E B F X N T hk hd hu hret
  refine wpAny_call ?_
  k_dflt cell_enter
  have hfl := oct_figs h0 h1
  k_steps
  · exact hret _ _ _ _ (by assumption) (by assumption) ⟨rfl, str_ex (oct9 (by assumption))⟩
  · exact hret _ _ _ _ (by assumption) (by assumption) ⟨rfl, str_ex (oct10 (by assumption))⟩
  · exact hret _ _ _ _ (by assumption) (by assumption) ⟨rfl, str_ex (oct13 (by assumption))⟩
  · exact hret _ _ _ _ (by assumption) (by assumption) ⟨rfl, str_ex (oct34 (by assumption))⟩
  · exact hret _ _ _ _ (by assumption) (by assumption) ⟨rfl, str_ex (oct36 (by assumption))⟩
  · exact hret _ _ _ _ (by assumption) (by assumption) ⟨rfl, str_ex (oct92 (by assumption))⟩
  · exact hret _ _ _ _ (by assumption) (by assumption) ⟨rfl, str_ex (oct_plain h0 (by assumption) (by assumption) (by assumption) (by assumption) (by assumption) (by assumption) (in_t (by assumption)))⟩
  · exact hret _ _ _ _ (by assumption) (by assumption) ⟨rfl, str_ex (oct_hex h0 (by assumption) (by assumption) (by assumption) (by assumption) (by assumption) (by assumption) (in_f (by assumption)))⟩
end Mine
end

section
open PySem PySem.W PySem.Spec PySem.Calls PyProof.Rows
set_option maxRecDepth 100000
namespace Mine
def tabEs : Array DictEntry := #[{ hash := 10, key := Value.int 10 197, val := Value.str (Str.ofString "\\n") 198 },
        { hash := 9, key := Value.int 9 199, val := Value.str (Str.ofString "\\t") 200 },
        { hash := 13, key := Value.int 13 201, val := Value.str (Str.ofString "\\r") 202 },
        { hash := 92, key := Value.int 92 203, val := Value.str (Str.ofString "\\\\") 204 },
        { hash := 34, key := Value.int 34 205, val := Value.str (Str.ofString "\\\"") 206 },
        { hash := 36, key := Value.int 36 207, val := Value.str (Str.ofString "\\$") 208 }]
theorem tab_look (w : World) : (Mine.hd.heap_39 w.params).lookup 15 = some ⟨.type "dict", none, .dict tabEs 6, #[]⟩ := rfl
def tabF (n : Int) : Option Value := findBy Value.isInt tabEs n
theorem tab_map {prog : Program} (w : World) {h : Heap} (X : (Mine.hd.heap_39 w.params).In h) : h.MapOf (intKind prog w) 15 tabF := by
  refine ⟨_, tabEs, 6, X _ _ (tab_look w), ⟨rfl, rfl, rfl⟩, rfl, fun e he => ?_, fun _ => rfl⟩
  have he' : e ∈ tabEs.toList := Array.mem_toList_iff.mpr he
  simp only [tabEs, List.mem_cons, List.not_mem_nil, or_false] at he'
  rcases he' with rfl | rfl | rfl | rfl | rfl | rfl
  · exact ⟨10, intKind_is _ _ _ _, (show (10 : Int) = hashInt 10 by decide)⟩
  · exact ⟨9, intKind_is _ _ _ _, (show (9 : Int) = hashInt 9 by decide)⟩
  · exact ⟨13, intKind_is _ _ _ _, (show (13 : Int) = hashInt 13 by decide)⟩
  · exact ⟨92, intKind_is _ _ _ _, (show (92 : Int) = hashInt 92 by decide)⟩
  · exact ⟨34, intKind_is _ _ _ _, (show (34 : Int) = hashInt 34 by decide)⟩
  · exact ⟨36, intKind_is _ _ _ _, (show (36 : Int) = hashInt 36 by decide)⟩
theorem tab_none {n : Int} (h1 : n ≠ 9) (h2 : n ≠ 10) (h3 : n ≠ 13) (h4 : n ≠ 34) (h5 : n ≠ 36) (h6 : n ≠ 92) : tabF n = none := by
  unfold tabF findBy tabEs
  have e1 : (9 == n) = false := beq_eq_false_iff_ne.mpr (Ne.symm h1)
  have e2 : (10 == n) = false := beq_eq_false_iff_ne.mpr (Ne.symm h2)
  have e3 : (13 == n) = false := beq_eq_false_iff_ne.mpr (Ne.symm h3)
  have e4 : (34 == n) = false := beq_eq_false_iff_ne.mpr (Ne.symm h4)
  have e5 : (36 == n) = false := beq_eq_false_iff_ne.mpr (Ne.symm h5)
  have e6 : (92 == n) = false := beq_eq_false_iff_ne.mpr (Ne.symm h6)
  simp [Value.isInt, List.find?, e1, e2, e3, e4, e5, e6]
theorem tab_yes {n : Int} (h : (tabF n).isSome = true) : ∃ t, tabF n = some (.str (octT n.toNat) t) := by
  by_cases h1 : n = 9
  · subst h1; exact ⟨200, by rfl⟩
  by_cases h2 : n = 10
  · subst h2; exact ⟨198, by rfl⟩
  by_cases h3 : n = 13
  · subst h3; exact ⟨202, by rfl⟩
  by_cases h4 : n = 34
  · subst h4; exact ⟨206, by rfl⟩
  by_cases h5 : n = 36
  · subst h5; exact ⟨208, by rfl⟩
  by_cases h6 : n = 92
  · subst h6; exact ⟨204, by rfl⟩
  rw [tab_none h1 h2 h3 h4 h5 h6] at h
  cases h
theorem tab_no {n : Int} (h : (tabF n).isSome = false) : n ≠ 9 ∧ n ≠ 10 ∧ n ≠ 13 ∧ n ≠ 34 ∧ n ≠ 36 ∧ n ≠ 92 := by
  refine ⟨?_, ?_, ?_, ?_, ?_, ?_⟩ <;> (rintro rfl; revert h; decide +kernel)
theorem tab_item {prog : Program} {w : World} {A : Around} {E : Value → Shared → Prop} {s : Shared} {n : Int} {t : Tok} {value slice : PySem.Expr} {Q : Value → Shared → Prop} (X : (Mine.hd.heap_39 w.params).In s.heap) (hn : (tabF n).isSome = true) (h : ∀ u, Q (.str (octT n.toNat) u) { s with toks := s.toks + 1 })
    (hs : subscripted slice false (.ref 15) (.int n t) = operate [.ref 15, .int n t] (getItem (.ref 15) (.int n t)) := by with_unfolding_all rfl) :
    wpAny (model prog w) A (subscriptTail value slice (.ref 15) (.int n t)) Q E s := by
  have hm := tab_map (prog := prog) w X
  obtain ⟨u, hu⟩ := tab_yes hn
  exact tail_any hm.typeIs slot_dict_getitem.lookup (wpAny_getItem_of (intKind_is prog w n t) hm hu (h u)) hs
theorem tab_in {prog : Program} {w : World} {A : Around} {E : Value → Shared → Prop} {s : Shared} {n : Int} {t : Tok} {Q : Value → Shared → Prop} (X : (Mine.hd.heap_39 w.params).In s.heap) (h : Q (.bool (tabF n).isSome) { s with toks := s.toks + 1 }) :
    wpAny (model prog w) A (compareOp .In (.int n t) (.ref 15)) Q E s := wpAny_in_of (intKind_is prog w n t) (by decide) (tab_map (prog := prog) w X) h
end Mine
end

section
open PySem PySem.W PySem.Spec PySem.Calls PyProof.Rows
set_option maxRecDepth 100000
set_option maxHeartbeats 8000000
namespace Mine
local macro_rules | `(tactic| cell_enter) => `(tactic| (refine' enterOwn (own := []) ?k1 ?k2 ?k3 ?k4 ?k5 ?kA ?kF ?kK ?k6 ?k7 ?k8 ?k9 ?kB ?kR ?kP ?_ ?c2 ?c3 ?c4 ?c5; (case kA => exact rfl); (case kF => exact rfl); (case kK => assumption); (case k1 => k_asm); (case k2 => k_asm); (case k3 => k_asm); (case k4 => exact News.nil); (case k5 => k_asm); (case kR => k_asm); (case kP => intro _ _ h9; exact nomatch h9); (case k6 => k_is); (case k7 => k_is); (case k8 => ktr_room); (case k9 => exact BindsTo.of_eq rfl); (case c5 => decide); (case kB => exact locs rfl); (case c2 => exact rfl); (case c3 => exact rfl); (case c4 => exact rfl); k_whole; intro g' L' h' FG' F' N' B' X' T'; (try dsimp only); (try k_lift B'); (try k_fold)))
def octsT (ns : List Int) : List Str := ns.map fun i => octT i.toNat
local macro_rules | `(tactic| walk_at "exec For Name Name cons nil") => `(tactic| (k_here; kstb_name; (rename Fr _ _ _ _ => lF'); k_dflt (refine' For_invVF lF' ?k1 ?k2 ?_ ?hs ?hE; (case k1 => exact rfl); (case k2 => exact rfl); (case hs => (intro _; rfl)); (case hE => passes_own); k_whole)))
@[irreducible] def FoundInv (pre : List Int) (found : List Str) : Prop := found = octsT pre
theorem FoundInv.start : FoundInv [] [] := by unfold FoundInv; rfl
theorem FoundInv.is {pre : List Int} {found : List Str} (h : FoundInv pre found) : found = octsT pre := by unfold FoundInv at h; exact h
theorem FoundInv.length {pre : List Int} {found : List Str} (h : FoundInv pre found) : found.length = pre.length := by rw [h.is]; simp [octsT]
theorem FoundInv.turn {pre : List Int} {found : List Str} {n : Int} {x : Str} (h : FoundInv pre found) (hx : x = octT n.toNat) : FoundInv (pre ++ [n]) (found ++ [x]) := by
  unfold FoundInv at *
  subst h hx
  simp [octsT]
local macro_rules | `(tactic| walk_at "compareOp In") => `(tactic| ((with_reducible show wpAny _ _ (compareOp CmpOp.In (Value.int _ _) (Value.ref 15)) _ _ _); refine tab_in (by k_in) ?_))
local macro_rules | `(tactic| walk_at "compareOp In int ref") => `(tactic| ((with_reducible show wpAny _ _ (compareOp CmpOp.In (Value.int _ _) (Value.ref 15)) _ _ _); refine tab_in (by k_in) ?_))
local macro_rules | `(tactic| walk_at "subscriptTail") => `(tactic| ((with_reducible show wpAny _ _ (subscriptTail _ _ (Value.ref 15) (Value.int _ _)) _ _ _); refine tab_item (by k_in) (by assumption) (fun u => ?_)))
local macro_rules | `(tactic| walk_at "call ref") => `(tactic| (k_here; (with_reducible show wpAny _ _ (PySem.call (Value.ref 29) [Value.int _ _, Value.int _ _]) _ _ _); k_dflt (refine' Gives.useS (hex_gives _ _ _ _ _ _ ?h0 ?h1 ?h2 ?h3) ?k1 ?k2 ?k3 ?k4 ?k5 ?kK ?kd ?ku ?_; (case k1 => k_asm); (case k2 => k_asm); (case k3 => k_asm); (case k4 => k_asm); (case k5 => k_asm); (case kK => first | exact rfl | assumption); (case kd => ktr_room); (case ku => ktr_units); (case h0 => omega); (case h1 => omega); (case h2 => decide); (case h3 => decide); k_whole; intro _ _ _ _ _; (try dsimp only); (try k_fold))))
local macro_rules | `(tactic| walk_at "binaryOp Add str str") => `(tactic| (refine add_str (fun t' tk => ?_) ?sz; (case sz => (simp only [strLen_append, sizeLine_eq, len_q, len_qU, len_bx, len_b, Str.length, List.size_toArray, List.length_cons, List.length_nil] at *; omega))))
theorem oct_plain' {c : Int} (h0 : 0 ≤ c) (ht : (tabF c).isSome = false) (h : 32 ≤ c ∧ c < 127) : ⟨#[c.toNat]⟩ = octT c.toNat :=
  have q := tab_no ht
  oct_plain h0 q.1 q.2.1 q.2.2.1 q.2.2.2.1 q.2.2.2.2.1 q.2.2.2.2.2 h
theorem oct_hex' {c : Int} (h0 : 0 ≤ c) (ht : (tabF c).isSome = false) (h : ¬ (32 ≤ c ∧ c < 127)) : Str.ofString "\\x" ++ figs (Int.toNat 16) (Int.toNat 2) c.toNat = octT c.toNat :=
  have q := tab_no ht
  oct_hex h0 q.1 q.2.1 q.2.2.1 q.2.2.2.1 q.2.2.2.2.1 q.2.2.2.2.2 h
theorem octs_end {h₀ h' : Heap} {L l : Addr} {m₀ m' : Str → Option Value} {vs : List Value} {ss : List Str} {nn tk : Nat} {own : List (Addr × Obj)} {pre : List Int} {n : Int} {x y : Str} {t : Tok} {s₁ : Shared}
    (F : Fr h₀ L h' m') (N : News h₀ L h' ((l, listOf (vs.toArray.push (.str y t)) nn) :: own)) (hf : StrsAre vs ss) (hP : FoundInv pre ss) (hr : ∀ z, z ≠ x → m' z = m₀ z) (hx : y = octT n.toNat) :
    InvEndN h₀ L (KstS (fun c : List Value × List Str × Nat => [(l, listOf c.1.toArray c.2.2)]) (fun _ => []) (fun c => StrsAre c.1 c.2.1) x [] m₀ (fun pre c => FoundInv pre c.2.1) (pre ++ [n])) own [l] s₁ { s₁ with heap := h', toks := tk } := by
  rw [List.push_toArray] at N
  refine kst_end (σ := List Value × List Str × Nat) (vs ++ [.str y t], ss ++ [y], nn) F N (fun p hp => ?_) (fun p hp => List.Mem.tail _ hp) rfl (StrsAre.append' hf (.cons _ _ .nil)) (fun _ h => nomatch h) (fun z hz _ _ => hr z hz) (hP.turn hx)
  rw [List.mem_singleton.mp hp]
  exact .head _
local macro_rules | `(tactic| walk_at "InvEndN") => `(tactic| (refine' octs_end ?F ?N ?hf ?hP ?hr ?hx; (case F => assumption); (case N => assumption); (case hf => assumption); (case hP => assumption); (case hr => (intro z hz; exact if_neg hz)); (case hx => first | rfl | exact oct_plain' (by assumption) (by assumption) (by omega) | exact oct_hex' (by assumption) (by assumption) (by omega))))
theorem octT_len {c : Int} (h0 : 0 ≤ c) (h1 : c < 256) : (octT c.toNat).length ≤ 4 := by
  have hf := oct_figs h0 h1
  unfold octT
  split; · decide +kernel
  split; · decide +kernel
  split; · decide +kernel
  split; · decide +kernel
  split; · decide +kernel
  split; · decide +kernel
  split
  · show 1 ≤ 4; omega
  · rw [strLen_append, len_bx]; exact Nat.add_le_add_left hf 2
theorem octs_sum : ∀ ns : List Int, (∀ n ∈ ns, 0 ≤ n ∧ n < 256) → ((octsT ns).map (·.length)).sum ≤ 4 * ns.length
  | [], _ => Nat.le_refl _
  | n :: r, h => by
    have h1 := octs_sum r fun m hm => h m (.tail _ hm)
    have h2 := octT_len (h n (.head _)).1 (h n (.head _)).2
    simp only [octsT, List.map_cons, List.sum_cons, List.length_cons] at *
    omega
def octsJ (ns : List Int) : Str := Txt.join (Str.ofString "") (octsT ns)
theorem octs_join {prog : Program} {w : World} {A : Around} {E : Value → Shared → Prop} {s : Shared} {l : Addr} {vs : List Value} {ss : List Str} {nn : Nat} {t : Tok} {ns : List Int} {Q : Value → Shared → Prop} {h₀ : Heap} {L : Addr}
    (N : News h₀ L s.heap [(l, listOf vs.toArray nn)]) (hf : StrsAre vs ss) (hP : FoundInv ns ss) (hn : ∀ n ∈ ns, 0 ≤ n ∧ n < 256) (hl : ns.length ≤ 8) (h : ∀ t' k, Q (.str (octsJ ns) t') { s with toks := k }) :
    wpAny (model prog w) A (call (.builtin "str.join") [.str (Str.ofString "") t, .ref l]) Q E s := by
  have e := hP.is
  subst e
  refine join_list (items := vs.toArray) ⟨_, (N _ (.head _)).1, rfl, _, rfl⟩ (by simpa using hf) ?_ h
  have h1 := octs_sum ns hn
  have h2 : (Str.ofString "").length = 0 := by decide +kernel
  rw [h2]
  omega
local macro_rules | `(tactic| walk_at "call builtin:str.join") => `(tactic| (refine' octs_join ?N ?hf ?hP ?hn ?hl ?_; (case N => k_asm); (case hf => assumption); (case hP => assumption); (case hn => exact fun _ hn => KBw.ints_in hn); (case hl => (simp only [KBw.ints_length]; assumption)); intro _ _))
theorem octets_gives (w : World) (b : Array UInt8) (tb : Tok) (news : List (Addr × Obj)) (hb : b.size ≤ 8) :
    Gives 6 w 22 [.bytes b tb] news (fun v news' => news' = news ∧ ∃ t, v = .str (octsJ (KBw.bInts b)) t) := by
  unfold Gives
  w_top off
  k_fill
  intro p loose mean mg mb dp un gd cn cs a ccd cl outer A₀ base h₀ L m s₁ Q E B F X N T hk hd hu hret
  refine wpAny_call ?_
  k_dflt cell_enter
  iterate 10 (first | (k_unfold; (try dsimp only)) | walk1 | (dsimp only; walk1))
  rename Fr _ _ _ _ => lF'
  rename News _ _ _ (_ :: _) => lN'
  refine KStb.kst_bytes (σ := List Value × List Str × Nat) (fun c => [(_, listOf c.1.toArray c.2.2)]) (fun _ => []) (fun c => StrsAre c.1 c.2.1) [] (fun pre c => FoundInv pre c.2.1) ([], [], 0) rfl rfl rfl lF' lN' StrsAre.nil (fun _ h => nomatch h) FoundInv.start ?_ ?_
  · rintro ⟨vs, ss, nn⟩ pre post n t u h tk own hks hlen hn0 hn1 hoff hfacts hP F₁ N₁
    dsimp only [List.cons_append, List.nil_append] at hfacts hP F₁ N₁ ⊢
    clear lF' lN'
    have hvl : vs.length ≤ 8 := by
      have e1 := StrsAre.length hfacts
      have e2 := hP.length
      have e3 := KBw.ints_length b
      omega
    have hfl : (figs 16 (Int.toNat 2) n.toNat).length ≤ 2 := oct_figs hn0 hn1
    k_steps
  · rintro ⟨vs, ss, nn⟩ u h tk hlen hfacts hP F₁ N₁
    dsimp only at hfacts hP F₁ N₁ ⊢
    clear lF' lN'
    k_steps
    exact hret _ _ _ _ (by assumption) (by assumption) ⟨rfl, _, rfl⟩
end Mine
end

section
open PySem PySem.W PySem.Spec PySem.Calls PyProof.Rows
set_option maxRecDepth 100000
set_option maxHeartbeats 8000000
set_option exponentiation.threshold 5000
namespace Mine
local macro_rules | `(tactic| cell_enter) => `(tactic| (refine' enterOwn (own := []) ?k1 ?k2 ?k3 ?k4 ?k5 ?kA ?kF ?kK ?k6 ?k7 ?k8 ?k9 ?kB ?kR ?kP ?_ ?c2 ?c3 ?c4 ?c5; (case kA => exact rfl); (case kF => exact rfl); (case kK => assumption); (case k1 => k_asm); (case k2 => k_asm); (case k3 => k_asm); (case k4 => exact News.nil); (case k5 => k_asm); (case kR => k_asm); (case kP => intro _ _ h9; exact nomatch h9); (case k6 => k_is); (case k7 => k_is); (case k8 => ktr_room); (case k9 => exact BindsTo.of_eq rfl); (case c5 => decide); (case kB => exact locs rfl); (case c2 => exact rfl); (case c3 => exact rfl); (case c4 => exact rfl); k_whole; intro g' L' h' FG' F' N' B' X' T'; (try dsimp only); (try k_lift B'); (try k_fold)))
@[irreducible] def MN : Int := Int.ofNat (2 ^ 4000)
@[irreducible] def MP : Int := Int.ofNat (10 ^ 1200)
theorem mn_look (w : World) : nsIn (Mine.hd.heap_39 w.params) mainGlobals (Str.ofString "MOST_NUMBER") = some (some (.int MN 191)) := by
  unfold MN
  rfl
theorem mp_look (w : World) : nsIn (Mine.hd.heap_39 w.params) mainGlobals (Str.ofString "MOST_PLAIN") = some (some (.int MP 195)) := by
  unfold MP
  rfl
theorem mp_small {n : Int} (h1 : 0 - MP < n) (h2 : n < MP) : ¬ 10 ^ 4300 ≤ n.natAbs := by
  unfold MP at h1 h2
  have h3 : (10 : Nat) ^ 1200 ≤ 10 ^ 4300 := Nat.pow_le_pow_right (by decide) (by decide)
  generalize (10 : Nat) ^ 4300 = b at *
  generalize (10 : Nat) ^ 1200 = a at *
  simp only [Int.ofNat_eq_natCast] at h1 h2
  omega
theorem mn_hex {n : Int} (h1 : 0 - MN < n) (h2 : n < MN) : (baseText "0x" 16 n).length ≤ sizeLine := by
  unfold MN at h1 h2
  have e : (2 : Nat) ^ 4000 = 16 ^ 1000 := by
    rw [show (16 : Nat) = 2 ^ 4 from rfl, ← Nat.pow_mul]
  rw [e] at h1 h2
  rw [sizeLine_eq]
  rcases Int.lt_or_le 0 (-n) with hn | hn
  · have h := hexNeg_len_le (n := -n) (k := 1000) hn (by decide) (by
      generalize (16 : Nat) ^ 1000 = a at *
      simp only [Int.ofNat_eq_natCast] at h1 h2
      omega)
    have e2 : 0 - -n = n := by omega
    rw [e2] at h
    omega
  · have h := hex_len_le (n := n) (k := 1000) (by omega) (by decide) (by
      generalize (16 : Nat) ^ 1000 = a at *
      simp only [Int.ofNat_eq_natCast] at h1 h2
      omega)
    omega
def intT (n : Int) : Str := if 0 - MN < n ∧ n < MN then (if 0 - MP < n ∧ n < MP then Str.ofString (toString n) else baseText "0x" 16 n) else Str.ofString ".."
theorem intT_far {n : Int} (h : ¬ (0 - MN < n ∧ n < MN)) : Str.ofString ".." = intT n := by unfold intT; rw [if_neg h]
theorem intT_hex {n : Int} (h : 0 - MN < n ∧ n < MN) (h2 : ¬ (0 - MP < n ∧ n < MP)) : baseText "0x" 16 n = intT n := by unfold intT; rw [if_pos h, if_neg h2]
theorem intT_dec {n : Int} (h : 0 - MN < n ∧ n < MN) (h2 : 0 - MP < n ∧ n < MP) : Str.ofString (toString n) = intT n := by unfold intT; rw [if_pos h, if_pos h2]
local macro_rules | `(tactic| walk_at "eval Name") => `(tactic| (k_here; (with_reducible show wpAny _ _ (eval (Expr.Name (Str.ofString "MOST_NUMBER") _) _) _ _ _); k_dflt (refine' nameX_K ?F ?X ?T (mn_look _) ?_ ?a ?b; (case F => k_asm); (case X => k_asm); (case T => k_asm); (case a => rfl); (case b => rfl); k_whole)))
local macro_rules | `(tactic| walk_at "eval Name") => `(tactic| (k_here; (with_reducible show wpAny _ _ (eval (Expr.Name (Str.ofString "MOST_PLAIN") _) _) _ _ _); k_dflt (refine' nameX_K ?F ?X ?T (mp_look _) ?_ ?a ?b; (case F => k_asm); (case X => k_asm); (case T => k_asm); (case a => rfl); (case b => rfl); k_whole)))
local macro_rules | `(tactic| walk_at "call type:str") => `(tactic| (refine str_of_int_or rfl (Heap.NoDigits.keeps (Top.nodigits (by assumption)) (Fr.keep (by assumption))) (fun _ => ?_) (fun h9 => absurd h9 (mp_small (by assumption) (by assumption)))))
local macro_rules | `(tactic| walk_at "call builtin:hex") => `(tactic| (refine P.hex_of_int ?_ (mn_hex (by assumption) (by assumption))))
theorem int_gives (w : World) (number : Int) (tn : Tok) (news : List (Addr × Obj)) :
    Gives 2 w 43 [.int number tn] news (fun v news' => news' = news ∧ ∃ t, v = .str (intT number) t) := by
  unfold Gives
  w_top off
  k_fill
  intro p loose mean mg mb dp un gd cn cs a ccd cl outer A₀ base h₀ L m s₁ Q E B F X N T hk hd hu hret
  refine wpAny_call ?_
  k_dflt cell_enter
  k_steps
  · exact hret _ _ _ _ (by assumption) (by assumption) ⟨rfl, str_ex (intT_dec ⟨by assumption, by assumption⟩ ⟨by assumption, by assumption⟩)⟩
  · exact hret _ _ _ _ (by assumption) (by assumption) ⟨rfl, str_ex (intT_hex ⟨by assumption, by assumption⟩ (fun q => absurd q.2 (by assumption)))⟩
  · exact hret _ _ _ _ (by assumption) (by assumption) ⟨rfl, str_ex (intT_hex ⟨by assumption, by assumption⟩ (fun q => absurd q.1 (by assumption)))⟩
  · exact hret _ _ _ _ (by assumption) (by assumption) ⟨rfl, str_ex (intT_far (fun q => absurd q.2 (by assumption)))⟩
  · exact hret _ _ _ _ (by assumption) (by assumption) ⟨rfl, str_ex (intT_far (fun q => absurd q.1 (by assumption)))⟩
end Mine
end

section
open PySem PySem.W PySem.Spec PySem.Calls PyProof.Rows
set_option maxRecDepth 100000
set_option maxHeartbeats 8000000
namespace Mine
local macro_rules | `(tactic| cell_enter) => `(tactic| (refine' enterOwn (own := []) ?k1 ?k2 ?k3 ?k4 ?k5 ?kA ?kF ?kK ?k6 ?k7 ?k8 ?k9 ?kB ?kR ?kP ?_ ?c2 ?c3 ?c4 ?c5; (case kA => exact rfl); (case kF => exact rfl); (case kK => assumption); (case k1 => k_asm); (case k2 => k_asm); (case k3 => k_asm); (case k4 => exact News.nil); (case k5 => k_asm); (case kR => exact News.nil); (case kP => intro _ _ h9; exact nomatch h9); (case k6 => k_is); (case k7 => k_is); (case k8 => ktr_room); (case k9 => exact BindsTo.of_eq rfl); (case c5 => decide); (case kB => exact locs rfl); (case c2 => exact rfl); (case c3 => exact rfl); (case c4 => exact rfl); k_whole; intro g' L' h' FG' F' N' B' X' T'; (try dsimp only); (try k_lift B'); (try k_fold)))
theorem pool_max {x : Int} : 0 ≤ if -1 - x > x then -1 - x else x := by split <;> omega
theorem pool_fst {m : Int} {c : Prop} [Decidable c] (h : 0 ≤ m) : 0 ≤ m * (if decide c = true then (1 : Int) else 0) := by split <;> omega
theorem pool_snd0 {m : Int} {c : Prop} [Decidable c] : 0 ≤ m.fmod 2147483647 * (if decide c = true then (1 : Int) else 0) := by
  have h := @Int.fmod_nonneg_of_pos m 2147483647 (by decide)
  split <;> omega
theorem pool_snd1 {m : Int} {c : Prop} [Decidable c] : m.fmod 2147483647 * (if decide c = true then (1 : Int) else 0) < 2147483647 := by
  have h := @Int.fmod_lt_of_pos m 2147483647 (by decide)
  split <;> omega
def PoolClaim (w : World) (l : Addr) (vs : List Value) : Prop :=
  ∀ (p : Program) (loose : List Str) (mean : ExcName → Option Value) (mg mb : Str → Option Value) (dp un : Nat) (gd : Option (List Code)) (cn : Str) (cs : Scope) (a : Addr) (ccd : Value) (cl : List (Str × Addr)) (outer : List Env) (A₀ : Around) (base h₀ : Heap) (L : Addr) (m : Str → Option Value) (s₁ : Shared) (Q E : Value → Shared → Prop),
    Below A₀ base outer h₀ → Fr h₀ L s₁.heap m → (Mine.hd.heap_39 w.params).In h₀ → Top p loose mean mg mb h₀ → cs.kind = .function → dp + 2 < recursionLimit → un + 8 * 2 < cLine → base.IsList l vs.toArray →
    (∀ (q : Addr) (g sd : Int) (tg ts : Tok) (n : Nat) h' tk', 0 ≤ g → 0 ≤ sd → sd < 2147483647 → Fr h₀ L h' m → News h₀ L h' [(q, listOf #[.int g tg, .int sd ts] n)] → Q (.ref q) { s₁ with heap := h', toks := tk' }) →
    wpAny (model PySem.Challenge.rw_xm0680_01.row.prog w) (ktrTop dp un gd cn cs L a ccd cl outer) (call (.ref 50) [.ref l]) Q E s₁
theorem pool_gives (w : World) (l : Addr) (vs : List Value) (ns : List Int) (hi : IntsAre vs ns) (hlen : ns.length ≤ 2 ^ 20) : PoolClaim w l vs := by
  unfold PoolClaim
  w_top off
  k_fill
  intro p loose mean mg mb dp un gd cn cs a ccd cl outer A₀ base h₀ L m s₁ Q E B F X T hk hd hu hL hret
  refine wpAny_call ?_
  k_dflt cell_enter
  k_steps
  · exact hret _ _ _ _ _ _ _ _ (pool_fst pool_max) pool_snd0 pool_snd1 (by assumption) (by assumption)
  · exact hret _ _ _ _ _ _ _ _ (pool_fst pool_max) pool_snd0 pool_snd1 (by assumption) (by assumption)
end Mine
end

section
open PySem PySem.W PySem.Spec PySem.Calls PyProof.Rows
set_option maxRecDepth 100000
set_option maxHeartbeats 8000000
namespace Mine
local macro_rules | `(tactic| k_all) => `(tactic| assumption)
theorem fmod_nn {a b : Int} (hb : 0 < b) : 0 ≤ a.fmod b := by rw [Int.fmod_eq_emod_of_nonneg _ (Int.le_of_lt hb)]; exact Int.emod_nonneg _ (by omega)
theorem fmod_lt' {a b : Int} (hb : 0 < b) : a.fmod b < b := by rw [Int.fmod_eq_emod_of_nonneg _ (Int.le_of_lt hb)]; exact Int.emod_lt_of_pos _ hb
theorem fdiv_nn {a b : Int} (ha : 0 ≤ a) (hb : 0 < b) : 0 ≤ a.fdiv b := by rw [Int.fdiv_eq_ediv_of_nonneg _ (Int.le_of_lt hb)]; exact Int.ediv_nonneg ha (Int.le_of_lt hb)
theorem take_mul {a : Int} {b : Int} : IntMulOk (a.fmod 2147483647) b :=
  IntMulOk.of_left (intBits_le_64 (by have := @fmod_nn a 2147483647 (by decide); omega) (by have := @fmod_lt' a 2147483647 (by decide); omega))
local macro_rules | `(tactic| walk_at "binaryOp FloorDiv int int") => `(tactic| (refine floordiv_int (by omega) ?_ (Or.inl (PyProof.noPylong_of_log2 (by assumption)))))
local macro_rules | `(tactic| walk_at "binaryOp Mult int int") => `(tactic| (refine mul_int ?_ (show IntMulOk (Int.fmod _ 2147483647) _ from take_mul)))
theorem take_gives (w : World) (src : Addr) (g s : Int) (tg ts : Tok) (n : Nat) (rest : List (Addr × Obj)) (top : Int) (tt : Tok) (hg : 0 ≤ g) (hs : 0 ≤ s) (hs2 : s < 2147483647) (ht : 0 < top) (hlog : top.natAbs.log2 < 9000) (hr : ∀ p ∈ rest, p.1 ≠ src) :
    Gives 2 w 57 [.ref src, .int top tt] ((src, listOf #[.int g tg, .int s ts] n) :: rest)
      (fun v news' => ∃ g' s' : Int, ∃ tg' ts' : Tok, ∃ n' : Nat, ∃ r : Int, ∃ t : Tok, v = .int r t ∧ 0 ≤ g' ∧ 0 ≤ s' ∧ s' < 2147483647 ∧ 0 ≤ r ∧ r < top ∧ news' = (src, listOf #[.int g' tg', .int s' ts'] n') :: rest) := by
  unfold Gives
  w_top off
  k_fill
  intro p loose mean mg mb dp un gd cn cs a ccd cl outer A₀ base h₀ L m s₁ Q E B F X N T hk hd hu hret
  refine wpAny_call ?_
  k_dflt cell_enter
  k_steps
  · refine hret _ _ _ _ (by assumption) (by assumption) ⟨_, _, _, _, _, _, _, rfl, ?_, ?_, ?_, ?_, ?_, rfl⟩
    · exact fdiv_nn hg ht
    · exact hs
    · exact hs2
    · exact fmod_nn ht
    · exact fmod_lt' ht
  · refine hret _ _ _ _ (by assumption) (by assumption) ⟨g, s, tg, ts, _, _, _, rfl, ?_, ?_, ?_, ?_, ?_, rfl⟩
    · exact hg
    · exact hs
    · exact hs2
    · exact Int.le_refl _
    · exact ht
  · refine hret _ _ _ _ (by assumption) (by assumption) ⟨_, _, _, _, _, _, _, rfl, ?_, ?_, ?_, ?_, ?_, rfl⟩
    · exact hg
    · exact fmod_nn (by decide)
    · exact fmod_lt' (by decide)
    · exact fmod_nn ht
    · exact fmod_lt' ht
end Mine
end

section
open PySem PySem.W PySem.Spec PySem.Calls PyProof.Rows
set_option maxRecDepth 100000
set_option maxHeartbeats 8000000
namespace Mine
/-- one entry of a ledger, and the rest of it -/
inductive Pick (d : Addr) (o : Obj) : List (Addr × Obj) → List (Addr × Obj) → Prop
  | head {r} : (∀ p ∈ r, p.1 ≠ d) → Pick d o ((d, o) :: r) r
  | tail {p r r'} : p.1 ≠ d → Pick d o r r' → Pick d o (p :: r) (p :: r')
theorem Pick.mem {d : Addr} {o : Obj} : ∀ {l r : List (Addr × Obj)}, Pick d o l r → ∀ p ∈ (d, o) :: r, p ∈ l
  | _, _, .head _, _, h => h
  | _, _, .tail _ q, p, h => by
    rcases List.mem_cons.mp h with rfl | h
    · exact .tail _ (q.mem _ (.head _))
    · rcases List.mem_cons.mp h with rfl | h
      · exact .head _
      · exact .tail _ (q.mem _ (.tail _ h))
theorem Pick.ne {d : Addr} {o : Obj} : ∀ {l r : List (Addr × Obj)}, Pick d o l r → ∀ p ∈ r, p.1 ≠ d
  | _, _, .head h, p, hp => h p hp
  | _, _, .tail h q, p, hp => by
    rcases List.mem_cons.mp hp with rfl | hp
    · exact h
    · exact q.ne p hp
theorem Pick.sub {d : Addr} {o : Obj} {l r : List (Addr × Obj)} (q : Pick d o l r) : ∀ p ∈ r, p ∈ l := fun p hp => q.mem p (.tail _ hp)
/-- the source as it stands in a ledger: two ints -/
structure Src (g s : Int) : Prop where
  g0 : 0 ≤ g
  s0 : 0 ≤ s
  s1 : s < 2147483647
theorem take_use {w : World} {src : Addr} {g sd : Int} {tg ts : Tok} {n : Nat} {news rest : List (Addr × Obj)} {top : Int} {tt : Tok} {p : Program} {loose : List Str} {mean : ExcName → Option Value} {mg mb : Str → Option Value} {dp un : Nat} {gd : Option (List Code)} {cn : Str} {cs : Scope} {a : Addr} {ccd : Value} {cl : List (Str × Addr)} {outer : List Env} {A₀ : Around} {base h₀ : Heap} {L : Addr} {m : Str → Option Value} {s : Shared} {Q E : Value → Shared → Prop}
    (B : Below A₀ base outer h₀) (F : Fr h₀ L s.heap m) (X : (Mine.hd.heap_39 w.params).In h₀) (N : News h₀ L s.heap news) (T : Top p loose mean mg mb h₀) (hk : cs.kind = .function) (hd : dp + 2 < recursionLimit) (hu : un + 8 * 2 < cLine)
    (pk : Pick src (listOf #[.int g tg, .int sd ts] n) news rest) (hS : Src g sd) (ht : 0 < top) (hlog : top.natAbs.log2 < 9000)
    (ret : ∀ (g' s' : Int) (tg' ts' : Tok) (n' : Nat) (r : Int) (t : Tok) h' tk', Src g' s' → 0 ≤ r → r < top → Fr h₀ L h' m → News h₀ L h' ((src, listOf #[.int g' tg', .int s' ts'] n') :: rest) → Q (.int r t) { s with heap := h', toks := tk' }) :
    wpAny (model PySem.Challenge.rw_xm0680_01.row.prog w) (ktrTop dp un gd cn cs L a ccd cl outer) (call (.ref 57) [.ref src, .int top tt]) Q E s := by
  refine take_gives w src g sd tg ts n rest top tt hS.g0 hS.s0 hS.s1 ht hlog pk.ne _ _ _ _ _ _ _ _ _ _ _ _ _ _ _ _ _ _ _ _ _ _ B F X (cb_drop N pk.mem) T hk hd hu ?_
  rintro v news' h' tk' F' N' ⟨g', s', tg', ts', n', r, t, rfl, h1, h2, h3, h4, h5, rfl⟩
  exact ret g' s' tg' ts' n' r t h' tk' ⟨h1, h2, h3⟩ h4 h5 F' N'
end Mine
end

section
open PySem PySem.W PySem.Spec PySem.Calls PyProof.Rows
set_option maxRecDepth 100000
set_option maxHeartbeats 8000000
namespace Mine
local macro_rules | `(tactic| k_upd) => `(tactic| first | (refine' Pick.head ?a; (case a => k_all)) | (refine' Pick.tail ?a ?b; (case a => k_ne); (case b => k_upd)))
local macro_rules | `(tactic| walk_at "call ref") => `(tactic| (k_here; (with_reducible show wpAny _ _ (PySem.call (Value.ref 57) [Value.ref _, Value.int _ _]) _ _ _); k_dflt (refine' take_use ?k1 ?k2 ?k3 ?k4 ?k5 ?kK ?kd ?ku ?kP ?kS ?k0 ?kl ?_; (case k1 => k_asm); (case k2 => k_asm); (case k3 => k_asm); (case k4 => k_asm); (case k5 => k_asm); (case kK => first | exact rfl | assumption); (case kd => ktr_room); (case ku => ktr_units); (case kP => k_upd); (case kS => assumption); (case k0 => first | decide | assumption | omega); (case kl => first | decide +kernel | assumption); k_whole; intro _ _ _ _ _ _ _ _ _ _ _ _ _ _; (try dsimp only); (try k_fold))))
local macro_rules | `(tactic| cell_enter) => `(tactic| (refine' enterOwn ?k1 ?k2 ?k3 ?k4 ?k5 ?kA ?kF ?kK ?k6 ?k7 ?k8 ?k9 ?kB ?kR ?kP ?_ ?c2 ?c3 ?c4 ?c5; (case kA => exact rfl); (case kF => exact rfl); (case kK => assumption); (case k1 => k_asm); (case k2 => k_asm); (case k3 => k_asm); (case k4 => k_asm); (case k5 => k_asm); (case kP => assumption); (case kR => assumption); (case k6 => k_is); (case k7 => k_is); (case k8 => ktr_room); (case k9 => exact BindsTo.of_eq rfl); (case c5 => decide); (case kB => exact locs rfl); (case c2 => exact rfl); (case c3 => exact rfl); (case c4 => exact rfl); k_whole; intro g' L' h' FG' F' N' B' X' T'; (try dsimp only); (try k_lift B'); (try k_fold)))
theorem getD_in {ns : List Int} {r : Int} (h0 : 0 ≤ r) (h1 : r < (ns.length : Int)) : ns.getD r.toNat 0 ∈ ns := by
  have h : r.toNat < ns.length := by omega
  rw [List.getD_eq_getElem?_getD, List.getElem?_eq_getElem h]
  exact List.getElem_mem h
theorem one_gives (w : World) (src th : Addr) (g s : Int) (tg ts : Tok) (n nn : Nat) (rest : List (Addr × Obj)) (vs : List Value) (ns : List Int) (hS : Src g s) (hi : IntsAre vs ns) (h0 : 0 < ns.length) (h1 : ns.length ≤ 64) (hne : @Ne Nat src th) (hr : ∀ p ∈ rest, p.1 ≠ src ∧ p.1 ≠ th) :
    Gives 4 w 64 [.ref src, .ref th] ((src, listOf #[.int g tg, .int s ts] n) :: (th, listOf vs.toArray nn) :: rest)
      (fun v news' => ∃ g' s' : Int, ∃ tg' ts' : Tok, ∃ n' : Nat, ∃ r : Int, ∃ t : Tok, v = .int r t ∧ Src g' s' ∧ r ∈ ns ∧ news' = (src, listOf #[.int g' tg', .int s' ts'] n') :: (th, listOf vs.toArray nn) :: rest) := by
  unfold Gives
  w_top off
  k_fill
  intro p loose mean mg mb dp un gd cn cs a ccd cl outer A₀ base h₀ L m s₁ Q E B F X N T hk hd hu hret
  refine wpAny_call ?_
  have hlog : ((ns.length : Nat) : Int).natAbs.log2 < 9000 := by
    rw [Int.natAbs_natCast]
    exact Nat.lt_of_le_of_lt (Nat.log2_le_self _) (by omega)
  have N1 : News h₀ L s₁.heap [(src, listOf #[.int g tg, .int s ts] n), (th, listOf vs.toArray nn)] := fun q hq => N q (by
    rcases List.mem_cons.mp hq with rfl | hq
    · exact .head _
    · rw [List.mem_singleton.mp hq]; exact .tail _ (.head _))
  have N2 : News h₀ L s₁.heap rest := fun q hq => N q (.tail _ (.tail _ hq))
  have hap : ∀ q ∈ rest, q.1 ∉ [(src, (listOf #[.int g tg, .int s ts] n : Obj)), (th, listOf vs.toArray nn)].map (·.1) := fun q hq => by
    have := hr q hq
    simp [this.1, this.2]
  clear N
  have N := N1
  clear N1
  k_dflt cell_enter
  k_steps
  exact hret _ _ _ _ (by assumption) (News.append (a := [_, _]) (b := rest) (by assumption) (by assumption)) ⟨_, _, _, _, _, _, _, rfl, by assumption, getD_in (by assumption) (by assumption), rfl⟩
end Mine
end

section
open PySem PySem.W PySem.Spec PySem.Calls PyProof.Rows
set_option maxRecDepth 100000
set_option maxHeartbeats 8000000
namespace Mine
theorem one_use {w : World} {src th : Addr} {g sd : Int} {tg ts : Tok} {n nn : Nat} {news rest rest2 : List (Addr × Obj)} {vs : List Value} {ns : List Int} {p : Program} {loose : List Str} {mean : ExcName → Option Value} {mg mb : Str → Option Value} {dp un : Nat} {gd : Option (List Code)} {cn : Str} {cs : Scope} {a : Addr} {ccd : Value} {cl : List (Str × Addr)} {outer : List Env} {A₀ : Around} {base h₀ : Heap} {L : Addr} {m : Str → Option Value} {s : Shared} {Q E : Value → Shared → Prop}
    (B : Below A₀ base outer h₀) (F : Fr h₀ L s.heap m) (X : (Mine.hd.heap_39 w.params).In h₀) (N : News h₀ L s.heap news) (T : Top p loose mean mg mb h₀) (hk : cs.kind = .function) (hd : dp + 4 < recursionLimit) (hu : un + 8 * 4 < cLine)
    (pk : Pick src (listOf #[.int g tg, .int sd ts] n) news rest) (pk2 : Pick th (listOf vs.toArray nn) rest rest2) (hS : Src g sd) (hi : IntsAre vs ns) (h0 : 0 < ns.length) (h1 : ns.length ≤ 64)
    (ret : ∀ (g' s' : Int) (tg' ts' : Tok) (n' : Nat) (r : Int) (t : Tok) h' tk', Src g' s' → r ∈ ns → Fr h₀ L h' m → News h₀ L h' ((src, listOf #[.int g' tg', .int s' ts'] n') :: rest2) → Q (.int r t) { s with heap := h', toks := tk' }) :
    wpAny (model PySem.Challenge.rw_xm0680_01.row.prog w) (ktrTop dp un gd cn cs L a ccd cl outer) (call (.ref 64) [.ref src, .ref th]) Q E s := by
  have hne : th ≠ src := pk.ne _ (pk2.mem _ (.head _))
  refine one_gives w src th g sd tg ts n nn rest2 vs ns hS hi h0 h1 (Ne.symm hne) (fun q hq => ⟨pk.ne _ (pk2.sub _ hq), pk2.ne _ hq⟩) _ _ _ _ _ _ _ _ _ _ _ _ _ _ _ _ _ _ _ _ _ _ B F X (cb_drop N fun q hq => ?_) T hk hd hu ?_
  · rcases List.mem_cons.mp hq with rfl | hq
    · exact pk.mem _ (.head _)
    · exact pk.mem _ (.tail _ (pk2.mem _ hq))
  · rintro v news' h' tk' F' N' ⟨g', s', tg', ts', n', r, t, rfl, h2, h3, rfl⟩
    refine ret g' s' tg' ts' n' r t h' tk' h2 h3 F' (cb_drop N' fun q hq => ?_)
    rcases List.mem_cons.mp hq with rfl | hq
    · exact .head _
    · exact .tail _ (.tail _ hq)
/-- a def's call taken: one text comes back, told by another word -/
theorem Gives.useE {k : Nat} {w : World} {f : Addr} {vs : List Value} {news : List (Addr × Obj)} {x y : Str} {p : Program} {loose : List Str} {mean : ExcName → Option Value} {mg mb : Str → Option Value} {dp un : Nat} {gd : Option (List Code)} {cn : Str} {cs : Scope} {a : Addr} {ccd : Value} {cl : List (Str × Addr)} {outer : List Env} {A₀ : Around} {base h₀ : Heap} {L : Addr} {m : Str → Option Value} {s : Shared} {Q E : Value → Shared → Prop}
    (G : Gives k w f vs news (fun v news' => news' = news ∧ ∃ t, v = .str x t)) (e : x = y)
    (B : Below A₀ base outer h₀) (F : Fr h₀ L s.heap m) (X : (Mine.hd.heap_39 w.params).In h₀) (N : News h₀ L s.heap news) (T : Top p loose mean mg mb h₀) (hk : cs.kind = .function) (hd : dp + k < recursionLimit) (hu : un + 8 * k < cLine)
    (ret : ∀ t h' tk', Fr h₀ L h' m → News h₀ L h' news → Q (.str y t) { s with heap := h', toks := tk' }) :
    wpAny (model PySem.Challenge.rw_xm0680_01.row.prog w) (ktrTop dp un gd cn cs L a ccd cl outer) (call (.ref f) vs) Q E s := by
  subst e
  exact Gives.useS G B F X N T hk hd hu ret
end Mine
end

section
open PySem PySem.W PySem.Spec PySem.Calls PyProof.Rows
set_option maxRecDepth 100000
set_option exponentiation.threshold 5000
namespace Mine
theorem list_ext {x y : Str} (h : x.cps.toList = y.cps.toList) : x = y := Str.ext' (Array.toList_inj.mp h)
theorem cat_list (x y : Str) : (x ++ y : Str).cps.toList = x.cps.toList ++ y.cps.toList := by rw [Str.cps_append]; simp
theorem lit_list (s : String) : (Str.ofString s).cps.toList = s.toList.map Char.toNat := by rw [Str.ofString_eq_toList]
theorem dec_list {n : Int} (h : 0 ≤ n) : (Str.ofString (toString n)).cps.toList = D 10 n.toNat := by
  obtain ⟨m, rfl⟩ := Int.eq_ofNat_of_zero_le h
  have e := text_ofNat m
  show (Str.ofString (toString (Int.ofNat m))).cps.toList = _
  rw [e]
  rfl
theorem dec_neg_list {n : Int} (h : 0 < n) : (Str.ofString (toString (0 - n))).cps.toList = 45 :: D 10 n.toNat := by
  have e : (0 - n) = Int.negSucc (n.toNat - 1) := by omega
  rw [e]
  have e2 : toString (Int.negSucc (n.toNat - 1)) = "-" ++ Nat.repr (n.toNat - 1 + 1) := rfl
  have e3 : n.toNat - 1 + 1 = n.toNat := by omega
  rw [e2, e3, lit_list, String.toList_append, List.map_append, Nat.toList_repr]
  rfl
theorem mp_pos : 10 ^ 31 ≤ MP := by
  unfold MP
  have h : (10 : Nat) ^ 31 ≤ 10 ^ 1200 := Nat.pow_le_pow_right (by decide) (by decide)
  generalize (10 : Nat) ^ 1200 = a at *
  simp only [Int.ofNat_eq_natCast]
  omega
theorem mp_mn : 16 * MP ≤ MN := by
  unfold MP MN
  have h : (16 : Nat) * 10 ^ 1200 ≤ 2 ^ 4000 := by decide +kernel
  generalize (10 : Nat) ^ 1200 = a at *
  generalize (2 : Nat) ^ 4000 = b at *
  simp only [Int.ofNat_eq_natCast]
  omega
theorem dec_figs {n : Nat} : (figs 10 1 n).cps.toList = D 10 n := by
  rw [figs_list (by decide) (by decide)]
  have := @D_len 10 n
  have e : 1 - (D 10 n).length = 0 := by omega
  rw [e]
  rfl
theorem E1 {n : Int} (h0 : 0 ≤ n) (h1 : n ≤ 10 ^ 30) : intT n = figs (Int.toNat 10) (Int.toNat 1) n.toNat := by
  have a := mp_pos
  have b := mp_mn
  rw [← intT_dec ⟨by omega, by omega⟩ ⟨by omega, by omega⟩]
  exact list_ext ((dec_list h0).trans dec_figs.symm)
theorem E1n {n : Int} (h0 : 0 < n) (h1 : n ≤ 10 ^ 30) : intT (0 - n) = Str.ofString "-" ++ figs (Int.toNat 10) (Int.toNat 1) n.toNat := by
  have a := mp_pos
  have b := mp_mn
  rw [← intT_dec ⟨by omega, by omega⟩ ⟨by omega, by omega⟩]
  refine list_ext ((dec_neg_list h0).trans ?_)
  rw [cat_list, lit_list]
  exact congrArg (List.cons 45) dec_figs.symm
/-- the figures of r ^ k - 1 -/
theorem D_top {r : Nat} (h1 : 1 < r) (h2 : r ≤ 16) : ∀ k, D r (r ^ (k + 1) - 1) = List.replicate (k + 1) (hexd (r - 1))
  | 0 => by
    rw [Nat.zero_add, Nat.pow_one, D_if h1 h2, if_pos (by omega)]
    rfl
  | k + 1 => by
    have ih := D_top h1 h2 k
    have hp : 1 ≤ r ^ (k + 1) := Nat.pow_pos (by omega)
    have hq : r ^ (k + 1 + 1) - 1 = r * (r ^ (k + 1) - 1) + (r - 1) := by
      rw [Nat.pow_succ, Nat.mul_sub, Nat.mul_one, Nat.mul_comm r]
      have : r ≤ r ^ (k + 1) * r := Nat.le_mul_of_pos_left r hp
      omega
    have hge : r ≤ r ^ (k + 1) := by
      rw [Nat.pow_succ]
      exact Nat.le_mul_of_pos_left r (Nat.pow_pos (by omega))
    have hd : (r * (r ^ (k + 1) - 1) + (r - 1)) / r = r ^ (k + 1) - 1 := by
      rw [Nat.mul_add_div (by omega), Nat.div_eq_of_lt (by omega)]
      rfl
    have hm : (r * (r ^ (k + 1) - 1) + (r - 1)) % r = r - 1 := by
      rw [Nat.mul_add_mod, Nat.mod_eq_of_lt (by omega)]
    have hn : ¬ r * (r ^ (k + 1) - 1) + (r - 1) < r := by
      have : r * 1 ≤ r * (r ^ (k + 1) - 1) := Nat.mul_le_mul_left r (by omega)
      omega
    rw [hq, D_if h1 h2, if_neg hn, hd, hm, ih, ← List.replicate_succ']
/-- the figures of r ^ k -/
theorem D_pow {r : Nat} (h1 : 1 < r) (h2 : r ≤ 16) : ∀ k, D r (r ^ k) = 49 :: List.replicate k 48
  | 0 => by
    rw [Nat.pow_zero, D_if h1 h2, if_pos h1]
    rfl
  | k + 1 => by
    have hp : 1 ≤ r ^ k := Nat.pow_pos (by omega)
    have hn : ¬ r ^ (k + 1) < r := by
      rw [Nat.pow_succ]
      have := Nat.le_mul_of_pos_left r hp
      omega
    have hd : r ^ (k + 1) / r = r ^ k := by rw [Nat.pow_succ, Nat.mul_div_cancel _ (by omega)]
    have hm : r ^ (k + 1) % r = 0 := by rw [Nat.pow_succ, Nat.mul_mod_left]
    rw [D_if h1 h2, if_neg hn, hd, hm, D_pow h1 h2 k, List.replicate_succ' (n := k)]
    rfl
theorem D_powf {r k f : Nat} (h1 : 1 < r) (h2 : r ≤ 16) (hf : f < r) : D r (r ^ (k + 1) + f) = 49 :: List.replicate k 48 ++ [hexd f] := by
  have hp : 1 ≤ r ^ k := Nat.pow_pos (by omega)
  have hge : r ≤ r ^ (k + 1) := by
    rw [Nat.pow_succ]
    exact Nat.le_mul_of_pos_left r hp
  have hd : (r ^ (k + 1) + f) / r = r ^ k := by
    rw [Nat.pow_succ, Nat.mul_comm, Nat.mul_add_div (by omega), Nat.div_eq_of_lt hf]
    rfl
  have hm : (r ^ (k + 1) + f) % r = f := by
    rw [Nat.pow_succ, Nat.mul_comm, Nat.mul_add_mod, Nat.mod_eq_of_lt hf]
  rw [D_if h1 h2, if_neg (by omega), hd, hm, D_pow h1 h2 k]
theorem nine_is : Str.ofString "9" = ⟨#[57]⟩ := by decide +kernel
theorem f_is : Str.ofString "f" = ⟨#[102]⟩ := by decide +kernel
theorem zero_is : Str.ofString "0" = ⟨#[48]⟩ := by decide +kernel
theorem mp1_nat : (MP - 1).toNat = 10 ^ 1200 - 1 := by
  unfold MP
  generalize (10 : Nat) ^ 1200 = a
  simp only [Int.ofNat_eq_natCast]
  omega
theorem mn1_nat : (MN - 1).toNat = 16 ^ 1000 - 1 := by
  unfold MN
  have e : (2 : Nat) ^ 4000 = 16 ^ 1000 := by
    rw [show (16 : Nat) = 2 ^ 4 from rfl, ← Nat.pow_mul]
  rw [e]
  generalize (16 : Nat) ^ 1000 = a
  simp only [Int.ofNat_eq_natCast]
  omega
theorem D_nines : D 10 (10 ^ 1200 - 1) = List.replicate 1200 57 := D_top (r := 10) (by decide) (by decide) 1199
theorem D_fs : D 16 (16 ^ 1000 - 1) = List.replicate 1000 102 := D_top (r := 16) (by decide) (by decide) 999
theorem E2 : intT (MP - 1) = Txt.mul (Str.ofString "9") 1200 := by
  have a := mp_pos
  have b := mp_mn
  rw [← intT_dec ⟨by omega, by omega⟩ ⟨by omega, by omega⟩]
  refine list_ext ((dec_list (by omega)).trans ?_)
  rw [mp1_nat, D_nines, nine_is, mul_one_list]
  rfl
theorem E2n : intT (0 - (MP - 1)) = Str.ofString "-" ++ Txt.mul (Str.ofString "9") 1200 := by
  have a := mp_pos
  have b := mp_mn
  rw [← intT_dec ⟨by omega, by omega⟩ ⟨by omega, by omega⟩]
  refine list_ext ((dec_neg_list (by omega)).trans ?_)
  rw [mp1_nat, D_nines, nine_is, cat_list, mul_one_list, lit_list]
  rfl
theorem E3 : intT (MN - 1) = Str.ofString "0x" ++ Txt.mul (Str.ofString "f") 1000 := by
  have a := mp_pos
  have b := mp_mn
  rw [← intT_hex ⟨by omega, by omega⟩ (by omega)]
  refine list_ext ((hex_list (by omega)).trans ?_)
  rw [mn1_nat, D_fs, f_is, cat_list, mul_one_list, lit_list]
  rfl
theorem E3n : intT (0 - (MN - 1)) = Str.ofString "-" ++ (Str.ofString "0x" ++ Txt.mul (Str.ofString "f") 1000) := by
  have a := mp_pos
  have b := mp_mn
  rw [← intT_hex ⟨by omega, by omega⟩ (by omega)]
  refine list_ext ((hex_neg_list (by omega)).trans ?_)
  rw [mn1_nat, D_fs, f_is, cat_list, cat_list, mul_one_list, lit_list, lit_list]
  rfl
@[irreducible] def H (far : Int) : Int := Int.ofNat (16 ^ far.toNat)
theorem h_facts {far : Int} (h : far ∈ [998, 999]) : MP ≤ H far ∧ 16 * H far ≤ 16 * MN ∧ H far + 16 ≤ MN ∧ far.toNat = (far - 1).toNat + 1 := by
  have hf : far = 998 ∨ far = 999 := by simpa using h
  have e : (2 : Nat) ^ 4000 = 16 ^ 1000 := by
    rw [show (16 : Nat) = 2 ^ 4 from rfl, ← Nat.pow_mul]
  have a1 : (10 : Nat) ^ 1200 ≤ 16 ^ 998 := by decide +kernel
  have a2 : (16 : Nat) ^ 998 ≤ 16 ^ 999 := Nat.pow_le_pow_right (by decide) (by decide)
  have a3 : (16 : Nat) ^ 999 + 16 ≤ 16 ^ 1000 := by decide +kernel
  unfold MP MN H
  rw [e]
  simp only [Int.ofNat_eq_natCast]
  rcases hf with rfl | rfl
  · show (((10 ^ 1200 : Nat) : Int) ≤ ((16 ^ 998 : Nat) : Int)) ∧ 16 * ((16 ^ 998 : Nat) : Int) ≤ 16 * ((16 ^ 1000 : Nat) : Int) ∧ ((16 ^ 998 : Nat) : Int) + 16 ≤ ((16 ^ 1000 : Nat) : Int) ∧ _
    generalize (10 : Nat) ^ 1200 = x1 at *
    generalize (16 : Nat) ^ 998 = x2 at *
    generalize (16 : Nat) ^ 999 = x3 at *
    generalize (16 : Nat) ^ 1000 = x4 at *
    exact ⟨by omega, by omega, by omega, rfl⟩
  · show (((10 ^ 1200 : Nat) : Int) ≤ ((16 ^ 999 : Nat) : Int)) ∧ 16 * ((16 ^ 999 : Nat) : Int) ≤ 16 * ((16 ^ 1000 : Nat) : Int) ∧ ((16 ^ 999 : Nat) : Int) + 16 ≤ ((16 ^ 1000 : Nat) : Int) ∧ _
    generalize (10 : Nat) ^ 1200 = x1 at *
    generalize (16 : Nat) ^ 998 = x2 at *
    generalize (16 : Nat) ^ 999 = x3 at *
    generalize (16 : Nat) ^ 1000 = x4 at *
    exact ⟨by omega, by omega, by omega, rfl⟩
theorem h_nat {far f : Int} (h : far ∈ [998, 999]) (h0 : 0 ≤ f) : (H far + f).toNat = 16 ^ ((far - 1).toNat + 1) + f.toNat := by
  rw [← (h_facts h).2.2.2]
  unfold H
  generalize (16 : Nat) ^ far.toNat = a
  simp only [Int.ofNat_eq_natCast]
  omega
theorem item_fig {f : Int} (h0 : 0 ≤ f) (h1 : f < 16) : Txt.item (Str.ofString "0123456789abcdef") f = ⟨#[hexd f.toNat]⟩ := by
  have e := item16 f.toNat (by omega)
  rwa [show ((f.toNat : Nat) : Int) = f by omega] at e
def farT (far f : Int) : Str := Str.ofString "0x1" ++ Txt.mul (Str.ofString "0") (far - 1) ++ Txt.item (Str.ofString "0123456789abcdef") f
theorem far_list {far f : Int} (h0 : 0 ≤ f) (h1 : f < 16) : (farT far f).cps.toList = 48 :: 120 :: (49 :: List.replicate (far - 1).toNat 48 ++ [hexd f.toNat]) := by
  unfold farT
  rw [item_fig h0 h1, cat_list, cat_list, zero_is, mul_one_list, lit_list]
  rfl
theorem E4 {far f : Int} (h : far ∈ [998, 999]) (h0 : 0 ≤ f) (h1 : f < 16) : intT (H far + f) = farT far f := by
  have a := mp_pos
  have b := mp_mn
  have c := h_facts h
  rw [← intT_hex ⟨by omega, by omega⟩ (by omega)]
  refine list_ext ((hex_list (by omega)).trans ?_)
  rw [h_nat h h0, D_powf (by decide) (by decide) (by omega), far_list h0 h1]
theorem E4n {far f : Int} (h : far ∈ [998, 999]) (h0 : 0 ≤ f) (h1 : f < 16) : intT (0 - (H far + f)) = Str.ofString "-" ++ farT far f := by
  have a := mp_pos
  have b := mp_mn
  have c := h_facts h
  rw [← intT_hex ⟨by omega, by omega⟩ (by omega)]
  refine list_ext ((hex_neg_list (by omega)).trans ?_)
  rw [h_nat h h0, D_powf (by decide) (by decide) (by omega), cat_list, far_list h0 h1, lit_list]
  rfl
theorem E5 : intT MN = Str.ofString ".." := (intT_far (by omega)).symm
theorem E5n : intT (0 - MN) = Str.ofString ".." := (intT_far (by omega)).symm
theorem slice_to_eq {x : Str} {j : Int} (h0 : 0 ≤ j) (h2 : j ≤ x.length) : (Txt.slice x none (some j)).cps.toList = x.cps.toList.take j.toNat := by
  have e := beq_iff_eq.mp (slice_closes_toL (x := x) h0 h2)
  rw [e]
  show ((x.cps.toList.drop 0).take (j - 0).toNat) = _
  rw [List.drop_zero, Int.sub_zero]
theorem mp_hex : intT MP = baseText "0x" 16 MP := by
  have a := mp_pos
  have b := mp_mn
  exact (intT_hex ⟨by omega, by omega⟩ (by omega)).symm
theorem mp_hexn : intT (0 - MP) = baseText "0x" 16 (0 - MP) := by
  have a := mp_pos
  have b := mp_mn
  exact (intT_hex ⟨by omega, by omega⟩ (by omega)).symm
theorem E6 : Txt.slice (intT MP) none (some 2) = Str.ofString "0x" := by
  have a := mp_pos
  have l := hex_list (n := MP) (by omega)
  refine list_ext ?_
  rw [mp_hex, slice_to_eq (by decide) (by rw [len_list, l]; simp; omega), l, lit_list]
  rfl
theorem E6n : Txt.slice (intT (0 - MP)) none (some 3) = Str.ofString "-0x" := by
  have a := mp_pos
  have l := hex_neg_list (n := MP) (by omega)
  refine list_ext ?_
  rw [mp_hexn, slice_to_eq (by decide) (by rw [len_list, l]; simp; omega), l, lit_list]
  rfl
theorem mp_size : (intT MP).length ≤ sizeLine ∧ (intT (0 - MP)).length ≤ sizeLine := by
  have a := mp_pos
  have b := mp_mn
  constructor
  · rw [mp_hex]; exact mn_hex (by omega) (by omega)
  · rw [mp_hexn]; exact mn_hex (by omega) (by omega)
end Mine
end

section
open PySem PySem.W PySem.Spec PySem.Calls PyProof.Rows
set_option maxRecDepth 100000
set_option maxHeartbeats 8000000
set_option exponentiation.threshold 5000
namespace Mine
theorem one3_use {w : World} {src th : Addr} {g sd : Int} {tg ts : Tok} {n nn : Nat} {news rest rest2 : List (Addr × Obj)} {i1 i2 i3 : Int} {t1 t2 t3 : Tok} {p : Program} {loose : List Str} {mean : ExcName → Option Value} {mg mb : Str → Option Value} {dp un : Nat} {gd : Option (List Code)} {cn : Str} {cs : Scope} {a : Addr} {ccd : Value} {cl : List (Str × Addr)} {outer : List Env} {A₀ : Around} {base h₀ : Heap} {L : Addr} {m : Str → Option Value} {s : Shared} {Q E : Value → Shared → Prop} {top : Int}
    (B : Below A₀ base outer h₀) (F : Fr h₀ L s.heap m) (X : (Mine.hd.heap_39 w.params).In h₀) (N : News h₀ L s.heap news) (T : Top p loose mean mg mb h₀) (hk : cs.kind = .function) (hd : dp + 4 < recursionLimit) (hu : un + 8 * 4 < cLine)
    (pk : Pick src (listOf #[.int g tg, .int sd ts] n) news rest) (pk2 : Pick th (listOf #[.int i1 t1, .int i2 t2, .int i3 t3] nn) rest rest2) (hS : Src g sd) (b1 : 0 ≤ i1 ∧ i1 ≤ top) (b2 : 0 ≤ i2 ∧ i2 ≤ top) (b3 : 0 ≤ i3 ∧ i3 ≤ top)
    (ret : ∀ (g' s' : Int) (tg' ts' : Tok) (n' : Nat) (r : Int) (t : Tok) h' tk', Src g' s' → 0 ≤ r → r ≤ top → Fr h₀ L h' m → News h₀ L h' ((src, listOf #[.int g' tg', .int s' ts'] n') :: rest2) → Q (.int r t) { s with heap := h', toks := tk' }) :
    wpAny (model PySem.Challenge.rw_xm0680_01.row.prog w) (ktrTop dp un gd cn cs L a ccd cl outer) (call (.ref 64) [.ref src, .ref th]) Q E s := by
  refine one_use (vs := [.int i1 t1, .int i2 t2, .int i3 t3]) (ns := [i1, i2, i3]) B F X N T hk hd hu pk pk2 hS (.cons _ _ (.cons _ _ (.cons _ _ .nil))) (by simp) (by simp) fun g' s' tg' ts' n' r t h' tk' h1 h2 F' N' => ?_
  have h3 : 0 ≤ r ∧ r ≤ top := by
    rcases List.mem_cons.mp h2 with rfl | h2
    · exact b1
    rcases List.mem_cons.mp h2 with rfl | h2
    · exact b2
    rcases List.mem_cons.mp h2 with rfl | h2
    · exact b3
    cases h2
  exact ret g' s' tg' ts' n' r t h' tk' h1 h3.1 h3.2 F' N'
theorem pow_mp {prog : Program} {w : World} {A : Around} {E : Value → Shared → Prop} {s : Shared} {t u : Tok} {Q : Value → Shared → Prop} (h : Q (.int MP s.toks) { s with toks := s.toks + 1 }) : wpAny (model prog w) A (binaryOp .Pow (.int 10 t) (.int 1200 u)) Q E s := by
  refine pow_int_small (by decide) (by decide) (by decide) ?_
  have e : (10 : Int) ^ (1200 : Int).toNat = MP := by unfold MP; exact (Int.natCast_pow 10 1200).symm
  rw [e]
  exact h
theorem pow_mn {prog : Program} {w : World} {A : Around} {E : Value → Shared → Prop} {s : Shared} {t u : Tok} {Q : Value → Shared → Prop} (h : Q (.int MN s.toks) { s with toks := s.toks + 1 }) : wpAny (model prog w) A (binaryOp .Pow (.int 2 t) (.int 4000 u)) Q E s := by
  refine pow_int_small (by decide) (by decide) (by decide) ?_
  have e : (2 : Int) ^ (4000 : Int).toNat = MN := by unfold MN; exact (Int.natCast_pow 2 4000).symm
  rw [e]
  exact h
theorem pow_h {prog : Program} {w : World} {A : Around} {E : Value → Shared → Prop} {s : Shared} {t u : Tok} {far : Int} {Q : Value → Shared → Prop} (hf : far ∈ [998, 999]) (h : Q (.int (H far) s.toks) { s with toks := s.toks + 1 }) : wpAny (model prog w) A (binaryOp .Pow (.int 16 t) (.int far u)) Q E s := by
  have hf' : far = 998 ∨ far = 999 := by simpa using hf
  refine pow_int_small (by omega) (by omega) (by decide) ?_
  have e : (16 : Int) ^ far.toNat = H far := by unfold H; exact (Int.natCast_pow 16 far.toNat).symm
  rw [e]
  exact h
theorem pow_30 {prog : Program} {w : World} {A : Around} {E : Value → Shared → Prop} {s : Shared} {t u : Tok} {Q : Value → Shared → Prop} (h : Q (.int 1000000000000000000000000000000 s.toks) { s with toks := s.toks + 1 }) : wpAny (model prog w) A (binaryOp .Pow (.int 10 t) (.int 30 u)) Q E s :=
  pow_int_small (by decide) (by decide) (by decide) h
theorem pow_ten {prog : Program} {w : World} {A : Around} {E : Value → Shared → Prop} {s : Shared} {t u : Tok} {e : Int} {Q : Value → Shared → Prop} (h0 : 0 ≤ e) (h1 : e < 30) (h : ∀ x : Int, 0 ≤ x → x ≤ 1000000000000000000000000000000 → Q (.int x s.toks) { s with toks := s.toks + 1 }) : wpAny (model prog w) A (binaryOp .Pow (.int 10 t) (.int e u)) Q E s := by
  refine pow_int_small h0 (by omega) (by decide) (h _ (Int.le_of_lt (Int.pow_pos (by decide))) ?_)
  have a : (10 : Nat) ^ e.toNat ≤ 10 ^ 30 := Nat.pow_le_pow_right (by decide) (by omega)
  have b : (10 : Int) ^ e.toNat = ((10 ^ e.toNat : Nat) : Int) := (Int.natCast_pow 10 e.toNat).symm
  rw [b]
  have c : (10 : Nat) ^ 30 = 1000000000000000000000000000000 := by decide
  omega
theorem ne_same {prog : Program} {w : World} {A : Around} {E : Value → Shared → Prop} {s : Shared} {x : Str} {t u : Tok} {Q : Value → Shared → Prop} (h : Q (.bool false) s) : wpAny (model prog w) A (compareOp .NotEq (.str x t) (.str x u)) Q E s := by
  refine ne_str ?_
  rw [show (x != x) = false by simp]
  exact h
end Mine
end

section
open PySem PySem.W PySem.Spec PySem.Calls PyProof.Rows
set_option maxRecDepth 100000
set_option maxHeartbeats 8000000
set_option exponentiation.threshold 5000
namespace Mine
local macro_rules | `(tactic| cell_enter) => `(tactic| (refine' enterOwn ?k1 ?k2 ?k3 ?k4 ?k5 ?kA ?kF ?kK ?k6 ?k7 ?k8 ?k9 ?kB ?kR ?kP ?_ ?c2 ?c3 ?c4 ?c5; (case kA => exact rfl); (case kF => exact rfl); (case kK => assumption); (case k1 => k_asm); (case k2 => k_asm); (case k3 => k_asm); (case k4 => k_asm); (case k5 => k_asm); (case kR => exact News.nil); (case kP => (intro _ h9; exact nomatch h9)); (case k6 => k_is); (case k7 => k_is); (case k8 => ktr_room); (case k9 => exact BindsTo.of_eq rfl); (case c5 => decide); (case kB => exact locs rfl); (case c2 => exact rfl); (case c3 => exact rfl); (case c4 => exact rfl); k_whole; intro g' L' h' FG' F' N' B' X' T'; (try dsimp only); (try k_lift B'); (try k_fold)))
local macro_rules | `(tactic| k_upd) => `(tactic| first | (refine' Pick.head ?a; (case a => k_all)) | (refine' Pick.tail ?a ?b; (case a => k_ne); (case b => k_upd)))
local macro_rules | `(tactic| walk_at "call ref") => `(tactic| (k_here; (with_reducible show wpAny _ _ (PySem.call (Value.ref 64) [Value.ref _, Value.ref _]) _ _ _); k_dflt (refine' one_use ?k1 ?k2 ?k3 ?k4 ?k5 ?kK ?kd ?ku ?kP ?kQ ?kS ?kI ?k0 ?kl ?_; (case k1 => k_asm); (case k2 => k_asm); (case k3 => k_asm); (case k4 => k_asm); (case k5 => k_asm); (case kK => first | exact rfl | assumption); (case kd => ktr_room); (case ku => ktr_units); (case kP => k_upd); (case kQ => k_upd); (case kS => assumption); (case kI => repeat' constructor); (case k0 => simp); (case kl => simp); k_whole; intro _ _ _ _ _ _ _ _ _ _ _ _ _; (try k_sweep); (try dsimp only); (try k_fold))))
local macro_rules | `(tactic| walk_at "call ref") => `(tactic| (k_here; (with_reducible show wpAny _ _ (PySem.call (Value.ref 64) [Value.ref _, Value.ref _]) _ _ _); k_dflt (refine' one3_use (top := 1000000000000000000000000000000) ?k1 ?k2 ?k3 ?k4 ?k5 ?kK ?kd ?ku ?kP ?kQ ?kS ?b1 ?b2 ?b3 ?_; (case k1 => k_asm); (case k2 => k_asm); (case k3 => k_asm); (case k4 => k_asm); (case k5 => k_asm); (case kK => first | exact rfl | assumption); (case kd => ktr_room); (case ku => ktr_units); (case kP => k_upd); (case kQ => k_upd); (case kS => assumption); (case b1 => constructor <;> omega); (case b2 => constructor <;> omega); (case b3 => constructor <;> omega); k_whole; intro _ _ _ _ _ _ _ _ _ _ _ _ _ _; (try k_sweep); (try dsimp only); (try k_fold))))
local macro_rules | `(tactic| walk_at "call ref") => `(tactic| (k_here; (with_reducible show wpAny _ _ (PySem.call (Value.ref 57) [Value.ref _, Value.int _ _]) _ _ _); k_dflt (refine' take_use ?k1 ?k2 ?k3 ?k4 ?k5 ?kK ?kd ?ku ?kP ?kS ?k0 ?kl ?_; (case k1 => k_asm); (case k2 => k_asm); (case k3 => k_asm); (case k4 => k_asm); (case k5 => k_asm); (case kK => first | exact rfl | assumption); (case kd => ktr_room); (case ku => ktr_units); (case kP => k_upd); (case kS => assumption); (case k0 => first | decide | assumption | omega); (case kl => first | decide +kernel | assumption); k_whole; intro _ _ _ _ _ _ _ _ _ _ _ _ _ _; (try k_sweep); (try dsimp only); (try k_fold))))
local macro_rules | `(tactic| walk_at "call ref") => `(tactic| (k_here; (with_reducible show wpAny _ _ (PySem.call (Value.ref 71) [Value.int _ _, Value.int _ _, Value.int _ _]) _ _ _); k_dflt (refine' Gives.useS (figures_gives _ _ _ _ _ _ _ _ ?h0 ?h1 ?hr ?h2 ?h3) ?k1 ?k2 ?k3 ?k4 ?k5 ?kK ?kd ?ku ?_; (case k1 => k_asm); (case k2 => k_asm); (case k3 => k_asm); (case k4 => k_asm); (case k5 => k_asm); (case kK => first | exact rfl | assumption); (case kd => ktr_room); (case ku => ktr_units); (case h0 => omega); (case h1 => omega); (case hr => decide); (case h2 => omega); (case h3 => omega); k_whole; intro _ _ _ _ _; (try dsimp only); (try k_fold))))
local macro_rules | `(tactic| walk_at "call ref") => `(tactic| (k_here; (with_reducible show wpAny _ _ (PySem.call (Value.ref 43) [Value.int _ _]) _ _ _); k_dflt (refine' Gives.useE (int_gives _ _ _ _) ?e ?k1 ?k2 ?k3 ?k4 ?k5 ?kK ?kd ?ku ?_; (case e => first | exact E2 | exact E2n | exact E3 | exact E3n | exact E5 | exact E5n | exact E4 (by assumption) (by assumption) (by assumption) | exact E4n (by assumption) (by assumption) (by assumption) | exact E1 (by assumption) (by assumption) | exact E1n (by assumption) (by assumption) | exact (rfl : intT MP = intT MP) | exact (rfl : intT (0 - MP) = intT (0 - MP))); (case k1 => k_asm); (case k2 => k_asm); (case k3 => k_asm); (case k4 => k_asm); (case k5 => k_asm); (case kK => first | exact rfl | assumption); (case kd => ktr_room); (case ku => ktr_units); k_whole; intro _ _ _ _ _; (try dsimp only); (try k_fold))))
local macro_rules | `(tactic| walk_at "exec For Tuple Name cons nil") => `(tactic| (k_here; (rename Fr _ _ _ _ => lF'); k_dflt (refine' For_turns ?F ?_ ?hs ?hE; (case F => exact lF'); (case hs => (intro _; rfl)); (case hE => passes_own); k_whole)))
theorem mul_far {prog : Program} {w : World} {A : Around} {E : Value → Shared → Prop} {s : Shared} {t u : Tok} {far : Int} {Q : Value → Shared → Prop} (hf : far ∈ [998, 999]) (h : ∀ t' k, (Txt.mul (Str.ofString "0") (far - 1)).length ≤ 998 → Q (.str (Txt.mul (Str.ofString "0") (far - 1)) t') { s with toks := k }) : wpAny (model prog w) A (binaryOp .Mult (.str (Str.ofString "0") t) (.int (far - 1) u)) Q E s := by
  have hf' : far = 998 ∨ far = 999 := by simpa using hf
  exact KXi.mul (n := 1) (by decide +kernel) (by decide) (by omega) (by omega) fun t' k _ h2 => h t' k (by have := h2 (by omega); omega)
theorem len_m : (Str.ofString "-").length = 1 := by decide +kernel
theorem len_0x : (Str.ofString "0x").length = 2 := by decide +kernel
theorem len_0x1 : (Str.ofString "0x1").length = 3 := by decide +kernel
theorem sz1 {n : Int} (h0 : 0 ≤ n) (h1 : n ≤ 1000000000000000000000000000000) : (Str.ofString "-").length + (figs (Int.toNat 10) (Int.toNat 1) n.toNat).length ≤ sizeLine := by
  have e : (10 : Nat) ^ 31 = 10000000000000000000000000000000 := by decide
  have h : n.toNat < 10 ^ 31 := by omega
  have := figs_len (r := 10) (few := 1) (k := 31) (by decide) (by decide) (by decide) h (by decide)
  rw [len_m, sizeLine_eq]
  have e2 : figs (Int.toNat 10) (Int.toNat 1) n.toNat = figs 10 1 n.toNat := rfl
  rw [e2]
  omega
theorem len_nines : (Txt.mul (Str.ofString "9") 1200).length = 1200 := by rw [len_list, nine_is, mul_one_list]; simp
theorem len_fs : (Txt.mul (Str.ofString "f") 1000).length = 1000 := by rw [len_list, f_is, mul_one_list]; simp
theorem sz2 : (Str.ofString "-").length + (Txt.mul (Str.ofString "9") 1200).length ≤ sizeLine := by rw [len_m, len_nines, sizeLine_eq]; decide
theorem sz3 : (Str.ofString "-").length + (Str.ofString "0x" ++ Txt.mul (Str.ofString "f") 1000).length ≤ sizeLine := by rw [strLen_append, len_m, len_0x, len_fs, sizeLine_eq]; decide
theorem sz4 {far f : Int} (hf : far ∈ [998, 999]) (h0 : 0 ≤ f) (h1 : f < 16) : (Str.ofString "-").length + (farT far f).length ≤ sizeLine := by
  have hf' : far = 998 ∨ far = 999 := by simpa using hf
  rw [len_m, len_list, far_list h0 h1, sizeLine_eq]
  simp
  omega
local macro_rules | `(tactic| walk_at "binaryOp Add str str") => `(tactic| (refine add_str (fun t' tk => ?_) ?sz; (case sz => first | exact sz1 (by assumption) (by assumption) | exact sz2 | exact sz3 | exact sz4 (by assumption) (by assumption) (by assumption))))
theorem gt_yes {prog : Program} {w : World} {A : Around} {E : Value → Shared → Prop} {s : Shared} {a b : Int} {t u : Tok} {Q : Value → Shared → Prop} (hb : b < a) (h : Q (.bool true) s) : wpAny (model prog w) A (compareOp .Gt (.int a t) (.int b u)) Q E s := by
  refine PyProof.Rows.gt_int ?_
  rw [decide_eq_true hb]
  exact h
theorem pos2 : 0 < MP - 1 := by have := mp_pos; omega
theorem pos3 : 0 < MN - 1 := by have := mp_pos; have := mp_mn; omega
theorem pos4 {far f : Int} (hf : far ∈ [998, 999]) (h0 : 0 ≤ f) : 0 < H far + f := by have := mp_pos; have := h_facts hf; omega
local macro_rules | `(tactic| walk_at "compareOp Gt int int") => `(tactic| (refine gt_yes ?hb ?_; (case hb => first | exact pos2 | exact pos3 | exact pos4 (by assumption) (by assumption))))
theorem two_same (x y : Str) : PySem.Spec.same (.list [.str x, .str y]) (.list [.str x, .str y]) = true := by
  simp [PySem.Spec.same, PySem.Spec.sameAll]
theorem two_mix (x y : Str) : SeqAt.noMix (.list [.str x, .str y]) (.list [.str x, .str y]) = true := by
  simp [SeqAt.noMix, SeqAt.noMixAll]
theorem eq_two {prog : Program} {w : World} {A : Around} {E : Value → Shared → Prop} {s : Shared} {a b : Addr} {x y : Str} {t1 t2 u1 u2 : Tok} {Q : Value → Shared → Prop} (hs : SeqAt.shaped (.list [.str x, .str y]) = true) (ha : s.heap.IsList a [Value.str x t1, Value.str y t2].toArray) (hb : s.heap.IsList b [Value.str x u1, Value.str y u2].toArray) (hu : A.units + 64 < cLine)
    (h : Q (.bool true) s) : wpAny (model prog w) A (compareOp .Eq (.ref a) (.ref b)) Q E s :=
  eq_dataH_same (reads_newData (ds := [.str x, .str y]) ha (.cons (.str _ _) (.cons (.str _ _) .nil))) (reads_newData (ds := [.str x, .str y]) hb (.cons (.str _ _) (.cons (.str _ _) .nil))) hs hs hu (two_mix x y) (by rw [two_same]; exact h)
theorem shape_dots : SeqAt.shaped (.list [.str (Str.ofString ".."), .str (Str.ofString "..")]) = true := by decide +kernel
theorem shape_hex : SeqAt.shaped (.list [.str (Str.ofString "0x"), .str (Str.ofString "-0x")]) = true := by decide +kernel
local macro_rules | `(tactic| walk_at "compareOp Eq ref ref") => `(tactic| (k_here; k_dflt (refine' eq_two ?hs ?ha ?hb ?hu ?_; (case ha => exact News.isList (by k_asm) (by k_mem)); (case hb => exact News.isList (by k_asm) (by k_mem)); (case hs => first | exact shape_dots | exact shape_hex); (case hu => ktr_units))))
local macro_rules | `(tactic| walk_at "subscriptTail") => `(tactic| ((with_reducible show wpAny _ _ (subscriptTail _ (Expr.Slice none (some _) none _) (Value.str (intT _) _) (Value.ref _)) _ _ _); (with_reducible rename Fr _ _ _ _ => F'); (with_reducible rename News _ _ _ _ => N'); (generalize hz9 : intT _ = z9); (refine slice_strN_ns (hsz := ?hsz) (s := ⟨_, _, _, _, _⟩) F' N' ?_); (case hsz => (subst hz9; first | exact mp_size.1 | exact mp_size.2)); intro _ _ _ _ _; subst hz9; first | rw [E6] | rw [E6n]))
local macro_rules | `(tactic| walk_at "subscriptTail Call Name cons nil Slice str ref") => `(tactic| ((with_reducible show wpAny _ _ (subscriptTail _ (Expr.Slice none (some _) none _) (Value.str (intT _) _) (Value.ref _)) _ _ _); (with_reducible rename Fr _ _ _ _ => F'); (with_reducible rename News _ _ _ _ => N'); (generalize hz9 : intT _ = z9); (refine slice_strN_ns (hsz := ?hsz) (s := ⟨_, _, _, _, _⟩) F' N' ?_); (case hsz => (subst hz9; first | exact mp_size.1 | exact mp_size.2)); intro _ _ _ _ _; subst hz9; first | rw [E6] | rw [E6n]))
local macro_rules | `(tactic| walk_at "binaryOp Mult str int") => `(tactic| (refine mul_far (by assumption) ?_; intro _ _ _))
local macro_rules | `(tactic| walk_at "binaryOp Pow int int") => `(tactic| first | refine pow_mp ?_ | refine pow_mn ?_ | refine pow_30 ?_ | refine pow_h (by assumption) ?_ | (refine pow_ten (by assumption) (by assumption) ?_; intro _ _ _))
local macro_rules | `(tactic| walk_at "compareOp NotEq str str") => `(tactic| first | refine ne_same ?_ | (unfold farT; refine ne_same ?_))
theorem nums_gives (w : World) (src : Addr) (g s : Int) (tg ts : Tok) (n : Nat) (hS : Src g s) :
    Gives 16 w 92 [.ref src] [(src, listOf #[.int g tg, .int s ts] n)] (fun v news' => news' = [] ∧ v = .bool true) := by
  unfold Gives
  w_top off
  k_fill
  intro p loose mean mg mb dp un gd cn cs a ccd cl outer A₀ base h₀ L m s₁ Q E B F X N T hk hd hu hret
  refine wpAny_call ?_
  k_dflt cell_enter
  have hmp := mp_pos
  have hmn := mp_mn
  k_steps
  all_goals exact hret _ [] _ _ (by assumption) News.nil ⟨rfl, rfl⟩
end Mine
end

section
open PySem PySem.W PySem.Spec PySem.Calls PyProof.Rows
set_option maxRecDepth 100000
set_option maxHeartbeats 8000000
set_option exponentiation.threshold 5000
namespace Mine
theorem D_127 : D 16 127 = [55, 102] := by decide +kernel
theorem octT_127 : (octT (Int.toNat 127)).cps.toList = [92, 120, 55, 102] := by
  show (Str.ofString "\\x" ++ figs 16 2 127).cps.toList = _
  rw [cat_list, figs_list (by decide) (by decide), D_127, lit_list]
  rfl
theorem first_octs : octsJ [127, 36] = Str.ofString "\\x7f\\$" := by
  refine list_ext ?_
  show (octT (Int.toNat 127) ++ Str.ofString "" ++ octT (Int.toNat 36)).cps.toList = _
  rw [cat_list, cat_list, octT_127]
  decide +kernel
/-- octets_text over a bytes object made of ints -/
theorem octs_of (w : World) (ns : List Int) (tb : Tok) (news : List (Addr × Obj)) (hr : ∀ n ∈ ns, 0 ≤ n ∧ n < 256) (hl : ns.length ≤ 8) :
    Gives 6 w 22 [.bytes (byteArr ns) tb] news (fun v news' => news' = news ∧ ∃ t, v = .str (octsJ ns) t) := by
  have h := octets_gives w (byteArr ns) tb news (by rw [byteArr_size]; exact hl)
  rw [KBa.ints_make hr] at h
  exact h
end Mine
end

section
open PySem PySem.W PySem.Spec PySem.Calls PyProof.Rows
set_option maxRecDepth 100000
set_option maxHeartbeats 8000000
namespace Mine
abbrev LoopS := (Int × Int × Tok × Tok × Nat) × (List Value × List Int × Nat)
abbrev ledS (q l : Addr) (c : LoopS) : List (Addr × Obj) := [(q, listOf #[.int c.1.1 c.1.2.2.1, .int c.1.2.1 c.1.2.2.2.1] c.1.2.2.2.2), (l, listOf c.2.1.toArray c.2.2.2)]
structure OctInv (pre : List Int) (ns : List Int) : Prop where
  len : ns.length = pre.length
  all : ∀ n ∈ ns, 0 ≤ n ∧ n < 256
abbrev factS (c : LoopS) : Prop := Src c.1.1 c.1.2.1 ∧ IntsAre c.2.1 c.2.2.1
abbrev invS (pre : List Int) (c : LoopS) : Prop := OctInv pre c.2.2.1
theorem range8 {r : Int} (h : r ∈ [1, 0, 2, 3, 4, 5, 6, 7, 8]) : 0 ≤ r ∧ r ≤ 8 := by
  simp only [List.mem_cons, List.not_mem_nil, or_false] at h
  omega
theorem range8_small {r : Int} (h : r ∈ [1, 0, 2, 3, 4, 5, 6, 7, 8]) : Builtin.Range.small 0 r 1 = true ∧ Builtin.Range.rangeSize 0 r 1 = ((r.toNat : Nat) : Int) := by
  simp only [List.mem_cons, List.not_mem_nil, or_false] at h
  rcases h with rfl | rfl | rfl | rfl | rfl | rfl | rfl | rfl | rfl <;> decide +kernel
theorem law_loop {prog : Program} {w : World} {A : Around} {E : Value → Shared → Prop} {s : Shared} {env : Env} {h₀ : Heap} {x : Str} {body : List Stmt} {Q : Flow → Shared → Prop} {ra q l : Addr} {r g sd : Int} {t₀ u₀ v₀ tg ts : Tok} {n1 : Nat} {D : Addr × Obj} {m₀ : Str → Option Value}
    (hh : A.handled = none) (hr : IsRange s.heap ra 0 r 1 t₀ u₀ v₀) (hm : r ∈ [1, 0, 2, 3, 4, 5, 6, 7, 8]) (F : Fr h₀ env.locals s.heap m₀) (N : News h₀ env.locals s.heap [(q, listOf #[.int g tg, .int sd ts] n1), D, (l, listOf #[] 0)]) (hS : Src g sd)
    (turn : ∀ (g sd : Int) (tg ts : Tok) (n1 : Nat) (vs : List Value) (ns : List Int) (n2 : Nat) (pre : List Int) (k : Int) t (u : Str → Option Value) h tk own, ns.length < 8 → OwnOff own [q, l] → Src g sd → IntsAre vs ns → OctInv pre ns →
      Fr h₀ env.locals h (fun y => if y = x then some (.int k t) else m₀ y) → News h₀ env.locals h ((q, listOf #[.int g tg, .int sd ts] n1) :: (l, listOf vs.toArray n2) :: own) →
      wpAny (model prog w) A (execs body env) (InvPostN h₀ env.locals (KstS (ledS q l) (fun _ => []) factS x [] m₀ invS (pre ++ [k])) own [q, l] { s with heap := h, toks := tk } Q) E { s with heap := h, toks := tk })
    (done : ∀ (g sd : Int) (tg ts : Tok) (n1 : Nat) (vs : List Value) (ns : List Int) (n2 : Nat) (u : Str → Option Value) h tk, Src g sd → IntsAre vs ns → ns.length ≤ 8 → (∀ n ∈ ns, 0 ≤ n ∧ n < 256) → Fr h₀ env.locals h (fun y => if y = x then u y else m₀ y) → News h₀ env.locals h [(q, listOf #[.int g tg, .int sd ts] n1), (l, listOf vs.toArray n2)] → Q .next { s with heap := h, toks := tk }) :
    wpAny (model prog w) A (pyIter (.ref ra)) (fun it s₂ => LoopAtV prog w A h₀ env x body Q E it s₂) E s := by
  have h8 := range8 hm
  refine kst_range (σ := LoopS) (n := r.toNat) (ledS q l) (fun _ => []) factS [] invS ((g, sd, tg, ts, n1), ([], [], 0)) hh hr (range8_small hm).1 (range8_small hm).2 F (fun p hp => N p ?_) ⟨hS, .nil⟩ (fun _ h => nomatch h) ⟨rfl, fun _ h => nomatch h⟩ ?_ ?_
  · rcases List.mem_cons.mp hp with rfl | hp
    · exact .head _
    · rw [List.mem_singleton.mp hp]
      exact .tail _ (.tail _ (.head _))
  · rintro ⟨⟨g, sd, tg, ts, n1⟩, vs, ns, n2⟩ pre k t u h tk own _ hlt hoff hf hP F₁ N₁
    exact turn g sd tg ts n1 vs ns n2 pre k t u h tk own (by have := hP.len; dsimp only at this; omega) hoff hf.1 hf.2 hP F₁ N₁
  · rintro ⟨⟨g, sd, tg, ts, n1⟩, vs, ns, n2⟩ u h tk hf hP F₁ N₁
    exact done g sd tg ts n1 vs ns n2 u h tk hf.1 hf.2 (by have := hP.len; rw [rangeKs_length] at this; dsimp only at this; omega) hP.all F₁ N₁
theorem turn_end {h₀ h' : Heap} {L q l : Addr} {m₀ m' : Str → Option Value} {g sd : Int} {tg ts : Tok} {n1 n2 tk : Nat} {vs : List Value} {ns : List Int} {own : List (Addr × Obj)} {pre : List Int} {k o : Int} {x : Str} {t : Tok} {s₁ : Shared} {news : List (Addr × Obj)}
    (F : Fr h₀ L h' m') (N : News h₀ L h' news) (h1 : (q, (listOf #[.int g tg, .int sd ts] n1 : Obj)) ∈ news) (h2 : (l, (listOf (vs.toArray.push (.int o t)) n2 : Obj)) ∈ news) (h3 : ∀ p ∈ own, p ∈ news) (hS : Src g sd) (hi : IntsAre vs ns) (hP : OctInv pre ns) (ho : 0 ≤ o ∧ o < 256) (hr : ∀ z, z ≠ x → m' z = m₀ z) :
    InvEndN h₀ L (KstS (ledS q l) (fun _ => []) factS x [] m₀ invS (pre ++ [k])) own [q, l] s₁ { s₁ with heap := h', toks := tk } := by
  rw [List.push_toArray] at h2
  refine kst_end (σ := LoopS) ((g, sd, tg, ts, n1), (vs ++ [.int o t], ns ++ [o], n2)) F N (fun p hp => ?_) h3 rfl ⟨hS, IntsAre.append hi (.cons _ _ .nil)⟩ (fun _ h => nomatch h) (fun z hz _ _ => hr z hz) ⟨by simp [hP.len], fun n hn => ?_⟩
  · rcases List.mem_cons.mp hp with rfl | hp
    · exact h1
    · rw [List.mem_singleton.mp hp]
      exact h2
  · rcases List.mem_append.mp hn with hn | hn
    · exact hP.all n hn
    · rw [List.mem_singleton.mp hn]
      exact ho
end Mine
end

open PySem PySem.W PySem.Spec PySem.Calls PyProof.Rows
set_option maxRecDepth 100000
set_option maxHeartbeats 8000000
set_option exponentiation.threshold 5000
open Mine
local macro_rules | `(tactic| k_upd) => `(tactic| first | (refine' Pick.head ?a; (case a => k_all)) | (refine' Pick.tail ?a ?b; (case a => k_ne); (case b => k_upd)))
local macro_rules | `(tactic| walk_at "call ref") => `(tactic| (k_here; (with_reducible show wpAny _ _ (PySem.call (Value.ref 64) [Value.ref _, Value.ref _]) _ _ _); k_dflt (refine' one_use ?k1 ?k2 ?k3 ?k4 ?k5 ?kK ?kd ?ku ?kP ?kQ ?kS ?kI ?k0 ?kl ?_; (case k1 => k_asm); (case k2 => k_asm); (case k3 => k_asm); (case k4 => k_asm); (case k5 => k_asm); (case kK => first | exact rfl | assumption); (case kd => ktr_room); (case ku => ktr_units); (case kP => k_upd); (case kQ => k_upd); (case kS => first | assumption | exact Src.mk (by assumption) (by assumption) (by assumption)); (case kI => repeat' constructor); (case k0 => simp); (case kl => simp); k_whole; intro _ _ _ _ _ _ _ _ _ _ _ _ _; (try k_sweep); (try dsimp only); (try k_fold))))
local macro_rules | `(tactic| walk_at "call ref") => `(tactic| (k_here; (with_reducible show wpAny _ _ (PySem.call (Value.ref 57) [Value.ref _, Value.int _ _]) _ _ _); k_dflt (refine' take_use ?k1 ?k2 ?k3 ?k4 ?k5 ?kK ?kd ?ku ?kP ?kS ?k0 ?kl ?_; (case k1 => k_asm); (case k2 => k_asm); (case k3 => k_asm); (case k4 => k_asm); (case k5 => k_asm); (case kK => first | exact rfl | assumption); (case kd => ktr_room); (case ku => ktr_units); (case kP => k_upd); (case kS => first | assumption | exact Src.mk (by assumption) (by assumption) (by assumption)); (case k0 => first | decide | assumption | omega); (case kl => first | decide +kernel | assumption); k_whole; intro _ _ _ _ _ _ _ _ _ _ _ _ _ _; (try k_sweep); (try dsimp only); (try k_fold))))
local macro_rules | `(tactic| walk_at "call ref") => `(tactic| (k_here; (with_reducible show wpAny _ _ (PySem.call (Value.ref 71) [Value.int _ _, Value.int _ _, Value.int _ _]) _ _ _); k_dflt (refine' Gives.useS (figures_gives _ _ _ _ _ _ _ _ ?h0 ?h1 ?hr ?h2 ?h3) ?k1 ?k2 ?k3 ?k4 ?k5 ?kK ?kd ?ku ?_; (case k1 => k_asm); (case k2 => k_asm); (case k3 => k_asm); (case k4 => k_asm); (case k5 => k_asm); (case kK => first | exact rfl | assumption); (case kd => ktr_room); (case ku => ktr_units); (case h0 => omega); (case h1 => omega); (case hr => decide); (case h2 => omega); (case h3 => omega); k_whole; intro _ _ _ _ _; (try dsimp only); (try k_fold))))
local macro_rules | `(tactic| walk_at "call ref") => `(tactic| (k_here; (with_reducible show wpAny _ _ (PySem.call (Value.ref 29) [Value.int _ _, Value.int _ _]) _ _ _); k_dflt (refine' Gives.useS (hex_gives _ _ _ _ _ _ ?h0 ?h1 ?h2 ?h3) ?k1 ?k2 ?k3 ?k4 ?k5 ?kK ?kd ?ku ?_; (case k1 => k_asm); (case k2 => k_asm); (case k3 => k_asm); (case k4 => k_asm); (case k5 => k_asm); (case kK => first | exact rfl | assumption); (case kd => ktr_room); (case ku => ktr_units); (case h0 => omega); (case h1 => omega); (case h2 => omega); (case h3 => omega); k_whole; intro _ _ _ _ _; (try dsimp only); (try k_fold))))
local macro_rules | `(tactic| walk_at "call ref") => `(tactic| (k_here; (with_reducible show wpAny _ _ (PySem.call (Value.ref 22) [Value.bytes _ _]) _ _ _); k_dflt (refine' Gives.useE (octs_of _ [127, 36] _ _ ?hr ?hz) first_octs ?k1 ?k2 ?k3 ?k4 ?k5 ?kK ?kd ?ku ?_; (case hr => decide); (case hz => decide); (case k1 => k_asm); (case k2 => k_asm); (case k3 => k_asm); (case k4 => k_asm); (case k5 => k_asm); (case kK => first | exact rfl | assumption); (case kd => ktr_room); (case ku => ktr_units); k_whole; intro _ _ _ _ _; (try k_sweep); (try dsimp only); (try k_fold))))
local macro_rules | `(tactic| walk_at "call ref") => `(tactic| (k_here; (with_reducible show wpAny _ _ (PySem.call (Value.ref 50) [Value.ref _]) _ _ _); k_dflt (refine' pool_gives _ _ _ _ ?hi ?hlen _ _ _ _ _ _ _ _ _ _ _ _ _ _ _ _ _ _ _ _ _ _ ?k1 ?k2 ?k3 ?k5 ?kK ?kd ?ku ?hL ?_; (case k1 => k_asm); (case k2 => k_asm); (case k3 => k_asm); (case k5 => k_asm); (case kK => first | exact rfl | assumption); (case kd => ktr_room); (case ku => ktr_units); (case hL => assumption); (case hi => assumption); (case hlen => (have h9 := len_ints_list (by lay_of); omega)); k_whole; intro _ _ _ _ _ _ _ _ _ _ _ _ _; (try k_sweep); (try dsimp only); (try k_fold))))
local macro_rules | `(tactic| walk_at "exec For Name Call cons nil") => `(tactic| (k_here; (rename Fr _ _ _ _ => lF'); k_dflt (refine' For_invVF ?F ?k1 ?k2 ?_ ?hs ?hE; (case F => exact lF'); (case k1 => exact rfl); (case k2 => exact rfl); (case hs => (intro _; rfl)); (case hE => passes_own); k_whole)))
local macro_rules | `(tactic| walk_at "call type:range") => `(tactic| ((rename Fr _ _ _ _ => F'); (rename News _ _ _ _ => N'); (with_unfolding_all refine range1_rows F' N' ?_); intro _ _ _ _ _ _ _ _ _))
local macro_rules | `(tactic| walk_at "compareOp NotEq str str") => `(tactic| (refine ne_same ?_))
theorem Mine.oct_in {o x : Int} (h : o ∈ [9, 10, 13, 34, 36, 92, 31, 32, 126, 127, 39, x]) (h0 : 0 ≤ x) (h1 : x < 256) : 0 ≤ o ∧ o < 256 := by
  simp only [List.mem_cons, List.not_mem_nil, or_false] at h
  omega
local macro_rules | `(tactic| walk_at "call ref") => `(tactic| (k_here; (with_reducible show wpAny _ _ (PySem.call (Value.ref 22) [Value.bytes (byteArr _) _]) _ _ _); k_dflt (refine' Gives.useS (octs_of _ _ _ _ ?hr ?hz) ?k1 ?k2 ?k3 ?k4 ?k5 ?kK ?kd ?ku ?_; (case hr => assumption); (case hz => assumption); (case k1 => k_asm); (case k2 => k_asm); (case k3 => k_asm); (case k4 => k_asm); (case k5 => k_asm); (case kK => first | exact rfl | assumption); (case kd => ktr_room); (case ku => ktr_units); k_whole; intro _ _ _ _ _; (try k_sweep); (try dsimp only); (try k_fold))))
local macro_rules | `(tactic| walk_at "call type:bytes") => `(tactic| (k_here; (with_reducible show wpAny _ _ (PySem.call (Value.type "bytes") [Value.ref _]) _ _ _); k_dflt (refine' KBa.make_K ?kF ?kN ?kh ?kl ?ki ?kr ?kn ?_; (case kF => k_asm); (case kN => k_asm); (case kh => exact rfl); (case kl => exact News.isList (by k_asm) (by k_mem)); (case ki => assumption); (case kr => assumption); (case kn => omega); k_whole); intro _ _ _ _ _ _; (try k_sweep)))
theorem Mine.code_in {r x : Int} (h : r ∈ [0, 31, 32, 39, 92, 126, 127, x]) (h0 : 0 ≤ x) (h1 : x < 128) : 0 ≤ r ∧ r < 1114112 := by
  simp only [List.mem_cons, List.not_mem_nil, or_false] at h
  omega
local macro_rules | `(tactic| walk_at "call ref") => `(tactic| (k_here; (with_reducible show wpAny _ _ (PySem.call (Value.ref 36) [Value.int _ _]) _ _ _); k_dflt (refine' Gives.useS (char_gives _ _ _ _ ?h0 ?h1) ?k1 ?k2 ?k3 ?k4 ?k5 ?kK ?kd ?ku ?_; (case k1 => k_asm); (case k2 => k_asm); (case k3 => k_asm); (case k4 => k_asm); (case k5 => k_asm); (case kK => first | exact rfl | assumption); (case kd => ktr_room); (case ku => ktr_units); (case h0 => first | omega | exact (code_in (by assumption) (by assumption) (by assumption)).1); (case h1 => first | omega | exact (code_in (by assumption) (by assumption) (by assumption)).2); k_whole; intro _ _ _ _ _; (try dsimp only); (try k_fold))))
local macro_rules | `(tactic| walk_at "call ref") => `(tactic| (k_here; (with_reducible show wpAny _ _ (PySem.call (Value.ref 85) [Value.int _ _]) _ _ _); k_dflt (refine' Gives.useS (sign_gives _ _ _ _ ?h0 ?h1) ?k1 ?k2 ?k3 ?k4 ?k5 ?kK ?kd ?ku ?_; (case k1 => k_asm); (case k2 => k_asm); (case k3 => k_asm); (case k4 => k_asm); (case k5 => k_asm); (case kK => first | exact rfl | assumption); (case kd => ktr_room); (case ku => ktr_units); (case h0 => first | omega | exact (code_in (by assumption) (by assumption) (by assumption)).1); (case h1 => first | omega | exact (code_in (by assumption) (by assumption) (by assumption)).2); k_whole; intro _ _ _ _ _; (try dsimp only); (try k_fold))))
local macro_rules | `(tactic| walk_at "call ref") => `(tactic| (k_here; (with_reducible show wpAny _ _ (PySem.call (Value.ref 78) [Value.int _ _]) _ _ _); k_dflt (refine' Gives.useS (octet_gives _ _ _ _ ?h0 ?h1) ?k1 ?k2 ?k3 ?k4 ?k5 ?kK ?kd ?ku ?_; (case k1 => k_asm); (case k2 => k_asm); (case k3 => k_asm); (case k4 => k_asm); (case k5 => k_asm); (case kK => first | exact rfl | assumption); (case kd => ktr_room); (case ku => ktr_units); (case h0 => omega); (case h1 => omega); k_whole; intro _ _ _ _ _; (try dsimp only); (try k_fold))))
theorem Mine.carried_strs : ∀ {ys : List Value} {ns : List Int}, CarriedAll ys (ns.map fun k => PyData.str (octT k.toNat)) → StrsAre ys (octsT ns)
  | _, [], h => by cases h; exact .nil
  | _, n :: r, h => by
    cases h with
    | cons a b => cases a; exact .cons _ _ (Mine.carried_strs b)
local macro_rules | `(tactic| walk_at "InvEndN") => `(tactic| (refine' turn_end ?F ?N ?h1 ?h2 ?h3 ?hS ?hi ?hP ?ho ?hr; (case F => assumption); (case N => assumption); (case h1 => k_mem); (case h2 => k_mem); (case h3 => (intro p9 h9; first | exact .tail _ (.tail _ h9) | exact List.Mem.tail _ h9 | simp [h9])); (case hS => assumption); (case hi => assumption); (case hP => assumption); (case ho => exact oct_in (by assumption) (by assumption) (by assumption)); (case hr => (intro z hz; exact if_neg hz))))
theorem Mine.octs_join2 {prog : Program} {w : World} {A : Around} {E : Value → Shared → Prop} {s : Shared} {l : Addr} {vs : List Value} {t : Tok} {ns : List Int} {Q : Value → Shared → Prop}
    (hL : s.heap.IsList l vs.toArray) (hf : StrsAre vs (octsT ns)) (hn : ∀ n ∈ ns, 0 ≤ n ∧ n < 256) (hl : ns.length ≤ 8) (h : ∀ t' k, Q (.str (octsJ ns) t') { s with toks := k }) :
    wpAny (model prog w) A (call (.builtin "str.join") [.str (Str.ofString "") t, .ref l]) Q E s := by
  refine join_list (items := vs.toArray) hL (by simpa using hf) ?_ h
  have h1 := octs_sum ns hn
  have h2 : (Str.ofString "").length = 0 := by decide +kernel
  rw [h2]
  omega
local macro_rules | `(tactic| walk_at "call builtin:str.join") => `(tactic| (refine' octs_join2 ?hL ?hf ?hn ?hl ?_; (case hL => exact News.isList (by k_asm) (by k_mem)); (case hf => assumption); (case hn => assumption); (case hl => assumption); intro _ _; (try dsimp only)))
theorem Mine.pow_26 {prog : Program} {w : World} {A : Around} {E : Value → Shared → Prop} {s : Shared} {t u : Tok} {Q : Value → Shared → Prop} (h : Q (.int 67108864 s.toks) { s with toks := s.toks + 1 }) : wpAny (model prog w) A (binaryOp .Pow (.int 2 t) (.int 26 u)) Q E s :=
  pow_int_small (by decide) (by decide) (by decide) h
theorem Mine.eq_same {prog : Program} {w : World} {A : Around} {E : Value → Shared → Prop} {s : Shared} {x : Str} {t u : Tok} {Q : Value → Shared → Prop} (h : Q (.bool true) s) : wpAny (model prog w) A (compareOp .Eq (.str x t) (.str x u)) Q E s := by
  refine eq_str ?_
  rw [show (x == x) = true by simp]
  exact h
theorem Mine.nums_use {w : World} {src : Addr} {g sd : Int} {tg ts : Tok} {n : Nat} {news : List (Addr × Obj)} {p : Program} {loose : List Str} {mean : ExcName → Option Value} {mg mb : Str → Option Value} {dp un : Nat} {gd : Option (List Code)} {cn : Str} {cs : Scope} {a : Addr} {ccd : Value} {cl : List (Str × Addr)} {outer : List Env} {A₀ : Around} {base h₀ : Heap} {L : Addr} {m : Str → Option Value} {s : Shared} {Q E : Value → Shared → Prop}
    (B : Below A₀ base outer h₀) (F : Fr h₀ L s.heap m) (X : (Mine.hd.heap_39 w.params).In h₀) (N : News h₀ L s.heap news) (T : Top p loose mean mg mb h₀) (hk : cs.kind = .function) (hd : dp + 16 < recursionLimit) (hu : un + 8 * 16 < cLine)
    (pk : (src, (listOf #[.int g tg, .int sd ts] n : Obj)) ∈ news) (hS : Src g sd) (ret : ∀ h' tk', Fr h₀ L h' m → News h₀ L h' [] → Q (.bool true) { s with heap := h', toks := tk' }) :
    wpAny (model PySem.Challenge.rw_xm0680_01.row.prog w) (ktrTop dp un gd cn cs L a ccd cl outer) (call (.ref 92) [.ref src]) Q E s := by
  refine nums_gives w src g sd tg ts n hS _ _ _ _ _ _ _ _ _ _ _ _ _ _ _ _ _ _ _ _ _ _ B F X (cb_drop N fun q hq => ?_) T hk hd hu ?_
  · rw [List.mem_singleton.mp hq]
    exact pk
  · rintro v news' h' tk' F' N' ⟨e, rfl⟩
    subst e
    exact ret h' tk' F' N'
local macro_rules | `(tactic| walk_at "binaryOp Pow int int") => `(tactic| refine pow_26 ?_)
theorem Mine.eq_figs {prog : Program} {w : World} {A : Around} {E : Value → Shared → Prop} {s : Shared} {a b : Nat} {t u : Tok} {Q : Value → Shared → Prop} (h : Q (.bool true) s) : wpAny (model prog w) A (compareOp .Eq (.str (figs 16 a b) t) (.str (figs (Int.toNat 16) a b) u)) Q E s :=
  eq_same h
local macro_rules | `(tactic| walk_at "compareOp Eq str str") => `(tactic| refine eq_figs ?_)
local macro_rules | `(tactic| walk_at "call ref") => `(tactic| (k_here; (with_reducible show wpAny _ _ (PySem.call (Value.ref 64) [Value.ref _, Value.ref _]) _ _ _); k_dflt (refine' one3_use (top := 67108864) ?k1 ?k2 ?k3 ?k4 ?k5 ?kK ?kd ?ku ?kP ?kQ ?kS ?b1 ?b2 ?b3 ?_; (case k1 => k_asm); (case k2 => k_asm); (case k3 => k_asm); (case k4 => k_asm); (case k5 => k_asm); (case kK => first | exact rfl | assumption); (case kd => ktr_room); (case ku => ktr_units); (case kP => k_upd); (case kQ => k_upd); (case kS => first | assumption | exact Src.mk (by assumption) (by assumption) (by assumption)); (case b1 => constructor <;> omega); (case b2 => constructor <;> omega); (case b3 => constructor <;> omega); k_whole; intro _ _ _ _ _ _ _ _ _ _ _ _ _ _; (try k_sweep); (try dsimp only); (try k_fold))))
local macro_rules | `(tactic| walk_at "call ref") => `(tactic| (k_here; (with_reducible show wpAny _ _ (PySem.call (Value.ref 92) [Value.ref _]) _ _ _); k_dflt (refine' nums_use ?k1 ?k2 ?k3 ?k4 ?k5 ?kK ?kd ?ku ?kP ?kS ?_; (case k1 => k_asm); (case k2 => k_asm); (case k3 => k_asm); (case k4 => k_asm); (case k5 => k_asm); (case kK => first | exact rfl | assumption); (case kd => ktr_room); (case ku => ktr_units); (case kP => k_mem); (case kS => assumption); k_whole; intro _ _ _ _; (try k_sweep); (try dsimp only); (try k_fold))))
theorem PySem.Challenge.cw_xm0680_01_holds : PySem.Challenge.rw_xm0680_01.Holds :=
  Mine.hd (by
  w_strict (
  k_go0
  (all_goals try k_fold)
  iterate 97 (first | (k_unfold; (try dsimp only)) | walk1 | (dsimp only; walk1))
  rename Fr _ _ _ _ => lF'
  rename News _ _ _ (_ :: _) => lN'
  rename IsRange _ _ _ _ _ _ _ _ => lR'
  k_dflt (refine law_loop rfl lR' (by assumption) lF' lN' (by assumption) ?_ ?_)
  · clear lF' lN' lR'
    intro g sd tg ts n1 vs ns n2 pre k t u h tk own hlt hoff hS hi hP F₁ N₁
    have hvl : vs.length ≤ 8 := by have := hi.length; omega
    k_steps
  · clear lF' lN' lR'
    intro g sd tg ts n1 vs ns n2 u h tk hS hi hl hall F₁ N₁
    have hvl : vs.length ≤ 8 := by have := hi.length; omega
    iterate 24 (first | (k_unfold; (try dsimp only)) | walk1 | (dsimp only; walk1))
    rename Fr _ _ _ _ => lF'
    rename News _ _ _ (_ :: _) => lN'
    refine LCg.CompSrc.ledger rfl lF' lN' (by k_mem) (by rw [List.size_toArray, sizeLine_eq]; omega) fun g' => ?_
    refine kct_list (fun k => octT k.toNat) hi ?_ ?_
    · intro k' t' I' oI' C' oC' D' m' ys' h' tk' E' hk' hC' hx' F' N' off' ne' mk'
      have hk9 := hall k' hk'
      have off2 := off'
      simp only [LCg.Off3, and_true] at off'
      k_steps
    · unfold KPfDone
      intro ys hys _
      have hst := carried_strs hys
      k_steps))
