import PyProof.Rows.All
import Wide.All
import OpenK.AllK
import Wide.FinOn
import PySem.Challenge.RW_on0084_01
open PySem PySem.W PySem.Calls PyProof.Rows
set_option Elab.async false
set_option maxRecDepth 100000
set_option maxHeartbeats 8000000
namespace Mine
open_top hd for PySem.Challenge.rw_on0084_01

abbrev tupOf (vs : List Value) (c : Nat) : Obj := { cls := .type "tuple", data := .seq vs.toArray c }

def codeAt (a b i : Int) : Int := Builtin.bitAnd (a.fdiv (2 ^ i.toNat)) 1 + 2 * Builtin.bitAnd (b.fdiv (2 ^ i.toNat)) 1
def cntN (a b k : Int) (pre : List Int) : Int := ((pre.filter (fun i => codeAt a b i == k)).length : Int)
def gsign (n a b : Int) : Str :=
  if 0 < cntN a b 3 (rangeKs 0 (n - 0).toNat) then (if cntN a b 3 (rangeKs 0 (n - 0).toNat) = n then Str.ofString "x" else Str.ofString "X")
  else (if cntN a b 2 (rangeKs 0 (n - 0).toNat) = n then Str.ofString "z" else Str.ofString "Z")

theorem gs_0 {a b : Int} : 0 = cntN a b 3 [] ∧ 0 = cntN a b 2 [] := ⟨rfl, rfl⟩
theorem cntN_app {a b k i : Int} {pre : List Int} : cntN a b k (pre ++ [i]) = cntN a b k pre + (if codeAt a b i = k then 1 else 0) := by
  unfold cntN
  rw [List.filter_append, List.length_append]
  by_cases h : codeAt a b i = k
  · simp [h]
  · simp [h]
theorem gs_1 {a b i x y : Int} {pre : List Int} (h1 : x = cntN a b 3 pre) (h2 : y = cntN a b 2 pre) (h : Builtin.bitAnd (a.fdiv (2 ^ i.toNat)) 1 + 2 * Builtin.bitAnd (b.fdiv (2 ^ i.toNat)) 1 = 3) :
    x + 1 = cntN a b 3 (pre ++ [i]) ∧ y = cntN a b 2 (pre ++ [i]) := by
  have h' : codeAt a b i = 3 := h
  rw [cntN_app, cntN_app, h', h1, h2]
  exact ⟨rfl, by simp⟩
theorem gs_2 {a b i x y : Int} {pre : List Int} (h1 : x = cntN a b 3 pre) (h2 : y = cntN a b 2 pre) (h : Builtin.bitAnd (a.fdiv (2 ^ i.toNat)) 1 + 2 * Builtin.bitAnd (b.fdiv (2 ^ i.toNat)) 1 = 2) :
    x = cntN a b 3 (pre ++ [i]) ∧ y + 1 = cntN a b 2 (pre ++ [i]) := by
  have h' : codeAt a b i = 2 := h
  rw [cntN_app, cntN_app, h', h1, h2]
  exact ⟨by simp, rfl⟩
theorem gs_3 {a b i x y : Int} {pre : List Int} (h1 : x = cntN a b 3 pre) (h2 : y = cntN a b 2 pre) (h : Builtin.bitAnd (a.fdiv (2 ^ i.toNat)) 1 + 2 * Builtin.bitAnd (b.fdiv (2 ^ i.toNat)) 1 ≠ 3) (h' : Builtin.bitAnd (a.fdiv (2 ^ i.toNat)) 1 + 2 * Builtin.bitAnd (b.fdiv (2 ^ i.toNat)) 1 ≠ 2) :
    x = cntN a b 3 (pre ++ [i]) ∧ y = cntN a b 2 (pre ++ [i]) := by
  have h3 : codeAt a b i ≠ 3 := h
  have h4 : codeAt a b i ≠ 2 := h'
  rw [cntN_app, cntN_app, if_neg h3, if_neg h4, h1, h2]
  exact ⟨by simp, by simp⟩
section
variable {n a b x y : Int} (h1 : x = cntN a b 3 (rangeKs 0 (n - 0).toNat)) (h2 : y = cntN a b 2 (rangeKs 0 (n - 0).toNat))
include h1
theorem gs_e1 (h : 0 < x) (h' : x = n) : Str.ofString "x" = gsign n a b := by
  unfold gsign; rw [← h1, if_pos h, if_pos h']
theorem gs_e2 (h : 0 < x) (h' : x ≠ n) : Str.ofString "X" = gsign n a b := by
  unfold gsign; rw [← h1, if_pos h, if_neg h']
include h2
theorem gs_e3 (h : ¬ 0 < x) (h' : y = n) : Str.ofString "z" = gsign n a b := by
  unfold gsign; rw [← h1, ← h2, if_neg h, if_pos h']
theorem gs_e4 (h : ¬ 0 < x) (h' : y ≠ n) : Str.ofString "Z" = gsign n a b := by
  unfold gsign; rw [← h1, ← h2, if_neg h, if_neg h']
end

section
local macro_rules | `(tactic| walk_at "call ref") => `(tactic| (k_here; k_dflt (refine wpAny_call ?_; (refine' code_def ?k1 ?k2 ?k3 ?k4 ?k5 ?kA ?kF ?kK ?k6 ?k7 ?k8 ?k9 ?kB ?_ ?c2 ?c3 ?c4 ?c5; (case kA => exact rfl); (case kF => exact rfl); (case kK => first | exact rfl | assumption); (case k1 => k_asm); (case k2 => k_asm); (case k3 => k_asm); (case k4 => k_asm); (case k5 => k_asm); (case k6 => k_is); (case k7 => k_is); (case k8 => ktr_room); (case k9 => exact BindsTo.of_eq rfl); (case c5 => decide); (case kB => exact locs rfl); (case c2 => exact rfl); (case c3 => exact rfl); (case c4 => exact rfl); k_whole; intro g' L' h' FG' F' N' B' X' T'; (try dsimp only); (try k_lift B'); (try k_fold)))))
local macro_rules | `(tactic| walk_at "pyIter ref") => `(tactic| k_extra "pyIter ref")
theorem gs_call {w : World} {p : Program} {loose : List Str} {mean : ExcName → Option Value} {mg mb : Str → Option Value} {dp un : Nat} {gd : Option (List Code)} {cn : Str} {cs : Scope} {pa : Addr} {ccd : Value} {cl : List (Str × Addr)} {outer : List Env} {A₀ : Around} {base h₀ : Heap} {L : Addr} {m : Str → Option Value} {news : List (Addr × Obj)} {s : Shared} {Q E : Value → Shared → Prop}
    {v : Addr} {n a b : Int} {t1 t2 t3 : Tok} {c : Nat}
    (B : Below A₀ base outer h₀) (F : Fr h₀ L s.heap m) (X : (hd.heap_39 w.params).In h₀) (N : News h₀ L s.heap ((v, tupOf [.int n t1, .int a t2, .int b t3] c) :: news)) (T : Top p loose mean mg mb h₀) (hk : cs.kind = .function)
    (hn : 0 < n) (hn4 : n ≤ 4)
    (hdep : dp + 4 < recursionLimit)
    (hret : ∀ (t : Tok) (h' : Heap) (tk' : Nat), Fr h₀ L h' m → News h₀ L h' ((v, tupOf [.int n t1, .int a t2, .int b t3] c) :: news) → Q (.str (gsign n a b) t) { s with heap := h', toks := tk' }) :
    wpAny (model PySem.Challenge.rw_on0084_01.row.prog w) (ktrTop dp un gd cn cs L pa ccd cl outer) (call (.ref 56) [.ref v]) Q E s := by
  revert X; k_fill; intro X
  refine wpAny_call ?_
  k_dflt cell_enter
  w_top off
  k_with_none
  k_with "pyIter ref" => k_state (fun pre mk zs => mk = cntN a b 3 pre ∧ zs = cntN a b 2 pre) "marks" "zs"
  k_with "state" => first | exact gs_0 | exact gs_1 (by assumption) (by assumption) (by assumption) | exact gs_2 (by assumption) (by assumption) (by assumption) | exact gs_3 (by assumption) (by assumption) (by assumption) (by assumption)
  k_steps
  all_goals (refine cb_retS (Q := Q) hret ?_ (by assumption) (by assumption); first | exact gs_e1 (by assumption) (by assumption) (by assumption) | exact gs_e2 (by assumption) (by assumption) (by assumption) | exact gs_e3 (by assumption) (by assumption) (by assumption) (by assumption) | exact gs_e4 (by assumption) (by assumption) (by assumption) (by assumption))
end

theorem lsh0 {prog : Program} {w : World} {A : Around} {E : Value → Shared → Prop} {s : Shared} {Q : Value → Shared → Prop} {a : Int} {t u : Tok} (ha : a.natAbs < 2 ^ 64) (h : Q (.int a s.toks) { s with toks := s.toks + 1 }) :
    wpAny (model prog w) A (binaryOp .LShift (.int a t) (.int 0 u)) Q E s :=
  lshift_int_small (Int.le_refl 0) (by decide) ha (by simpa using h)
theorem cut_small {x k : Int} (h4 : k ≤ 4) : (Builtin.bitAnd x (2 ^ k.toNat - 1)).natAbs < 2 ^ 64 := by
  rw [kbt_mask]
  have h0 : (0 : Int) < 2 ^ k.toNat := kbt_pos _
  have h1 := Int.emod_nonneg x (b := 2 ^ k.toNat) (by omega)
  have h2 := Int.emod_lt_of_pos x h0
  have h3 : (2 : Int) ^ k.toNat ≤ 2 ^ 4 := by
    have : (2 : Nat) ^ k.toNat ≤ 2 ^ 4 := Nat.pow_le_pow_right (by decide) (by omega)
    exact_mod_cast this
  omega
theorem bitOr_0 (x : Int) : Builtin.bitOr x 0 = x := by
  rw [bitOr_and, bitAnd_zero]; omega

section
local macro_rules | `(tactic| walk_at "call ref") => `(tactic| (k_here; k_dflt (refine wpAny_call ?_; (refine' code_def ?k1 ?k2 ?k3 ?k4 ?k5 ?kA ?kF ?kK ?k6 ?k7 ?k8 ?k9 ?kB ?_ ?c2 ?c3 ?c4 ?c5; (case kA => exact rfl); (case kF => exact rfl); (case kK => first | exact rfl | assumption); (case k1 => k_asm); (case k2 => k_asm); (case k3 => k_asm); (case k4 => k_asm); (case k5 => k_asm); (case k6 => k_is); (case k7 => k_is); (case k8 => ktr_room); (case k9 => exact BindsTo.of_eq rfl); (case c5 => decide); (case kB => exact locs rfl); (case c2 => exact rfl); (case c3 => exact rfl); (case c4 => exact rfl); k_whole; intro g' L' h' FG' F' N' B' X' T'; (try dsimp only); (try k_lift B'); (try k_fold)))))
local macro_rules | `(tactic| walk_at "storeName") => `(tactic| k_extra "storeName")
local macro_rules | `(tactic| walk_at "newTuple") => `(tactic| k_extra "newTuple")
local macro_rules | `(tactic| walk_at "binaryOp LShift int int") => `(tactic| k_extra "LShift")
theorem sv_call {w : World} {p : Program} {loose : List Str} {mean : ExcName → Option Value} {mg mb : Str → Option Value} {dp un : Nat} {gd : Option (List Code)} {cn : Str} {cs : Scope} {pa : Addr} {ccd : Value} {cl : List (Str × Addr)} {outer : List Env} {A₀ : Around} {base h₀ : Heap} {L : Addr} {m : Str → Option Value} {news : List (Addr × Obj)} {s : Shared} {Q E : Value → Shared → Prop}
    {v : Addr} {W low high lo k : Int} {t1 t2 t3 t4 t5 : Tok} {c : Nat}
    (B : Below A₀ base outer h₀) (F : Fr h₀ L s.heap m) (X : (hd.heap_39 w.params).In h₀) (N : News h₀ L s.heap ((v, tupOf [.int W t1, .int low t2, .int high t3] c) :: news)) (T : Top p loose mean mg mb h₀) (hk : cs.kind = .function)
    (hlo : 0 ≤ lo) (h1 : 1 ≤ k) (h4 : k ≤ 4) (hW : lo + k ≤ W) (h60 : W ≤ 60)
    (hdep : dp + 4 < recursionLimit)
    (hret : ∀ (D : Addr) (ta tb : Tok) (h' : Heap) (tk' : Nat), Fr h₀ L h' m → News h₀ L h' ((D, tupOf [.int k t5, .int (low.fdiv (2 ^ lo.toNat) % 2 ^ k.toNat) ta, .int (high.fdiv (2 ^ lo.toNat) % 2 ^ k.toNat) tb] 0) :: (v, tupOf [.int W t1, .int low t2, .int high t3] c) :: news) → AllLt D ((v, tupOf [.int W t1, .int low t2, .int high t3] c) :: news) → Q (.ref D) { s with heap := h', toks := tk' }) :
    wpAny (model PySem.Challenge.rw_on0084_01.row.prog w) (ktrTop dp un gd cn cs L pa ccd cl outer) (call (.ref 49) [.ref v, .int lo t4, .int k t5]) Q E s := by
  revert X; k_fill; intro X
  have e1 : (if (0 : Int) > lo then 0 else lo) = lo := if_neg (by omega)
  have e2 : (if W < lo + k then W else lo + k) = lo + k := if_neg (by omega)
  have e3 : lo + k - lo = k := by omega
  have e4 : ((0 : Int).toNat) = 0 := rfl
  refine wpAny_call ?_
  k_dflt cell_enter
  w_top off
  k_with_none
  k_with "storeName" => simp only [e1, e2, e3, e4, Int.sub_self, Int.pow_zero, Int.mul_one, Int.one_mul, bitXor_self]
  k_with "newTuple" => simp only [bitOr_0, kbt_mask]
  k_with "LShift" => (with_reducible refine lsh0 (cut_small h4) ?_)
  k_steps
  exact hret _ _ _ _ _ (by assumption) (by assumption) (by assumption)
end
def figOf (g : List Int) : Int := g.foldl (fun a b => 2 * a + b) 0
def sgn (g : List Int) : Str :=
  if decide (g.foldl (fun l k => if 1 < k then l ++ [k] else l) [] = []) = true then Txt.item (Str.ofString "0123456789abcdef") (figOf g)
  else if (g.any fun x => x == 3) = true then (if (List.count 3 g : Int) = g.length then Str.ofString "x" else Str.ofString "X")
  else (if (List.count 2 g : Int) = g.length then Str.ofString "z" else Str.ofString "Z")
section
variable {g : List Int}
theorem sgn_0 {f : Int} (h : decide (g.foldl (fun l k => if 1 < k then l ++ [k] else l) [] = []) = true) (e : f = figOf g) : Txt.item (Str.ofString "0123456789abcdef") f = sgn g := by
  unfold sgn; rw [if_pos h, e]
variable (h : decide (g.foldl (fun l k => if 1 < k then l ++ [k] else l) [] = []) = false)
include h
theorem sgn_1 (h1 : (g.any fun x => x == 3) = true) (h2 : (List.count 3 g : Int) = g.length) : Str.ofString "x" = sgn g := by
  unfold sgn; rw [if_neg (by rw [h]; exact Bool.false_ne_true), if_pos h1, if_pos h2]
theorem sgn_2 (h1 : (g.any fun x => x == 3) = true) (h2 : (List.count 3 g : Int) ≠ g.length) : Str.ofString "X" = sgn g := by
  unfold sgn; rw [if_neg (by rw [h]; exact Bool.false_ne_true), if_pos h1, if_neg h2]
theorem sgn_3 (h1 : (g.any fun x => x == 3) = false) (h2 : (List.count 2 g : Int) = g.length) : Str.ofString "z" = sgn g := by
  unfold sgn; rw [if_neg (by rw [h]; exact Bool.false_ne_true), if_neg (by rw [h1]; exact Bool.false_ne_true), if_pos h2]
theorem sgn_4 (h1 : (g.any fun x => x == 3) = false) (h2 : (List.count 2 g : Int) ≠ g.length) : Str.ofString "Z" = sgn g := by
  unfold sgn; rw [if_neg (by rw [h]; exact Bool.false_ne_true), if_neg (by rw [h1]; exact Bool.false_ne_true), if_neg h2]
end
theorem fig_app {f k : Int} {pre : List Int} (h : f = figOf pre) : 2 * f + k = figOf (pre ++ [k]) := by
  unfold figOf; rw [List.foldl_append, h]; rfl
def flt (g : List Int) : List Int := g.foldl (fun l k => if 1 < k then l ++ [k] else l) []
theorem flt_eq (g : List Int) : ∀ l, g.foldl (fun l k => if 1 < k then l ++ [k] else l) l = l ++ g.filter (fun k => decide (1 < k)) := by
  induction g with
  | nil => intro l; simp
  | cons k r ih =>
    intro l
    rw [List.foldl_cons, ih]
    by_cases h : 1 < k
    · simp [h]
    · simp [h]
theorem fig_step : ∀ (g : List Int) (a : Int), 0 ≤ a → (∀ b ∈ g, 0 ≤ b ∧ b < 2) → 0 ≤ g.foldl (fun a b => 2 * a + b) a ∧ g.foldl (fun a b => 2 * a + b) a < (a + 1) * 2 ^ g.length
  | [], a, ha, _ => by simp; omega
  | b :: r, a, ha, h => by
    have hb := h b (.head _)
    have ih := fig_step r (2 * a + b) (by omega) fun c hc => h c (.tail _ hc)
    rw [List.foldl_cons, List.length_cons, Int.pow_succ]
    refine ⟨ih.1, Int.lt_of_lt_of_le ih.2 ?_⟩
    rw [Int.mul_comm (2 ^ r.length) 2, ← Int.mul_assoc]
    exact Int.mul_le_mul_of_nonneg_right (by omega) (Int.le_of_lt (kbt_pos _))
theorem fig_bound {g : List Int} (hb : ∀ b ∈ g, 0 ≤ b ∧ b < 4) (h4 : g.length ≤ 4) (he : decide (g.foldl (fun l k => if 1 < k then l ++ [k] else l) [] = []) = true) : 0 ≤ figOf g ∧ figOf g < 16 := by
  have he := of_decide_eq_true he
  rw [flt_eq, List.nil_append, List.filter_eq_nil_iff] at he
  have h := fig_step g 0 (Int.le_refl 0) fun b h => ⟨(hb b h).1, by have := he b h; simp at this; omega⟩
  have h3 : (2 : Int) ^ g.length ≤ 2 ^ 4 := by
    have : (2 : Nat) ^ g.length ≤ 2 ^ 4 := Nat.pow_le_pow_right (by decide) h4
    exact_mod_cast this
  exact ⟨h.1, by unfold figOf; omega⟩
theorem len16 : (Str.ofString "0123456789abcdef").length = 16 := by decide +kernel
section
local macro_rules | `(tactic| walk_at "subscriptTail") => `(tactic| k_extra "digit")
local macro_rules | `(tactic| walk_at "pyIter ref") => `(tactic| k_extra "pyIter ref")
local macro_rules | `(tactic| walk_at "exec Assign cons ListComp") => `(tactic| (k_here; lct_look; lcg_calm; k_dflt (refine LCt.Assign_ListComp_T (F₀ := by k_asm) (by rfl) (by with_unfolding_all rfl) (by with_unfolding_all rfl) (by decide) (by rfl) (by decide) (by rfl) (by rfl) (by rfl) ?_); k_dflt lct_toSrc))
local macro_rules | `(tactic| walk_at "CompSrcT") => `(tactic| (k_here; k_dflt (refine LCt.CompSrcT.ledger (by rfl) (by k_asm) (by k_asm) (by k_mem) (by k_extra "comp size") ?_; intro g'; (refine' kci_list (fun l k => if 1 < k then l ++ [k] else l) (by assumption) (fun k' t' I' oI' C' oC' D' m' ys' l' h' tk' E' hk' hI' hC' hx' F' N' off' ne' => ?_) ?_ ?_); (all_goals (try (simp only [LCg.Off3, and_true] at off'))); (all_goals (try ((show KPfMark → _); intro hMark'))); kcf_last)))
local macro_rules | `(tactic| walk_at "CompEnd") => `(tactic| k_extra "CompEnd")
local macro_rules | `(tactic| walk_at "KCiEl") => `(tactic| (refine kci_el ?_ rfl rfl; exact if_pos (by assumption)))
local macro_rules | `(tactic| walk_at "KCiNo") => `(tactic| (refine kci_no ?_ rfl; exact if_neg (by assumption)))
local macro_rules | `(tactic| walk_at "compareOp Eq ref ref") => `(tactic| (k_dflt (refine ke_eq_ints (ys := []) (ms := []) (by is_list) (by is_list) (by assumption) .nil (by ktr_units) ?_)))
theorem ls_call {w : World} {p : Program} {loose : List Str} {mean : ExcName → Option Value} {mg mb : Str → Option Value} {dp un : Nat} {gd : Option (List Code)} {cn : Str} {cs : Scope} {pa : Addr} {ccd : Value} {cl : List (Str × Addr)} {outer : List Env} {A₀ : Around} {base h₀ : Heap} {L : Addr} {m : Str → Option Value} {news : List (Addr × Obj)} {s : Shared} {Q E : Value → Shared → Prop}
    {v : Addr} {vs : List Value} {g : List Int} {c : Nat}
    (B : Below A₀ base outer h₀) (F : Fr h₀ L s.heap m) (X : (hd.heap_39 w.params).In h₀) (N : News h₀ L s.heap ((v, listOf vs.toArray c) :: news)) (T : Top p loose mean mg mb h₀) (hk : cs.kind = .function)
    (hi : IntsAre vs g) (h1 : 1 ≤ g.length) (h4 : g.length ≤ 4) (hb : ∀ b ∈ g, 0 ≤ b ∧ b < 4)
    (hdep : dp + 4 < recursionLimit) (hu : un + 200 < cLine)
    (hret : ∀ (t : Tok) (h' : Heap) (tk' : Nat), Fr h₀ L h' m → News h₀ L h' ((v, listOf vs.toArray c) :: news) → Q (.str (sgn g) t) { s with heap := h', toks := tk' }) :
    wpAny (model PySem.Challenge.rw_on0084_01.row.prog w) (ktrTop dp un gd cn cs L pa ccd cl outer) (call (.ref 68) [.ref v]) Q E s := by
  revert X; k_fill; intro X
  refine wpAny_call ?_
  k_dflt cell_enter
  have hsz : vs.toArray.size ≤ sizeLine := by
    rw [sizeLine_eq, List.size_toArray, hi.length]; omega
  w_top off
  k_with_none
  k_with "comp size" => exact hsz
  k_with "digit" => ((with_reducible show wpAny _ _ (subscriptTail _ _ (Value.str _ _) (Value.int _ _)) _ _ _); (rename _ = figOf g => hf9); (have q9 := fig_bound hb h4 (by assumption)); (rw [← hf9] at q9); (refine item_str (fitsSsize_of (N := 9223372036854775808) (by omega) (by omega) (Int.le_refl _)) (by rw [len16]; omega) (by rw [len16]; omega) ?_); intro _)
  k_with "pyIter ref" => k_state (fun pre f => f = figOf pre) "figure"
  k_with "state" => first | exact fig_app (by assumption) | exact (rfl : (0 : Int) = figOf [])
  k_with "CompEnd" => with_unfolding_all refine LCg.CompEnd.intro (by assumption) (by assumption) ((v, W.listOf vs.toArray c) :: news) (by kcf_all) (by first | assumption | (simp only [LCg.Off3, and_true]; done) | (simp only [LCg.Off3, and_true]; assumption)) (by first | lcg_src | assumption) ?_
  k_steps
  all_goals (refine cb_retS (Q := Q) hret ?_ (by assumption) (by (rename News _ _ _ _ => kN9); exact fun p hp => kN9 p (.tail _ (.tail _ hp))); first | exact sgn_0 (by assumption) (by assumption) | exact sgn_1 (by assumption) (by assumption) (by assumption) | exact sgn_2 (by assumption) (by assumption) (by assumption) | exact sgn_3 (by assumption) (by assumption) (by assumption) | exact sgn_4 (by assumption) (by assumption) (by assumption))
end

theorem news_with {h₀ h : Heap} {L : Addr} {nw : List (Addr × Obj)} {q : Addr × Obj} (N : News h₀ L h nw) (hm : q ∈ nw) : News h₀ L h (q :: nw) := by
  intro p hp
  rcases List.mem_cons.mp hp with rfl | hp
  · exact N _ hm
  · exact N _ hp
theorem news_less {h₀ h : Heap} {L : Addr} {nw : List (Addr × Obj)} {q : Addr × Obj} (N : News h₀ L h (q :: nw)) : News h₀ L h nw := fun p hp => N p (.tail _ hp)
theorem news_less2 {h₀ h : Heap} {L : Addr} {nw : List (Addr × Obj)} {r q : Addr × Obj} (N : News h₀ L h (r :: q :: nw)) : News h₀ L h (r :: nw) := by
  intro p hp
  rcases List.mem_cons.mp hp with rfl | hp
  · exact N _ (.head _)
  · exact N _ (.tail _ (.tail _ hp))

theorem gs_use {w : World} {p : Program} {loose : List Str} {mean : ExcName → Option Value} {mg mb : Str → Option Value} {dp un : Nat} {gd : Option (List Code)} {cn : Str} {cs : Scope} {pa : Addr} {ccd : Value} {cl : List (Str × Addr)} {outer : List Env} {A₀ : Around} {base h₀ : Heap} {L : Addr} {m : Str → Option Value} {news : List (Addr × Obj)} {s : Shared} {Q E : Value → Shared → Prop}
    {v : Addr} {n a b : Int} {t1 t2 t3 : Tok} {c : Nat}
    (B : Below A₀ base outer h₀) (F : Fr h₀ L s.heap m) (X : (hd.heap_39 w.params).In h₀) (N : News h₀ L s.heap news) (hm : (v, tupOf [.int n t1, .int a t2, .int b t3] c) ∈ news) (T : Top p loose mean mg mb h₀) (hk : cs.kind = .function)
    (hdep : dp + 4 < recursionLimit) (hn : 0 < n) (hn4 : n ≤ 4)
    (hret : ∀ (t : Tok) (h' : Heap) (tk' : Nat), Fr h₀ L h' m → News h₀ L h' news → Q (.str (gsign n a b) t) { s with heap := h', toks := tk' }) :
    wpAny (model PySem.Challenge.rw_on0084_01.row.prog w) (ktrTop dp un gd cn cs L pa ccd cl outer) (call (.ref 56) [.ref v]) Q E s :=
  gs_call B F X (news_with N hm) T hk hn hn4 hdep fun t h' tk' F' N' => hret t h' tk' F' (news_less N')

theorem sv_use {w : World} {p : Program} {loose : List Str} {mean : ExcName → Option Value} {mg mb : Str → Option Value} {dp un : Nat} {gd : Option (List Code)} {cn : Str} {cs : Scope} {pa : Addr} {ccd : Value} {cl : List (Str × Addr)} {outer : List Env} {A₀ : Around} {base h₀ : Heap} {L : Addr} {m : Str → Option Value} {news : List (Addr × Obj)} {s : Shared} {Q E : Value → Shared → Prop}
    {v : Addr} {W low high lo k : Int} {t1 t2 t3 t4 t5 : Tok} {c : Nat}
    (B : Below A₀ base outer h₀) (F : Fr h₀ L s.heap m) (X : (hd.heap_39 w.params).In h₀) (N : News h₀ L s.heap news) (hm : (v, tupOf [.int W t1, .int low t2, .int high t3] c) ∈ news) (T : Top p loose mean mg mb h₀) (hk : cs.kind = .function)
    (hdep : dp + 4 < recursionLimit) (hlo : 0 ≤ lo) (h1 : 1 ≤ k) (h4 : k ≤ 4) (hW : lo + k ≤ W) (h60 : W ≤ 60)
    (hret : ∀ (D : Addr) (ta tb : Tok) (h' : Heap) (tk' : Nat), Fr h₀ L h' m → News h₀ L h' ((D, tupOf [.int k t5, .int (low.fdiv (2 ^ lo.toNat) % 2 ^ k.toNat) ta, .int (high.fdiv (2 ^ lo.toNat) % 2 ^ k.toNat) tb] 0) :: news) → AllLt D news → Q (.ref D) { s with heap := h', toks := tk' }) :
    wpAny (model PySem.Challenge.rw_on0084_01.row.prog w) (ktrTop dp un gd cn cs L pa ccd cl outer) (call (.ref 49) [.ref v, .int lo t4, .int k t5]) Q E s :=
  sv_call B F X (news_with N hm) T hk hlo h1 h4 hW h60 hdep fun D ta tb h' tk' F' N' hl => hret D ta tb h' tk' F' (news_less2 N') hl.2

def digS (W low high size lo : Int) : Str :=
  if high.fdiv (2 ^ lo.toNat) % 2 ^ (if W - lo < size then W - lo else size).toNat = 0 then Txt.item (Str.ofString "0123456789abcdef") (low.fdiv (2 ^ lo.toNat) % 2 ^ (if W - lo < size then W - lo else size).toNat)
  else gsign (if W - lo < size then W - lo else size) (low.fdiv (2 ^ lo.toNat) % 2 ^ (if W - lo < size then W - lo else size).toNat) (high.fdiv (2 ^ lo.toNat) % 2 ^ (if W - lo < size then W - lo else size).toNat)
def GI (W low high size lo : Int) (row : List Str) : Prop := ∃ j : Nat, lo = size * j ∧ row = (List.range j).map (fun i : Nat => digS W low high size (size * i))
theorem gi_0 {W low high size : Int} (h1 : 1 ≤ size) (hW : 1 ≤ W) : (0 : Int) ≤ 0 ∧ 0 < W + size ∧ (([] : List Str).length : Int) ≤ 0 ∧ GI W low high size 0 [] := ⟨Int.le_refl 0, by omega, by simp, 0, by simp, rfl⟩
theorem gi_step {W low high size lo : Int} {row : List Str} {x : Str} (h1 : 1 ≤ size) (h0 : 0 ≤ lo) (hlt : lo < W) (hz9 : (row.length : Int) ≤ lo) (h : GI W low high size lo row) (hx : digS W low high size lo = x) :
    0 ≤ lo + size ∧ lo + size < W + size ∧ ((row ++ [x]).length : Int) ≤ lo + size ∧ GI W low high size (lo + size) (row ++ [x]) := by
  obtain ⟨j, e1, e2⟩ := h
  refine ⟨by omega, by omega, by simp only [List.length_append, List.length_cons, List.length_nil]; omega, j + 1, ?_, ?_⟩
  · rw [e1, Int.natCast_succ, Int.mul_add, Int.mul_one]
  · rw [List.range_succ, List.map_append, e2, ← hx, e1]; rfl
theorem gi_1 {W low high size lo : Int} {row : List Str} (h1 : 1 ≤ size) (h0 : 0 ≤ lo) (hlt : lo < W) (hz9 : (row.length : Int) ≤ lo) (h : GI W low high size lo row) (hz : high.fdiv (2 ^ lo.toNat) % 2 ^ (if W - lo < size then W - lo else size).toNat = 0) :
    0 ≤ lo + size ∧ lo + size < W + size ∧ ((row ++ [Txt.item (Str.ofString "0123456789abcdef") (low.fdiv (2 ^ lo.toNat) % 2 ^ (if W - lo < size then W - lo else size).toNat)]).length : Int) ≤ lo + size ∧ GI W low high size (lo + size) (row ++ [Txt.item (Str.ofString "0123456789abcdef") (low.fdiv (2 ^ lo.toNat) % 2 ^ (if W - lo < size then W - lo else size).toNat)]) :=
  gi_step h1 h0 hlt hz9 h (by unfold digS; rw [if_pos hz])
theorem gi_2 {W low high size lo : Int} {row : List Str} (h1 : 1 ≤ size) (h0 : 0 ≤ lo) (hlt : lo < W) (hz9 : (row.length : Int) ≤ lo) (h : GI W low high size lo row) (hz : high.fdiv (2 ^ lo.toNat) % 2 ^ (if W - lo < size then W - lo else size).toNat ≠ 0) :
    0 ≤ lo + size ∧ lo + size < W + size ∧ ((row ++ [gsign (if W - lo < size then W - lo else size) (low.fdiv (2 ^ lo.toNat) % 2 ^ (if W - lo < size then W - lo else size).toNat) (high.fdiv (2 ^ lo.toNat) % 2 ^ (if W - lo < size then W - lo else size).toNat)]).length : Int) ≤ lo + size ∧ GI W low high size (lo + size) (row ++ [gsign (if W - lo < size then W - lo else size) (low.fdiv (2 ^ lo.toNat) % 2 ^ (if W - lo < size then W - lo else size).toNat) (high.fdiv (2 ^ lo.toNat) % 2 ^ (if W - lo < size then W - lo else size).toNat)]) :=
  gi_step h1 h0 hlt hz9 h (by unfold digS; rw [if_neg hz])
theorem strs_snoc {vs : List Value} {ss : List Str} {x : Str} {t : Tok} (h : StrsAre vs ss) : StrsAre (vs ++ [.str x t]) (ss ++ [x]) := StrsAre.append' h (.cons _ _ .nil)
theorem strs_rev {vs : List Value} {ss : List Str} (h : StrsAre vs ss) : StrsAre (vs.reverse.toArray.toList) ss.reverse := by
  show StrsAre vs.reverse ss.reverse
  induction h with
  | nil => exact .nil
  | cons y t _ ih => rw [List.reverse_cons, List.reverse_cons]; exact strs_snoc ih
theorem gsign_len (n a b : Int) : (gsign n a b).length = 1 := by
  unfold gsign; split <;> split <;> decide +kernel
theorem digS_len (W low high size lo : Int) : (digS W low high size lo).length = 1 := by
  unfold digS
  by_cases h : high.fdiv (2 ^ lo.toNat) % 2 ^ (if W - lo < size then W - lo else size).toNat = 0
  · rw [if_pos h]; exact len_item _ _
  · rw [if_neg h]; exact gsign_len _ _ _
theorem sum_ones : ∀ {l : List Str}, (∀ x ∈ l, x.length = 1) → (l.map (·.length)).sum = l.length
  | [], _ => rfl
  | x :: r, h => by
    rw [List.map_cons, List.sum_cons, sum_ones fun y hy => h y (.tail _ hy), h x (.head _), List.length_cons]; omega
theorem gi_join {W low high size lo : Int} {row : List Str} (h4 : size ≤ 4) (h60 : W ≤ 60) (hlt : lo < W + size) (hz : (row.length : Int) ≤ lo) (h : GI W low high size lo row) :
    (row.reverse.map (·.length)).sum + row.reverse.length * (Str.ofString "").length ≤ 16777216 := by
  obtain ⟨j, e1, e2⟩ := h
  have e : (Str.ofString "").length = 0 := by decide +kernel
  rw [e, Nat.mul_zero, Nat.add_zero, sum_ones, List.length_reverse]
  · omega
  · intro x hx
    rw [List.mem_reverse, e2] at hx
    obtain ⟨i, _, rfl⟩ := List.mem_map.mp hx
    exact digS_len _ _ _ _ _
def gdig (W low high size : Int) (j : Nat) : Str := Txt.join (Str.ofString "") ((List.range j).map (fun i : Nat => digS W low high size (size * i))).reverse
theorem gd_end {W low high size lo : Int} {row : List Str} {P : Str → Prop} (h : GI W low high size lo row) (hlt : lo < W + size) (hge : ¬ lo < W) (hret : ∀ j : Nat, W ≤ size * j → size * j < W + size → P (gdig W low high size j)) : P (Txt.join (Str.ofString "") row.reverse) := by
  obtain ⟨j, e1, e2⟩ := h
  have := hret j (by rw [← e1]; omega) (by rw [← e1]; exact hlt)
  unfold gdig at this
  rw [e2]
  exact this
theorem cut_bound {x k : Int} (h4 : k ≤ 4) : 0 ≤ x % 2 ^ k.toNat ∧ x % 2 ^ k.toNat < 16 := by
  have h0 : (0 : Int) < 2 ^ k.toNat := kbt_pos _
  have h1 := Int.emod_nonneg x (b := 2 ^ k.toNat) (by omega)
  have h2 := Int.emod_lt_of_pos x h0
  have h3 : (2 : Int) ^ k.toNat ≤ 2 ^ 4 := by
    have : (2 : Nat) ^ k.toNat ≤ 2 ^ 4 := Nat.pow_le_pow_right (by decide) (by omega)
    exact_mod_cast this
  omega
theorem digit_cut {prog : Program} {w : World} {A : Around} {E : Value → Shared → Prop} {s : Shared} {value slice : PySem.Expr} {Q : Value → Shared → Prop} {x k : Int} {t u : Tok} (h4 : k ≤ 4)
    (h : Q (.str (Txt.item (Str.ofString "0123456789abcdef") (x % 2 ^ k.toNat)) s.toks) { s with toks := s.toks + 1 })
    (hs : subscripted slice false (.str (Str.ofString "0123456789abcdef") t) (.int (x % 2 ^ k.toNat) u) = operate [.str (Str.ofString "0123456789abcdef") t, .int (x % 2 ^ k.toNat) u] (getItem (.str (Str.ofString "0123456789abcdef") t) (.int (x % 2 ^ k.toNat) u)) := by with_unfolding_all rfl)
    (ht : ∀ r, letTemporaryGo value (.str (Str.ofString "0123456789abcdef") t) r = pure () := by intro _; with_unfolding_all rfl) :
    wpAny (model prog w) A (subscriptTail value slice (.str (Str.ofString "0123456789abcdef") t) (.int (x % 2 ^ k.toNat) u)) Q E s := by
  have q := cut_bound (x := x) h4
  exact item_str (fitsSsize_of (N := 9223372036854775808) (by omega) (by omega) (Int.le_refl _)) (by rw [len16]; omega) (by rw [len16]; omega) (fun _ => h) hs ht

section
local macro_rules | `(tactic| walk_at "call ref") => `(tactic| (k_here; (with_reducible show wpAny _ _ (call (Value.ref 35) _) _ _ _); k_dflt (refine wpAny_call ?_; (refine' code_def ?k1 ?k2 ?k3 ?k4 ?k5 ?kA ?kF ?kK ?k6 ?k7 ?k8 ?k9 ?kB ?_ ?c2 ?c3 ?c4 ?c5; (case kA => exact rfl); (case kF => exact rfl); (case kK => first | exact rfl | assumption); (case k1 => k_asm); (case k2 => k_asm); (case k3 => k_asm); (case k4 => k_asm); (case k5 => k_asm); (case k6 => k_is); (case k7 => k_is); (case k8 => ktr_room); (case k9 => exact BindsTo.of_eq rfl); (case c5 => decide); (case kB => exact locs rfl); (case c2 => exact rfl); (case c3 => exact rfl); (case c4 => exact rfl); k_whole; intro g' L' h' FG' F' N' B' X' T'; (try dsimp only); (try k_lift B'); (try k_fold)))))
local macro_rules | `(tactic| walk_at "call ref") => `(tactic| (k_here; k_dflt (refine' gs_use ?k1 ?k2 ?k3 ?k4 ?km ?k5 ?kK ?kd ?b1 ?b2 ?_; (case k1 => k_asm); (case k2 => k_asm); (case k3 => k_asm); (case k4 => k_asm); (case km => k_mem); (case k5 => k_asm); (case kK => first | exact rfl | assumption); (case kd => ktr_room); (case b1 => k_extra "arith"); (case b2 => k_extra "arith"); intro t9 h9 tk9 F9 N9; (try dsimp only); (try k_fold))))
local macro_rules | `(tactic| walk_at "call ref") => `(tactic| (k_here; k_dflt (refine' sv_use ?k1 ?k2 ?k3 ?k4 ?km ?k5 ?kK ?kd ?b1 ?b2 ?b3 ?b4 ?b5 ?_; (case k1 => k_asm); (case k2 => k_asm); (case k3 => k_asm); (case k4 => k_asm); (case km => k_mem); (case k5 => k_asm); (case kK => first | exact rfl | assumption); (case kd => ktr_room); (case b1 => k_extra "arith"); (case b2 => k_extra "arith"); (case b3 => k_extra "arith"); (case b4 => k_extra "arith"); (case b5 => k_extra "arith"); intro D9 ta9 tb9 h9 tk9 F9 N9 l9; (try dsimp only); (try simp only [AllLt, and_true] at l9); (try k_fold))))
local macro_rules | `(tactic| walk_at "subscriptTail") => `(tactic| k_extra "digit")
local macro_rules | `(tactic| walk_at "storeName") => `(tactic| k_extra "storeName")
local macro_rules | `(tactic| walk_at "call builtin:list.reverse") => `(tactic| (k_here; (with_reducible show wpAny _ _ (call (Value.builtin _) [Value.ref _]) _ _ _); k_dflt (refine' kl_reverse (l := List.reverse _) ?F ?N ?e ?U ?z ?_; (case F => k_asm); (case N => k_asm); (case e => exact rfl); (case U => k_upd); (case z => k_extra "rev size")); intro h' F' N'; (try dsimp only); (try simp only [List.toList_toArray] at N')))
local macro_rules | `(tactic| walk_at "call builtin:str.join") => `(tactic| (k_dflt (k_extra "join"); intro t' k'))
local macro_rules | `(tactic| passes_own) => `(tactic| exact PySem.PassesOwn.leaving)
local macro_rules | `(tactic| kst_facts) => `(tactic| first | exact PyProof.Rows.StrsAre.nil | exact PyProof.Rows.StrsAre.append' (by with_reducible assumption) (.cons _ _ .nil) | with_reducible assumption)
theorem gd_call {w : World} {p : Program} {loose : List Str} {mean : ExcName → Option Value} {mg mb : Str → Option Value} {dp un : Nat} {gd : Option (List Code)} {cn : Str} {cs : Scope} {pa : Addr} {ccd : Value} {cl : List (Str × Addr)} {outer : List Env} {A₀ : Around} {base h₀ : Heap} {L : Addr} {m : Str → Option Value} {news : List (Addr × Obj)} {s : Shared} {Q E : Value → Shared → Prop}
    {v : Addr} {W low high size : Int} {t1 t2 t3 t4 : Tok} {c : Nat}
    (B : Below A₀ base outer h₀) (F : Fr h₀ L s.heap m) (X : (hd.heap_39 w.params).In h₀) (N : News h₀ L s.heap ((v, tupOf [.int W t1, .int low t2, .int high t3] c) :: news)) (T : Top p loose mean mg mb h₀) (hk : cs.kind = .function)
    (h1 : 1 ≤ size) (h4 : size ≤ 4) (hW : 1 ≤ W) (h60 : W ≤ 60)
    (hdep : dp + 10 < recursionLimit) (hu : un + 300 < cLine)
    (hret : ∀ (t : Tok) (h' : Heap) (tk' : Nat), Fr h₀ L h' m → News h₀ L h' ((v, tupOf [.int W t1, .int low t2, .int high t3] c) :: news) → ∀ j : Nat, W ≤ size * j → size * j < W + size → Q (.str (gdig W low high size j) t) { s with heap := h', toks := tk' }) :
    wpAny (model PySem.Challenge.rw_on0084_01.row.prog w) (ktrTop dp un gd cn cs L pa ccd cl outer) (call (.ref 63) [.ref v, .int size t4]) Q E s := by
  revert X; k_fill; intro X
  refine wpAny_call ?_
  k_dflt cell_enter
  w_top off
  k_with_none
  k_with "arith" => first | omega | (split <;> omega)
  k_with "state" => first | exact gi_0 h1 hW | exact gi_1 h1 (by assumption) (by assumption) (by assumption) (by assumption) (by assumption) | exact gi_2 h1 (by assumption) (by assumption) (by assumption) (by assumption) (by assumption)
  k_with "rev size" => (simp only [sizeLine_eq, List.toList_toArray]; omega)
  k_with "join" => refine join_list (items := (List.reverse _).toArray) (by is_list) (strs_rev (by assumption)) (gi_join h4 h60 (by assumption) (by assumption) (by assumption)) ?_
  k_with "digit" => (refine digit_cut ?b1 ?_; (case b1 => k_extra "arith"))
  k_with "exec While Compare cons nil" => k_while (fun _ lo row => 0 ≤ lo ∧ lo < W + size ∧ (row.length : Int) ≤ lo ∧ GI W low high size lo row) (fun _ lo _ => (W - lo).toNat) "lo" "row$"
  k_steps
  all_goals exact gd_end (P := fun x => Q (.str x _) { s with heap := _, toks := _ }) (by assumption) (by assumption) (by assumption) (hret _ _ _ (by assumption) (by (rename News _ _ _ _ => kN9); exact fun p hp => kN9 p (.tail _ hp)))
end

theorem gen_int {P : Int → Prop} {e lo hi : Int} (h1 : lo ≤ e) (h2 : e ≤ hi) (h : ∀ x, lo ≤ x → x ≤ hi → P x) : P e := h e h1 h2
theorem forget_cells {ys : List Value} {f : Int → Int} {ns : List Int} (h : IntsAre ys ((List.take 64 ns).map f)) (hn : ¬ ((63 : Nat) : Int) < ns.length) : ∃ cl : List Int, IntsAre ys cl ∧ cl.length ≤ 63 :=
  ⟨_, h, by rw [List.length_map, List.length_take]; omega⟩
theorem fmod4 (x : Int) : 0 ≤ x.fmod 4 ∧ x.fmod 4 < 4 := ⟨fmod_lo _ (by decide), fmod_hi _ (by decide)⟩
theorem forget_bits {ys : List Value} {f : Int → Int} {n : Nat} (h : IntsAre ys ((rangeKs 0 n).map f)) (hf : ∀ k, 0 ≤ f k ∧ f k < 4) : ∃ g : List Int, IntsAre ys g ∧ g.length = n ∧ ∀ b ∈ g, 0 ≤ b ∧ b < 4 :=
  ⟨_, h, by rw [List.length_map, rangeKs_length], fun b hb => by obtain ⟨k, _, rfl⟩ := List.mem_map.mp hb; exact hf k⟩
theorem fdiv_le {k L : Int} (h0 : 0 ≤ k) (hL : 0 < L) : 0 ≤ k.fdiv L ∧ k.fdiv L ≤ k := by
  rw [Int.fdiv_eq_ediv_of_nonneg _ (Int.le_of_lt hL)]
  exact ⟨Int.ediv_nonneg h0 (Int.le_of_lt hL), Int.ediv_le_self _ h0⟩
section
variable {prog : Program} {w : World} {A : Around} {E : Value → Shared → Prop} {s : Shared} {Q : Value → Shared → Prop} {k L x : Int} {t u : Tok}
theorem pow3_line (h0 : 0 ≤ k) (h1 : k < 64) (hL : 0 < L) (h : Q (.int (3 ^ (k.fdiv L).toNat) s.toks) { s with toks := s.toks + 1 }) : wpAny (model prog w) A (binaryOp .Pow (.int 3 t) (.int (k.fdiv L) u)) Q E s := by
  have q := fdiv_le h0 hL
  exact pow_int_small q.1 (by omega) (by decide) h
theorem div3_line (h0 : 0 ≤ k) (h1 : k < 64) (hL : 0 < L) (h : Q (.int (x.fdiv (3 ^ (k.fdiv L).toNat)) s.toks) { s with toks := s.toks + 1 }) : wpAny (model prog w) A (binaryOp .FloorDiv (.int x t) (.int (3 ^ (k.fdiv L).toNat) u)) Q E s := by
  have q := fdiv_le h0 hL
  refine floordiv_int (Int.ne_of_gt (Int.pow_pos (by decide))) h (Or.inl (PyProof.noPylong_of_log2 ?_))
  have e : ((3 : Int) ^ (k.fdiv L).toNat).natAbs = 3 ^ (k.fdiv L).toNat := by
    rw [Int.natAbs_pow]; rfl
  rw [e]
  refine (Nat.log2_lt (Nat.ne_of_gt (Nat.pow_pos (by decide)))).mpr ?_
  calc (3 : Nat) ^ (k.fdiv L).toNat ≤ 4 ^ (k.fdiv L).toNat := Nat.pow_le_pow_left (by decide) _
    _ = 2 ^ (2 * (k.fdiv L).toNat) := by rw [Nat.pow_mul]
    _ < 2 ^ 9000 := Nat.pow_lt_pow_right (by decide) (by omega)
end

def lowOf (g : List Int) : Int := g.foldl (fun a b => 2 * a + b.fmod 2) 0
def highOf (g : List Int) : Int := g.foldl (fun a b => 2 * a + b.fdiv 2) 0
theorem lh_0 : (0 : Int) = lowOf [] ∧ (0 : Int) = highOf [] := ⟨rfl, rfl⟩
theorem lh_1 {lo hi k : Int} {pre : List Int} (h1 : lo = lowOf pre) (h2 : hi = highOf pre) : 2 * lo + k.fmod 2 = lowOf (pre ++ [k]) ∧ 2 * hi + k.fdiv 2 = highOf (pre ++ [k]) := by
  unfold lowOf highOf at *
  rw [List.foldl_append, List.foldl_append, ← h1, ← h2]
  exact ⟨rfl, rfl⟩


theorem execs_cutW {M : Model} {Γ : Ctx} {env : Env} {E : Value → Pos → Shared → Prop} {Q : Flow → Pos → Shared → Prop} {P : Shared → Prop} : ∀ (n : Nat) (body : List Stmt) (p : Pos) (s : Shared),
    Sem.wp M Γ (execs (body.take n) env) (fun f _ s' => f = .next ∧ P s') E p s → (∀ s' p', P s' → Sem.wp M Γ (execs (body.drop n) env) Q E p' s') → Sem.wp M Γ (execs body env) Q E p s
  | 0, body, p, s, h1, h2 => h2 s p h1.2
  | n + 1, [], p, s, h1, h2 => h2 s p h1.2
  | n + 1, st :: rest, p, s, h1, h2 => by
    rw [List.take_succ_cons, execs_cons, Sem.wp_bind'] at h1
    rw [execs_cons, Sem.wp_bind']
    refine Sem.wp_mono M Γ _ (fun f p' s' hq => ?_) (fun _ _ _ h' => h') _ _ h1
    cases f with
    | next => exact execs_cutW n rest p' s' hq h2
    | ret v => exact absurd hq.1 (by intro e; cases e)
    | brk => exact absurd hq.1 (by intro e; cases e)
    | cont => exact absurd hq.1 (by intro e; cases e)
theorem execs_cut {M : Model} {A : Around} {env : Env} {E : Value → Shared → Prop} {Q : Flow → Shared → Prop} {P : Shared → Prop} (n : Nat) {body : List Stmt} {s : Shared} (h1 : wpAny M A (execs (body.take n) env) (fun f s' => f = .next ∧ P s') E s) (h2 : ∀ s', P s' → wpAny M A (execs (body.drop n) env) Q E s') : wpAny M A (execs body env) Q E s :=
  fun Γ p hΓ => execs_cutW n body p s (h1 Γ p hΓ) fun s' p' hp => h2 s' hp Γ p' hΓ
def Mid (h₀ : Heap) (L : Addr) (s₁ s' : Shared) : Prop := ∃ (size wide : Int) (g : List Int) (ys : List Value) (D : Addr) (t1 t2 : Tok) (h : Heap) (tk : Nat) (m : Str → Option Value) (o : Obj),
  s' = { s₁ with heap := h, toks := tk } ∧ Fr h₀ L h m ∧ News h₀ L h [(D, LCg.lst ys), (L + 1 + 1, o)] ∧ (@Ne Nat (L + 1 + 1) D) ∧ (∃ v, o.data = Data.cell v) ∧ IntsAre ys g ∧ (g.length : Int) = wide ∧ (∀ b ∈ g, 0 ≤ b ∧ b < 4) ∧
  1 ≤ size ∧ size ≤ 4 ∧ 1 ≤ wide ∧ wide ≤ 60 ∧ m (Str.ofString "size") = some (.int size t1) ∧ m (Str.ofString "wide") = some (.int wide t2) ∧ m (Str.ofString "left_first") = some (.ref D)
theorem mid_fr {h₀ h : Heap} {L : Addr} {m : Str → Option Value} {v1 v2 v3 : Value} (F : Fr h₀ L h m) (e1 : m (Str.ofString "size") = some v1) (e2 : m (Str.ofString "wide") = some v2) (e3 : m (Str.ofString "left_first") = some v3) :
    Fr h₀ L h (fun y => if y = Str.ofString "left_first" then some v3 else if y = Str.ofString "wide" then some v2 else if y = Str.ofString "size" then some v1 else m y) := by
  have e : (fun y => if y = Str.ofString "left_first" then some v3 else if y = Str.ofString "wide" then some v2 else if y = Str.ofString "size" then some v1 else m y) = m := by
    funext y
    by_cases q3 : y = Str.ofString "left_first"
    · rw [if_pos q3, q3, e3]
    · rw [if_neg q3]
      by_cases q2 : y = Str.ofString "wide"
      · rw [if_pos q2, q2, e2]
      · rw [if_neg q2]
        by_cases q1 : y = Str.ofString "size"
        · rw [if_pos q1, q1, e1]
        · rw [if_neg q1]
  rw [e]; exact F
theorem news_two {h₀ h : Heap} {L : Addr} {nw : List (Addr × Obj)} {a b : Addr × Obj} (N : News h₀ L h nw) (ha : a ∈ nw) (hb : b ∈ nw) : News h₀ L h [a, b] := by
  intro p hp
  rcases List.mem_cons.mp hp with rfl | hp
  · exact N _ ha
  · rw [List.mem_singleton.mp hp]; exact N _ hb
def Done1 (P : Prop) : Prop := P
theorem execs_cutM {M : Model} {A : Around} {env : Env} {E : Value → Shared → Prop} {Q : Flow → Shared → Prop} {h₀ h : Heap} {L : Addr} {m : Str → Option Value} {s₁ : Shared} {tk : Nat} {body : List Stmt} (F : Fr h₀ L h m) (n : Nat)
    (h1 : wpAny M A (execs (body.take n) env) (fun f s' => Done1 (f = .next ∧ Mid h₀ L s₁ s')) E { s₁ with heap := h, toks := tk }) (h2 : ∀ s', Mid h₀ L s₁ s' → wpAny M A (execs (body.drop n) env) Q E s') : wpAny M A (execs body env) Q E { s₁ with heap := h, toks := tk } :=
  execs_cut n h1 h2

def grpAt (g : List Int) (size e : Int) : List Int := List.take (min e.toNat g.length - (if e - size > 0 then e - size else 0).toNat) (List.drop (if e - size > 0 then e - size else 0).toNat g)
theorem grp_len {g : List Int} {size e : Int} (hs1 : 1 ≤ size) (he : 0 < e) (hl : e ≤ g.length) : ((grpAt g size e).length : Int) = (if e - size > 0 then size else e) := by
  unfold grpAt
  rw [List.length_take, List.length_drop]
  split <;> omega
theorem grp_1 {g : List Int} {size e : Int} (hs1 : 1 ≤ size) (he : 0 < e) (hl : e ≤ g.length) : 1 ≤ (grpAt g size e).length := by
  have := grp_len hs1 he hl
  split at this <;> omega
theorem grp_4 {g : List Int} {size e : Int} (hs1 : 1 ≤ size) (hs4 : size ≤ 4) (he : 0 < e) (hl : e ≤ g.length) : (grpAt g size e).length ≤ 4 := by
  have := grp_len hs1 he hl
  split at this <;> omega
theorem grp_b {g : List Int} {size e : Int} (hb : ∀ b ∈ g, 0 ≤ b ∧ b < 4) : ∀ b ∈ grpAt g size e, 0 ≤ b ∧ b < 4 := fun b h => hb b (List.mem_of_mem_drop (List.mem_of_mem_take h))
theorem sgn_len (g : List Int) : (sgn g).length = 1 := by
  unfold sgn
  by_cases h : decide (g.foldl (fun l k => if 1 < k then l ++ [k] else l) [] = []) = true
  · rw [if_pos h]; exact len_item _ _
  · rw [if_neg h]; split <;> split <;> decide +kernel
def dueS (g : List Int) (size wide : Int) : Nat → Str
  | 0 => Str.ofString ""
  | j + 1 => sgn (grpAt g size (wide - size * j)) ++ dueS g size wide j
def DueInv (g : List Int) (size wide : Int) (due : Str) (e : Int) : Prop := ∃ j : Nat, e = wide - size * j ∧ due = dueS g size wide j ∧ 0 - size < e ∧ (due.length : Int) ≤ wide - e
theorem due_0 {g : List Int} {size wide : Int} (hs1 : 1 ≤ size) (hw : 1 ≤ wide) : DueInv g size wide (Str.ofString "") wide := ⟨0, by simp, rfl, by omega, by
  have : (Str.ofString "").length = 0 := by decide +kernel
  rw [this]; simp⟩
theorem due_le {g : List Int} {size wide e : Int} {due : Str} (h : DueInv g size wide due e) : e ≤ wide := by
  obtain ⟨j, _, _, _, h⟩ := h; omega
theorem due_fit {g : List Int} {size wide e : Int} {due : Str} {x : List Int} (h : DueInv g size wide due e) (he : 0 < e) (h60 : wide ≤ 60) : (sgn x).length + due.length ≤ sizeLine := by
  obtain ⟨j, _, _, _, h⟩ := h
  rw [sgn_len, sizeLine_eq]; omega
theorem due_1 {g : List Int} {size wide e : Int} {due : Str} (hs1 : 1 ≤ size) (he : 0 < e) (h : DueInv g size wide due e) : DueInv g size wide (sgn (grpAt g size e) ++ due) (e - size) := by
  obtain ⟨j, e1, e2, e3, e4⟩ := h
  refine ⟨j + 1, ?_, ?_, by omega, ?_⟩
  · rw [e1, Int.natCast_succ, Int.mul_add, Int.mul_one]; omega
  · rw [e1, e2]; rfl
  · rw [Str.length_append, sgn_len]; omega
theorem ls_use {w : World} {p : Program} {loose : List Str} {mean : ExcName → Option Value} {mg mb : Str → Option Value} {dp un : Nat} {gd : Option (List Code)} {cn : Str} {cs : Scope} {pa : Addr} {ccd : Value} {cl : List (Str × Addr)} {outer : List Env} {A₀ : Around} {base h₀ : Heap} {L : Addr} {m : Str → Option Value} {news : List (Addr × Obj)} {s : Shared} {Q E : Value → Shared → Prop}
    {v : Addr} {vs : List Value} {g : List Int} {c : Nat}
    (B : Below A₀ base outer h₀) (F : Fr h₀ L s.heap m) (X : (hd.heap_39 w.params).In h₀) (N : News h₀ L s.heap news) (hm : (v, W.listOf vs.toArray c) ∈ news) (T : Top p loose mean mg mb h₀) (hk : cs.kind = .function)
    (hi : IntsAre vs g) (hdep : dp + 4 < recursionLimit) (hu : un + 200 < cLine) (h1 : 1 ≤ g.length) (h4 : g.length ≤ 4) (hb : ∀ b ∈ g, 0 ≤ b ∧ b < 4)
    (hret : ∀ (t : Tok) (h' : Heap) (tk' : Nat), Fr h₀ L h' m → News h₀ L h' news → Q (.str (sgn g) t) { s with heap := h', toks := tk' }) :
    wpAny (model PySem.Challenge.rw_on0084_01.row.prog w) (ktrTop dp un gd cn cs L pa ccd cl outer) (call (.ref 68) [.ref v]) Q E s :=
  ls_call B F X (news_with N hm) T hk hi h1 h4 hb hdep hu fun t h' tk' F' N' => hret t h' tk' F' (news_less N')
theorem gd_use {w : World} {p : Program} {loose : List Str} {mean : ExcName → Option Value} {mg mb : Str → Option Value} {dp un : Nat} {gd : Option (List Code)} {cn : Str} {cs : Scope} {pa : Addr} {ccd : Value} {cl : List (Str × Addr)} {outer : List Env} {A₀ : Around} {base h₀ : Heap} {L : Addr} {m : Str → Option Value} {news : List (Addr × Obj)} {s : Shared} {Q E : Value → Shared → Prop}
    {v : Addr} {W low high size : Int} {t1 t2 t3 t4 : Tok} {c : Nat} {j : Nat}
    (B : Below A₀ base outer h₀) (F : Fr h₀ L s.heap m) (X : (hd.heap_39 w.params).In h₀) (N : News h₀ L s.heap news) (hm : (v, tupOf [.int W t1, .int low t2, .int high t3] c) ∈ news) (T : Top p loose mean mg mb h₀) (hk : cs.kind = .function)
    (hdep : dp + 10 < recursionLimit) (hu : un + 300 < cLine) (h1 : 1 ≤ size) (h4 : size ≤ 4) (hW : 1 ≤ W) (h60 : W ≤ 60) (hj : W ≤ size * j ∧ size * j < W + size)
    (hret : ∀ (t : Tok) (h' : Heap) (tk' : Nat), Fr h₀ L h' m → News h₀ L h' news → Q (.str (gdig W low high size j) t) { s with heap := h', toks := tk' }) :
    wpAny (model PySem.Challenge.rw_on0084_01.row.prog w) (ktrTop dp un gd cn cs L pa ccd cl outer) (call (.ref 63) [.ref v, .int size t4]) Q E s :=
  gd_call B F X (news_with N hm) T hk h1 h4 hW h60 hdep hu fun t h' tk' F' N' j' ha hb => by
    have e : j' = j := by
      have q1 : size * (j' : Int) < size * ((j : Int) + 1) := by rw [Int.mul_add, Int.mul_one]; omega
      have q2 : size * (j : Int) < size * ((j' : Int) + 1) := by rw [Int.mul_add, Int.mul_one]; omega
      have q3 := Int.lt_of_mul_lt_mul_left q1 (by omega)
      have q4 := Int.lt_of_mul_lt_mul_left q2 (by omega)
      omega
    rw [e]; exact hret t h' tk' F' (news_less N')
theorem ne_same {prog : Program} {w : World} {A : Around} {E : Value → Shared → Prop} {s : Shared} {Q : Value → Shared → Prop} {x y : Str} {t u : Tok} (e : x = y) (h : Q (.bool false) s) : wpAny (model prog w) A (compareOp .NotEq (.str x t) (.str y u)) Q E s :=
  ne_str (by subst e; simpa using h)
-- the value of a row of bits, most significant first
def valOf (f : Int → Int) (g : List Int) (a : Int) : Int := g.foldl (fun a b => 2 * a + f b) a
theorem valOf_acc (f : Int → Int) : ∀ (g : List Int) (a : Int), valOf f g a = a * 2 ^ g.length + valOf f g 0
  | [], a => by simp [valOf]
  | b :: r, a => by
    have h1 := valOf_acc f r (2 * a + f b)
    have h2 := valOf_acc f r (2 * 0 + f b)
    show valOf f r (2 * a + f b) = a * 2 ^ (r.length + 1) + valOf f r (2 * 0 + f b)
    rw [h1, h2, Int.pow_succ, Int.mul_comm (2 ^ r.length) 2, ← Int.mul_assoc, Int.mul_comm a 2, Int.add_mul, Int.add_mul]
    omega
theorem valOf_app (f : Int → Int) (g h : List Int) : valOf f (g ++ h) 0 = valOf f g 0 * 2 ^ h.length + valOf f h 0 := by
  have : valOf f (g ++ h) 0 = valOf f h (valOf f g 0) := by unfold valOf; rw [List.foldl_append]
  rw [this, valOf_acc]
theorem valOf_bound {f : Int → Int} : ∀ {g : List Int}, (∀ b ∈ g, 0 ≤ f b ∧ f b < 2) → 0 ≤ valOf f g 0 ∧ valOf f g 0 < 2 ^ g.length
  | [], _ => by simp [valOf]
  | b :: r, h => by
    have hb := h b (.head _)
    have ih := valOf_bound (g := r) fun c hc => h c (.tail _ hc)
    have e : valOf f (b :: r) 0 = f b * 2 ^ r.length + valOf f r 0 := by
      show valOf f r (2 * 0 + f b) = _
      rw [valOf_acc]; simp
    have hp : (0 : Int) < 2 ^ r.length := kbt_pos _
    rw [e, List.length_cons, Int.pow_succ]
    have h01 : f b = 0 ∨ f b = 1 := by omega
    rcases h01 with q | q
    · rw [q]; omega
    · rw [q]; omega
/-- the cut of a row's value: its last e - s bits ahead of the place -/
theorem valOf_cut {f : Int → Int} {x y z : List Int} (hf : ∀ b ∈ x ++ y ++ z, 0 ≤ f b ∧ f b < 2) :
    (valOf f (x ++ y ++ z) 0).fdiv (2 ^ z.length) % 2 ^ y.length = valOf f y 0 := by
  have hp : (0 : Int) < 2 ^ z.length := kbt_pos _
  have hz := valOf_bound (f := f) (g := z) fun b hb => hf b (List.mem_append.mpr (.inr hb))
  have hy := valOf_bound (f := f) (g := y) fun b hb => hf b (List.mem_append.mpr (.inl (List.mem_append.mpr (.inr hb))))
  rw [valOf_app f (x ++ y) z, Int.fdiv_eq_ediv_of_nonneg _ (Int.le_of_lt hp), Int.add_comm, Int.add_mul_ediv_right _ _ (Int.ne_of_gt hp), Int.ediv_eq_zero_of_lt hz.1 hz.2, Int.zero_add, valOf_app f x y, Int.add_comm, Int.add_mul_emod_self_right]
  exact Int.emod_eq_of_lt hy.1 hy.2
def lf (b : Int) : Int := b.fmod 2
def hf (b : Int) : Int := b.fdiv 2
def digV (y : List Int) : Str := if valOf hf y 0 = 0 then Txt.item (Str.ofString "0123456789abcdef") (valOf lf y 0) else gsign y.length (valOf lf y 0) (valOf hf y 0)
theorem core1 : ∀ a : Fin 4, digV [(a.val : Int)] = sgn [(a.val : Int)] := by decide +kernel
theorem core2 : ∀ a b : Fin 4, digV [(a.val : Int), (b.val : Int)] = sgn [(a.val : Int), (b.val : Int)] := by decide +kernel
theorem core3 : ∀ a b c : Fin 4, digV [(a.val : Int), (b.val : Int), (c.val : Int)] = sgn [(a.val : Int), (b.val : Int), (c.val : Int)] := by decide +kernel
theorem core4 : ∀ a b c d : Fin 4, digV [(a.val : Int), (b.val : Int), (c.val : Int), (d.val : Int)] = sgn [(a.val : Int), (b.val : Int), (c.val : Int), (d.val : Int)] := by decide +kernel
theorem fin4 {x : Int} (h : 0 ≤ x ∧ x < 4) : ∃ a : Fin 4, x = (a.val : Int) := ⟨⟨x.toNat, by omega⟩, by show x = (x.toNat : Int); omega⟩
theorem core : ∀ {y : List Int}, 1 ≤ y.length → y.length ≤ 4 → (∀ b ∈ y, 0 ≤ b ∧ b < 4) → digV y = sgn y
  | [], h, _, _ => by simp at h
  | [x1], _, _, h => by
    obtain ⟨a, rfl⟩ := fin4 (h x1 (.head _))
    exact core1 a
  | [x1, x2], _, _, h => by
    obtain ⟨a, rfl⟩ := fin4 (h x1 (.head _))
    obtain ⟨b, rfl⟩ := fin4 (h x2 (.tail _ (.head _)))
    exact core2 a b
  | [x1, x2, x3], _, _, h => by
    obtain ⟨a, rfl⟩ := fin4 (h x1 (.head _))
    obtain ⟨b, rfl⟩ := fin4 (h x2 (.tail _ (.head _)))
    obtain ⟨c, rfl⟩ := fin4 (h x3 (.tail _ (.tail _ (.head _))))
    exact core3 a b c
  | [x1, x2, x3, x4], _, _, h => by
    obtain ⟨a, rfl⟩ := fin4 (h x1 (.head _))
    obtain ⟨b, rfl⟩ := fin4 (h x2 (.tail _ (.head _)))
    obtain ⟨c, rfl⟩ := fin4 (h x3 (.tail _ (.tail _ (.head _))))
    obtain ⟨d, rfl⟩ := fin4 (h x4 (.tail _ (.tail _ (.tail _ (.head _)))))
    exact core4 a b c d
  | _ :: _ :: _ :: _ :: _ :: _, _, h, _ => by simp only [List.length_cons] at h; omega
theorem lf_bit {b : Int} (h : 0 ≤ b ∧ b < 4) : 0 ≤ lf b ∧ lf b < 2 := ⟨fmod_lo _ (by decide), fmod_hi _ (by decide)⟩
theorem hf_bit {b : Int} (h : 0 ≤ b ∧ b < 4) : 0 ≤ hf b ∧ hf b < 2 := by
  unfold hf
  rw [Int.fdiv_eq_ediv_of_nonneg _ (by decide)]
  omega
theorem cut3 (g : List Int) {s e : Nat} (hse : s ≤ e) (hel : e ≤ g.length) : g.take s ++ (g.drop s).take (min e g.length - s) ++ g.drop e = g := by
  have h1 : min e g.length = e := Nat.min_eq_left hel
  rw [h1, ← List.drop_take]
  have h2 : g.take s = (g.take e).take s := by rw [List.take_take, Nat.min_eq_left hse]
  rw [h2, List.take_append_drop, List.take_append_drop]
/-- the digit of a group is the sign of its bits -/
theorem dig_grp {g : List Int} {size wide lo : Int} (hgl : (g.length : Int) = wide) (hgb : ∀ b ∈ g, 0 ≤ b ∧ b < 4) (hs1 : 1 ≤ size) (hs4 : size ≤ 4) (h0 : 0 ≤ lo) (hlt : lo < wide) :
    digS wide (lowOf g) (highOf g) size lo = sgn (grpAt g size (wide - lo)) := by
  have he : 0 < wide - lo := by omega
  have hel : wide - lo ≤ g.length := by omega
  have h1 := grp_1 hs1 he hel
  have h4 := grp_4 hs1 hs4 he hel
  have hb := grp_b (size := size) (e := wide - lo) hgb
  have hlen := grp_len hs1 he hel
  rw [← core h1 h4 hb]
  have e1 : (if wide - lo < size then wide - lo else size) = ((grpAt g size (wide - lo)).length : Int) := by
    rw [hlen]; split <;> split <;> omega
  have hs : (if wide - lo - size > 0 then wide - lo - size else 0).toNat ≤ (wide - lo).toNat := by split <;> omega
  have hcut : g.take (if wide - lo - size > 0 then wide - lo - size else 0).toNat ++ grpAt g size (wide - lo) ++ g.drop (wide - lo).toNat = g := cut3 g hs (by omega)
  have hz : (g.drop (wide - lo).toNat).length = lo.toNat := by rw [List.length_drop]; omega
  have key : ∀ f : Int → Int, (∀ b, 0 ≤ b ∧ b < 4 → 0 ≤ f b ∧ f b < 2) → (valOf f g 0).fdiv (2 ^ lo.toNat) % 2 ^ ((grpAt g size (wide - lo)).length : Int).toNat = valOf f (grpAt g size (wide - lo)) 0 := by
    intro f hf
    have q := valOf_cut (f := f) (x := g.take (if wide - lo - size > 0 then wide - lo - size else 0).toNat) (y := grpAt g size (wide - lo)) (z := g.drop (wide - lo).toNat) (by rw [hcut]; exact fun b hb => hf b (hgb b hb))
    rw [hcut, hz] at q
    exact q
  have kl : (lowOf g).fdiv (2 ^ lo.toNat) % 2 ^ ((grpAt g size (wide - lo)).length : Int).toNat = valOf lf (grpAt g size (wide - lo)) 0 := key lf fun _ => lf_bit
  have kh : (highOf g).fdiv (2 ^ lo.toNat) % 2 ^ ((grpAt g size (wide - lo)).length : Int).toNat = valOf hf (grpAt g size (wide - lo)) 0 := key hf fun _ => hf_bit
  unfold digS digV
  rw [e1, kl, kh]
theorem ofs_empty : Str.ofString "" = Str.empty := by decide +kernel
theorem join_cons (x : Str) (r : List Str) : Txt.join (Str.ofString "") (x :: r) = x ++ Txt.join (Str.ofString "") r := by
  have h : ∀ l, Txt.join (Str.ofString "") l = PySem.Str.join (Str.ofString "") l := fun l => StrLaws.glued_eq_join _ l
  rw [h, h, ofs_empty]
  cases r with
  | nil => exact (PySem.Str.append_empty x).symm
  | cons y t =>
    show x ++ Str.empty ++ PySem.Str.join Str.empty (y :: t) = _
    rw [PySem.Str.append_empty]
theorem gdig_due {g : List Int} {size wide : Int} (hgl : (g.length : Int) = wide) (hgb : ∀ b ∈ g, 0 ≤ b ∧ b < 4) (hs1 : 1 ≤ size) (hs4 : size ≤ 4) : ∀ j : Nat, size * j < wide + size → gdig wide (lowOf g) (highOf g) size j = dueS g size wide j
  | 0, _ => by
    show Txt.join (Str.ofString "") [] = Str.ofString ""
    have h : ∀ l, Txt.join (Str.ofString "") l = PySem.Str.join (Str.ofString "") l := fun l => StrLaws.glued_eq_join _ l
    rw [h, ofs_empty]; rfl
  | j + 1, h => by
    have h' : size * (j : Int) < wide := by rw [Int.natCast_succ, Int.mul_add, Int.mul_one] at h; omega
    have ih := gdig_due hgl hgb hs1 hs4 j (by omega)
    have hnn : 0 ≤ size * (j : Int) := Int.mul_nonneg (by omega) (by omega)
    unfold gdig at ih ⊢
    rw [List.range_succ, List.map_append, List.reverse_append]
    show Txt.join _ (digS wide (lowOf g) (highOf g) size (size * j) :: ((List.range j).map (fun i : Nat => digS wide (lowOf g) (highOf g) size (size * i))).reverse) = _
    rw [join_cons, ih, dig_grp hgl hgb hs1 hs4 hnn h']
    rfl
theorem law1' {g : List Int} {size wide : Int} {due : Str} {j : Nat} {lo hi : Int} (hgl : (g.length : Int) = wide) (hgb : ∀ b ∈ g, 0 ≤ b ∧ b < 4) (hs1 : 1 ≤ size) (hs4 : size ≤ 4) (hj : wide ≤ size * j ∧ size * j < wide + size) (hl : lo = lowOf g) (hh : hi = highOf g) (hd : due = dueS g size wide j) : gdig wide lo hi size j = due := by
  rw [hl, hh, hd]; exact gdig_due hgl hgb hs1 hs4 j hj.2
def sumA (y : List Int) : Int := (List.map (fun k' => (y.getD k'.toNat 0).fmod 2 * 2 ^ ((y.length : Int) - 1 - k').toNat) (rangeKs 0 ((y.length : Int) - 0).toNat)).sum
def sumB (y : List Int) : Int := (List.map (fun k' => (y.getD k'.toNat 0).fdiv 2 * 2 ^ ((y.length : Int) - 1 - k').toNat) (rangeKs 0 ((y.length : Int) - 0).toNat)).sum
def endS (y : List Int) : Str := if decide (List.map (fun a => a) (List.filter (fun a => decide (1 < a)) y) = []) = true then sgn y else gsign y.length (sumA y) (sumB y)
theorem coreE1 : ∀ a : Fin 4, endS [(a.val : Int)] = sgn [(a.val : Int)] := by decide +kernel
theorem coreE2 : ∀ a b : Fin 4, endS [(a.val : Int), (b.val : Int)] = sgn [(a.val : Int), (b.val : Int)] := by decide +kernel
theorem coreE3 : ∀ a b c : Fin 4, endS [(a.val : Int), (b.val : Int), (c.val : Int)] = sgn [(a.val : Int), (b.val : Int), (c.val : Int)] := by decide +kernel
theorem coreE4 : ∀ a b c d : Fin 4, endS [(a.val : Int), (b.val : Int), (c.val : Int), (d.val : Int)] = sgn [(a.val : Int), (b.val : Int), (c.val : Int), (d.val : Int)] := by decide +kernel
theorem coreE : ∀ {y : List Int}, 1 ≤ y.length → y.length ≤ 4 → (∀ b ∈ y, 0 ≤ b ∧ b < 4) → endS y = sgn y
  | [], h, _, _ => by simp at h
  | [x1], _, _, h => by
    obtain ⟨a, rfl⟩ := fin4 (h x1 (.head _))
    exact coreE1 a
  | [x1, x2], _, _, h => by
    obtain ⟨a, rfl⟩ := fin4 (h x1 (.head _))
    obtain ⟨b, rfl⟩ := fin4 (h x2 (.tail _ (.head _)))
    exact coreE2 a b
  | [x1, x2, x3], _, _, h => by
    obtain ⟨a, rfl⟩ := fin4 (h x1 (.head _))
    obtain ⟨b, rfl⟩ := fin4 (h x2 (.tail _ (.head _)))
    obtain ⟨c, rfl⟩ := fin4 (h x3 (.tail _ (.tail _ (.head _))))
    exact coreE3 a b c
  | [x1, x2, x3, x4], _, _, h => by
    obtain ⟨a, rfl⟩ := fin4 (h x1 (.head _))
    obtain ⟨b, rfl⟩ := fin4 (h x2 (.tail _ (.head _)))
    obtain ⟨c, rfl⟩ := fin4 (h x3 (.tail _ (.tail _ (.head _))))
    obtain ⟨d, rfl⟩ := fin4 (h x4 (.tail _ (.tail _ (.tail _ (.head _)))))
    exact coreE4 a b c d
  | _ :: _ :: _ :: _ :: _ :: _, _, h, _ => by simp only [List.length_cons] at h; omega
theorem law2 {y : List Int} (h1 : 1 ≤ y.length) (h4 : y.length ≤ 4) (hb : ∀ b ∈ y, 0 ≤ b ∧ b < 4) (hu : decide (List.map (fun a => a) (List.filter (fun a => decide (1 < a)) y) = []) = false) : gsign y.length (sumA y) (sumB y) = sgn y := by
  have h := coreE h1 h4 hb
  unfold endS at h
  rw [if_neg (by rw [hu]; exact Bool.false_ne_true)] at h
  exact h
theorem cl_pos {cl : List Int} (h : decide (cl = []) = false) : (0 : Int) < cl.length := by
  have h' := of_decide_eq_false h
  have : 0 < cl.length := List.length_pos_iff.mpr h'
  omega
theorem zw_lem {g : List Int} {wide : Int} (h : g.length = (wide - 0).toNat) (hw : 1 ≤ wide) : (g.length : Int) = wide := by omega
theorem kb60 {k wide : Int} (h : k < 0 + ((wide - 0).toNat : Int)) (hw : wide ≤ 60) : k < 64 := by omega
theorem len3a (l : List Int) : (0 : Int) < ((l ++ [2, 1, 0]).length : Int) := by rw [List.length_append]; simp only [List.length_cons, List.length_nil]; omega
theorem len3b (n : Nat) : (0 : Int) < ((n + (1 + 1 + 1) : Nat) : Int) := by omega
theorem pow2_line {prog : Program} {w : World} {A : Around} {E : Value → Shared → Prop} {s : Shared} {Q : Value → Shared → Prop} {k : Int} {n : Nat} {t u : Tok} (h0 : 0 ≤ k) (h1 : k < 0 + (((n : Int) - 0).toNat : Int)) (h4 : n ≤ 4) (h : Q (.int (2 ^ ((n : Int) - 1 - k).toNat) s.toks) { s with toks := s.toks + 1 }) :
    wpAny (model prog w) A (binaryOp .Pow (.int 2 t) (.int ((n : Int) - 1 - k) u)) Q E s := pow_int_small (by omega) (by omega) (by decide) h
theorem tk_1 {g : List Int} {size wide : Int} (hgl : (g.length : Int) = wide) (hs1 : 1 ≤ size) (hw1 : 1 ≤ wide) : 1 ≤ (List.take size.toNat g).length := by rw [List.length_take]; omega
theorem tk_4 {g : List Int} {size : Int} (hs4 : size ≤ 4) : (List.take size.toNat g).length ≤ 4 := by rw [List.length_take]; omega
theorem tk_b {g : List Int} {size : Int} (hb : ∀ b ∈ g, 0 ≤ b ∧ b < 4) : ∀ b ∈ List.take size.toNat g, 0 ≤ b ∧ b < 4 := fun b h => hb b (List.mem_of_mem_take h)
theorem mul2_line {prog : Program} {w : World} {A : Around} {E : Value → Shared → Prop} {s : Shared} {Q : Value → Shared → Prop} {x k : Int} {n : Nat} {t u : Tok} (h0 : 0 ≤ k) (h4 : n ≤ 4) (h : Q (.int (x * 2 ^ ((n : Int) - 1 - k).toNat) s.toks) { s with toks := s.toks + 1 }) :
    wpAny (model prog w) A (binaryOp .Mult (.int x t) (.int (2 ^ ((n : Int) - 1 - k).toNat) u)) Q E s := by
  refine PyProof.Rows.mul_int h (IntMulOk.of_right (intBits_le_64 ?_ ?_))
  · have := kbt_pos ((n : Int) - 1 - k).toNat
    omega
  · have h3 : (2 : Int) ^ ((n : Int) - 1 - k).toNat ≤ 2 ^ 4 := by
      have : (2 : Nat) ^ ((n : Int) - 1 - k).toNat ≤ 2 ^ 4 := Nat.pow_le_pow_right (by decide) (by omega)
      exact_mod_cast this
    omega
theorem eq_same {prog : Program} {w : World} {A : Around} {E : Value → Shared → Prop} {s : Shared} {Q : Value → Shared → Prop} {x y : Str} {t u : Tok} (e : x = y) (h : Q (.bool true) s) : wpAny (model prog w) A (compareOp .Eq (.str x t) (.str y u)) Q E s :=
  PyProof.Rows.eq_str (by subst e; simpa using h)
theorem idx_in {k : Int} {n : Nat} (h : k < 0 + (((n : Int) - 0).toNat : Int)) : k < (n : Int) := by omega
theorem idx_fit {k : Int} {n : Nat} (h : k < 0 + (((n : Int) - 0).toNat : Int)) (h4 : n ≤ 4) : k < 2 ^ 63 := by omega
end Mine
open Mine
section
local macro_rules | `(tactic| walk_at "pyIter ref") => `(tactic| k_extra "pyIter ref")
local macro_rules | `(tactic| walk_at "execs cons") => `(tactic| k_extra "execs cons")
local macro_rules | `(tactic| walk_at "storeName") => `(tactic| k_extra "storeName")
local macro_rules | `(tactic| walk_at "binaryOp Pow int int") => `(tactic| (with_reducible (refine pow3_line ?b1 ?b2 ?b3 ?_; (case b1 => assumption); (case b2 => exact kb60 (by assumption) (by assumption)); (case b3 => first | exact len3a _ | exact len3b _))))
local macro_rules | `(tactic| walk_at "binaryOp FloorDiv int int") => `(tactic| (with_reducible (refine div3_line ?b1 ?b2 ?b3 ?_; (case b1 => assumption); (case b2 => exact kb60 (by assumption) (by assumption)); (case b3 => first | exact len3a _ | exact len3b _))))
local macro_rules | `(tactic| walk_at "subscriptTail Name Constant ref int") => `(tactic| (with_unfolding_all (refine' item_anyK ?k1 ?k2 ?k3 ?k4 ?k5 ?_; (case k1 => is_list); (case k2 => with_reducible assumption); (case k3 => decide); (case k4 => first | exact cl_pos (by with_reducible assumption) | assumption); (case k5 => decide); intro t')))
local macro_rules | `(tactic| passes_own) => `(tactic| exact PySem.PassesOwn.leaving)
local macro_rules | `(tactic| kst_facts) => `(tactic| exact ⟨_, by assumption⟩)
local macro_rules | `(tactic| walk_at "exec While Compare") => `(tactic| fail "no")
local macro_rules | `(tactic| walk_at "call ref") => `(tactic| (k_here; k_dflt (refine' ls_use ?k1 ?k2 ?k3 ?k4 ?km ?k5 ?kK ?ki ?kd ?ku ?b1 ?b2 ?b3 ?_; (case k1 => k_asm); (case k2 => k_asm); (case k3 => k_asm); (case k4 => k_asm); (case km => k_mem); (case k5 => k_asm); (case kK => first | exact rfl | assumption); (case ki => with_reducible assumption); (case kd => ktr_room); (case ku => ktr_units); (case b1 => k_extra "ls1"); (case b2 => k_extra "ls2"); (case b3 => k_extra "ls3"); intro t9 h9 tk9 F9 N9; (try dsimp only); (try k_fold))))
local macro_rules | `(tactic| walk_at "binaryOp Add str str") => `(tactic| (refine' PyProof.Rows.add_str ?_ ?b1; (case b1 => k_extra "add"); intro t' tk'))
local macro_rules | `(tactic| walk_at "call ref") => `(tactic| (k_here; k_dflt (refine' gd_use ?k1 ?k2 ?k3 ?k4 ?km ?k5 ?kK ?kd ?ku ?b1 ?b2 ?b3 ?b4 ?bj ?_; (case k1 => k_asm); (case k2 => k_asm); (case k3 => k_asm); (case k4 => k_asm); (case km => k_mem); (case k5 => k_asm); (case kK => first | exact rfl | assumption); (case kd => ktr_room); (case ku => ktr_units); (case b1 => with_reducible assumption); (case b2 => with_reducible assumption); (case b3 => with_reducible assumption); (case b4 => with_reducible assumption); (case bj => k_extra "gdj"); intro t9 h9 tk9 F9 N9; (try dsimp only); (try k_fold))))
local macro_rules | `(tactic| walk_at "compareOp NotEq str str") => `(tactic| k_extra "ne")
local macro_rules | `(tactic| walk_at "execs") => `(tactic| (with_unfolding_all (refine wpAny_execs_nil ?_)))
local macro_rules | `(tactic| walk_at "call ref") => `(tactic| (k_here; k_dflt (refine' gs_use ?k1 ?k2 ?k3 ?k4 ?km ?k5 ?kK ?kd ?b1 ?b2 ?_; (case k1 => k_asm); (case k2 => k_asm); (case k3 => k_asm); (case k4 => k_asm); (case km => k_mem); (case k5 => k_asm); (case kK => first | exact rfl | assumption); (case kd => ktr_room); (case b1 => k_extra "gs1"); (case b2 => k_extra "gs2"); intro t9 h9 tk9 F9 N9; (try dsimp only); (try k_fold))))
local macro_rules | `(tactic| walk_at "binaryOp Pow int int") => `(tactic| (with_reducible (refine pow2_line ?b1 ?b2 ?b3 ?_; (case b1 => assumption); (case b2 => assumption); (case b3 => k_extra "pow"))))
local macro_rules | `(tactic| walk_at "subscriptTail Name Name ref int") => `(tactic| (with_unfolding_all (refine' item_anyK ?k1 ?k2 ?k3 ?k4 ?k5 ?_; (case k1 => is_list); (case k2 => with_reducible assumption); (case k3 => with_reducible assumption); (case k4 => exact idx_in (by with_reducible assumption)); (case k5 => exact idx_fit (by with_reducible assumption) (tk_4 (by with_reducible assumption))); intro t')))
local macro_rules | `(tactic| walk_at "binaryOp Mult int int") => `(tactic| (with_reducible (refine mul2_line ?b1 ?b2 ?_; (case b1 => assumption); (case b2 => k_extra "pow"))))
local macro_rules | `(tactic| walk_at "compareOp Eq str str") => `(tactic| k_dflt (k_extra "eq"))
theorem PySem.Challenge.cw_on0084_01_holds : PySem.Challenge.rw_on0084_01.Holds := by
  refine hd ?_
  k_go0
  (all_goals try k_fold)
  refine execs_cutM (by assumption) 12 ?_ ?_
  rotate_left
  · k_with_none
    rintro s9 ⟨size, wide, g, ys, D, t1, t2, h, tk, m, o, rfl, F9, N9, l9, ⟨v0, hv0⟩, hg, hgl, hgb, hs1, hs4, hw1, hw60, e1, e2, e3⟩
    replace F9 := mid_fr F9 e1 e2 e3
    (try (dsimp only [List.drop_succ_cons, List.drop_zero, List.take_succ_cons, List.take_zero]))
    (try k_fold)
    k_with "eq" => (refine eq_same (law2 (tk_1 hgl hs1 hw1) (tk_4 hs4) (tk_b hgb) (by with_reducible assumption)) ?_)
    k_with "pow" => exact tk_4 hs4
    k_with "ls1" => exact tk_1 hgl hs1 hw1
    k_with "ls2" => exact tk_4 hs4
    k_with "ls3" => exact tk_b hgb
    k_with "gs1" => (have := tk_1 hgl hs1 hw1; omega)
    k_with "gs2" => (have := tk_4 (g := g) hs4; omega)
    repeat' (first | (k_unfold; (try dsimp only)) | (k_end; wrow_close) | walk1 | (dsimp only; walk1) | (leave1; walk_say "STEP leave1"; try dsimp only) | fail "no step")
  · refine execs_cutM (by assumption) 5 ?_ ?_
    · k_with_none
      (try (dsimp only [List.take_succ_cons, List.take_zero]))
      (try k_fold)
      k_with "arith" => first | omega | (simp only [List.length_append, List.length_cons, List.length_nil]; omega)
      k_with "execs cons" => ((with_reducible rename IntsAre _ (List.map _ (List.take 64 _)) => h9); obtain ⟨cl, hcl, hlen⟩ := forget_cells h9 (by assumption); clear h9)
      k_with "execs cons" => ((with_reducible rename IntsAre _ (List.map _ (rangeKs 0 _)) => h9); obtain ⟨g, hg, hglen, hgb⟩ := forget_bits h9 (fun k => fmod4 _); clear h9)
      k_with "storeName" => (refine gen_int (P := fun x => wpAny (model _ _) _ (storeName _ (Str.ofString "size") (Value.int x _)) _ _ _) (lo := 1) (hi := 4) (by first | decide | (k_fmods; omega)) (by first | decide | (k_fmods; omega)) ?_; intro size hs1 hs4)
      k_with "storeName" => (refine gen_int (P := fun x => wpAny (model _ _) _ (storeName _ (Str.ofString "wide") (Value.int x _)) _ _ _) (lo := 1) (hi := 60) (by first | decide | (k_fmods; omega)) (by first | decide | (k_fmods; omega)) ?_; intro wide hw1 hw60)
      repeat' (first | (k_unfold; (try dsimp only)) | walk1 | (dsimp only; walk1) | fail "no step")
      all_goals (
        (with_reducible rename IntsAre _ (List.map _ (rangeKs 0 _)) => h9)
        obtain ⟨g, hg, hglen, hgb⟩ := forget_bits h9 (fun k => fmod4 _)
        clear h9
        refine' ⟨rfl, size, wide, g, _, _, _, _, _, _, _, _, rfl, ?zF, ?zN, ?zl, ?zo, hg, ?zw, hgb, hs1, hs4, hw1, hw60, ?z1, ?z2, ?z3⟩
        case zF => assumption
        case z1 => with_unfolding_all rfl
        case z2 => with_unfolding_all rfl
        case z3 => with_unfolding_all rfl
        case zN => (rename News _ _ _ _ => nE; exact news_two nE (by k_memK) (by k_memK))
        case zl => (clear hglen; (repeat' (rename _ ∧ _ => hh9; obtain ⟨_, hh9⟩ := hh9)); first | assumption | (apply Ne.symm; assumption) | (apply Nat.ne_of_lt; assumption) | omega)
        case zo => exact ⟨_, by assumption⟩
        case zw => exact zw_lem hglen hw1)
    · k_with_none
      rintro s9 ⟨size, wide, g, ys, D, t1, t2, h, tk, m, o, rfl, F9, N9, l9, ⟨v0, hv0⟩, hg, hgl, hgb, hs1, hs4, hw1, hw60, e1, e2, e3⟩
      replace F9 := mid_fr F9 e1 e2 e3
      (try (dsimp only [List.drop_succ_cons, List.drop_zero, List.take_succ_cons, List.take_zero]))
      (try k_fold)
      k_with "pyIter ref" => k_state (fun pre lo hi => lo = lowOf pre ∧ hi = highOf pre) "low" "high"
      k_with "state" => first | exact lh_0 | exact lh_1 (by assumption) (by assumption)
      repeat (first | (k_unfold; (try dsimp only)) | ((fail_if_success (with_reducible show wpAny _ _ (exec (Stmt.While _ _ _ _) _) _ _ _)); walk1))
      rename Fr _ _ _ _ => lF'
      rename News _ _ _ _ => lN'
      with_unfolding_all refine' ksw_while (σ := Str × Nat × Int × Nat × Obj) (fun z => [(D, LCg.lst ys), (_, z.2.2.2.2)]) (fun z => [(Str.ofString "due", .str z.1 z.2.1), (Str.ofString "end", .int z.2.2.1 z.2.2.2.1)]) (fun z => ∃ v, z.2.2.2.2.data = Data.cell v) [] (fun z => DueInv g size wide z.1 z.2.2.1) (fun z => z.2.2.1.toNat) (Str.ofString "", _, wide, _, o) lF' lN' ?kf ?kk ?kp ?turn
      (case kf => exact ⟨_, hv0⟩)
      (case kk => kst_all)
      (case kp => exact due_0 hs1 hw1)
      clear lF' lN'
      rintro ⟨due, td, e, te, oo⟩ u h9 tk9 ⟨v9, hv9⟩ hInv hFr hNews
      (try dsimp only at hv9 hInv hFr hNews)
      (try k_fold)
      have hle := due_le hInv
      obtain ⟨j, ej, edue, ej3, ej4⟩ := id hInv
      have hj : ¬ 0 < e → wide ≤ size * j ∧ size * j < wide + size := fun _ => by omega
      k_with "gdj" => exact hj (by assumption)
      k_with "ne" => refine ne_same (law1' hgl hgb hs1 hs4 (hj (by assumption)) (by with_reducible assumption) (by with_reducible assumption) edue) ?_
      k_with "ls1" => exact grp_1 hs1 (by assumption) (by omega)
      k_with "ls2" => exact grp_4 hs1 hs4 (by assumption) (by omega)
      k_with "ls3" => exact grp_b hgb
      k_with "add" => exact due_fit hInv (by assumption) hw60
      k_with "state" => exact due_1 hs1 (by assumption) hInv
      k_with "measure" => omega
      repeat' (first | (k_unfold; (try dsimp only)) | walk1 | (dsimp only; walk1) | fail "no step")
      · rename News _ _ _ _ => nE
        refine' ksw_end (_, _, _, _, _) (by assumption) nE ?zza ?zzb ?zzc ?zzd ?zze ?zzf
        case zza => refine List.forall_mem_cons.mpr ⟨by k_memK, List.forall_mem_cons.mpr ⟨by k_memK, List.forall_mem_nil _⟩⟩
        case zzb => exact ⟨_, by assumption⟩
        case zzc => kst_all
        case zze => exact due_1 hs1 (by assumption) hInv
        case zzf => dsimp only; omega
        case zzd =>
          intro z h2 _
          have q1 : z ≠ Str.ofString "due" := h2 _ (.head _)
          have q2 : z ≠ Str.ofString "end" := h2 _ (.tail _ (.head _))
          simp only [if_neg q1, if_neg q2, kstB, List.contains_nil, Bool.false_eq_true, if_false]
          done
      all_goals (
        refine' ⟨rfl, size, wide, g, _, _, _, _, _, _, _, _, rfl, ?zF, ?zN, ?zl, ?zo, hg, hgl, hgb, hs1, hs4, hw1, hw60, ?z1, ?z2, ?z3⟩
        case zF => assumption
        case z1 => with_unfolding_all rfl
        case z2 => with_unfolding_all rfl
        case z3 => with_unfolding_all rfl
        case zN => (rename News _ _ _ _ => nE; exact news_two nE (by k_memK) (by k_memK))
        case zl => exact l9
        case zo => exact ⟨_, by assumption⟩)
end
