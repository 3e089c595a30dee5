import PyProof.Rows.All
import Wide.All
import OpenK.AllK
import Wide.FinOn
import PySem.Challenge.RW_xm0062_01
set_option Elab.async false
set_option maxRecDepth 100000
namespace Mine
open PySem PySem.W PyProof.Rows
set_option maxHeartbeats 8000000 in
open_top hd for PySem.Challenge.rw_xm0062_01
open PySem.Calls

local macro_rules | `(tactic| walk_at "call ref") => `(tactic| k_extra "my call ref")
local macro_rules | `(tactic| walk_at "eval ListComp") => `(tactic| k_extra "my eval ListComp")
local macro_rules | `(tactic| walk_at "CompSrcT") => `(tactic| k_extra "my CompSrcT")
local macro_rules | `(tactic| walk_at "CompEnd") => `(tactic| k_extra "my CompEnd")
local macro_rules | `(tactic| walk_at "subscriptTail") => `(tactic| k_extra "my subscriptTail")
local macro_rules | `(tactic| walk_at "KCiEl") => `(tactic| k_extra "my KCiEl")
local macro_rules | `(tactic| walk_at "KCiNo") => `(tactic| k_extra "my KCiNo")
local macro_rules | `(tactic| walk_at "KPfGrows") => `(tactic| k_extra "my KPfGrows")
local macro_rules | `(tactic| walk_at "exec For Name Call cons nil") => `(tactic| k_extra "my exec For Name Call cons nil")
local macro_rules | `(tactic| walk_at "pyIter ref") => `(tactic| k_extra "my pyIter ref")
local macro_rules | `(tactic| walk_at "ite") => `(tactic| k_extra "my ite")
local macro_rules | `(tactic| walk_at "InvEndN") => `(tactic| k_extra "my InvEndN")
local macro_rules | `(tactic| walk_at "binaryOp Mult int int") => `(tactic| k_extra "my binaryOp Mult int int")
local macro_rules | `(tactic| walk_at "compareOp Eq int int") => `(tactic| k_extra "my compareOp Eq int int")
local macro_rules | `(tactic| walk_at "execs cons") => `(tactic| k_extra "my execs cons")

abbrev Con (dep unn : Nat) (f : Addr) (vs : List Value) (R : Tok → Value) : Prop :=
  ∀ (w : World) (loose : List Str) (mean : ExcName → Option Value) (mg mb : Str → Option Value) (news : List (Addr × Obj))
    (dp un : Nat) (gd : Option (List Code)) (cn : Str) (cs : Scope) (a : Addr) (ccd : Value) (cl : List (Str × Addr)) (outer : List Env) (A₀ : Around) (base h₀ : Heap) (L : Addr) (m : Str → Option Value) (s : Shared) (Q E : Value → Shared → Prop),
    Below A₀ base outer h₀ → Fr h₀ L s.heap m → (hd.heap_39 w.params).In h₀ → News h₀ L s.heap news → Top hd.view_39 loose mean mg mb h₀ → cs.kind = .function →
    dp + dep < recursionLimit → un + unn < cLine → CbRet h₀ L m news s Q R →
      wpAny (model PySem.Challenge.rw_xm0062_01.row.prog w) (ktrTop dp un gd cn cs L a ccd cl outer) (call (.ref f) vs) Q E s

theorem con_use {dep unn : Nat} {f : Addr} {vs : List Value} {R : Tok → Value} (c : Con dep unn f vs R) {w : World} {loose : List Str} {mean : ExcName → Option Value} {mg mb : Str → Option Value} {news : List (Addr × Obj)}
    {dp un : Nat} {gd : Option (List Code)} {cn : Str} {cs : Scope} {a : Addr} {ccd : Value} {cl : List (Str × Addr)} {outer : List Env} {A₀ : Around} {base h₀ : Heap} {L : Addr} {m : Str → Option Value} {s : Shared} {Q E : Value → Shared → Prop}
    (ret : ∀ (t : Tok) (h' : Heap) (tk' : Nat), Fr h₀ L h' m → News h₀ L h' news → Q (R t) { s with heap := h', toks := tk' })
    (hB : Below A₀ base outer h₀ := by k_asm) (hF : Fr h₀ L s.heap m := by k_asm) (hX : (hd.heap_39 w.params).In h₀ := by k_asm) (hN : News h₀ L s.heap news := by k_asm) (hT : Top hd.view_39 loose mean mg mb h₀ := by k_asm)
    (hk : cs.kind = .function := by first | exact rfl | assumption) (hr : dp + dep < recursionLimit := by ktr_room) (hu : un + unn < cLine := by ktr_units) :
    wpAny (model PySem.Challenge.rw_xm0062_01.row.prog w) (ktrTop dp un gd cn cs L a ccd cl outer) (call (.ref f) vs) Q E s :=
  c w loose mean mg mb news dp un gd cn cs a ccd cl outer A₀ base h₀ L m s Q E hB hF hX hN hT hk hr hu ret

set_option maxHeartbeats 8000000 in
theorem fits_c (n : Int) (t u : Tok) (h1 : -2147483648 ≤ n) (h2 : n < 2147483648) : Con 2 16 72 [.int n t, .int 32 u] (fun _ => .bool true) := by
  (try dsimp only [Con, CbRet])
  k_fill
  intro w loose mean mg mb news dp un gd cn cs a ccd cl outer A₀ base h₀ L m s Q E hB hF hX hN hT hk hdp hun hret
  refine wpAny_call ?_
  k_dflt cell_enter
  k_steps
  all_goals cb_end hret


set_option maxHeartbeats 8000000 in
theorem settled_c (n : Int) (t u v : Tok) (h1 : -2147483648 ≤ n) (h2 : n < 2147483648) : Con 4 32 164 [.int n t, .int 32 u, .int 9 v] (fun t => .int n t) := by
  k_with "my call ref" => (k_here; (with_reducible show wpAny _ _ (call (Value.ref 72) _) _ _ _); (k_dflt (refine con_use (fits_c _ _ _ (by omega) (by omega)) ?_)); intro t9 h9 tk9 F9 N9; (try dsimp only); (try k_fold))
  (try dsimp only [Con, CbRet])
  k_fill
  intro w loose mean mg mb news dp un gd cn cs a ccd cl outer A₀ base h₀ L m s Q E hB hF hX hN hT hk hdp hun hret
  refine wpAny_call ?_
  k_dflt cell_enter
  k_steps
  all_goals cb_end hret


set_option maxHeartbeats 8000000 in
theorem whole_c (n : Int) (t : Tok) : Con 2 16 157 [.int n t] (fun _ => .bool true) := by
  k_with "my call ref" => (k_here; (with_reducible show wpAny _ _ (call (Value.ref 164) _) _ _ _); (k_dflt (refine con_use (settled_c _ _ _ _ (by omega) (by omega)) ?_)); intro t9 h9 tk9 F9 N9; (try dsimp only); (try k_fold))
  (try dsimp only [Con, CbRet])
  k_fill
  intro w loose mean mg mb news dp un gd cn cs a ccd cl outer A₀ base h₀ L m s Q E hB hF hX hN hT hk hdp hun hret
  refine wpAny_call ?_
  k_dflt cell_enter
  k_steps
  all_goals cb_end hret

set_option maxHeartbeats 8000000 in
theorem whole_of_c (n : Int) (t u : Tok) (h1 : -2147483648 ≤ n) (h2 : n < 2147483648) : Con 4 32 79 [.int n t, .int 32 u] (fun t => .int n t) := by
  k_with "my call ref" => (k_here; (with_reducible show wpAny _ _ (call (Value.ref 157) _) _ _ _); (k_dflt (refine con_use (whole_c _ _) ?_)); intro t9 h9 tk9 F9 N9; (try dsimp only); (try k_fold))
  (try dsimp only [Con, CbRet])
  k_fill
  intro w loose mean mg mb news dp un gd cn cs a ccd cl outer A₀ base h₀ L m s Q E hB hF hX hN hT hk hdp hun hret
  refine wpAny_call ?_
  k_dflt cell_enter
  k_steps
  all_goals cb_end hret

theorem quot_eq {x y : Int} (h1 : 0 ≤ x) (h3 : 0 < y) : (if x < 0 then -x else x).fdiv (if y < 0 then -y else y) = x / y := by
  rw [if_neg (by omega), if_neg (by omega), Int.fdiv_eq_ediv_of_nonneg _ (by omega)]
theorem quot_no {x y : Int} (h1 : 0 ≤ x) (h3 : 0 < y) (h : (decide (x < 0) == decide (y < 0)) = false) : False := by
  rw [decide_eq_false (by omega), decide_eq_false (by omega)] at h
  cases h

set_option maxHeartbeats 8000000 in
theorem quot_c (x y : Int) (tx ty : Tok) (h1 : 0 ≤ x) (h2 : x < 2147483648) (h3 : 0 < y) (h4 : y < 14) : Con 2 16 178 [.int x tx, .int y ty] (fun t => .int (x / y) t) := by
  k_with "my call ref" => (k_here; (with_reducible show wpAny _ _ (call (Value.ref 79) _) _ _ _); (k_dflt (refine con_use (whole_of_c _ _ _ (by omega) (by omega)) ?_)); intro t9 h9 tk9 F9 N9; (try dsimp only); (try k_fold))
  (try dsimp only [Con, CbRet])
  k_fill
  intro w loose mean mg mb news dp un gd cn cs a ccd cl outer A₀ base h₀ L m s Q E hB hF hX hN hT hk hdp hun hret
  refine wpAny_call ?_
  k_dflt cell_enter
  k_steps
  · exfalso; omega
  · exact cb_retI (Q := Q) hret (quot_eq h1 h3) (by k_asm) (by k_asm)
  · exact (quot_no h1 h3 (by assumption)).elim

set_option maxHeartbeats 8000000 in
theorem cutrest_c (x y : Int) (tx ty : Tok) (h1 : 0 ≤ x) (h2 : x < 2147483648) (h3 : 0 < y) (h4 : y < 14) : Con 4 32 185 [.int x tx, .int y ty] (fun t => .int (x % y) t) := by
  k_with "my call ref" => (k_here; (with_reducible show wpAny _ _ (call (Value.ref 178) _) _ _ _); (k_dflt (refine con_use (quot_c _ _ _ _ (by omega) (by omega) (by omega) (by omega)) ?_)); intro t9 h9 tk9 F9 N9; (try dsimp only); (try k_fold))
  (try dsimp only [Con, CbRet])
  k_fill
  intro w loose mean mg mb news dp un gd cn cs a ccd cl outer A₀ base h₀ L m s Q E hB hF hX hN hT hk hdp hun hret
  refine wpAny_call ?_
  k_dflt cell_enter
  have hq0 : 0 ≤ x / y := Int.ediv_nonneg h1 (by omega)
  have hq1 : x / y ≤ x := Int.ediv_le_self _ h1
  k_steps
  exact cb_retI (Q := Q) hret (Int.emod_def x y).symm (by k_asm) (by k_asm)


theorem mul_lt {a b : Int} (h1 : 0 ≤ a) (h2 : a < 14) (h3 : 0 ≤ b) (h4 : b < 14) : 0 ≤ a * b ∧ a * b < 196 := by
  have e1 : a * b ≤ 13 * b := Int.mul_le_mul_of_nonneg_right (by omega) h3
  exact ⟨Int.mul_nonneg h1 h3, by omega⟩

set_option maxHeartbeats 8000000 in
theorem wmul_c (x y : Int) (t tx ty u v : Tok) (h1 : 0 ≤ x) (h2 : x < 14) (h3 : 0 ≤ y) (h4 : y < 14) : Con 6 64 171 [.str (Str.ofString "*") t, .int x tx, .int y ty, .int 32 u, .int 9 v] (fun t => .int (x * y) t) := by
  k_with "my call ref" => (k_here; (with_reducible show wpAny _ _ (call (Value.ref 185) _) _ _ _); (k_dflt (refine con_use (cutrest_c _ _ _ _ (by omega) (by omega) (by omega) (by omega)) ?_)); intro t9 h9 tk9 F9 N9; (try dsimp only); (try k_fold))
  (try dsimp only [Con, CbRet])
  k_fill
  intro w loose mean mg mb news dp un gd cn cs a ccd cl outer A₀ base h₀ L m s Q E hB hF hX hN hT hk hdp hun hret
  have hm := mul_lt h1 h2 h3 h4
  refine wpAny_call ?_
  k_dflt cell_enter
  k_steps
  all_goals cb_end hret

set_option maxHeartbeats 8000000 in
theorem rmul_c (x y : Int) (t tx ty u v : Tok) (h1 : 0 ≤ x) (h2 : x < 14) (h3 : 0 ≤ y) (h4 : y < 14) : Con 8 128 213 [.str (Str.ofString "*") t, .int x tx, .int y ty, .int 32 u, .int 9 v] (fun t => .int (x * y) t) := by
  k_with "my call ref" => (k_here; (with_reducible show wpAny _ _ (call (Value.ref 171) _) _ _ _); (k_dflt (refine con_use (wmul_c _ _ _ _ _ _ _ (by omega) (by omega) (by omega) (by omega)) ?_)); intro t9 h9 tk9 F9 N9; (try dsimp only); (try k_fold))
  (try dsimp only [Con, CbRet])
  k_fill
  intro w loose mean mg mb news dp un gd cn cs a ccd cl outer A₀ base h₀ L m s Q E hB hF hX hN hT hk hdp hun hret
  refine wpAny_call ?_
  k_dflt cell_enter
  k_steps
  all_goals cb_end hret

set_option maxHeartbeats 8000000 in
theorem rmod_c (x y : Int) (t tx ty u v : Tok) (h1 : 0 ≤ x) (h2 : x < 2147483648) (h3 : 0 < y) (h4 : y < 14) : Con 8 128 213 [.str (Str.ofString "MOD") t, .int x tx, .int y ty, .int 32 u, .int 9 v] (fun t => .int (x % y) t) := by
  (try dsimp only [Con, CbRet])
  k_fill
  intro w loose mean mg mb news dp un gd cn cs a ccd cl outer A₀ base h₀ L m s Q E hB hF hX hN hT hk hdp hun hret
  have hm0 : 0 ≤ x % y := Int.emod_nonneg _ (by omega)
  have hm1 : x % y < 14 := Int.lt_trans (Int.emod_lt_of_pos _ h3) h4
  refine wpAny_call ?_
  k_dflt cell_enter
  k_steps
  all_goals cb_end hret


set_option maxHeartbeats 8000000 in
theorem rest_c (x y p : Int) (tx ty tp : Tok) (h1 : 0 ≤ x) (h2 : x < 14) (h3 : 0 ≤ y) (h4 : y < 14) (h5 : 0 < p) (h6 : p < 14) : Con 10 256 227 [.int x tx, .int y ty, .int p tp] (fun t => .int (x * y % p) t) := by
  k_with "my call ref" => (k_here; (with_reducible show wpAny _ _ (call (Value.ref 213) [Value.str (Str.ofString "*") _, _, _, _, _]) _ _ _); (k_dflt (refine con_use (rmul_c _ _ _ _ _ _ _ (by omega) (by omega) (by omega) (by omega)) ?_)); intro t9 h9 tk9 F9 N9; (try dsimp only); (try k_fold))
  k_with "my call ref" => (k_here; (with_reducible show wpAny _ _ (call (Value.ref 213) [Value.str (Str.ofString "MOD") _, _, _, _, _]) _ _ _); (k_dflt (refine con_use (rmod_c _ _ _ _ _ _ _ (by omega) (by omega) (by omega) (by omega)) ?_)); intro t9 h9 tk9 F9 N9; (try dsimp only); (try k_fold))
  (try dsimp only [Con, CbRet])
  k_fill
  intro w loose mean mg mb news dp un gd cn cs a ccd cl outer A₀ base h₀ L m s Q E hB hF hX hN hT hk hdp hun hret
  have hm := mul_lt h1 h2 h3 h4
  refine wpAny_call ?_
  k_dflt cell_enter
  k_steps
  all_goals cb_end hret


set_option maxHeartbeats 8000000 in
theorem expo_c (n : Int) (t : Tok) : Con 4 32 192 [.int n t] (fun t => .int n t) := by
  k_with "my call ref" => (k_here; (with_reducible show wpAny _ _ (call (Value.ref 227) _) _ _ _); (k_dflt (refine con_use (rest_c _ _ _ _ _ _ (by omega) (by omega) (by omega) (by omega) (by omega) (by omega)) ?_)); intro t9 h9 tk9 F9 N9; (try dsimp only); (try k_fold))
  (try dsimp only [Con, CbRet])
  k_fill
  intro w loose mean mg mb news dp un gd cn cs a ccd cl outer A₀ base h₀ L m s Q E hB hF hX hN hT hk hdp hun hret
  refine wpAny_call ?_
  k_dflt cell_enter
  k_steps
  all_goals cb_end hret

theorem pow_lt {x y : Int} (h1 : 1 ≤ x) (h2 : x < 14) (h3 : 0 < y) (h4 : y < 7) : 0 ≤ x ^ y.toNat ∧ x ^ y.toNat < 2147483648 := by
  have key : ∀ a : Nat, a < 14 → ∀ b : Nat, b < 7 → 0 ≤ (a : Int) ^ b ∧ (a : Int) ^ b < 2147483648 := by decide +kernel
  have h := key x.toNat (by omega) y.toNat (by omega)
  rw [Int.toNat_of_nonneg (by omega)] at h
  exact h
theorem pow_one' {x : Int} (n : Nat) (h1 : 1 ≤ x) (h : (if x < 0 then -x else x) < 2) : x = x ^ n := by
  rw [if_neg (by omega)] at h
  have e : x = 1 := by omega
  subst e
  rw [Int.one_pow]
theorem pow_abs {x : Int} (n : Nat) (h1 : 1 ≤ x) (h : (if x < 0 then -x else x) < 2) : (if x < 0 then -x else x) = x ^ n := by
  rw [← pow_one' n h1 h, if_neg (by omega)]

set_option maxHeartbeats 8000000 in
theorem wpow_c (x y : Int) (tx ty u v : Tok) (h1 : 1 ≤ x) (h2 : x < 14) (h3 : 0 < y) (h4 : y < 7) : Con 6 64 199 [.int x tx, .int y ty, .int 32 u, .int 9 v] (fun t => .int (x ^ y.toNat) t) := by
  k_with "my call ref" => (k_here; (with_reducible show wpAny _ _ (call (Value.ref 192) _) _ _ _); (k_dflt (refine con_use (expo_c _ _) ?_)); intro t9 h9 tk9 F9 N9; (try dsimp only); (try k_fold))
  (try dsimp only [Con, CbRet])
  k_fill
  intro w loose mean mg mb news dp un gd cn cs a ccd cl outer A₀ base h₀ L m s Q E hB hF hX hN hT hk hdp hun hret
  refine wpAny_call ?_
  k_dflt cell_enter
  have hp := pow_lt h1 h2 h3 h4
  k_steps
  · exact cb_retI (Q := Q) hret (pow_one' _ h1 (by assumption)) (by k_asm) (by k_asm)
  · exfalso; omega
  · exact cb_retI (Q := Q) hret (pow_abs _ h1 (by assumption)) (by k_asm) (by k_asm)
  all_goals cb_end hret

set_option maxHeartbeats 8000000 in
theorem raised_c (x y : Int) (tx ty u v : Tok) (h1 : 1 ≤ x) (h2 : x < 14) (h3 : 0 < y) (h4 : y < 7) : Con 8 128 206 [.int x tx, .int y ty, .int 32 u, .int 9 v] (fun t => .int (x ^ y.toNat) t) := by
  k_with "my call ref" => (k_here; (with_reducible show wpAny _ _ (call (Value.ref 199) _) _ _ _); (k_dflt (refine con_use (wpow_c _ _ _ _ _ _ (by omega) (by omega) (by omega) (by omega)) ?_)); intro t9 h9 tk9 F9 N9; (try dsimp only); (try k_fold))
  (try dsimp only [Con, CbRet])
  k_fill
  intro w loose mean mg mb news dp un gd cn cs a ccd cl outer A₀ base h₀ L m s Q E hB hF hX hN hT hk hdp hun hret
  refine wpAny_call ?_
  k_dflt cell_enter
  k_steps
  all_goals cb_end hret

set_option maxHeartbeats 8000000 in
theorem rpow_c (x y : Int) (t tx ty u v : Tok) (h1 : 1 ≤ x) (h2 : x < 14) (h3 : 0 < y) (h4 : y < 7) : Con 10 256 213 [.str (Str.ofString "^") t, .int x tx, .int y ty, .int 32 u, .int 9 v] (fun t => .int (x ^ y.toNat) t) := by
  k_with "my call ref" => (k_here; (with_reducible show wpAny _ _ (call (Value.ref 206) _) _ _ _); (k_dflt (refine con_use (raised_c _ _ _ _ _ _ (by omega) (by omega) (by omega) (by omega)) ?_)); intro t9 h9 tk9 F9 N9; (try dsimp only); (try k_fold))
  (try dsimp only [Con, CbRet])
  k_fill
  intro w loose mean mg mb news dp un gd cn cs a ccd cl outer A₀ base h₀ L m s Q E hB hF hX hN hT hk hdp hun hret
  refine wpAny_call ?_
  k_dflt cell_enter
  k_steps
  all_goals cb_end hret

@[irreducible] def powZ (x p : Int) : Int := if x ^ (p / 2).toNat % p = p - 1 then -1 else x ^ (p / 2).toNat % p
theorem powZ_yes {x p : Int} (hf : p.fdiv 2 = p / 2) (h : x ^ (p.fdiv 2).toNat % p = p - 1) : 0 - 1 = powZ x p := by
  rw [hf] at h
  unfold powZ
  rw [if_pos h]
  rfl
theorem powZ_no {x p : Int} (hf : p.fdiv 2 = p / 2) (h : x ^ (p.fdiv 2).toNat % p ≠ p - 1) : x ^ (p.fdiv 2).toNat % p = powZ x p := by
  rw [hf] at h ⊢
  unfold powZ
  rw [if_neg h]

set_option maxHeartbeats 8000000 in
theorem power_c (x p : Int) (tx tp : Tok) (h1 : 1 ≤ x := by omega) (h2 : x < 14 := by omega) (h3 : 3 ≤ p := by omega) (h4 : p < 14 := by omega) : Con 12 512 234 [.int x tx, .int p tp] (fun t => .int (powZ x p) t) := by
  k_with "my call ref" => (k_here; (with_reducible show wpAny _ _ (call (Value.ref 213) [Value.str (Str.ofString "^") _, _, _, _, _]) _ _ _); (k_dflt (refine con_use (rpow_c _ _ _ _ _ _ _ (by omega) (by omega) (by omega) (by omega)) ?_)); intro t9 h9 tk9 F9 N9; (try dsimp only); (try k_fold))
  (try dsimp only [Con, CbRet])
  k_fill
  intro w loose mean mg mb news dp un gd cn cs a ccd cl outer A₀ base h₀ L m s Q E hB hF hX hN hT hk hdp hun hret
  refine wpAny_call ?_
  k_dflt cell_enter
  have hf : p.fdiv 2 = p / 2 := Int.fdiv_eq_ediv_of_nonneg _ (by omega)
  have hp := pow_lt (x := x) (y := p.fdiv 2) h1 h2 (by omega) (by omega)
  k_steps
  · exact cb_retI (Q := Q) hret (powZ_yes hf (by assumption)) (by k_asm) (by k_asm)
  · exact cb_retI (Q := Q) hret (powZ_no hf (by assumption)) (by k_asm) (by k_asm)

@[irreducible] def sqZ (x p : Int) : Int := if ((rangeKs 1 (p - 1).toNat).map (fun k => k * k % p)).any (fun y => y == x) = true then 1 else -1
theorem sqZ_yes {x p : Int} (h : ((rangeKs 1 (p - 1).toNat).map (fun k => k * k % p)).any (fun y => y == x) = true) : 1 = sqZ x p := by
  unfold sqZ
  rw [if_pos h]
theorem sqZ_no {x p : Int} (h : ((rangeKs 1 (p - 1).toNat).map (fun k => k * k % p)).any (fun y => y == x) = false) : 0 - 1 = sqZ x p := by
  unfold sqZ
  rw [if_neg (by rw [h]; exact Bool.false_ne_true)]
  rfl

set_option maxHeartbeats 8000000 in
theorem squares_c (x p : Int) (tx tp : Tok) (h1 : 1 ≤ x := by omega) (h2 : x < 14 := by omega) (h3 : 3 ≤ p := by omega) (h4 : p < 14 := by omega) : Con 14 1024 239 [.int x tx, .int p tp] (fun t => .int (sqZ x p) t) := by
  (try dsimp only [Con, CbRet])
  k_fill
  intro w loose mean mg mb news dp un gd cn cs a ccd cl outer A₀ base h₀ L m s Q E hB hF hX hN hT hk hdp hun hret
  refine wpAny_call ?_
  k_dflt (refine' code_defC ?k1 ?k2 ?k3 ?k4 ?k5 ?kA ?kF ?kK ?k6 ?k7 ?k8 ?k9 ?kB ?kD ?_ ?c2 ?c3 ?c4; (case kA => exact rfl); (case kF => exact rfl); (case kK => assumption); (case k1 => k_asm); (case k2 => k_asm); (case k3 => k_asm); (case k4 => k_asm); (case k5 => k_asm); (case k6 => k_is); (case k7 => k_is); (case k8 => ktr_room); (case k9 => exact BindsTo.of_eq rfl); (case kB => exact rfl); (case kD => decide +kernel); (case c2 => exact rfl); (case c3 => exact rfl); (case c4 => exact rfl); k_whole; intro g' L' h' tk' cells' FG' F' N' Y' B' X' T' l1; (try k_lt l1); k_cells Y'; (try simp only [List.cons_append, List.nil_append] at N'); (try dsimp only); (try k_lift B'); (try k_fold))
  k_steps
  · refine cb_retI (Q := Q) hret (sqZ_yes (by assumption)) (by k_asm) ?_
    first | k_asm | (refine' cb_drop ?cbN ?cbS; (case cbN => assumption); (case cbS => kcj_all))
  · refine cb_retI (Q := Q) hret (sqZ_no (by assumption)) (by k_asm) ?_
    first | k_asm | (refine' cb_drop ?cbN ?cbS; (case cbN => assumption); (case cbS => kcj_all))



def halfN (x p : Int) : Int := (((rangeKs 1 (p.fdiv 2 + 1 - 1).toNat).foldl (fun l k => if p.fdiv 2 < x * k % p then l ++ [k] else l) ([] : List Int)).length : Int)
@[irreducible] def halfZ (x p : Int) : Int := if (halfN x p).fmod 2 = 0 then 1 else -1
theorem halfZ_yes {x p : Int} (h : (halfN x p).fmod 2 = 0) : 1 = halfZ x p := by
  unfold halfZ
  rw [if_pos h]
theorem halfZ_no {x p : Int} (h : (halfN x p).fmod 2 ≠ 0) : 0 - 1 = halfZ x p := by
  unfold halfZ
  rw [if_neg h]
  rfl

set_option maxHeartbeats 8000000 in
theorem half_c (x p : Int) (tx tp : Tok) (h1 : 1 ≤ x := by omega) (h2 : x < 14 := by omega) (h3 : 3 ≤ p := by omega) (h4 : p < 14 := by omega) : Con 14 1024 244 [.int x tx, .int p tp] (fun t => .int (halfZ x p) t) := by
  k_with "my call ref" => (k_here; (with_reducible show wpAny _ _ (call (Value.ref 239) _) _ _ _); (k_dflt (refine con_use (squares_c _ _ _ _) ?_)); intro t9 h9 tk9 F9 N9; (try dsimp only); (try k_fold))
  k_with "my eval ListComp" => (k_here; lct_look; k_dflt (refine LCt.ListComp_T (F₀ := by k_asm) (by with_unfolding_all rfl) (by decide) (by rfl) (by decide) (by rfl) ?_))
  k_with "my CompSrcT" => (k_here; k_dflt (refine LCt.CompSrcT.range (by rfl) (by k_asm) (by k_asm) (by assumption) (small_one (by omega) (by omega) (by omega) (by omega)) (rangeSize_nat _ _) (by rw [PySem.sizeLine_eq]; omega) ?_); intro g'; (refine' kci_range _ (fun k' t' I' oI' C' oC' D' m' ys' l' h' tk' E' hlo' hhi' hI' hC' hx' F' N' off' ne' => ?_) ?_ ?_); (all_goals (try (simp only [LCg.Off3, and_true] at off'))); (all_goals (try ((show KPfMark → _); intro hMark'))); kcf_last)
  k_with "my CompEnd" => (k_here; refine LCg.CompEnd.intro (by with_reducible assumption) (by with_reducible assumption) _ (fun _ hp => hp) (by first | with_reducible assumption | (simp only [LCg.Off3, and_true]; with_reducible assumption)) (by first | exact True.intro | exact Or.inr ⟨_, by k_mem, rfl, _, rfl⟩) ?_)
  (try dsimp only [Con, CbRet])
  k_fill
  intro w loose mean mg mb news dp un gd cn cs a ccd cl outer A₀ base h₀ L m s Q E hB hF hX hN hT hk hdp hun hret
  refine wpAny_call ?_
  have hf : p.fdiv 2 = p / 2 := Int.fdiv_eq_ediv_of_nonneg _ (by omega)
  k_dflt (refine' code_defC ?k1 ?k2 ?k3 ?k4 ?k5 ?kA ?kF ?kK ?k6 ?k7 ?k8 ?k9 ?kB ?kD ?_ ?c2 ?c3 ?c4; (case kA => exact rfl); (case kF => exact rfl); (case kK => assumption); (case k1 => k_asm); (case k2 => k_asm); (case k3 => k_asm); (case k4 => k_asm); (case k5 => k_asm); (case k6 => k_is); (case k7 => k_is); (case k8 => ktr_room); (case k9 => exact BindsTo.of_eq rfl); (case kB => exact rfl); (case kD => decide +kernel); (case c2 => exact rfl); (case c3 => exact rfl); (case c4 => exact rfl); k_whole; intro g' L' h' tk' cells' FG' F' N' Y' B' X' T' l1; (try k_lt l1); k_cells Y'; (try simp only [List.cons_append, List.nil_append] at N'); (try dsimp only); (try k_lift B'); (try k_fold))
  k_steps
  · refine cb_retI (Q := Q) hret (halfZ_yes (by assumption)) (by k_asm) ?_
    first | k_asm | (refine' cb_drop ?cbN ?cbS; (case cbN => assumption); (case cbS => kcj_all))
  · refine cb_retI (Q := Q) hret (halfZ_no (by assumption)) (by k_asm) ?_
    first | k_asm | (refine' cb_drop ?cbN ?cbS; (case cbN => assumption); (case cbS => kcj_all))

section
open PySem.Spec PyProof.Rows.LCg
set_option maxHeartbeats 4000000
open PySem PySem.Spec PySem.Calls PyProof.Rows PyProof.Rows.LCg

def lc2 (elt t1 i1 t2 i2 : Expr) (ifs : List Expr) (scope : Scope) (pos : Pos) : Expr := .ListComp elt [⟨t1, i1, [], 0⟩, ⟨t2, i2, ifs, 0⟩] scope pos

theorem compTurn2_0 (elt t1 i1 t2 i2 : Expr) (ifs : List Expr) (scope : Scope) (pos : Pos) (it acc : Value) (env : Env) :
    compTurn (lc2 elt t1 i1 t2 i2 ifs scope pos) 0 it acc env = (do
      standAt i1.pos
      match ← pyNext it with
      | none => pure (.done .next)
      | some v =>
        letOwnedTupleGo t1 it v
        assign t1 env v
        let x ← eval i2 env
        standAt i2.pos
        let x ← foldedSetIterable i2 env x
        let y ← holding [x] (pyIter x)
        let _ ← runOwn (.compStart (lc2 elt t1 i1 t2 i2 ifs scope pos) 1 y acc env) env
        again (.compLoop (lc2 elt t1 i1 t2 i2 ifs scope pos) 0 it acc env)) := by rfl
theorem compTurn2_1 (elt t1 i1 t2 i2 : Expr) (ifs : List Expr) (scope : Scope) (pos : Pos) (it acc : Value) (env : Env) :
    compTurn (lc2 elt t1 i1 t2 i2 ifs scope pos) 1 it acc env = (do
      standAt i2.pos
      match ← pyNext it with
      | none => pure (.done .next)
      | some v =>
        letOwnedTupleGo t2 it v
        assign t2 env v
        let mut ok := true
        for c in ifs do
          if ok then ok ← isTrue c env (eval c env)
        if ok then
          (do let _ ← call (.builtin "list.append") [acc, ← eval elt env])
        again (.compLoop (lc2 elt t1 i1 t2 i2 ifs scope pos) 1 it acc env)) := by rfl

section
variable {prog : Program} {w : World} {A : Around} {E : Value → Shared → Prop} {R : Result → Shared → Prop} {s : Shared}

theorem start2_1 {elt t1 i1 t2 i2 : Expr} {ifs : List Expr} {scope : Scope} {pos : Pos} {it acc : Value} {env : Env}
    (h0 : codeAny (model prog w) A (.compLoop (lc2 elt t1 i1 t2 i2 ifs scope pos) 1 it acc env) R s)
    (h : wpAny (model prog w) A (pyIter it) (fun it' s' => codeAny (model prog w) A (.compLoop (lc2 elt t1 i1 t2 i2 ifs scope pos) 1 it' acc env) R s')
      (notedBy (model prog w) A env fun x s' => R (.error x) s') s) :
    codeAny (model prog w) A (.compStart (lc2 elt t1 i1 t2 i2 ifs scope pos) 1 it acc env) R s := by
  refine codeAny_of_tree ?_
  show wpAny _ _ ((compStart (lc2 elt t1 i1 t2 i2 ifs scope pos) 1 it acc env).onRaise (fun x => do noteFrame x env; standAt theWindowsPlace)) _ _ s
  refine wpAny_notedAt ?_
  unfold compStart
  show wpAny _ _ (ask >>= _) _ _ s
  refine wpAny_bind (wpAny_askSetting (wpAny_ite ?_))
  split
  · first
      | exact wpAny_bind (wpAny_pure (wpAny_pure (And.intro rfl h0)))
      | exact wpAny_pure (And.intro rfl h0)
  · first
      | exact wpAny_bind (wpAny_rule (wpAny_bind (wpAny_standAt (wpAny_bind (wpAny_mono h (fun it' s' h' => wpAny_pure (And.intro rfl h')) fun _ _ x => x)))))
      | (refine wpAny_bind (wpAny_rule ?_); show wpAny _ _ (standAt i2.pos >>= _) _ _ s; exact wpAny_bind (wpAny_standAt (wpAny_bind (wpAny_mono h (fun it' s' h' => wpAny_pure (And.intro rfl h')) fun _ _ x => x))))

theorem start2_0 {elt t1 i1 t2 i2 : Expr} {ifs : List Expr} {scope : Scope} {pos : Pos} {it acc : Value} {env : Env}
    (h0 : codeAny (model prog w) A (.compLoop (lc2 elt t1 i1 t2 i2 ifs scope pos) 0 it acc env) R s)
    (h : wpAny (model prog w) A (pyIter it) (fun it' s' => codeAny (model prog w) A (.compLoop (lc2 elt t1 i1 t2 i2 ifs scope pos) 0 it' acc env) R s')
      (notedBy (model prog w) A env fun x s' => R (.error x) s') s) :
    codeAny (model prog w) A (.compStart (lc2 elt t1 i1 t2 i2 ifs scope pos) 0 it acc env) R s := codeAny_compStart_list h0 h

theorem loop2_1 {elt t1 i1 t2 i2 : Expr} {ifs : List Expr} {scope : Scope} {pos : Pos} {it acc : Value} {env : Env} (I : Nat → Shared → Prop)
    (turn : ∀ n s, I n s → wpAny (model prog w) A (pyNext it) (fun r s₁ => match r with
      | none => R (.ok .next) s₁
      | some v => wpAny (model prog w) A (assign t2 env v) (fun _ s₂ =>
          wpAny (model prog w) A (forIn ifs true fun c r => if r = true then do let ok ← isTrue c env (eval c env); pure (ForInStep.yield ok) else pure (ForInStep.yield r)) (fun ok s₃ =>
            if ok = true then wpAny (model prog w) A (eval elt env) (fun x s₄ =>
              wpAny (model prog w) A (call (.builtin "list.append") [acc, x]) (fun _ s₅ => ∃ m, m < n ∧ I m s₅) (notedBy (model prog w) A env fun e s' => R (.error e) s') s₄) (notedBy (model prog w) A env fun e s' => R (.error e) s') s₃
            else ∃ m, m < n ∧ I m s₃) (notedBy (model prog w) A env fun e s' => R (.error e) s') s₂) (notedBy (model prog w) A env fun e s' => R (.error e) s') s₁) (notedBy (model prog w) A env fun e s' => R (.error e) s') s)
    (n : Nat) (h : I n s) (ht : ∀ v, letOwnedTupleGo t2 it v = pure () := by intro _; rfl) :
    codeAny (model prog w) A (.compLoop (lc2 elt t1 i1 t2 i2 ifs scope pos) 1 it acc env) R s := by
  refine codeAny_loop rfl I (fun n s hI => ?_) n h
  show wpAny _ A ((compTurn (lc2 elt t1 i1 t2 i2 ifs scope pos) 1 it acc env).onRaise (fun x => do noteFrame x env; theTreesLotGoes x)) _ _ s
  refine wpAny_noted ?_
  rw [compTurn2_1]
  refine wpAny_bind (wpAny_standAt (wpAny_bind (wpAny_mono (turn n s hI) (fun r s₁ h₁ => ?_) fun _ _ h' => h')))
  cases r with
  | none => exact wpAny_pure h₁
  | some v =>
    refine wpAny_bind (wpAny_of_eq (ht v) ?_)
    refine wpAny_bind (wpAny_mono h₁ (fun _ s₂ h₂ => wpAny_bind (wpAny_mono h₂ (fun ok s₃ h₃ => ?_) fun _ _ h' => h')) fun _ _ h' => h')
    cases ok with
    | false => exact wpAny_pure ⟨rfl, h₃⟩
    | true =>
      exact wpAny_bind (wpAny_bind (wpAny_mono h₃ (fun x s₄ h₄ => wpAny_bind (wpAny_mono h₄ (fun _ s₅ h₅ => wpAny_pure (wpAny_pure ⟨rfl, h₅⟩)) fun _ _ h' => h')) fun _ _ h' => h'))

theorem loop2_0 {elt t1 i1 t2 i2 : Expr} {ifs : List Expr} {scope : Scope} {pos : Pos} {it acc : Value} {env : Env} (I : Nat → Shared → Prop)
    (turn : ∀ n s, I n s → wpAny (model prog w) A (pyNext it) (fun r s₁ => match r with
      | none => R (.ok .next) s₁
      | some v => wpAny (model prog w) A (assign t1 env v) (fun _ s₂ =>
          wpAny (model prog w) A (eval i2 env) (fun xv s₃ => wpAny (model prog w) A (pyIter xv) (fun it2 s₄ =>
            codeAny (model prog w) A (.compStart (lc2 elt t1 i1 t2 i2 ifs scope pos) 1 it2 acc env) (fun r s₅ => match r with
              | .ok _ => ∃ m, m < n ∧ I m s₅
              | .error _ => False) s₄) (notedBy (model prog w) A env fun e s' => R (.error e) s') s₃) (notedBy (model prog w) A env fun e s' => R (.error e) s') s₂) (notedBy (model prog w) A env fun e s' => R (.error e) s') s₁) (notedBy (model prog w) A env fun e s' => R (.error e) s') s)
    (n : Nat) (h : I n s) (ht : ∀ v, letOwnedTupleGo t1 it v = pure () := by intro _; rfl) (hs : ∀ x, foldedSetIterable i2 env x = pure x := by intro _; rfl) :
    codeAny (model prog w) A (.compLoop (lc2 elt t1 i1 t2 i2 ifs scope pos) 0 it acc env) R s := by
  refine codeAny_loop rfl I (fun n s hI => ?_) n h
  show wpAny _ A ((compTurn (lc2 elt t1 i1 t2 i2 ifs scope pos) 0 it acc env).onRaise (fun x => do noteFrame x env; theTreesLotGoes x)) _ _ s
  refine wpAny_noted ?_
  rw [compTurn2_0]
  refine wpAny_bind (wpAny_standAt (wpAny_bind (wpAny_mono (turn n s hI) (fun r s₁ h₁ => ?_) fun _ _ h' => h')))
  cases r with
  | none => exact wpAny_pure h₁
  | some v =>
    refine wpAny_bind (wpAny_of_eq (ht v) ?_)
    refine wpAny_bind (wpAny_mono h₁ (fun _ s₂ h₂ => wpAny_bind (wpAny_mono h₂ (fun xv s₃ h₃ => ?_) fun _ _ h' => h')) fun _ _ h' => h')
    refine wpAny_bind (wpAny_standAt (wpAny_bind (wpAny_of_eq (hs xv) ?_)))
    refine wpAny_bind (wpAny_holding (wpAny_mono h₃ (fun it2 s₄ h₄ => ?_) fun _ _ h' => h'))
    refine wpAny_bind (wpAny_runOwn (h := none) ?_)
    rw [Around.mark_none]
    refine codeAny_mono h₄ fun r s₅ h₅ => ?_
    cases r with
    | ok f => exact wpAny_pure ⟨rfl, h₅⟩
    | error e => exact h₅.elim

def Keep2 (h₀ : Heap) (L : Addr) (m : Str → Option Value) (s₁ : Shared) (news : List (Addr × Obj)) (s' : Shared) : Prop :=
  ∃ h' tk', s' = { s₁ with heap := h', toks := tk' } ∧ Fr h₀ L h' m ∧ News h₀ L h' news
def Rng2 (h₀ : Heap) (L : Addr) (m : Str → Option Value) (s₁ : Shared) (news : List (Addr × Obj)) (b : Int) (xv : Value) (s' : Shared) : Prop :=
  ∃ r t u v h' tk', s' = { s₁ with heap := h', toks := tk' } ∧ xv = .ref r ∧ Fr h₀ L h' m ∧ News h₀ L h' news ∧ IsRange h' r 0 b 1 t u v
def Dis3 (I C D : Addr) : Prop := (@Ne Nat I C) ∧ (@Ne Nat I D) ∧ (@Ne Nat C D)

section
variable {h₀ : Heap} {L : Addr} {m : Str → Option Value} {env : Env}

theorem inner2 {elt i1 i2 ct : Expr} {x y : Str} {px py : Pos} {scope : Scope} {cl : List (Str × Addr)} {pos : Pos} {I C D J : Addr} {oI : Obj} {i : Nat} {t : Tok} {news : List (Addr × Obj)} {s₁ : Shared} {h : Heap} {tk : Nat} {ys : List Value} {m₂ : Str → Option Value}
    (cnt : Nat → Nat) (tst : Nat → Bool) (lim : Nat)
    (hh : A.handled = none) (hkind : scope.kind = .function) (hy : scope.names.lookup y = some .local) (hxy : x ≠ y)
    (hstep : ∀ j, j < i → cnt (j + 1) = if tst j = true then cnt j + 1 else cnt j)
    (hlim : lim + i ≤ sizeLine)
    (hI₀ : h₀.get? I = none) (hC₀ : h₀.get? C = none) (hD₀ : h₀.get? D = none) (hJ₀ : h₀.get? J = none) (hIL : I ≠ L) (hCL : C ≠ L) (hDL : D ≠ L) (hJL : J ≠ L)
    (hJI : J ≠ I) (hJC : J ≠ C) (hJD : J ≠ D) (hIC : I ≠ C) (hID : I ≠ D) (hCD : C ≠ D)
    (off : ∀ p ∈ news, p.1 ≠ I ∧ p.1 ≠ C ∧ p.1 ≠ D ∧ p.1 ≠ J)
    (Hc : ∀ j t' oJ oC m₂ ys h tk (E' : Value → Shared → Prop), j < i → NsObj oC m₂ → m₂ x = some (.int (i : Int) t) → m₂ y = some (.int (j : Int) t') → Fr h₀ L h m → News h₀ L h ((J, oJ) :: (I, oI) :: (C, oC) :: (D, lst ys) :: news) →
      wpAny (model prog w) A (isTrue ct (compEnvC scope cl C env) (eval ct (compEnvC scope cl C env))) (fun ok s' => ok = tst j ∧ Keep2 h₀ L m s₁ ((J, oJ) :: (I, oI) :: (C, oC) :: (D, lst ys) :: news) s') E' { s₁ with heap := h, toks := tk })
    (He : ∀ j t' oJ oC m₂ ys h tk (E' : Value → Shared → Prop), j < i → NsObj oC m₂ → m₂ x = some (.int (i : Int) t) → m₂ y = some (.int (j : Int) t') → Fr h₀ L h m → News h₀ L h ((J, oJ) :: (I, oI) :: (C, oC) :: (D, lst ys) :: news) →
      wpAny (model prog w) A (eval elt (compEnvC scope cl C env)) (fun _ s' => Keep2 h₀ L m s₁ ((J, oJ) :: (I, oI) :: (C, oC) :: (D, lst ys) :: news) s') E' { s₁ with heap := h, toks := tk })
    (hc0 : ys.length = cnt 0) (hl0 : ys.length ≤ lim)
    (hst : IsRangeIter h J 0 (i : Int) 1) (F : Fr h₀ L h m) (hn : h.Ns C m₂) (hx : m₂ x = some (.int (i : Int) t)) (N : News h₀ L h ((I, oI) :: (D, lst ys) :: news))
    (fin : ∀ h' tk' ys' m', ys'.length = cnt i → ys'.length ≤ lim + i → Fr h₀ L h' m → h'.Ns C m' → News h₀ L h' ((I, oI) :: (D, lst ys') :: news) → R (.ok .next) { s₁ with heap := h', toks := tk' }) :
    codeAny (model prog w) A (.compLoop (lc2 elt (.Name x px) i1 (.Name y py) i2 [ct] scope pos) 1 (.ref J) (.ref D) (compEnvC scope cl C env)) R { s₁ with heap := h, toks := tk } := by
  refine loop2_1
    (fun q s' => ∃ h' tk' j ys' m', s' = { s₁ with heap := h', toks := tk' } ∧ j ≤ i ∧ q = i + 1 - j ∧ ys'.length = cnt j ∧ ys'.length ≤ lim + j ∧ IsRangeIter h' J (j : Int) ((i : Int) - (j : Int)) 1 ∧ Fr h₀ L h' m ∧ h'.Ns C m' ∧ m' x = some (.int (i : Int) t) ∧
      News h₀ L h' ((I, oI) :: (D, lst ys') :: news)) ?_ (i + 1)
    ⟨h, tk, 0, ys, m₂, rfl, Nat.zero_le _, rfl, hc0, hl0, by simpa using hst, F, hn, hx, N⟩
  rintro q s' ⟨h', tk', j, ys', m', rfl, hj, rfl, hcj, hlj, hst', F', hn', hx', N'⟩
  have offI : ∀ p ∈ (I, oI) :: (D, lst ys') :: news, p.1 ≠ J ∧ p.1 ≠ C := fun p hp => by
    rcases List.mem_cons.mp hp with rfl | hp
    · exact ⟨Ne.symm hJI, hIC⟩
    · rcases List.mem_cons.mp hp with rfl | hp
      · exact ⟨Ne.symm hJD, Ne.symm hCD⟩
      · exact ⟨(off p hp).2.2.2, (off p hp).2.1⟩
  by_cases hlt : j < i
  · refine wpAny_pyNext_range_item hst' (by omega) fun h₂ hst₂ hs₂ => ?_
    have k2 : ∀ b o, b ≠ J → h'.get? b = some o → h₂.get? b = some o := fun b o hb e => hs₂.extBut b o hb e
    refine wpAny_assign_Name (wpAny_storeName_local (lookup_relabel_local hy) (hn'.at' fun o e => k2 _ o (Ne.symm hJC) e) (fun h₃ hn₃ hs₃ => ?_) (by simp [compEnvC, relabel, hkind]))
    refine wpAny_tests_one ?_
    have k3 : ∀ b o, b ≠ C → h₂.get? b = some o → h₃.get? b = some o := fun b o hb e => hs₃.extBut b o hb e
    obtain ⟨oC, heC, hoC⟩ := ns_obj hn₃
    have hst₃ : IsRangeIter h₃ J ((j : Int) + 1) ((i : Int) - (j : Int) - 1) 1 := k3 _ _ hJC hst₂
    have F₃ : Fr h₀ L h₃ m := (F'.change hs₂ hJL hJ₀).change hs₃ hCL hC₀
    have N₃ : News h₀ L h₃ ((J, { cls := .type "range_iterator", dict := none, data := .fields #[rawInt ((j : Int) + 1), rawInt ((i : Int) - (j : Int) - 1), rawInt 1], slots := #[] }) :: (I, oI) :: (C, oC) :: (D, lst ys') :: news) := fun p hp => by
      rcases List.mem_cons.mp hp with rfl | hp
      · exact ⟨hst₃, hJL, hJ₀⟩
      · have old : ∀ p ∈ (I, oI) :: (D, lst ys') :: news, h₃.get? p.1 = some p.2 ∧ p.1 ≠ L ∧ h₀.get? p.1 = none := fun p hp => ⟨k3 _ _ (offI p hp).2 (k2 _ _ (offI p hp).1 (N' p hp).1), (N' p hp).2⟩
        rcases List.mem_cons.mp hp with rfl | hp
        · exact old _ List.mem_cons_self
        · rcases List.mem_cons.mp hp with rfl | hp
          · exact ⟨heC, hCL, hC₀⟩
          · exact old p (List.mem_cons_of_mem _ hp)
    have hx₃ : (fun z => if z = y then some (Value.int (j : Int) tk') else m' z) x = some (.int (i : Int) t) := by
      show (if x = y then _ else m' x) = _
      rw [if_neg hxy]; exact hx'
    refine wpAny_mono (Hc j tk' _ oC _ ys' h₃ _ _ hlt hoC hx₃ (by simp) F₃ N₃) (fun ok s₄ h₄ => ?_) fun _ _ e => e
    obtain ⟨hok, h₄, tk₄, rfl, F₄, N₄⟩ := h₄
    have zJ := (N₄ _ List.mem_cons_self).1
    have zI := N₄ (I, oI) (List.mem_cons_of_mem _ List.mem_cons_self)
    have zC := (N₄ (C, oC) (List.mem_cons_of_mem _ (List.mem_cons_of_mem _ List.mem_cons_self))).1
    have e1 : ((j + 1 : Nat) : Int) = (j : Int) + 1 := by push_cast; rfl
    have e2 : (i : Int) - ((j : Int) + 1) = (i : Int) - (j : Int) - 1 := by omega
    have hs := hstep j hlt
    cases ok with
    | true =>
      rw [if_pos hok.symm] at hs
      simp only [if_true]
      refine wpAny_mono (He j tk' _ oC _ ys' h₄ tk₄ _ hlt hoC hx₃ (by simp) F₄ N₄) (fun yv s₅ h₅ => ?_) fun _ _ e => e
      obtain ⟨h₅, tk₅, rfl, F₅, N₅⟩ := h₅
      have zJ := (N₅ _ List.mem_cons_self).1
      have zI := N₅ (I, oI) (List.mem_cons_of_mem _ List.mem_cons_self)
      have zC := (N₅ (C, oC) (List.mem_cons_of_mem _ (List.mem_cons_of_mem _ List.mem_cons_self))).1
      have zD := (N₅ (D, lst ys') (List.mem_cons_of_mem _ (List.mem_cons_of_mem _ (List.mem_cons_of_mem _ List.mem_cons_self)))).1
      refine append_at (hsz := by show ys'.toArray.size ≤ sizeLine; rw [List.size_toArray]; exact Nat.le_trans hlj (Nat.le_trans (Nat.add_le_add_left hj _) hlim)) zD fun h₆ hs₆ hD₆ => ?_
      refine ⟨i + 1 - (j + 1), by omega, h₆, tk₅, j + 1, ys' ++ [yv], _, rfl, hlt, rfl, by rw [List.length_append, List.length_singleton, hs, hcj], by rw [List.length_append, List.length_singleton]; omega, ?_, F₅.change hs₆ hDL hD₀,
        (hoC.ns zC).sameBut hs₆ hCD, hx₃, fun p hp => ?_⟩
      · rw [e1, e2]; exact hs₆.extBut _ _ hJD zJ
      · rcases List.mem_cons.mp hp with rfl | hp
        · exact ⟨hs₆.extBut _ _ hID zI.1, zI.2⟩
        · rcases List.mem_cons.mp hp with rfl | hp
          · exact ⟨hD₆.trans (congrArg some (lst_snoc ys' yv)), hDL, hD₀⟩
          · have z := N₅ p (List.mem_cons_of_mem _ (List.mem_cons_of_mem _ (List.mem_cons_of_mem _ (List.mem_cons_of_mem _ hp))))
            exact ⟨hs₆.extBut _ _ (off p hp).2.2.1 z.1, z.2⟩
    | false =>
      rw [if_neg (by rw [← hok]; exact Bool.false_ne_true)] at hs
      simp only [Bool.false_eq_true, if_false]
      refine ⟨i + 1 - (j + 1), by omega, h₄, tk₄, j + 1, ys', _, rfl, hlt, rfl, by rw [hs, hcj], by omega, ?_, F₄, hoC.ns zC, hx₃, fun p hp => ?_⟩
      · rw [e1, e2]; exact zJ
      · rcases List.mem_cons.mp hp with rfl | hp
        · exact zI
        · exact N₄ p (List.mem_cons_of_mem _ (List.mem_cons_of_mem _ (List.mem_cons_of_mem _ hp)))
  · obtain rfl : j = i := Nat.le_antisymm hj (Nat.not_lt.mp hlt)
    refine wpAny_pyNext_range_end hh hst' (by omega) fun h₂ hs₂ => ?_
    have k2 : ∀ b o, b ≠ J → h'.get? b = some o → h₂.get? b = some o := fun b o hb e => hs₂ b o hb e
    refine fin h₂ tk' ys' m' hcj hlj (fr_but F' (fun b o hb e => k2 b o (by simpa using hb) e) (Ne.symm hJL) hJ₀) (hn'.at' fun o e => k2 _ o (Ne.symm hJC) e) fun p hp => ⟨k2 _ _ (offI p hp).1 (N' p hp).1, (N' p hp).2⟩

def Src2 (prog : Program) (w : World) (A : Around) (h₀ : Heap) (L : Addr) (m : Str → Option Value) (env : Env) (elt i2 ct : Expr) (x y : Str) (scope : Scope) (cl : List (Str × Addr)) (Q : Value → Shared → Prop) (xv : Value) (s₁ : Shared) : Prop :=
  ∃ r t u v, ∃ (n : Nat) (cnt : Nat → Nat → Nat) (tst : Nat → Nat → Bool) (news : List (Addr × Obj)), xv = .ref r ∧ A.handled = none ∧ Fr h₀ L s₁.heap m ∧ News h₀ L s₁.heap news ∧ IsRange s₁.heap r 0 (n : Int) 1 t u v ∧ n ≤ 16 ∧
    (∀ (i : Nat) t' I oI C oC D m₂ ys h tk (E' : Value → Shared → Prop), i < n → NsObj oC m₂ → m₂ x = some (.int (i : Int) t') → Fr h₀ L h m → News h₀ L h ((I, oI) :: (C, oC) :: (D, lst ys) :: news) → Off3 I C D news → Dis3 I C D →
      wpAny (model prog w) A (eval i2 (compEnvC scope cl C env)) (Rng2 h₀ L m s₁ ((I, oI) :: (C, oC) :: (D, lst ys) :: news) (i : Int)) E' { s₁ with heap := h, toks := tk }) ∧
    (∀ (i j : Nat) t' t'' J oJ I oI C oC D m₂ ys h tk (E' : Value → Shared → Prop), i < n → j < i → NsObj oC m₂ → m₂ x = some (.int (i : Int) t') → m₂ y = some (.int (j : Int) t'') → Fr h₀ L h m → News h₀ L h ((J, oJ) :: (I, oI) :: (C, oC) :: (D, lst ys) :: news) →
      wpAny (model prog w) A (isTrue ct (compEnvC scope cl C env) (eval ct (compEnvC scope cl C env))) (fun ok s' => ok = tst i j ∧ Keep2 h₀ L m s₁ ((J, oJ) :: (I, oI) :: (C, oC) :: (D, lst ys) :: news) s') E' { s₁ with heap := h, toks := tk }) ∧
    (∀ (i j : Nat) t' t'' J oJ I oI C oC D m₂ ys h tk (E' : Value → Shared → Prop), i < n → j < i → NsObj oC m₂ → m₂ x = some (.int (i : Int) t') → m₂ y = some (.int (j : Int) t'') → Fr h₀ L h m → News h₀ L h ((J, oJ) :: (I, oI) :: (C, oC) :: (D, lst ys) :: news) →
      wpAny (model prog w) A (eval elt (compEnvC scope cl C env)) (fun _ s' => Keep2 h₀ L m s₁ ((J, oJ) :: (I, oI) :: (C, oC) :: (D, lst ys) :: news) s') E' { s₁ with heap := h, toks := tk }) ∧
    cnt 0 0 = 0 ∧ (∀ i j, i < n → j < i → cnt i (j + 1) = if tst i j = true then cnt i j + 1 else cnt i j) ∧ (∀ i, i < n → cnt (i + 1) 0 = cnt i i) ∧
    (∀ D ys h tk, Fr h₀ L h m → News h₀ L h ((D, lst ys) :: news) → ys.length = cnt n 0 → ys.length ≤ 256 → Q (.ref D) { s₁ with heap := h, toks := tk })

theorem small2 {n : Nat} (h : n ≤ 16) : Builtin.Range.small 0 (n : Int) 1 = true := small_one (by omega) (by omega) (by omega) (by omega)
theorem size2 (n : Nat) : Builtin.Range.rangeSize 0 (n : Int) 1 = (n : Int) := by rw [rangeSize_nat]; omega

theorem listcomp2 {elt i1 i2 ct : Expr} {x y : Str} {px py : Pos} {scope : Scope} {cl : List (Str × Addr)} {pos : Pos} {Q : Value → Shared → Prop} (F₀ : Fr h₀ L s.heap m)
    (hclos : closureFor scope env = pure cl) (hcell : ∀ y ∈ scope.names, y.2 ≠ .cell) (hkind : scope.kind = .function)
    (hnames : ∀ y ∈ scope.names, y.2 = .local → scope.names.lookup y.1 = some .local) (hx : scope.names.lookup x = some .local) (hy : scope.names.lookup y = some .local) (hxy : x ≠ y)
    (h : wpAny (model prog w) A (eval i1 env) (Src2 prog w A h₀ L m env elt i2 ct x y scope cl Q) E s)
    (hs : ∀ x, foldedSetIterable i1 env x = pure x := by intro _; rfl) (hs2 : ∀ env x, foldedSetIterable i2 env x = pure x := by intro _ _; rfl) :
    wpAny (model prog w) A (eval (.ListComp elt [⟨.Name x px, i1, [], 0⟩, ⟨.Name y py, i2, [ct], 0⟩] scope pos) env) Q E s := by
  rw [eval_ListComp]
  refine wpAny_comprehension_free (use := none) rfl hs hclos hkind hnames (wpAny_mono h (fun xv s₁ h₁ => ?_) fun _ _ e => e)
  obtain ⟨r, t, u, v, n, cnt, tst, news, rfl, hh, F, N, hr, hn16, Hi, Hc, He, hz, hst, hnx, fin⟩ := h₁
  refine wpAny_pyIter_range hr (small2 hn16) ?_
  have hsl : (10000 : Nat) ≤ sizeLine := by rw [PySem.sizeLine_eq]; omega
  generalize hI : s₁.heap.objs.size = I
  generalize hH1 : (s₁.heap.push { cls := .type "range_iterator", data := .fields #[rawInt 0, rawInt (Builtin.Range.rangeSize 0 (n : Int) 1), rawInt 1] }) = H1
  have up1 : ∀ b o, s₁.heap.get? b = some o → H1.get? b = some o := fun b o e => hH1 ▸ Heap.get?_push_of_some _ e
  have hIt : IsRangeIter H1 I 0 (n : Int) 1 := by
    rw [← hH1, ← hI, size2]; exact Heap.get?_push_size _ rfl
  have hsz1 : H1.objs.size = I + 1 := by rw [← hH1, Heap.size_push, hI]
  refine wpAny_newObj_type (wpAny_newFunctionEnv hcell (by intro y hy; simp at hy) (fun h₁ hns₁ hsb₁ => ?_) hkind)
  dsimp only at hns₁ hsb₁ ⊢
  generalize hH2 : H1.push { cls := .type "list", dict := none, data := .seq ([] : List Value).toArray } = H2 at hns₁ hsb₁ ⊢
  have hC : H2.objs.size = I + 2 := by rw [← hH2, Heap.size_push, hsz1]
  rw [hsz1]
  generalize hCe : H2.objs.size = C at hns₁ hsb₁ hC ⊢
  have hIL : I ≠ L := by have := F.ns.lt; rw [hI] at this; exact Ne.symm (Nat.ne_of_lt this)
  have hLlt : L < I := by have := F.ns.lt; rw [hI] at this; exact this
  have fresh₀ : ∀ a, I ≤ a → h₀.get? a = none := fun a ha => by
    cases e : h₀.get? a with
    | none => rfl
    | some o' => exact absurd (Heap.lt_size (F.keep a o' e)) (by rw [hI]; exact Nat.not_lt.mpr ha)
  have hI₀ := fresh₀ I (Nat.le_refl _)
  have hD₀ := fresh₀ (I + 1) (Nat.le_succ _)
  have hC₀ := fresh₀ C (by rw [hC]; omega)
  have hCL : C ≠ L := by rw [hC]; exact Ne.symm (Nat.ne_of_lt (Nat.lt_add_right 2 hLlt))
  have hDL : I + 1 ≠ L := Ne.symm (Nat.ne_of_lt (Nat.lt_succ_of_lt hLlt))
  have hIC : I ≠ C := by rw [hC]; exact Nat.ne_of_lt (by omega)
  have hID : I ≠ I + 1 := Nat.ne_of_lt (Nat.lt_succ_self _)
  have hCD : C ≠ I + 1 := by rw [hC]; exact Ne.symm (Nat.ne_of_lt (by omega))
  have nlt : ∀ p ∈ news, p.1 < I := fun p hp => by have := Heap.lt_size (N p hp).1; rw [hI] at this; exact this
  have old : ∀ b o, b < I + 1 → H1.get? b = some o → h₁.get? b = some o := fun b o hb e => hsb₁.extBut b o (by rw [hC]; exact Nat.ne_of_lt (Nat.lt_succ_of_lt hb)) (Heap.get?_push_of_some _ (hH2 ▸ Heap.get?_push_of_some _ e))
  have hacc : h₁.get? (I + 1) = some (lst []) := hsb₁.extBut _ _ (Ne.symm hCD) (Heap.get?_push_of_some _ (by rw [← hH2, ← hsz1]; exact Heap.get?_push_size _ rfl))
  have hIt₁ : IsRangeIter h₁ I 0 (n : Int) 1 := old _ _ (Nat.lt_succ_self _) hIt
  have F₁ : Fr h₀ L h₁ m := F.keeps fun b o e => old b o (by have := Heap.lt_size e; rw [hI] at this; exact Nat.lt_succ_of_lt this) (up1 b o e)
  have N₁ : News h₀ L h₁ ((I + 1, lst []) :: news) := fun p hp => by
    rcases List.mem_cons.mp hp with rfl | hp
    · exact ⟨hacc, hDL, hD₀⟩
    · exact ⟨old _ _ (Nat.lt_succ_of_lt (nlt p hp)) (up1 _ _ (N p hp).1), (N p hp).2⟩
  have loop : ∀ s₃ : Shared, s₃ = { s₁ with heap := h₁, toks := s₁.toks + ([] : List (Str × Value)).length } →
      codeAny (model prog w) A (.compLoop (lc2 elt (.Name x px) i1 (.Name y py) i2 [ct] scope pos) 0 (.ref I) (.ref (I + 1)) (compEnvC scope cl C env))
        (compPost (model prog w) A E none Q (.ref (I + 1)) C) s₃ := by
    rintro s₃ rfl
    refine loop2_0 (hs := hs2 _)
      (fun k s' => ∃ h' tk i ys m', s' = { s₁ with heap := h', toks := tk } ∧ i ≤ n ∧ k = n + 1 - i ∧ ys.length = cnt i 0 ∧ ys.length ≤ 16 * i ∧ IsRangeIter h' I (i : Int) ((n : Int) - (i : Int)) 1 ∧ Fr h₀ L h' m ∧ h'.Ns C m' ∧ News h₀ L h' ((I + 1, lst ys) :: news)) ?_ (n + 1)
      ⟨h₁, _, 0, [], _, rfl, Nat.zero_le _, rfl, hz.symm, Nat.zero_le _, by simpa using hIt₁, F₁, hns₁, N₁⟩
    rintro k s' ⟨h', tk, i, ys, m', rfl, hi, rfl, hyl, hyb, hst', F', hn', N'⟩
    by_cases hlt : i < n
    · refine wpAny_pyNext_range_item hst' (by omega) fun h₂ hst₂ hs₂ => ?_
      have k2 : ∀ b o, b ≠ I → h'.get? b = some o → h₂.get? b = some o := fun b o hb e => hs₂.extBut b o hb e
      refine wpAny_assign_Name (wpAny_storeName_local (lookup_relabel_local hx) (hn'.at' fun o e => k2 _ o (Ne.symm hIC) e) (fun h₃ hn₃ hs₃ => ?_) (by simp [compEnvC, relabel, hkind]))
      have k3 : ∀ b o, b ≠ C → h₂.get? b = some o → h₃.get? b = some o := fun b o hb e => hs₃.extBut b o hb e
      obtain ⟨oC, heC, hoC⟩ := ns_obj hn₃
      have hst₃ : IsRangeIter h₃ I ((i : Int) + 1) ((n : Int) - (i : Int) - 1) 1 := k3 _ _ hIC hst₂
      have F₃ : Fr h₀ L h₃ m := (F'.change hs₂ hIL hI₀).change hs₃ hCL hC₀
      have offI : ∀ p ∈ (I + 1, lst ys) :: news, p.1 ≠ I ∧ p.1 ≠ C := fun p hp => by
        rcases List.mem_cons.mp hp with rfl | hp
        · exact ⟨Ne.symm hID, Ne.symm hCD⟩
        · exact ⟨Nat.ne_of_lt (nlt p hp), by rw [hC]; exact Nat.ne_of_lt (Nat.lt_add_right 2 (nlt p hp))⟩
      have N₃ : News h₀ L h₃ ((I, { cls := .type "range_iterator", dict := none, data := .fields #[rawInt ((i : Int) + 1), rawInt ((n : Int) - (i : Int) - 1), rawInt 1], slots := #[] }) :: (C, oC) :: (I + 1, lst ys) :: news) := fun p hp => by
        rcases List.mem_cons.mp hp with rfl | hp
        · exact ⟨hst₃, hIL, hI₀⟩
        · rcases List.mem_cons.mp hp with rfl | hp
          · exact ⟨heC, hCL, hC₀⟩
          · exact ⟨k3 _ _ (offI p hp).2 (k2 _ _ (offI p hp).1 (N' p hp).1), (N' p hp).2⟩
      have off3 : Off3 I C (I + 1) news := Off3.of fun p hp => ⟨Nat.ne_of_lt (nlt p hp), by rw [hC]; exact Nat.ne_of_lt (Nat.lt_add_right 2 (nlt p hp)), Nat.ne_of_lt (Nat.lt_succ_of_lt (nlt p hp))⟩
      refine wpAny_mono (Hi i tk I _ C oC (I + 1) _ ys h₃ _ _ hlt hoC (by simp) F₃ N₃ off3 ⟨hIC, hID, hCD⟩) (fun xv s₄ h₄ => ?_) fun _ _ e => e
      obtain ⟨r₂, t₂, u₂, v₂, h₄, tk₄, rfl, rfl, F₄, N₄, hr₄⟩ := h₄
      refine wpAny_pyIter_range hr₄ (small2 (Nat.le_of_lt (Nat.lt_of_lt_of_le hlt hn16))) ?_
      dsimp only
      generalize hJ : h₄.objs.size = J
      generalize hH5 : (h₄.push { cls := .type "range_iterator", data := .fields #[rawInt 0, rawInt (Builtin.Range.rangeSize 0 (i : Int) 1), rawInt 1] }) = H5
      have up5 : ∀ b o, h₄.get? b = some o → H5.get? b = some o := fun b o e => hH5 ▸ Heap.get?_push_of_some _ e
      have hIt5 : IsRangeIter H5 J 0 (i : Int) 1 := by
        rw [← hH5, ← hJ, size2]; exact Heap.get?_push_size _ rfl
      have ltJ : ∀ p ∈ (I, ({ cls := .type "range_iterator", dict := none, data := .fields #[rawInt ((i : Int) + 1), rawInt ((n : Int) - (i : Int) - 1), rawInt 1], slots := #[] } : Obj)) :: (C, oC) :: (I + 1, lst ys) :: news, p.1 < J := fun p hp => by
        have := Heap.lt_size (N₄ p hp).1; rw [hJ] at this; exact this
      have lI := ltJ _ List.mem_cons_self
      have lC := ltJ (C, oC) (List.mem_cons_of_mem _ List.mem_cons_self)
      have lD := ltJ (I + 1, lst ys) (List.mem_cons_of_mem _ (List.mem_cons_of_mem _ List.mem_cons_self))
      have lL : L < J := by have := F₄.ns.lt; rw [hJ] at this; exact this
      have hJ₀ : h₀.get? J = none := by
        cases e : h₀.get? J with
        | none => rfl
        | some o' => have := Heap.lt_size (F₄.keep J o' e); rw [hJ] at this; exact absurd this (Nat.lt_irrefl _)
      have inner : ∀ s₅ : Shared, s₅ = { s₁ with heap := H5, toks := tk₄ } → codeAny (model prog w) A (.compLoop (lc2 elt (.Name x px) i1 (.Name y py) i2 [ct] scope pos) 1 (.ref J) (.ref (I + 1)) (compEnvC scope cl C env))
          (fun r s₅ => match r with
              | .ok _ => ∃ q, q < n + 1 - i ∧ ∃ h' tk i ys m', s₅ = { s₁ with heap := h', toks := tk } ∧ i ≤ n ∧ q = n + 1 - i ∧ ys.length = cnt i 0 ∧ ys.length ≤ 16 * i ∧ IsRangeIter h' I (i : Int) ((n : Int) - (i : Int)) 1 ∧ Fr h₀ L h' m ∧ h'.Ns C m' ∧ News h₀ L h' ((I + 1, lst ys) :: news)
              | .error _ => False) s₅ := by
        rintro s₅ rfl
        refine inner2 (x := x) (t := tk) (cnt i) (tst i) (16 * i) hh hkind hy hxy (fun j hj => hst i j hlt hj) (by omega) hI₀ hC₀ hD₀ hJ₀ hIL hCL hDL (Ne.symm (Nat.ne_of_lt lL)) (Ne.symm (Nat.ne_of_lt lI)) (Ne.symm (Nat.ne_of_lt lC)) (Ne.symm (Nat.ne_of_lt lD)) hIC hID hCD
          (fun p hp => ⟨Nat.ne_of_lt (nlt p hp), by rw [hC]; exact Nat.ne_of_lt (Nat.lt_add_right 2 (nlt p hp)), Nat.ne_of_lt (Nat.lt_succ_of_lt (nlt p hp)), Nat.ne_of_lt (ltJ p (List.mem_cons_of_mem _ (List.mem_cons_of_mem _ (List.mem_cons_of_mem _ hp))))⟩)
          (fun j t' oJ oC m₂ ys h tk E' hj a b c d e => Hc i j _ _ _ _ _ _ _ _ _ _ _ _ _ _ hlt hj a b c d e)
          (fun j t' oJ oC m₂ ys h tk E' hj a b c d e => He i j _ _ _ _ _ _ _ _ _ _ _ _ _ _ hlt hj a b c d e)
          hyl hyb hIt5 (F₄.keeps up5) (hoC.ns (up5 _ _ (N₄ (C, oC) (List.mem_cons_of_mem _ List.mem_cons_self)).1)) (by simp)
          (oI := { cls := .type "range_iterator", dict := none, data := .fields #[rawInt ((i : Int) + 1), rawInt ((n : Int) - (i : Int) - 1), rawInt 1], slots := #[] }) (fun p hp => ?_) ?_
        · have z : ∀ p ∈ (I, ({ cls := .type "range_iterator", dict := none, data := .fields #[rawInt ((i : Int) + 1), rawInt ((n : Int) - (i : Int) - 1), rawInt 1], slots := #[] } : Obj)) :: (C, oC) :: (I + 1, lst ys) :: news, H5.get? p.1 = some p.2 ∧ p.1 ≠ L ∧ h₀.get? p.1 = none := fun p hp => ⟨up5 _ _ (N₄ p hp).1, (N₄ p hp).2⟩
          rcases List.mem_cons.mp hp with rfl | hp
          · exact z _ List.mem_cons_self
          · exact z p (List.mem_cons_of_mem _ (List.mem_cons_of_mem _ hp))
        · intro h₆ tk₆ ys₆ m₆ hc₆ hl₆ F₆ hn₆ N₆
          have e1 : ((i + 1 : Nat) : Int) = (i : Int) + 1 := by push_cast; rfl
          have e2 : (n : Int) - ((i : Int) + 1) = (n : Int) - (i : Int) - 1 := by omega
          refine ⟨n + 1 - (i + 1), by omega, h₆, tk₆, i + 1, ys₆, m₆, rfl, hlt, rfl, by rw [hc₆, hnx i hlt], by omega, ?_, F₆, hn₆, fun p hp => N₆ p (List.mem_cons_of_mem _ hp)⟩
          rw [e1, e2]; exact (N₆ _ List.mem_cons_self).1
      exact start2_1 (inner _ rfl) (wpAny_pyIter_rangeiter hIt5 (inner _ rfl))
    · obtain rfl : i = n := Nat.le_antisymm hi (Nat.not_lt.mp hlt)
      refine wpAny_pyNext_range_end hh hst' (by omega) fun h₂ hs₂ => ?_
      have k2 : ∀ b o, b ≠ I → h'.get? b = some o → h₂.get? b = some o := fun b o hb e => hs₂ b o hb e
      refine ⟨m', hn'.at' fun o e => k2 _ o (Ne.symm hIC) e, fun h'' hs'' => fin (I + 1) ys h'' tk ((fr_but F' (fun b o hb e => k2 b o (by simpa using hb) e) (Ne.symm hIL) hI₀).change hs'' hCL hC₀) (fun p hp => ?_) hyl (by omega)⟩
      have offI : p.1 ≠ I ∧ p.1 ≠ C := by
        rcases List.mem_cons.mp hp with rfl | hp
        · exact ⟨Ne.symm hID, Ne.symm hCD⟩
        · exact ⟨Nat.ne_of_lt (nlt p hp), by rw [hC]; exact Nat.ne_of_lt (Nat.lt_add_right 2 (nlt p hp))⟩
      exact ⟨hs''.extBut _ _ offI.2 (k2 _ _ offI.1 (N' p hp).1), (N' p hp).2⟩
  exact start2_0 (loop _ rfl) (wpAny_pyIter_rangeiter hIt₁ (loop _ rfl))
end
end
end


theorem off_news {news : List (Addr × Obj)} {L d : Nat} (h : ∀ p : Addr × Obj, p ∈ news → @LT.lt Nat _ p.1 L) (hd : @LE.le Nat _ L d) : ∀ p ∈ news, p.1 ≠ d := fun p hp => Nat.ne_of_lt (Nat.lt_of_lt_of_le (h p hp) hd)
local macro_rules | `(tactic| k_all) => `(tactic| exact off_news (by assumption) (by omega))

def rowZ (x p : Int) (k : Nat) : Int := x * (k : Int) % p
def ptst (x p : Int) (i j : Nat) : Bool := decide (rowZ x p i < rowZ x p j)
def pcnt (x p : Int) (i j : Nat) : Nat := ((List.range i).map (fun a => (List.range a).countP (ptst x p a))).sum + (List.range j).countP (ptst x p i)

theorem ptst_eq {x p : Int} (i j : Nat) : decide (x * (0 + (i : Int)) % p < x * (0 + (j : Int)) % p) = ptst x p i j := by
  unfold ptst rowZ
  rw [Int.zero_add, Int.zero_add]
theorem pcnt_zero {x p : Int} : pcnt x p 0 0 = 0 := rfl
theorem pcnt_step {x p : Int} (i j : Nat) : pcnt x p i (j + 1) = if ptst x p i j = true then pcnt x p i j + 1 else pcnt x p i j := by
  unfold pcnt
  rw [List.range_succ, List.countP_append, List.countP_singleton]
  split <;> omega
theorem pcnt_next {x p : Int} (i : Nat) : pcnt x p (i + 1) 0 = pcnt x p i i := by
  unfold pcnt
  rw [List.range_succ (n := i), List.map_append, List.sum_append]
  simp

@[irreducible] def pairZ (x p : Int) : Int := if ((pcnt x p p.toNat 0 : Nat) : Int).fmod 2 = 0 then 1 else -1
theorem pairZ_yes {x p : Int} (h : ((pcnt x p p.toNat 0 : Nat) : Int).fmod 2 = 0) : 1 = pairZ x p := by
  unfold pairZ
  rw [if_pos h]
theorem pairZ_no {x p : Int} (h : ((pcnt x p p.toNat 0 : Nat) : Int).fmod 2 ≠ 0) : 0 - 1 = pairZ x p := by
  unfold pairZ
  rw [if_neg h]
  rfl

set_option maxHeartbeats 8000000 in
theorem pairs_c (x p : Int) (tx tp : Tok) (h1 : 1 ≤ x := by omega) (h2 : x < 14 := by omega) (h3 : 3 ≤ p := by omega) (h4 : p < 14 := by omega) : Con 14 1024 249 [.int x tx, .int p tp] (fun t => .int (pairZ x p) t) := by
  k_with "my call ref" => (k_here; (with_reducible show wpAny _ _ (call (Value.ref 244) _) _ _ _); (k_dflt (refine con_use (half_c _ _ _ _) ?_)); intro t9 h9 tk9 F9 N9; (try dsimp only); (try k_fold))
  k_with "my eval ListComp" => (k_here; (with_reducible show wpAny _ _ (eval (Expr.ListComp _ [_, _] _ _) _) _ _ _); k_dflt (refine listcomp2 (F₀ := by k_asm) (by with_unfolding_all rfl) (by decide) (by rfl) (by decide) (by rfl) (by rfl) (by decide) ?_))
  (try dsimp only [Con, CbRet])
  k_fill
  intro w loose mean mg mb news dp un gd cn cs a ccd cl outer A₀ base h₀ L m s Q E hB hF hX hN hT hk hdp hun hret
  refine wpAny_call ?_
  have hf : p.fdiv 2 = p / 2 := Int.fdiv_eq_ediv_of_nonneg _ (by omega)
  k_dflt (refine' code_defC ?k1 ?k2 ?k3 ?k4 ?k5 ?kA ?kF ?kK ?k6 ?k7 ?k8 ?k9 ?kB ?kD ?_ ?c2 ?c3 ?c4; (case kA => exact rfl); (case kF => exact rfl); (case kK => assumption); (case k1 => k_asm); (case k2 => k_asm); (case k3 => k_asm); (case k4 => k_asm); (case k5 => k_asm); (case k6 => k_is); (case k7 => k_is); (case k8 => ktr_room); (case k9 => exact BindsTo.of_eq rfl); (case kB => exact rfl); (case kD => decide +kernel); (case c2 => exact rfl); (case c3 => exact rfl); (case c4 => exact rfl); k_whole; intro g' L' h' tk' cells' FG' F' N' Y' B' X' T' l1; (try k_lt l1); k_cells Y'; (try simp only [List.cons_append, List.nil_append] at N'); (try dsimp only); (try k_lift B'); (try k_fold))
  k_steps
  refine ⟨_, _, _, _, p.toNat, pcnt x p, ptst x p, _, rfl, rfl, by k_asm, by k_asm, (by rw [Int.toNat_of_nonneg (by omega)]; assumption), by omega, ?i2, ?ct, ?el, pcnt_zero, fun i j _ _ => pcnt_step i j, fun i _ => pcnt_next i, ?fin⟩
  case i2 =>
    intro i t' I oI C oC D m₂ ys h tk E' hi hC hx F N off dis
    have hi' : (i : Int) < 14 := by omega
    k_steps
    exact ⟨_, _, _, _, _, _, rfl, rfl, by assumption, by assumption, by assumption⟩
  case ct =>
    intro i j t' t'' J oJ I oI C oC D m₂ ys h tk E' hi hj hC hx hy F N
    k_steps
    · exact ptst_eq i j
    · exact ⟨_, _, rfl, by assumption, by assumption⟩
  case el =>
    intro i j t' t'' J oJ I oI C oC D m₂ ys h tk E' hi hj hC hx hy F N
    k_steps
    exact ⟨_, _, rfl, by assumption, by assumption⟩
  case fin =>
    intro D ys h tk F N hl hb
    k_steps
    refine call_len_list (items := ys.toArray) ⟨_, News.get N (.head _), rfl, _, rfl⟩ (by rw [List.size_toArray]; omega) ?_
    rw [List.size_toArray, hl]
    k_steps
    · refine cb_retI (Q := Q) hret (pairZ_yes (by assumption)) (by k_asm) ?_
      first | k_asm | (refine' cb_drop ?cbN ?cbS; (case cbN => assumption); (case cbS => kcj_all))
    · refine cb_retI (Q := Q) hret (pairZ_no (by assumption)) (by k_asm) ?_
      first | k_asm | (refine' cb_drop ?cbN ?cbS; (case cbN => assumption); (case cbS => kcj_all))

section
open PySem.Spec
open PySem PySem.W PySem.Spec PySem.Calls PyProof.Rows

def MyJ (x : Str) (stored : List Str) (m₀ : Str → Option Value) (news : List (Addr × Obj)) (m : Str → Option Value) (nx : List (Addr × Obj)) : Prop := nx = news ∧ ∀ z, z ≠ x → stored.contains z = false → m z = m₀ z
section
variable {prog : Program} {w : World} {A : Around} {E : Value → Shared → Prop} {s : Shared} {env : Env} {h₀ : Heap} {x : Str} {body : List Stmt} {Q : Flow → Shared → Prop}

theorem my_fr {L : Addr} {h : Heap} {stored : List Str} {m₀ m₁ : Str → Option Value} {v : Value} (h2 : ∀ z, z ≠ x → stored.contains z = false → m₁ z = m₀ z)
    (F : Fr h₀ L h (fun y => if y = x then some v else m₁ y)) : Fr h₀ L h (fun y => if y = x then some v else if stored.contains y = true then m₁ y else m₀ y) := by
  have em : (fun y => if y = x then some v else if stored.contains y = true then m₁ y else m₀ y) = fun y => if y = x then some v else m₁ y := by
    funext y
    by_cases hy : y = x
    · rw [if_pos hy, if_pos hy]
    · rw [if_neg hy, if_neg hy]
      cases hc : stored.contains y with
      | true => rw [if_pos rfl]
      | false => rw [if_neg Bool.false_ne_true]; exact (h2 y hy hc).symm
  rw [em]
  exact F
theorem my_frOut {L : Addr} {h : Heap} {stored : List Str} {m₀ m₁ : Str → Option Value} (h2 : ∀ z, z ≠ x → stored.contains z = false → m₁ z = m₀ z)
    (F : Fr h₀ L h m₁) : Fr h₀ L h (fun y => if y = x then m₁ y else if stored.contains y = true then m₁ y else m₀ y) := by
  have em : (fun y => if y = x then m₁ y else if stored.contains y = true then m₁ y else m₀ y) = m₁ := by
    funext y
    by_cases hy : y = x
    · rw [if_pos hy]
    · rw [if_neg hy]
      cases hc : stored.contains y with
      | true => rw [if_pos rfl]
      | false => rw [if_neg Bool.false_ne_true]; exact (h2 y hy hc).symm
  rw [em]
  exact F

theorem my_range {L : Addr} {r : Addr} {a₀ b₀ c₀ : Int} {t₀ u₀ v₀ : Tok} {n : Nat} {m₀ : Str → Option Value} {news : List (Addr × Obj)} (stored : List Str)
    (hL : env.locals = L) (hh : A.handled = none) (hr : IsRange s.heap r a₀ b₀ c₀ t₀ u₀ v₀) (hsmall : Builtin.Range.small a₀ b₀ c₀ = true) (hn : Builtin.Range.rangeSize a₀ b₀ c₀ = (n : Int)) (F : Fr h₀ L s.heap m₀) (N : News h₀ L s.heap news)
    (turn : ∀ (i : Nat) (k : Int) t (u : Str → Option Value) h tk own, i < n → k = a₀ + (i : Int) * c₀ → OwnOff own (news.map (·.1)) →
      Fr h₀ L h (fun y => if y = x then some (.int k t) else if stored.contains y = true then u y else m₀ y) → News h₀ L h (news ++ own) →
      wpAny (model prog w) A (execs body env) (InvPostN h₀ L (MyJ x stored m₀ news) own (news.map (·.1)) { s with heap := h, toks := tk } Q) E { s with heap := h, toks := tk })
    (done : ∀ (u : Str → Option Value) h tk, Fr h₀ L h (fun y => if y = x then u y else if stored.contains y = true then u y else m₀ y) → News h₀ L h news → Q .next { s with heap := h, toks := tk }) :
    wpAny (model prog w) A (pyIter (.ref r)) (fun it s₂ => LoopAtV prog w A h₀ env x body Q E it s₂) E s := by
  subst hL
  refine wpAny_pyIter_range hr hsmall ?_
  have W : Walks prog w A s.heap.objs.size [s.heap.objs.size] [s.heap.objs.size] n (fun i v => i < n ∧ ∃ t, v = .int (a₀ + i * c₀) t)
      (fun i h => IsRangeIter h s.heap.objs.size (a₀ + (i : Nat) * c₀) ((n : Int) - (i : Nat)) c₀) := (Walks.range hh _ a₀ c₀ n).bound
  refine loop_invN (fun _ m nx => MyJ x stored m₀ news m nx) W ?_ ?_ ?_ ?_ (by show IsRangeIter _ _ _ _ _; rw [hn]; simpa using Heap.get?_push_size _ rfl) (F.push _) (fun p hp => ⟨Heap.get?_push_of_some _ (N p hp).1, (N p hp).2⟩) ⟨rfl, fun _ _ _ => rfl⟩ ?_ ?_
  · intro hm
    exact absurd F.ns.lt ((List.mem_singleton.mp hm) ▸ Nat.lt_irrefl _)
  · intro b hb
    rw [List.mem_singleton.mp hb]
    exact next_is_new F
  · intro p hp hI
    exact absurd (Heap.lt_size (N p hp).1) ((List.mem_singleton.mp hI) ▸ Nat.lt_irrefl _)
  · intro p hp hI
    exact absurd (Heap.lt_size (N p hp).1) ((List.mem_singleton.mp hI) ▸ Nat.lt_irrefl _)
  · rintro i v m₁ nx h tk own hi ⟨_, t, rfl⟩ _ hoff ⟨rfl, h2⟩ F₁ N₁
    exact turn i _ t m₁ h tk own hi rfl hoff (my_fr h2 F₁) N₁
  · rintro m₁ nx h tk ⟨rfl, h2⟩ F₁ N₁
    exact done m₁ h tk (my_frOut h2 F₁) N₁
theorem my_end {L : Addr} {stored : List Str} {m₀ m' : Str → Option Value} {news news' own : List (Addr × Obj)} {s₁ : Shared} {h' : Heap} {tk : Nat} (F : Fr h₀ L h' m') (N : News h₀ L h' news') (hn : ∀ p ∈ news, p ∈ news') (ho : ∀ p ∈ own, p ∈ news')
    (hm : ∀ z, z ≠ x → stored.contains z = false → m' z = m₀ z) : InvEndN h₀ L (MyJ x stored m₀ news) own (news.map (·.1)) s₁ { s₁ with heap := h', toks := tk } := InvEndN.intro F N ⟨rfl, hm⟩ rfl hn ho
end
end

open PySem PySem.W PyProof.Rows PySem.Calls

def InP (q : Int) : Prop := q = 3 ∨ q = 5 ∨ q = 7 ∨ q = 11 ∨ q = 13

def signsOk (p : Nat) : Bool := (List.range p).all fun k => k == 0 || (powZ k p == sqZ k p && halfZ k p == sqZ k p && pairZ k p == sqZ k p)
def timesOk (p : Nat) : Bool := (List.range p).all fun k => (List.range p).all fun j => k == 0 || j == 0 || (decide (1 ≤ (k : Int) * j % p) && powZ ((k : Int) * j % p) p == powZ k p * powZ j p)
def turnZ (p q : Int) : Int := if p % 4 = 3 ∧ q % 4 = 3 then -1 else 1
def backOk (p q : Nat) : Bool := powZ ((q : Int) % p) p * powZ ((p : Int) % q) q == turnZ p q && decide (1 ≤ (q : Int) % p) && decide ((q : Int) % p < p)

theorem signs_all : ∀ p ∈ [3, 5, 7, 11, 13], signsOk p = true := by decide +kernel
theorem times_all : ∀ p ∈ [3, 5, 7, 11, 13], timesOk p = true := by decide +kernel
theorem back_all : ∀ p ∈ [3, 5, 7, 11, 13], ∀ q ∈ [3, 5, 7, 11, 13], p = q ∨ backOk p q = true := by decide +kernel

theorem inP_nat {q : Int} (h : InP q) : ∃ n : Nat, q = (n : Int) ∧ n ∈ [3, 5, 7, 11, 13] := by
  rcases h with rfl | rfl | rfl | rfl | rfl
  · exact ⟨3, rfl, by decide⟩
  · exact ⟨5, rfl, by decide⟩
  · exact ⟨7, rfl, by decide⟩
  · exact ⟨11, rfl, by decide⟩
  · exact ⟨13, rfl, by decide⟩
theorem inP_le {q : Int} (h : InP q) : 3 ≤ q ∧ q < 14 := by
  rcases h with rfl | rfl | rfl | rfl | rfl <;> decide

theorem signs_eq {p k : Int} (h : InP p) (h1 : 1 ≤ k) (h2 : k < p) : powZ k p = sqZ k p ∧ halfZ k p = sqZ k p ∧ pairZ k p = sqZ k p := by
  obtain ⟨n, rfl, hn⟩ := inP_nat h
  obtain ⟨j, rfl⟩ : ∃ j : Nat, k = (j : Int) := ⟨k.toNat, by omega⟩
  have e := List.all_eq_true.mp (signs_all n hn) j (List.mem_range.mpr (by omega))
  simp only [Bool.or_eq_true, Bool.and_eq_true, beq_iff_eq] at e
  rcases e with e | ⟨⟨e1, e2⟩, e3⟩
  · omega
  · exact ⟨e1, e2, e3⟩
theorem times_eq {p k j : Int} (h : InP p) (h1 : 1 ≤ k) (h2 : k < p) (h3 : 1 ≤ j) (h4 : j < p) : 1 ≤ k * j % p ∧ powZ (k * j % p) p = powZ k p * powZ j p := by
  obtain ⟨n, rfl, hn⟩ := inP_nat h
  obtain ⟨a, rfl⟩ : ∃ a : Nat, k = (a : Int) := ⟨k.toNat, by omega⟩
  obtain ⟨b, rfl⟩ : ∃ b : Nat, j = (b : Int) := ⟨j.toNat, by omega⟩
  have e := List.all_eq_true.mp (List.all_eq_true.mp (times_all n hn) a (List.mem_range.mpr (by omega))) b (List.mem_range.mpr (by omega))
  simp only [Bool.or_eq_true, Bool.and_eq_true, beq_iff_eq, decide_eq_true_eq] at e
  rcases e with (e | e) | ⟨e1, e2⟩
  · omega
  · omega
  · exact ⟨e1, e2⟩
theorem back_eq {p q : Int} (h : InP p) (h' : InP q) (hne : q ≠ p) : powZ (q % p) p * powZ (p % q) q = turnZ p q ∧ 1 ≤ q % p ∧ q % p < p := by
  obtain ⟨n, rfl, hn⟩ := inP_nat h
  obtain ⟨m, rfl, hm⟩ := inP_nat h'
  rcases back_all n hn m hm with e | e
  · exact absurd (by rw [e]) hne
  · unfold backOk at e
    simp only [Bool.and_eq_true, beq_iff_eq, decide_eq_true_eq] at e
    exact ⟨e.1.1, e.1.2, e.2⟩
theorem sqZ_bd (k p : Int) : -1 ≤ sqZ k p ∧ sqZ k p ≤ 1 := by
  unfold sqZ
  split <;> decide
theorem powZ_bd {p k : Int} (h : InP p) (h1 : 1 ≤ k) (h2 : k < p) : -1 ≤ powZ k p ∧ powZ k p ≤ 1 := by
  rw [(signs_eq h h1 h2).1]
  exact sqZ_bd k p
theorem tri_ok {p k : Int} (h : InP p) (h1 : 1 ≤ k) (h2 : k < p) : decide ([powZ k p, halfZ k p, pairZ k p] = (List.replicate (Int.toNat 3) [sqZ k p]).flatten) = true := by
  obtain ⟨e1, e2, e3⟩ := signs_eq h h1 h2
  rw [e1, e2, e3]
  exact decide_eq_true rfl
structure Back (p q : Int) : Prop where
  a1 : 1 ≤ q.fmod p
  a2 : q.fmod p < 14
  b1 : 1 ≤ p.fmod q
  b2 : p.fmod q < 14
  c1 : -1 ≤ powZ (q.fmod p) p
  c2 : powZ (q.fmod p) p ≤ 1
  d1 : -1 ≤ powZ (p.fmod q) q
  d2 : powZ (p.fmod q) q ≤ 1
  e : powZ (q.fmod p) p * powZ (p.fmod q) q = if p.fmod 4 = 3 ∧ q.fmod 4 = 3 then -1 else 1
theorem back_of {p q : Int} (h : InP p) (h' : InP q) (hne : q ≠ p) : Back p q := by
  obtain ⟨e, a, b⟩ := back_eq h h' hne
  obtain ⟨_, a', b'⟩ := back_eq h' h (Ne.symm hne)
  have hp := inP_le h
  have hq := inP_le h'
  have f1 : q.fmod p = q % p := Int.fmod_eq_emod_of_nonneg q (by omega)
  have f2 : p.fmod q = p % q := Int.fmod_eq_emod_of_nonneg p (by omega)
  have f3 : p.fmod 4 = p % 4 := Int.fmod_eq_emod_of_nonneg p (by omega)
  have f4 : q.fmod 4 = q % 4 := Int.fmod_eq_emod_of_nonneg q (by omega)
  have c := powZ_bd h a b
  have d := powZ_bd h' a' b'
  refine ⟨by omega, by omega, by omega, by omega, by rw [f1]; exact c.1, by rw [f1]; exact c.2, by rw [f2]; exact d.1, by rw [f2]; exact d.2, ?_⟩
  rw [f1, f2, f3, f4]
  exact e


theorem list_item {prog : Program} {w : World} {A : Around} {E : Value → Shared → Prop} {s : Shared} {value slice : PySem.Expr} {l : Addr} {vs : List Value} {k : Int} {u : Tok} {v : Value} {Q : Value → Shared → Prop}
    (hl : s.heap.IsList l vs.toArray) (h0 : 0 ≤ k) (hhi : k < 2 ^ 63) (hx : vs[k.toNat]? = some v) (h : Q v s)
    (hs : subscripted slice false (.ref l) (.int k u) = operate [.ref l, .int k u] (getItem (.ref l) (.int k u)) := by with_unfolding_all rfl) :
    wpAny (model prog w) A (subscriptTail value slice (.ref l) (.int k u)) Q E s :=
  tail_any hl.typeIs slot_list_getitem.lookup (wpAny_getItem_list hl h0 hhi (by simpa using hx) h) hs
theorem menu5 {prog : Program} {w : World} {A : Around} {E : Value → Shared → Prop} {s : Shared} {value slice : PySem.Expr} {h₀ : Heap} {L : Addr} {news : List (Addr × Obj)} {d : Addr} {n : Nat} {k : Int} {u t0 t1 t2 t3 t4 : Tok} {Q : Value → Shared → Prop}
    (N : News h₀ L s.heap news) (hm : (d, listOf #[.int 3 t0, .int 5 t1, .int 7 t2, .int 11 t3, .int 13 t4] n) ∈ news) (h0 : 0 ≤ k) (h5 : k < 5) (h : ∀ q t, InP q → 3 ≤ q → q < 14 → Q (.int q t) s)
    (hs : subscripted slice false (.ref d) (.int k u) = operate [.ref d, .int k u] (getItem (.ref d) (.int k u)) := by with_unfolding_all rfl) :
    wpAny (model prog w) A (subscriptTail value slice (.ref d) (.int k u)) Q E s := by
  have hl : s.heap.IsList d [Value.int 3 t0, .int 5 t1, .int 7 t2, .int 11 t3, .int 13 t4].toArray := ⟨_, News.get N hm, rfl, _, rfl⟩
  have e : k = 0 ∨ k = 1 ∨ k = 2 ∨ k = 3 ∨ k = 4 := by omega
  rcases e with rfl | rfl | rfl | rfl | rfl
  · exact list_item hl (by decide) (by decide) rfl (h _ _ (.inl rfl) (by decide) (by decide)) hs
  · exact list_item hl (by decide) (by decide) rfl (h _ _ (.inr (.inl rfl)) (by decide) (by decide)) hs
  · exact list_item hl (by decide) (by decide) rfl (h _ _ (.inr (.inr (.inl rfl))) (by decide) (by decide)) hs
  · exact list_item hl (by decide) (by decide) rfl (h _ _ (.inr (.inr (.inr (.inl rfl)))) (by decide) (by decide)) hs
  · exact list_item hl (by decide) (by decide) rfl (h _ _ (.inr (.inr (.inr (.inr rfl)))) (by decide) (by decide)) hs


def pickG (q : Int) (l : List Int) (k : Int) : List Int := if k ≠ q then l ++ [k] else l
theorem pickG_yes {q k : Int} {l : List Int} (h : k ≠ q) : pickG q l k = l ++ [k] := by unfold pickG; rw [if_pos h]
theorem pickG_no {q k : Int} {l : List Int} (h : k = q) : pickG q l k = l := by unfold pickG; rw [if_neg (fun x => x h)]
theorem pickG_grows (q : Int) : KPfGrows (pickG q) := by
  intro l k
  unfold pickG
  split
  · rw [List.length_append]; exact Nat.le_refl _
  · exact Nat.le_succ _
def others (q : Int) : List Int := [3, 5, 7, 11, 13].foldl (pickG q) []
theorem others_four {q : Int} (h : InP q) : (others q).length = 4 := by
  rcases h with rfl | rfl | rfl | rfl | rfl <;> decide
theorem others_in {q r : Int} (h : InP q) (hr : r ∈ others q) : InP r ∧ r ≠ q := by
  unfold InP
  rcases h with rfl | rfl | rfl | rfl | rfl <;>
  · have e := hr
    simp [others, pickG] at e
    omega

theorem menuL {prog : Program} {w : World} {A : Around} {E : Value → Shared → Prop} {s : Shared} {value slice : PySem.Expr} {h₀ : Heap} {L : Addr} {news : List (Addr × Obj)} {d : Addr} {k : Int} {u : Tok} {q : Int} {ys : List Value} {Q : Value → Shared → Prop}
    (N : News h₀ L s.heap news) (hi : IntsAre ys (List.foldl (pickG q) [] [3, 5, 7, 11, 13])) (hm : (d, LCg.lst ys) ∈ news) (hq : InP q) (h0 : 0 ≤ k) (h4 : k < 4) (h : ∀ r t, InP r → r ≠ q → 3 ≤ r → r < 14 → 1 ≤ r.fmod q → r.fmod q < 14 → 1 ≤ q.fmod r → q.fmod r < 14 → Back q r → Q (.int r t) s)
    (hs : subscripted slice false (.ref d) (.int k u) = operate [.ref d, .int k u] (getItem (.ref d) (.int k u)) := by with_unfolding_all rfl) :
    wpAny (model prog w) A (subscriptTail value slice (.ref d) (.int k u)) Q E s := by
  have hl : s.heap.IsList d ys.toArray := ⟨_, News.get N hm, rfl, _, rfl⟩
  have h4' : k.toNat < ys.length := by
    have e := others_four hq
    unfold others at e
    rw [hi.length, e]
    omega
  obtain ⟨r, t, e, hr⟩ := IntsAre.at hi k.toNat _ (List.getElem?_eq_getElem h4')
  have hx : ys[k.toNat]? = some (.int r t) := by rw [List.getElem?_eq_getElem h4', e]
  have hr' := others_in hq (List.mem_of_getElem? hr)
  have B := back_of hq hr'.1 hr'.2
  exact list_item hl h0 (by omega) hx (h r t hr'.1 hr'.2 (inP_le hr'.1).1 (inP_le hr'.1).2 B.a1 B.a2 B.b1 B.b2 B) hs

theorem small_three {p : Int} (h : InP p) : Builtin.Range.small 1 p 3 = true := by
  rcases h with rfl | rfl | rfl | rfl | rfl <;> decide
theorem size_three {p : Int} (h : 3 ≤ p) : Builtin.Range.rangeSize 1 p 3 = (((p - 2) / 3 + 1).toNat : Int) := by
  unfold Builtin.Range.rangeSize
  rw [if_pos (by decide), if_pos (by omega)]
  omega

theorem signs_at {prog : Program} {w : World} {A : Around} {E : Value → Shared → Prop} {s : Shared} {value slice : PySem.Expr} {h₀ : Heap} {L : Addr} {news : List (Addr × Obj)} {d : Addr} {k p : Int} {u : Tok} {ys : List Value} {Q : Value → Shared → Prop}
    (N : News h₀ L s.heap news) (hi : IntsAre ys (List.map (fun k' => powZ k' p) (rangeKs 1 (p - 1).toNat))) (hm : (d, LCg.lst ys) ∈ news) (hP : InP p) (h1 : 1 ≤ k) (h2 : k < p) (h : ∀ t, -1 ≤ powZ k p → powZ k p ≤ 1 → Q (.int (powZ k p) t) s)
    (hs : subscripted slice false (.ref d) (.int (k - 1) u) = operate [.ref d, .int (k - 1) u] (getItem (.ref d) (.int (k - 1) u)) := by with_unfolding_all rfl) :
    wpAny (model prog w) A (subscriptTail value slice (.ref d) (.int (k - 1) u)) Q E s := by
  have hp := inP_le hP
  have hl : s.heap.IsList d ys.toArray := ⟨_, News.get N hm, rfl, _, rfl⟩
  have h4' : (k - 1).toNat < ys.length := by
    rw [hi.length, List.length_map, rangeKs_length]
    omega
  obtain ⟨r, t, e, hr⟩ := IntsAre.at hi (k - 1).toNat _ (List.getElem?_eq_getElem h4')
  have hx : ys[(k - 1).toNat]? = some (.int r t) := by rw [List.getElem?_eq_getElem h4', e]
  have hr' : r = powZ k p := by
    rw [List.getElem?_map] at hr
    have e5 : (rangeKs 1 (p - 1).toNat)[(k - 1).toNat]? = some (1 + ((k - 1).toNat : Int)) := by
      have : (k - 1).toNat < (p - 1).toNat := by omega
      simp only [rangeKs, List.getElem?_map, List.getElem?_range this, Option.map_some]
    rw [e5] at hr
    have e6 : 1 + ((k - 1).toNat : Int) = k := by omega
    rw [e6] at hr
    exact (Option.some.inj hr).symm
  subst hr'
  have b := powZ_bd hP h1 h2
  exact list_item hl (by omega) (by omega) hx (h t b.1 b.2) hs

theorem rest_use {x y p : Int} {tx ty tp : Tok} {w : World} {loose : List Str} {mean : ExcName → Option Value} {mg mb : Str → Option Value} {news : List (Addr × Obj)}
    {dp un : Nat} {gd : Option (List Code)} {cn : Str} {cs : Scope} {a : Addr} {ccd : Value} {cl : List (Str × Addr)} {outer : List Env} {A₀ : Around} {base h₀ : Heap} {L : Addr} {m : Str → Option Value} {s : Shared} {Q E : Value → Shared → Prop}
    (ret : ∀ (t : Tok) (h' : Heap) (tk' : Nat), Fr h₀ L h' m → News h₀ L h' news → 1 ≤ x * y % p → x * y % p < p → powZ (x * y % p) p = powZ x p * powZ y p → Q (.int (x * y % p) t) { s with heap := h', toks := tk' })
    (hP : InP p := by k_asm) (h1 : 1 ≤ x := by omega) (h2 : x < p := by omega) (h3 : 1 ≤ y := by omega) (h4 : y < p := by omega)
    (hB : Below A₀ base outer h₀ := by k_asm) (hF : Fr h₀ L s.heap m := by k_asm) (hX : (hd.heap_39 w.params).In h₀ := by k_asm) (hN : News h₀ L s.heap news := by k_asm) (hT : Top hd.view_39 loose mean mg mb h₀ := by k_asm)
    (hk : cs.kind = .function := by first | exact rfl | assumption) (hr : dp + 10 < recursionLimit := by ktr_room) (hu : un + 256 < cLine := by ktr_units) :
    wpAny (model PySem.Challenge.rw_xm0062_01.row.prog w) (ktrTop dp un gd cn cs L a ccd cl outer) (call (.ref 227) [.int x tx, .int y ty, .int p tp]) Q E s := by
  have hp := inP_le hP
  have ht := times_eq hP h1 h2 h3 h4
  exact con_use (rest_c x y p tx ty tp (by omega) (by omega) (by omega) (by omega) (by omega) (by omega)) (fun t h' tk' F N => ret t h' tk' F N ht.1 (Int.emod_lt_of_pos _ (by omega)) ht.2) hB hF hX hN hT hk hr hu
theorem nt_ne {a b : Int} (h : a = b) : ¬ (decide (a ≠ b) = true) := by rw [decide_eq_false (fun x => x h)]; exact Bool.false_ne_true
theorem nt_not {a b : Int} (h : a = b) : ¬ ((!decide (a = b)) = true) := by rw [decide_eq_true h]; exact Bool.false_ne_true
theorem nt_bne {a b : Int} (h : a = b) : ¬ ((a != b) = true) := by subst h; simp
section
variable {prog : Program} {w : World} {A : Around} {E : Value → Shared → Prop} {s : Shared} {p q : Int} {t u : Tok} {Q : Value → Shared → Prop}
theorem mul_back (B : Back p q) (h : Q (.int (if p.fmod 4 = 3 ∧ q.fmod 4 = 3 then -1 else 1) s.toks) { s with toks := s.toks + 1 }) :
    wpAny (model prog w) A (binaryOp .Mult (.int (powZ (q.fmod p) p) t) (.int (powZ (p.fmod q) q) u)) Q E s := by
  have c1 := B.c1
  have c2 := B.c2
  have d1 := B.d1
  have d2 := B.d2
  rw [← B.e] at h
  exact PyProof.Rows.mul_int h (by mul_fits)
theorem eq_known {a b : Int} (e : a = b) (h : Q (.bool true) s) : wpAny (model prog w) A (compareOp .Eq (.int a t) (.int b u)) Q E s := by
  refine PyProof.Rows.eq_int ?_
  rw [show (a == b) = true from beq_iff_eq.mpr e]
  exact h
theorem turn_a (h : p.fmod 4 = 3) (h' : q.fmod 4 = 3) : (if p.fmod 4 = 3 ∧ q.fmod 4 = 3 then -1 else 1) = (0 - 1 : Int) := by rw [if_pos ⟨h, h'⟩]; rfl
theorem turn_b (h : q.fmod 4 ≠ 3) : (if p.fmod 4 = 3 ∧ q.fmod 4 = 3 then -1 else 1) = (1 : Int) := by rw [if_neg (fun x => h x.2)]
theorem turn_c (h : p.fmod 4 ≠ 3) : (if p.fmod 4 = 3 ∧ q.fmod 4 = 3 then -1 else 1) = (1 : Int) := by rw [if_neg (fun x => h x.1)]
end

def lawTail : List Stmt := match PySem.Challenge.pw_xm0062_01.main.body.getLast? with
  | some (.FunctionDef _ _ b _ _ _ _ _ _ _) => b.drop 3
  | _ => []
def lawScope : Scope := match PySem.Challenge.pw_xm0062_01.main.body.getLast? with
  | some (.FunctionDef _ _ _ _ _ _ sc _ _ _) => sc
  | _ => { kind := .function, names := [], isGenerator := false, isCoroutine := false }

local macro_rules | `(tactic| passes_own) => `(tactic| with_reducible assumption)
set_option maxHeartbeats 4000000 in
theorem tail_c {w : World} {loose : List Str} {mean : ExcName → Option Value} {mg mb : Str → Option Value} {base h₀ : Heap} {L fa : Addr} {cd : Value} {m : Str → Option Value} {s : Shared} {Q : Flow → Shared → Prop} {E : Value → Shared → Prop} {p q : Int} {tp tq : Tok} {oc : Obj}
    (hB : Below callerA base [] h₀) (hF : Fr h₀ L s.heap (fun y => if y = Str.ofString "other" then some (.int q tq) else m y)) (hX : (hd.heap_39 w.params).In h₀) (hN : News h₀ L s.heap [(L + 1, oc)]) (hT : Top hd.view_39 loose mean mg mb h₀)
    (hoc : oc.data = .cell (some (.int p tp))) (hp : InP p) (hq : InP q) (hne : q ≠ p)
    (hE : PassesOwn (model PySem.Challenge.rw_xm0062_01.row.prog w) (callerA.deeper (envOfC (Str.ofString "law") lawScope L fa cd)) (envOfC (Str.ofString "law") lawScope L fa cd) E)
    (fin : ∀ h' tk' m', Fr h₀ L h' m' → Q (.ret (.bool true)) { s with heap := h', toks := tk' }) :
    wpAny (model PySem.Challenge.rw_xm0062_01.row.prog w) (callerA.deeper (envOfC (Str.ofString "law") lawScope L fa cd)) (execs lawTail (envOfC (Str.ofString "law") lawScope L fa cd)) Q E s := by
  k_with "my call ref" => (k_here; (with_reducible show wpAny _ _ (call (Value.ref 249) _) _ _ _); (k_dflt (refine con_use (pairs_c _ _ _ _) ?_)); intro t9 h9 tk9 F9 N9; (try dsimp only); (try k_fold))
  k_with "my call ref" => (k_here; (with_reducible show wpAny _ _ (call (Value.ref 234) _) _ _ _); (k_dflt (refine con_use (power_c _ _ _ _) ?_)); intro t9 h9 tk9 F9 N9; (try dsimp only); (try k_fold))
  k_with "my subscriptTail" => (k_here; (with_reducible show wpAny _ _ (subscriptTail _ _ (Value.ref _) (Value.int _ _)) _ _ _); k_dflt (refine menu5 (by k_asm) (by k_mem) (by first | omega | exact fmod_lo _ (by decide)) (by first | omega | exact fmod_hi _ (by decide)) ?_); intro q' t' hq' hqa' hqb'; (try dsimp only))
  k_with "my KCiEl" => exact kci_el (pickG_yes (by with_reducible assumption)) rfl rfl
  k_with "my KCiNo" => exact kci_no (pickG_no (by with_reducible assumption)) rfl
  k_with "my KPfGrows" => exact pickG_grows _
  k_with "my CompSrcT" => (k_here; (refine LCt.CompSrcT.ledger (by rfl) (by k_asm) (by k_asm) (by k_mem) (by rw [PySem.sizeLine_eq]; exact (by decide : (5 : Nat) ≤ 16777216)) ?_); intro g'; (refine' kci_list (ns := [3, 5, 7, 11, 13]) (pickG _) (.cons _ _ (.cons _ _ (.cons _ _ (.cons _ _ (.cons _ _ .nil))))) (fun k' t' I' oI' C' oC' D' m' ys' l' h' tk' E' hk' hI' hC' hx' F' N' off' ne' => ?_) ?_ ?_); (all_goals (try (simp only [LCg.Off3, and_true] at off'))); (all_goals (try ((show KPfMark → _); intro hMark'))); kcf_last)
  k_with "my subscriptTail" => (k_here; (with_reducible show wpAny _ _ (subscriptTail _ _ (Value.ref _) (Value.int _ _)) _ _ _); k_dflt (refine menuL (by k_asm) (by with_reducible assumption) (by k_mem) (by with_reducible assumption) (by first | omega | exact fmod_lo _ (by decide)) (by first | omega | exact fmod_hi _ (by decide)) ?_); intro q' t' hq' hne' hqa' hqb' hba' hbb' hbc' hbd' hB'; (try dsimp only))
  k_with "my exec For Name Call cons nil" => (k_here; (rename Fr _ _ _ _ => lF'); (with_unfolding_all refine' For_invVF lF' ?k1 ?k2 ?_; (case k1 => exact rfl); (case k2 => exact rfl); k_whole))
  k_with "my pyIter ref" => ((with_reducible show wpAny _ _ (pyIter (Value.ref _)) (fun it s₂ => LoopAtV _ _ _ _ _ _ _ _ _ it s₂) _ _); k_here; (rename Fr _ _ _ _ => lF'); (rename News _ _ _ _ => lN'); (rename IsRange _ _ _ _ _ _ _ _ => rgX); (with_unfolding_all refine' my_range [Str.ofString "due", Str.ofString "more"] (by rfl) (by rfl) rgX (by first | exact small_one (by omega) (by omega) (by omega) (by omega) | exact small_three (by with_reducible assumption)) (by first | exact rangeSize_nat _ _ | exact size_three (by omega)) lF' lN' ?_ ?_); (all_goals (try clear lF' lN')); (focus intro iX' kX' tX' uX' hX' tkX' ownX' hiX' hkX' hoffX' FX' NX'); (case' _ => skip); (try simp only [List.cons_append, List.nil_append] at NX'))
  k_with "my subscriptTail" => (k_here; (with_reducible show wpAny _ _ (subscriptTail _ _ (Value.ref _) (Value.int (_ - 1) _)) _ _ _); k_dflt (refine signs_at (by k_asm) (by with_reducible assumption) (by k_mem) (by with_reducible assumption) ?p1 ?p2 ?_); (case p1 => omega); (case p2 => omega); intro t' hbl' hbh'; (try dsimp only))
  k_with "my call ref" => (k_here; (with_reducible show wpAny _ _ (call (Value.ref 227) _) _ _ _); k_dflt (refine rest_use ?_); intro t9 h9 tk9 F9 N9 hra9 hrb9 hrc9; (try dsimp only); (try k_fold))
  k_with "my ite" => (k_here; k_dflt (refine ite_pos (tri_ok ?hP ?p1 ?p2) ?_); (case hP => with_reducible assumption); (case p1 => omega); (case p2 => omega))
  k_with "my InvEndN" => (k_dflt (refine my_end (by with_reducible assumption) (by with_reducible assumption) ?hn ?ho ?hm); (case hn => kcf_all); (case ho => kcf_all); (case hm => kpf_same2))
  k_with "my ite" => (k_here; (rename (powZ _ _ = powZ _ _ * powZ _ _) => hrX); k_dflt (first | refine ite_pos (decide_eq_true hrX) ?_ | refine ite_neg (nt_ne hrX) ?_ | refine ite_neg (nt_not hrX) ?_ | refine ite_neg (nt_bne hrX) ?_))
  k_with "my binaryOp Mult int int" => (k_here; (with_reducible show wpAny _ _ (binaryOp Operator.Mult (Value.int (powZ (Int.fmod _ _) _) _) (Value.int (powZ (Int.fmod _ _) _) _)) _ _ _); k_dflt (refine mul_back (by with_reducible assumption) ?_))
  k_with "my compareOp Eq int int" => (k_here; (with_reducible show wpAny _ _ (compareOp CmpOp.Eq (Value.int (ite _ _ _) _) (Value.int _ _)) _ _ _); k_dflt (first | refine eq_known (turn_a (by with_reducible assumption) (by with_reducible assumption)) ?_ | refine eq_known (turn_b (by with_reducible assumption)) ?_ | refine eq_known (turn_c (by with_reducible assumption)) ?_))
  have hp1 := inP_le hp
  have hq1 := inP_le hq
  have hBk := back_of hp hq hne
  have hb1 := hBk.a1
  have hb2 := hBk.a2
  have hb3 := hBk.b1
  have hb4 := hBk.b2
  obtain ⟨hp1, hp2⟩ := hp1
  obtain ⟨hq1, hq2⟩ := hq1
  revert hE
  conv in (occs := *) lawScope => all_goals whnf
  conv in lawTail => whnf
  revert hX
  k_fill
  intro hX hE
  k_steps
  all_goals exact fin _ _ _ (by with_reducible assumption)

def Hold (P : Prop) : Prop := P
theorem hold_here {P : Prop} (h : Hold P) : P := h
set_option maxHeartbeats 4000000 in
theorem whole : PySem.Challenge.rw_xm0062_01.Holds := hd (by
  k_with "my execs cons" => (k_here; (with_reducible show wpAny _ _ (execs (Stmt.Assign [Expr.Name (Str.ofString "signs") _] _ _ :: _) _) _ _ _); refine hold_here ?_)
  k_go0
  (all_goals try k_fold)
  k_steps
  all_goals (try k_data)
  all_goals ((unfold Hold; (k_dflt (refine' tail_c ?k1 ?k2 ?k3 ?k4 ?k5 ?k6 ?k7 ?k8 ?k9 ?kE ?_)); (case k1 => k_asm); (case k2 => k_asm); (case k3 => k_asm); (case k4 => exact kst_newsOf (by k_asm) (by kcf_all)); (case k5 => k_asm); (case k6 => k_asm); (case k7 => k_asm); (case k8 => k_asm); (case k9 => k_asm); (case kE => first | passes_own | with_unfolding_all passes_own); intro h9 tk9 m9 F9; (try dsimp only); k_steps)))

end Mine

theorem PySem.Challenge.cw_xm0062_01_holds : PySem.Challenge.rw_xm0062_01.Holds :=
  Mine.whole
