import PyProof.Rows.All
import Wide.All
import OpenK.AllK
import Wide.FinOn
import PySem.Challenge.RW_pb0241_01
open PySem PySem.W PyProof.Rows
set_option Elab.async false
namespace Mine
local macro_rules | `(tactic| walk_at $s:str) => `(tactic| k_extra $s)
local macro_rules | `(tactic| k_room) => `(tactic| k_extra "k_room")
local macro_rules | `(tactic| ke_room) => `(tactic| k_extra "ke_room")
local macro_rules | `(tactic| kst_in) => `(tactic| k_extra "kst_in")
local macro_rules | `(tactic| kst_facts1) => `(tactic| k_extra "kst_facts1")
section
-- the objects that the walk looks at: the library's own choice, kept as a constant
section
local macro_rules | `(tactic| o_head (kHook $k $_ $_)) => `(tactic| (rotate_left; exact $k; exfalso; assumption))
set_option maxRecDepth 100000 in
set_option maxHeartbeats 8000000 in
noncomputable def frag0 : Params → Frag := by
  refine (fun (_ : False → (PySem.Challenge.rw_pb0241_01.row).Holds) => ?K) (fun hf => ?h)
  rotate_left
  k_head
end
-- the same, in a form of which the library lays no second one (that would weigh 3 MB, and nothing would use it)
theorem frag_x : Str.ofString "x" = ⟨#[120]⟩ := by rfl
set_option maxRecDepth 100000 in
noncomputable def frag : Params → Frag := by
  intro P
  refine' (fun (_ : Str.ofString "x" = ⟨#[120]⟩) (X : Frag) (_ : X = X) => X) frag_x _ ?e
  case e =>
    have h : frag0.heap_1 P = frag0.heap_1 P := rfl
    delta frag0.heap_1 at h
    exact h
noncomputable def frag_at : List Addr := [2, 3, 15, 17, 18, 20, 21, 29, 30, 32, 33, 35, 36, 37, 39, 40, 42, 43, 44, 46, 47, 49, 50, 51, 52, 53, 54, 55, 58, 60, 61, 63, 64, 65, 67, 68, 70, 71, 72, 74, 75, 77, 78, 79, 81, 82, 84, 85, 86, 88, 89, 91, 92, 93, 94, 96, 97, 99, 100, 101, 108, 109, 110, 112, 113, 115, 116, 117, 119, 120, 122, 123, 124, 125, 126, 127, 130, 137, 138, 139, 142, 144, 145, 147, 148, 149, 151, 152, 154, 155, 156, 159, 160, 161, 164, 165, 166, 168, 169, 171, 172, 173, 175, 176, 178, 179, 180, 182, 183, 185, 186, 187, 189, 190, 192, 193, 194, 197, 198, 199, 201, 202, 204, 205, 206, 208, 209, 211, 212, 213, 215, 216, 218, 219, 220, 222, 223, 225, 226, 227, 229, 230, 232, 233, 234, 237, 238, 239, 241, 242, 244, 245, 246, 248, 249, 251, 252]
section
local macro_rules | `(tactic| k_head) => `(tactic| o_head (@kHook frag frag_at (fun _ => by kernel_rfl)))
set_option maxRecDepth 100000 in
set_option maxHeartbeats 8000000 in
open_top hd for PySem.Challenge.rw_pb0241_01
end
end
section
open PySem.Spec PySem.Calls
/-- the tokens of a state may be any -/
theorem gen_toks {α : Type} {M : Model} {A : Around} {x : Sem α} {Q : α → Shared → Prop} {E : Value → Shared → Prop} {h g d t o} (k : ∀ tk, wpAny M A x Q E ⟨h, g, d, tk, o⟩) : wpAny M A x Q E ⟨h, g, d, t, o⟩ := k t
/-- a ledger without its dead tuples and lists -/
def Sub (b a : List (Addr × Obj)) : Prop := ∀ p ∈ b, p ∈ a
theorem Sub.refl {sb9 : List (Addr × Obj)} : Sub sb9 sb9 := fun _ h => h
theorem Sub.tuple {sb9 sa9 : List (Addr × Obj)} {sx9 : Addr} {sc9 sd9 se9} (sh9 : Sub sb9 sa9) : Sub sb9 ((sx9, ⟨.type "tuple", sc9, sd9, se9⟩) :: sa9) := fun p hp => .tail _ (sh9 p hp)
theorem Sub.list {sb9 sa9 : List (Addr × Obj)} {sx9 : Addr} {sv9 sc9} (sh9 : Sub sb9 sa9) : Sub sb9 ((sx9, listOf sv9 sc9) :: sa9) := fun p hp => .tail _ (sh9 p hp)
theorem Sub.keep {sb9 sa9 : List (Addr × Obj)} {sy9} (sh9 : Sub sb9 sa9) : Sub (sy9 :: sb9) (sy9 :: sa9) := fun p hp => by
  rcases List.mem_cons.mp hp with e | hp
  · exact e ▸ .head _
  · exact .tail _ (sh9 p hp)
theorem drop_dead {h₀ h : Heap} {L : Addr} {sa9 sb9 : List (Addr × Obj)} {G : Prop} (N : News h₀ L h sa9) (hs : Sub sb9 sa9) (k : News h₀ L h sb9 → G) : G := k fun p hp => N p (hs p hp)
end
section
open PySem.Spec PySem.Calls
noncomputable abbrev Says (w : World) (mean : ExcName → Option Value) (mg mb : Str → Option Value) (D U : Nat) (f : Addr) (news : List (Addr × Obj)) (vs : List Value)
    (ret : Heap → Addr → (Str → Option Value) → Shared → (Value → Shared → Prop) → Prop) : Prop :=
  ∀ (dp un : Nat) (gd : Option (List Code)) (cn : Str) (cs : Scope) (a : Addr) (ccd : Value) (cl : List (Str × Addr)) (outer : List Env) (A₀ : Around) (base h₀ : Heap) (L : Addr) (m : Str → Option Value) (s : Shared) (Q E : Value → Shared → Prop),
    Below A₀ base outer h₀ → Fr h₀ L s.heap m → (frag w.params).In h₀ → News h₀ L s.heap news → Top hd.view_39 (looseW hd.view_39 [Str.ofString "decimal", Str.ofString "LedgerError"]) mean mg mb h₀ → cs.kind = .function →
    dp + D < recursionLimit → un + U < cLine → ret h₀ L m s Q →
    wpAny (model PySem.Challenge.rw_pb0241_01.row.prog w) (ktrTop dp un gd cn cs L a ccd cl outer) (call (.ref f) vs) Q E s

/-- digits, the lowest first, with fuel -/
def ldsF : Nat → Nat → List Int
  | 0, n => [(n : Int)]
  | k + 1, n => if n < 10 then [(n : Int)] else ((n % 10 : Nat) : Int) :: ldsF k (n / 10)
theorem ldsF_more : ∀ (k : Nat) (n : Nat), n ≤ k → ldsF (k + 1) n = ldsF k n
  | 0, n, h => by
    have : n = 0 := by omega
    subst this; rfl
  | k + 1, n, h => by
    show (if n < 10 then [(n : Int)] else ((n % 10 : Nat) : Int) :: ldsF (k + 1) (n / 10)) = (if n < 10 then [(n : Int)] else ((n % 10 : Nat) : Int) :: ldsF k (n / 10))
    by_cases h10 : n < 10
    · rw [if_pos h10, if_pos h10]
    · rw [if_neg h10, if_neg h10, ldsF_more k (n / 10) (by omega)]
theorem ldsF_eq (n : Nat) : ∀ (k : Nat), n ≤ k → ldsF k n = ldsF n n := by
  intro k h
  induction h with
  | refl => rfl
  | step h ih => rw [ldsF_more _ _ h, ih]
def lds (n : Nat) : List Int := ldsF n n
theorem lds_small {n : Nat} (h : n < 10) : lds n = [(n : Int)] := by
  unfold lds
  cases n with
  | zero => rfl
  | succ k => rw [ldsF, if_pos h]
theorem lds_big {n : Nat} (h : ¬ n < 10) : lds n = ((n % 10 : Nat) : Int) :: lds (n / 10) := by
  unfold lds
  cases n with
  | zero => omega
  | succ k => rw [ldsF, if_neg h, ldsF_eq ((k + 1) / 10) k (by omega)]
def nd (n : Nat) : Nat := (lds n).length
theorem nd_small {n : Nat} (h : n < 10) : nd n = 1 := by rw [nd, lds_small h]; rfl
theorem nd_big {n : Nat} (h : ¬ n < 10) : nd n = nd (n / 10) + 1 := by rw [nd, lds_big h]; rfl
theorem fdiv10 {n : Int} (_h : 0 ≤ n) : n.fdiv 10 = n / 10 := by
  rw [Int.fdiv_eq_ediv_of_nonneg _ (by decide)]
theorem fmod10 {n : Int} (_h : 0 ≤ n) : n.fmod 10 = n % 10 := by
  rw [Int.fmod_eq_emod_of_nonneg _ (by decide)]
end
section
open PySem.Spec PySem.Calls
def FcInv (n c r : Int) : Prop := 0 ≤ r ∧ c + (if 0 < r then nd r.toNat else 0 : Nat) = nd n.toNat
theorem FcInv.step {n c r : Int} (h : FcInv n c r) (hr : 0 < r) : FcInv n (c + 1) (r.fdiv 10) := by
  obtain ⟨h0, h⟩ := h
  rw [if_pos hr] at h
  rw [fdiv10 h0]
  refine ⟨by omega, ?_⟩
  by_cases h10 : r < 10
  · rw [if_neg (by omega)]
    rw [nd_small (by omega)] at h
    omega
  · rw [if_pos (by omega), show (r / 10).toNat = r.toNat / 10 by omega]
    rw [nd_big (by omega)] at h
    omega
theorem FcInv.start {n : Int} (h : 0 ≤ n) : FcInv n 1 (n.fdiv 10) := by
  rw [fdiv10 h]
  refine ⟨by omega, ?_⟩
  by_cases h10 : n < 10
  · rw [if_neg (by omega), nd_small (by omega)]; rfl
  · rw [if_pos (by omega), nd_big (n := n.toNat) (by omega), show (n / 10).toNat = n.toNat / 10 by omega]
    omega
theorem FcInv.done {n c r : Int} (h : FcInv n c r) (hr : ¬ 0 < r) : c = nd n.toNat := by
  obtain ⟨h0, h⟩ := h
  rw [if_neg hr] at h
  omega
theorem fdiv_lt {r : Int} (hr : 0 < r) : (r.fdiv 10).toNat < r.toNat := by
  rw [fdiv10 (by omega)]; omega

set_option maxRecDepth 100000 in
set_option maxHeartbeats 8000000 in
theorem figure_count_C (w : World) (mean mg mb) (news) (n : Int) (t : Tok) (hn : 0 ≤ n) : Says w mean mg mb 1 8 78 news [.int n t] 
   (fun h₀ L m s Q => ∀ (t : Tok) (h' : Heap) (tk' : Nat), Fr h₀ L h' m → News h₀ L h' news → Q (.int (nd n.toNat) t) { s with heap := h', toks := tk' }) := by
  k_with_none
  w_top off
  k_with "execs cons" => (k_here; refine gen_toks fun tk9 => wpAny_execs_cons ?_; (try dsimp only))
  k_with "exec While Compare cons nil" => k_while_given ["number"] (fun n _ count rest => FcInv n count rest) (fun n _ count rest => rest.toNat) "count" "rest"
  k_with "state" => first | exact FcInv.start (by assumption) | exact FcInv.step (by assumption) (by simp_all; done)
  k_with "measure" =>  exact fdiv_lt (by simp_all; done)
  unfold Says
  k_fill
  intro dp un gd cn cs a ccd cl outer A₀ base h₀ L m s Q E B F X N T hk hdp hun hret
  refine wpAny_call ?_
  k_dflt cell_enter
  k_steps
  all_goals (refine' cb_retI (Q := Q) (s := s) hret ?e1 ?e2 ?e3; (case e2 => k_asm); (case e3 => first | k_asm | (refine' cb_drop ?cbN ?cbS; (case cbN => assumption); (case cbS => kcj_all))); (case e1 => exact FcInv.done (by assumption) (by simp_all; done)))
end
section
open PySem.Spec PySem.Calls
structure LfInv (n r : Int) (found : List Int) : Prop where
  h0 : 0 ≤ r
  h : found ++ (if 9 < r then lds (r.toNat / 10) else []) = lds n.toNat
theorem LfInv.start {n : Int} (h : 0 ≤ n) : LfInv n n [n.fmod 10] := by
  rw [fmod10 h]
  refine ⟨h, ?_⟩
  by_cases h10 : n < 10
  · rw [if_neg (by omega), lds_small (by omega)]
    simp; omega
  · rw [if_pos (by omega), lds_big (n := n.toNat) (by omega)]
    simp; omega
theorem LfInv.step {n r : Int} {found : List Int} (h : LfInv n r found) (hr : 9 < r) : LfInv n (r.fdiv 10) (found ++ [(r.fdiv 10).fmod 10]) := by
  obtain ⟨h0, h⟩ := h
  rw [if_pos hr] at h
  rw [fdiv10 h0, fmod10 (by omega)]
  refine ⟨by omega, ?_⟩
  rw [← h, List.append_assoc]
  congr 1
  by_cases h10 : r / 10 < 10
  · rw [if_neg (by omega), lds_small (by omega)]
    simp; omega
  · rw [if_pos (by omega), lds_big (n := r.toNat / 10) (by omega), show (r / 10).toNat = r.toNat / 10 by omega]
    simp; omega
theorem LfInv.done {n r : Int} {found : List Int} (h : LfInv n r found) (hr : ¬ 9 < r) : found = lds n.toNat := by
  obtain ⟨h0, h⟩ := h
  rw [if_neg hr] at h
  simpa using h
theorem fdiv_lt9 {r : Int} (hr : 9 < r) : (r.fdiv 10).toNat < r.toNat := by
  rw [fdiv10 (by omega)]; omega

theorem LfInv.len {n r : Int} {found : List Int} (h : LfInv n r found) (hn : nd n.toNat ≤ 100) : found.length ≤ 100 := by
  have := congrArg List.length h.h
  rw [List.length_append] at this
  unfold nd at hn
  omega
theorem LfInv.start' {n : Int} (h : 0 ≤ n) : LfInv n n [n.fmod 10] ∧ [n.fmod 10].length ≤ 100 := ⟨.start h, by simp⟩
theorem LfInv.step' {n r : Int} {found : List Int} (h : LfInv n r found) (hr : 9 < r) (hn : nd n.toNat ≤ 100) : LfInv n (r.fdiv 10) (found ++ [(r.fdiv 10).fmod 10]) ∧ (found ++ [(r.fdiv 10).fmod 10]).length ≤ 100 := ⟨h.step hr, (h.step hr).len hn⟩
theorem ret_list {h₀ h' : Heap} {L : Addr} {m : Str → Option Value} {news : List (Addr × Obj)} {s : Shared} {Q : Value → Shared → Prop} {xs ys : List Int} {vs : List Value} {l : Addr} {tk' : Nat}
    (hret : ∀ (vs : List Value) (l : Addr) (h' : Heap) (tk' : Nat), Fr h₀ L h' m → News h₀ L h' ((l, listOf vs.toArray 0) :: news) → IntsAre vs xs → (∀ p ∈ news, p.1 < l) → Q (.ref l) { s with heap := h', toks := tk' })
    (F : Fr h₀ L h' m) (N : News h₀ L h' ((l, listOf vs.toArray 0) :: news)) (e : ys = xs) (hi : IntsAre vs ys) (l1 : ∀ p ∈ news, p.1 < l) : Q (.ref l) { s with heap := h', toks := tk' } := by
  subst e
  exact hret vs l h' tk' F N hi l1

set_option maxRecDepth 100000 in
set_option maxHeartbeats 8000000 in
theorem law_figures_C (w : World) (mean mg mb) (news) (n : Int) (t : Tok) (hn : 0 ≤ n) (hnd : nd n.toNat ≤ 100) : Says w mean mg mb 1 8 233 news [.int n t] 
   (fun h₀ L m s Q => ∀ (vs : List Value) (l : Addr) (h' : Heap) (tk' : Nat), Fr h₀ L h' m → News h₀ L h' ((l, listOf vs.toArray 0) :: news) → IntsAre vs (lds n.toNat).reverse → (∀ p ∈ news, p.1 < l) → Q (.ref l) { s with heap := h', toks := tk' }) := by
  k_with_none
  w_top off
  k_with "execs cons" => (k_here; refine gen_toks fun tk9 => wpAny_execs_cons ?_; (try dsimp only))
  k_with "kst_facts1" => exact IntsAre.cons _ _ IntsAre.nil
  k_with "exec While Compare cons nil" => k_while_given ["number!"] (fun n _ number found => LfInv n number found ∧ found.length ≤ 100) (fun n _ number found => number.toNat) "number" "found"
  k_with "state" => first | exact LfInv.start' (by assumption) | exact LfInv.step' (by assumption) (by assumption) (by assumption)
  k_with "measure" => exact fdiv_lt9 (by assumption)
  unfold Says
  k_fill
  intro dp un gd cn cs a ccd cl outer A₀ base h₀ L m s Q E B F X N T hk hdp hun hret
  refine wpAny_call ?_
  k_dflt cell_enter
  k_steps
  all_goals (refine' ret_list (Q := Q) (s := s) hret ?e1 ?e2 ?e3 ?e4 ?e5; (case e1 => k_asm); (case e2 => first | k_asm | (refine' cb_drop ?cbN ?cbS; (case cbN => assumption); (case cbS => kcj_all))); (case e3 => exact congrArg List.reverse (LfInv.done (by assumption) (by assumption))); (case e4 => assumption); (case e5 => first | assumption | exact ktn_ltOf (And.right (by assumption))))
end
section
open PySem.Spec PySem.Calls
/-- k figures of n, the lowest first -/
def figL : Nat → Nat → List Int
  | 0, _ => []
  | k + 1, n => ((n % 10 : Nat) : Int) :: figL k (n / 10)
theorem figL_length : ∀ k n, (figL k n).length = k
  | 0, _ => rfl
  | k + 1, n => by rw [figL, List.length_cons, figL_length k]
theorem figL_snoc : ∀ k n, figL (k + 1) n = figL k n ++ [((n / 10 ^ k % 10 : Nat) : Int)]
  | 0, n => by simp [figL]
  | k + 1, n => by
    rw [figL, figL_snoc k (n / 10)]
    conv => rhs; rw [figL]
    rw [Nat.div_div_eq_div_mul, Nat.pow_succ, Nat.mul_comm 10 (10 ^ k)]
    rfl
structure FfInv (n : Int) (j : Nat) (rest : Int) (found : List Int) : Prop where
  h0 : 0 ≤ rest
  h1 : rest.toNat = n.toNat / 10 ^ j
  h2 : found = figL j n.toNat
theorem FfInv.start {n : Int} (h : 0 ≤ n) : FfInv n 0 n [] := ⟨h, by simp, rfl⟩
theorem FfInv.step {n r : Int} {j : Nat} {found : List Int} (h : FfInv n j r found) : FfInv n (j + 1) (r.fdiv 10) (found ++ [r.fmod 10]) := by
  have h0 := h.h0
  refine ⟨?_, ?_, ?_⟩
  · rw [fdiv10 h0]; omega
  · rw [fdiv10 h0, Nat.pow_succ, ← Nat.div_div_eq_div_mul, ← h.h1]; omega
  · rw [figL_snoc, ← h.h2, ← h.h1, fmod10 h0]
    congr 2
    omega
theorem FfInv.step' {n r : Int} {pre : List Int} {k : Int} {found : List Int} (h : FfInv n pre.length r found) (hl : found.length = pre.length) : FfInv n (pre ++ [k]).length (r.fdiv 10) (found ++ [r.fmod 10]) ∧ (found ++ [r.fmod 10]).length = (pre ++ [k]).length := by
  rw [List.length_append, List.length_append]
  refine ⟨h.step, ?_⟩
  simp [hl]
theorem FfInv.done {n r k : Int} {found : List Int} (h : FfInv n (rangeKs 0 (k - 0).toNat).length r found) : found.reverse = (figL k.toNat n.toNat).reverse := by
  have := h.h2
  rw [rangeKs_length, Int.sub_zero] at this
  rw [this]
set_option maxRecDepth 100000 in
set_option maxHeartbeats 8000000 in
theorem figures_for_C (w : World) (mean mg mb) (news) (n k : Int) (t u : Tok) (hn : 0 ≤ n) (hk0 : 0 ≤ k) (hk1 : k ≤ 100) : Says w mean mg mb 1 8 155 news [.int n t, .int k u] 
   (fun h₀ L m s Q => ∀ (vs : List Value) (l : Addr) (h' : Heap) (tk' : Nat), Fr h₀ L h' m → News h₀ L h' ((l, listOf vs.toArray 0) :: news) → IntsAre vs (figL k.toNat n.toNat).reverse → (∀ p ∈ news, p.1 < l) → Q (.ref l) { s with heap := h', toks := tk' }) := by
  k_with_none
  w_top off
  k_with "execs cons" => (k_here; refine gen_toks fun tk9 => wpAny_execs_cons ?_; (try dsimp only))
  k_with "kst_facts1" => exact IntsAre.nil
  k_with "pyIter ref" => k_state_given ["number"] (fun n pre rest found => FfInv n pre.length rest found ∧ found.length = pre.length) "rest" "found"
  k_with "state" => first | exact ⟨FfInv.start (by assumption), rfl⟩ | exact FfInv.step' (by assumption) (by assumption)
  unfold Says
  k_fill
  intro dp un gd cn cs a ccd cl outer A₀ base h₀ L m s Q E B F X N T hk hdp hun hret
  refine wpAny_call ?_
  k_dflt cell_enter
  k_steps
  all_goals (refine' ret_list (Q := Q) (s := s) hret ?e1 ?e2 ?e3 ?e4 ?e5; (case e1 => k_asm); (case e2 => first | k_asm | (refine' cb_drop ?cbN ?cbS; (case cbN => assumption); (case cbS => kcj_all))); (case e3 => exact FfInv.done (by assumption)); (case e4 => assumption); (case e5 => first | assumption | exact ktn_ltOf (And.right (And.right (by assumption)))))
end
section
open PySem.Spec PySem.Calls
section
variable {prog : Program} {w : World} {A : Around} {E : Value → Shared → Prop} {s : Shared} {env : Env} {h₀ : Heap} {L : Addr} {m : Str → Option Value} {news : List (Addr × Obj)}
theorem enum_ledger {l : Addr} {vs : List Value} {c : Nat} {ds : List Int} {Q : Value → Shared → Prop} (hh : A.handled = none) (hi : IntsAre vs ds)
    (F : Fr h₀ L s.heap m) (N : News h₀ L s.heap ((l, listOf vs.toArray c) :: news)) (hne : ∀ q ∈ news, q.1 ≠ l)
    (h : ∀ h' e, Fr h₀ L h' m → News h₀ L h' news → PairSrcL prog w A E h₀ L ItemKind.int ds (.ref e) { s with heap := h' } m news → Q (.ref e) { s with heap := h' }) :
    wpAny (model prog w) A (call (.type "enumerate") [.ref l]) Q E s := by
  have hN := N _ (.head _)
  have hls : s.heap.IsList l vs.toArray := ⟨_, hN.1, rfl, c, rfl⟩
  have hl2 : l < s.heap.objs.size := Heap.lt_size hN.1
  have hLs : L < s.heap.objs.size := F.ns.lt
  have hab : h₀.objs.size ≤ L := F.above
  refine call_enumerate_list hls fun h' he hit hsz hk => ?_
  have F' : Fr h₀ L h' m := ⟨F.ns.keeps hk, fun b o e => hk b o (F.keep b o e), F.above⟩
  have N' : News h₀ L h' news := fun p hp => ⟨hk _ _ (N p (.tail _ hp)).1, (N p (.tail _ hp)).2⟩
  refine h h' _ F' N' fun env hL => ?_
  subst hL
  refine enumSrc (Draws.list (A := A.in1) hh s.heap.objs.size l (Nat.ne_of_lt hl2) vs.toArray) he ⟨hit, hls.at fun o e => hk l o e⟩ (Nat.succ_ne_self _) ?_ (by simp) ?_
    (Heap.get?_none_of_le (Nat.le_trans hab (Nat.le_of_lt (Nat.lt_succ_of_lt hLs)))) (Heap.get?_none_of_le (Nat.le_trans hab (Nat.le_of_lt hLs))) ?_ (by simp [hi.length]) (fun i x hx => hi.areOf.get i x (by simpa using hx)) F' N'
  · intro hm
    rcases List.mem_cons.mp hm with e | hm
    · exact Nat.succ_ne_self _ e
    · exact Nat.ne_of_gt (Nat.lt_succ_of_lt hl2) (List.mem_singleton.mp hm)
  · intro hm
    rcases List.mem_cons.mp hm with e | hm
    · exact Nat.ne_of_lt (Nat.lt_succ_of_lt hLs) e
    · rcases List.mem_cons.mp hm with e | hm
      · exact Nat.ne_of_lt hLs e
      · exact hN.2.1 (List.mem_singleton.mp hm).symm
  · intro b hb q hq e
    have hq1 : q.1 < s.heap.objs.size := Heap.lt_size (N q (.tail _ hq)).1
    rcases List.mem_cons.mp hb with e1 | hb
    · exact Nat.ne_of_gt (Nat.lt_succ_of_lt hq1) (e1.symm.trans e)
    · rcases List.mem_cons.mp hb with e1 | hb
      · exact Nat.ne_of_gt hq1 (e1.symm.trans e)
      · exact hne q hq (e.symm.trans (List.mem_singleton.mp hb))

def TurnEnd (h₀ : Heap) (L : Addr) (own news : List (Addr × Obj)) (m : Str → Option Value) (xi xc y : Str) (v : Int) (s₁ : Shared) (f : Flow) (s₂ : Shared) : Prop :=
  f = .next ∧ ∃ h' tk m' t', s₂ = { s₁ with heap := h', toks := tk } ∧ Fr h₀ L h' m' ∧ News h₀ L h' (own ++ news) ∧ m' y = some (.int v t') ∧ ∀ z, z ≠ xc → z ≠ xi → z ≠ y → m' z = m z
theorem TurnEnd.intro {own news : List (Addr × Obj)} {m m' : Str → Option Value} {xi xc y : Str} {v v' : Int} {s₁ : Shared} {h' : Heap} {tk : Nat} {t' : Tok} (F : Fr h₀ L h' m') (N : News h₀ L h' (own ++ news)) (hy : m' y = some (.int v' t')) (hv : v' = v) (hr : ∀ z, z ≠ xc → z ≠ xi → z ≠ y → m' z = m z) :
    TurnEnd h₀ L own news m xi xc y v s₁ .next { s₁ with heap := h', toks := tk } := ⟨rfl, h', tk, m', t', rfl, F, N, hv ▸ hy, hr⟩

theorem pair_int {xi xc y : Str} {body : List Stmt} {Q : Flow → Shared → Prop} {ds : List Int} {xv : Value} {a₀ : Int} {t₀ : Tok} (g : Int → Int → Int) (S : PairSrc prog w A E h₀ env ItemKind.int ds xv s m news) (hy : m y = some (.int a₀ t₀)) (hyc : y ≠ xc) (hyi : y ≠ xi)
    (turn : ∀ n t i ti a ta h tk own, n ∈ ds → Fr h₀ env.locals h (fun z => if z = xc then some (.int n t) else if z = xi then some (.int i ti) else if z = y then some (.int a ta) else m z) → News h₀ env.locals h (own ++ news) →
      wpAny (model prog w) A (execs body env) (TurnEnd h₀ env.locals own news m xi xc y (g a n) { s with heap := h, toks := tk }) E { s with heap := h, toks := tk })
    (done : ∀ (u v : Str → Option Value) t h tk, Fr h₀ env.locals h (fun z => if z = xc then u z else if z = xi then v z else if z = y then some (.int (ds.foldl g a₀) t) else m z) → News h₀ env.locals h news → Q .next { s with heap := h, toks := tk }) :
    wpAny (model prog w) A (pyIter xv) (fun it s₂ => PairAt3 prog w A h₀ env xi xc body Q E it s₂) E s := by
  refine S xi xc body Q (fun i m₁ news₁ => news₁ = news ∧ (∃ t, m₁ y = some (.int ((ds.take i).foldl g a₀) t)) ∧ ∀ z, z ≠ xc → z ≠ xi → z ≠ y → m₁ z = m z) ⟨rfl, ⟨t₀, by simpa using hy⟩, fun _ _ _ _ => rfl⟩ ?_ ?_
  · rintro i a t v m₁ news₁ s₁ own ⟨hp, tk, rfl⟩ hga hk ⟨rfl, ⟨ta, hty⟩, hr⟩ _ _ F₁ N₁
    obtain ⟨tv, rfl⟩ := ItemKind.int_is hk
    have e : (fun z => if z = xc then some (Value.int a tv) else if z = xi then some (Value.int (i : Int) t) else m₁ z) = fun z => if z = xc then some (Value.int a tv) else if z = xi then some (Value.int (i : Int) t) else if z = y then some (Value.int ((ds.take i).foldl g a₀) ta) else m z := by
      funext z
      by_cases h1 : z = xc
      · simp [h1]
      · by_cases h2 : z = xi
        · simp only [if_neg h1, if_pos h2]
        · simp only [if_neg h1, if_neg h2]
          by_cases h3 : z = y
          · subst h3; simp [hty]
          · simp only [if_neg h3]; exact hr z h1 h2 h3
    rw [e] at F₁
    refine wpAny_mono (turn a tv i t _ ta hp tk own (List.mem_of_getElem? hga) F₁ N₁) (fun f s₂ p => ?_) fun _ _ e => e
    obtain ⟨rfl, h', tk', m', t', rfl, F₂, N₂, hy₂, hr₂⟩ := p
    refine ⟨rfl, h', tk', m', news₁, rfl, F₂, N₂, rfl, rfl, ⟨t', ?_⟩, hr₂⟩
    rw [hy₂, List.take_add_one, hga]
    simp
  · rintro h' tk m' news' F' N' _ ⟨rfl, ⟨ta, hty⟩, hr⟩
    rw [List.take_length] at hty
    refine done m' m' ta h' tk ?_ N'
    have e : (fun z => if z = xc then m' z else if z = xi then m' z else if z = y then some (Value.int (ds.foldl g a₀) ta) else m z) = m' := by
      funext z
      by_cases h1 : z = xc
      · simp [h1]
      · by_cases h2 : z = xi
        · simp [h2]
        · simp only [if_neg h1, if_neg h2]
          by_cases h3 : z = y
          · subst h3; simp [hty]
          · simp only [if_neg h3]; exact (hr z h1 h2 h3).symm
    rw [e]; exact F'
end
end
section
open PySem.Spec PySem.Calls
def join (ds : List Int) : Int := ds.foldl (fun a d => 10 * a + d) 0
set_option maxRecDepth 100000 in
set_option maxHeartbeats 8000000 in
theorem joined_figures_C (w : World) (mean mg mb) (news) (l : Addr) (vs : List Value) (c : Nat) (ds : List Int) (hi : IntsAre vs ds) (hds : ∀ d ∈ ds, 0 ≤ d ∧ d ≤ 9) (hne : ∀ q ∈ news, q.1 ≠ l) : Says w mean mg mb 1 8 186 ((l, listOf vs.toArray c) :: news) [.ref l] 
   (fun h₀ L m s Q => ∀ (t : Tok) (h' : Heap) (tk' : Nat), Fr h₀ L h' m → News h₀ L h' news → Q (.int (join ds) t) { s with heap := h', toks := tk' }) := by
  k_with_none
  w_top off
  k_with "call type:enumerate" => (k_here; (rename Fr _ _ _ _ => lF'); (rename News _ _ _ _ => lN'); (with_unfolding_all refine' enum_ledger (by rfl) hi lF' lN' hne ?_); (intro h9 e9 F9 N9 S9); clear lN')
  k_with "pyIter ref" => ((with_reducible show wpAny _ _ _ (fun it s₂ => PairAt3 _ _ _ _ _ _ _ _ _ _ it s₂) _ _); (with_unfolding_all refine' pair_int (y := Str.ofString "found") (fun a n => 10 * a + n) (PairSrcL.at S9 _ rfl) ?hy ?hyc ?hyi ?_ ?_); (case hy => with_unfolding_all rfl); (case hyc => decide); (case hyi => decide); (rotate_left); (intro u9 v9 t9 h9 tk9 F9 N9; clear S9; (try k_fold)); (rotate_left); (intro n9 t9 i9 ti9 a9 ta9 h9 tk9 own9 hm9 F9 N9; have hb9 := hds _ hm9; clear S9; have hb9a := hb9.1; have hb9b := hb9.2; clear hb9; (try k_fold)))
  k_with "TurnEnd" => (refine TurnEnd.intro (by assumption) (by assumption) (by with_unfolding_all rfl) (by first | rfl | omega) ?_; (intro z h1 h2 h3; simp [h1, h2, h3]; done))
  unfold Says
  k_fill
  intro dp un gd cn cs a ccd cl outer A₀ base h₀ L m s Q E B F X N T hk hdp hun hret
  refine wpAny_call ?_
  k_dflt cell_enter
  k_steps
  all_goals exact hret _ _ _ (by k_asm) (by k_asm)
end
section
open PySem.Spec PySem.Calls
noncomputable abbrev ent (w : World) (x : String) (t : Tok) (v : Value) : DictEntry := { hash := PyData.keyHash w.params (Str.ofString x), key := .str (Str.ofString x) t, val := v }
noncomputable abbrev shapeD (w : World) (size digits scale : Int) (sg : Bool) (k : Nat → Tok) : Obj :=
  dictOf [ent w "category" (k 0) (.str (Str.ofString "numeric") (k 11)), ent w "size" (k 1) (.int size (k 12)), ent w "picture" (k 2) .none, ent w "usage" (k 3) (.str (Str.ofString "display") (k 13)),
    ent w "sign" (k 4) (.str (Str.ofString "trailing") (k 14)), ent w "is_separate" (k 5) (.bool false), ent w "is_justified" (k 6) (.bool false), ent w "is_blank_zero" (k 7) (.bool false),
    ent w "digits" (k 8) (.int digits (k 15)), ent w "scale" (k 9) (.int scale (k 16)), ent w "is_signed" (k 10) (.bool sg)] 11
theorem ret_shape {w : World} {h₀ h' : Heap} {L : Addr} {m : Str → Option Value} {news : List (Addr × Obj)} {s : Shared} {Q : Value → Shared → Prop} {size digits scale : Int} {sg : Bool} {x d : Addr} {tk' : Nat}
    (hret : ∀ (k : Nat → Tok) (x d : Addr) (h' : Heap) (tk' : Nat), Fr h₀ L h' m → News h₀ L h' ((x, instObj 53 d) :: (d, shapeD w size digits scale sg k) :: news) → (∀ p ∈ news, p.1 < d) → d < x → Q (.ref x) { s with heap := h', toks := tk' })
    {k0 k1 k2 k3 k4 k5 k6 k7 k8 k9 k10 k11 k12 k13 k14 k15 k16 : Tok} {size' digits' scale' : Int} {sg' : Bool} (e1 : size' = size) (e2 : digits' = digits) (e3 : scale' = scale) (e4 : sg' = sg)
    (F : Fr h₀ L h' m) (N : News h₀ L h' ((x, instObj 53 d) :: (d, dictOf [ent w "category" k0 (.str (Str.ofString "numeric") k11), ent w "size" k1 (.int size' k12), ent w "picture" k2 .none, ent w "usage" k3 (.str (Str.ofString "display") k13),
    ent w "sign" k4 (.str (Str.ofString "trailing") k14), ent w "is_separate" k5 (.bool false), ent w "is_justified" k6 (.bool false), ent w "is_blank_zero" k7 (.bool false),
    ent w "digits" k8 (.int digits' k15), ent w "scale" k9 (.int scale' k16), ent w "is_signed" k10 (.bool sg')] 11) :: news)) (l1 : ∀ p ∈ news, p.1 < d) (l2 : d < x) : Q (.ref x) { s with heap := h', toks := tk' } := by
  subst e1 e2 e3 e4
  exact hret (fun i => [k0, k1, k2, k3, k4, k5, k6, k7, k8, k9, k10, k11, k12, k13, k14, k15, k16].getD i 0) x d h' tk' F N l1 l2
end
section
open PySem.Spec PySem.Calls
set_option maxRecDepth 100000 in
set_option maxHeartbeats 8000000 in
theorem numbered_shape_C (w : World) (mean mg mb) (news) (size digits scale : Int) (t1 t2 t3 t4 t5 : Tok) (sg : Bool) : Says w mean mg mb 3 24 71 news [.str (Str.ofString "numeric") t1, .int size t2, .str (Str.ofString "display") t3, .int digits t4, .int scale t5, .bool sg] 
   (fun h₀ L m s Q => ∀ (k : Nat → Tok) (x d : Addr) (h' : Heap) (tk' : Nat), Fr h₀ L h' m → News h₀ L h' ((x, instObj 53 d) :: (d, shapeD w size digits scale sg k) :: news) → (∀ p ∈ news, p.1 < d) → d < x → Q (.ref x) { s with heap := h', toks := tk' }) := by
  k_with_none
  w_top off
  k_with "execs cons" => (k_here; refine gen_toks fun tk9 => wpAny_execs_cons ?_; (try dsimp only))
  k_with "k_room" => ((try simp only [depth_mark, depth_under_make, depth_under_kw, depth_in1, depth_deeper, depth_caller]); (try dsimp only [ktrTop]); omega)
  unfold Says
  k_fill
  intro dp un gd cn cs a ccd cl outer A₀ base h₀ L m s Q E B F X N T hk hdp hun hret
  refine wpAny_call ?_
  k_dflt cell_enter
  k_steps
  all_goals (refine' ret_shape (Q := Q) (s := s) hret ?e1 ?e2 ?e3 ?e4 ?F ?N ?l1 ?l2; (case F => k_asm); (case N => assumption); (case e1 => rfl); (case e2 => rfl); (case e3 => rfl); (case e4 => rfl); (case l1 => assumption); (case l2 => assumption))
end
section
open PySem.Spec PySem.Calls
theorem says_use {w : World} {mean : ExcName → Option Value} {mg mb : Str → Option Value} {D U : Nat} {f : Addr} {news : List (Addr × Obj)} {vs : List Value}
    {ret : Heap → Addr → (Str → Option Value) → Shared → (Value → Shared → Prop) → Prop} (C : Says w mean mg mb D U f news vs ret)
    {dp un : Nat} {gd : Option (List Code)} {cn : Str} {cs : Scope} {a : Addr} {ccd : Value} {cl : List (Str × Addr)} {outer : List Env} {A₀ : Around} {base h₀ : Heap} {L : Addr} {m : Str → Option Value} {s : Shared} {Q E : Value → Shared → Prop}
    (k1 : Below A₀ base outer h₀) (k2 : Fr h₀ L s.heap m) (k3 : (frag w.params).In h₀) (k4 : News h₀ L s.heap news) (k5 : Top hd.view_39 (looseW hd.view_39 [Str.ofString "decimal", Str.ofString "LedgerError"]) mean mg mb h₀) (kK : cs.kind = .function)
    (kd : dp + D < recursionLimit) (ku : un + U < cLine) (kR : ret h₀ L m s Q) :
    wpAny (model PySem.Challenge.rw_pb0241_01.row.prog w) (ktrTop dp un gd cn cs L a ccd cl outer) (call (.ref f) vs) Q E s :=
  C dp un gd cn cs a ccd cl outer A₀ base h₀ L m s Q E k1 k2 k3 k4 k5 kK kd ku kR
theorem room_of {dp D D' : Nat} (h : dp + D' < recursionLimit) (hle : D + 1 ≤ D') : dp + 1 + D < recursionLimit := by omega
theorem units_of {un U U' : Nat} (h : un + U' < cLine) (hle : U + 3 ≤ U') : un + 3 + U < cLine := by omega
theorem p10pos (k : Nat) : (0 : Int) < 10 ^ k := Int.pow_pos (by decide)
end
section
open PySem.Spec PySem.Calls
set_option maxRecDepth 100000 in
set_option maxHeartbeats 8000000 in
theorem unit_bound_C (w : World) (mean mg mb) (news) (size digits scale : Int) (sg : Bool) (k : Nat → Tok) (x d : Addr) (h0 : 0 ≤ digits) (h1 : digits ≤ 40) : Says w mean mg mb 1 8 64 ((x, instObj 53 d) :: (d, shapeD w size digits scale sg k) :: news) [.ref x] 
   (fun h₀ L m s Q => ∀ (v : Int) (t : Tok) (h' : Heap) (tk' : Nat), v = 10 ^ digits.toNat → 0 < v → Fr h₀ L h' m → News h₀ L h' ((x, instObj 53 d) :: (d, shapeD w size digits scale sg k) :: news) → Q (.int v t) { s with heap := h', toks := tk' }) := by
  k_with_none
  w_top off
  k_with "execs cons" => (k_here; refine gen_toks fun tk9 => wpAny_execs_cons ?_; (try dsimp only))
  k_with "k_room" => ((try simp only [depth_mark, depth_under_make, depth_under_kw, depth_in1, depth_deeper, depth_caller]); (try dsimp only [ktrTop]); omega)
  unfold Says
  k_fill
  intro dp un gd cn cs a ccd cl outer A₀ base h₀ L m s Q E B F X N T hk hdp hun hret
  refine wpAny_call ?_
  k_dflt cell_enter
  k_steps
  all_goals exact hret _ _ _ _ rfl (p10pos _) (by k_asm) (by k_asm)
end
section
open PySem.Spec PySem.Calls
def kept (digits : Int) (sg : Bool) (units : Int) : Int :=
  if units < 0 ∧ sg = true then 0 - ((units.natAbs : Int) % 10 ^ digits.toNat) else (units.natAbs : Int) % 10 ^ digits.toNat
theorem abs_ite (units : Int) : (if units < 0 then -units else units) = (units.natAbs : Int) := by split <;> omega
theorem kept_neg {digits v units : Int} {sg : Bool} (hv : v = 10 ^ digits.toNat) (h0 : 0 < v) (h : units < 0) (hs : sg = true) : 0 - (if units < 0 then -units else units).fmod v = kept digits sg units := by
  rw [abs_ite]; unfold kept; rw [if_pos (And.intro h hs), ← hv, Int.fmod_eq_emod_of_nonneg _ (by omega)]
theorem kept_pos {digits v units : Int} {sg : Bool} (hv : v = 10 ^ digits.toNat) (h0 : 0 < v) (h : ¬ units < 0 ∨ sg = false) : (if units < 0 then -units else units).fmod v = kept digits sg units := by
  rw [abs_ite]; unfold kept; rw [if_neg (fun q => h.elim (fun a => a q.1) (fun b => by rw [b] at q; exact absurd q.2 (by decide))), ← hv, Int.fmod_eq_emod_of_nonneg _ (by omega)]
set_option maxRecDepth 100000 in
set_option maxHeartbeats 8000000 in
theorem kept_units_C (w : World) (mean mg mb) (news) (size digits scale units : Int) (tu : Tok) (sg : Bool) (k : Nat → Tok) (x d : Addr) (h0 : 0 ≤ digits) (h1 : digits ≤ 40) : Says w mean mg mb 2 16 148 ((x, instObj 53 d) :: (d, shapeD w size digits scale sg k) :: news) [.ref x, .int units tu] 
   (fun h₀ L m s Q => ∀ (t : Tok) (h' : Heap) (tk' : Nat), Fr h₀ L h' m → News h₀ L h' ((x, instObj 53 d) :: (d, shapeD w size digits scale sg k) :: news) → Q (.int (kept digits sg units) t) { s with heap := h', toks := tk' }) := by
  k_with_none
  w_top off
  k_with "execs cons" => (k_here; refine gen_toks fun tk9 => wpAny_execs_cons ?_; (try dsimp only))
  k_with "call ref" => (k_here; (with_reducible show wpAny _ _ (call (.ref 64) _) _ _ _); with_unfolding_all refine' says_use (unit_bound_C _ _ _ _ _ _ _ _ _ _ _ _ ?p0 ?p1) ?k1 ?k2 ?k3 ?k4 ?k5 ?kK ?kd ?ku ?_; (case k1 => k_asm); (case k2 => k_asm); (case k3 => k_asm); (case k4 => k_asm); (case k5 => k_asm); (case kK => first | exact rfl | assumption); (case p0 => assumption); (case p1 => assumption); (case kd => first | (k_dflt exact room_of (by assumption) (by decide)) | ktr_room); (case ku => first | (k_dflt exact units_of (by assumption) (by decide)) | ktr_units); intro v9 t9 h9 tk9 hv9 hp9 F9 N9; (try dsimp only))
  unfold Says
  k_fill
  intro dp un gd cn cs a ccd cl outer A₀ base h₀ L m s Q E B F X N T hk hdp hun hret
  refine wpAny_call ?_
  k_dflt cell_enter
  k_steps
  all_goals (refine' cb_retI (Q := Q) (s := s) hret ?e1 ?e2 ?e3; (case e2 => k_asm); (case e3 => k_asm); (case e1 => first | exact kept_neg (by assumption) (by assumption) (by assumption) (by assumption) | exact kept_pos (by assumption) (by assumption) (.inl (by assumption)) | exact kept_pos (by assumption) (by assumption) (.inr (by assumption))))
end
section
open PySem.Spec PySem.Calls
theorem figL_in : ∀ k n, ∀ v ∈ figL k n, 0 ≤ v ∧ v ≤ 9
  | 0, _, v, h => by cases h
  | k + 1, n, v, h => by
    rw [figL] at h
    rcases List.mem_cons.mp h with rfl | h
    · omega
    · exact figL_in k _ v h
theorem figR_in (k n : Nat) : ∀ v ∈ (figL k n).reverse, 0 ≤ v ∧ v ≤ 9 := fun v h => figL_in k n v (List.mem_reverse.mp h)
theorem figR_len (k n : Nat) : (figL k n).reverse.length = k := by rw [List.length_reverse, figL_length]
theorem figR_of {vs : List Value} {k n : Nat} (_ : IntsAre vs (figL k n).reverse) : ∀ v ∈ (figL k n).reverse, 0 ≤ v ∧ v ≤ 9 := figR_in k n
theorem figR_length {vs : List Value} {k n : Nat} (h : IntsAre vs (figL k n).reverse) : vs.length = k := by rw [h.length, figR_len]
theorem figR_lenOf {vs : List Value} {k n : Nat} (_ : IntsAre vs (figL k n).reverse) : (figL k n).reverse.length = k := figR_len k n
theorem add48_in {ds : List Int} (h : ∀ v ∈ ds, 0 ≤ v ∧ v ≤ 9) : KBa.In (ds.map fun a => 48 + a) := fun n hn => by
  obtain ⟨a, ha, rfl⟩ := List.mem_map.mp hn
  have := h a ha
  omega
end
section
open PySem.Spec PySem.Calls
section
variable {prog : Program} {w : World} {A : Around} {E : Value → Shared → Prop} {s : Shared} {h₀ : Heap} {L : Addr} {m : Str → Option Value} {env : Env} {news : List (Addr × Obj)}

/-- a value that hands out the ints `as`, one after the other -/
def IntSrc (prog : Program) (w : World) (A : Around) (as : List Int) (xv : Value) (s₁ : Shared) : Prop :=
  ∀ (Q E : Value → Shared → Prop), (∀ I h fp wr P St, Walks prog w A I fp wr as.length P St → (∀ i v, P i v → ∃ a t, as[i]? = some a ∧ v = .int a t) → St 0 h → (∀ b ∈ fp, b < h.objs.size) →
    (∀ b o, s₁.heap.get? b = some o → h.get? b = some o) → s₁.heap.objs.size ≤ h.objs.size → (∀ b ∈ wr, s₁.heap.get? b = none) → Q (.ref I) { s₁ with heap := h }) → wpAny (model prog w) A (pyIter xv) Q E s₁

theorem IntSrc.list {l : Addr} {vs : List Value} {c : Nat} {as : List Int} (hh : A.handled = none) (N : News h₀ L s.heap news) (hm : (l, listOf vs.toArray c) ∈ news) (hi : IntsAre vs as) : IntSrc prog w A as (.ref l) s := by
  intro Q E hQ
  have hl : s.heap.IsList l vs.toArray := ⟨_, (N _ hm).1, rfl, c, rfl⟩
  have hlt : l < s.heap.objs.size := Heap.lt_size (N _ hm).1
  have hlen : vs.toArray.size = as.length := by rw [List.size_toArray, hi.length]
  refine wpAny_pyIter_list hl ?_
  have W := Walks.list (prog := prog) (w := w) (A := A) hh s.heap.objs.size l (Nat.ne_of_lt hlt) vs.toArray
  rw [hlen] at W
  refine hQ s.heap.objs.size _ _ _ _ _ W ?_ ⟨⟨_, Heap.get?_push_size _ rfl, rfl, rfl⟩, hl.push _⟩ ?_ (fun b o e => Heap.get?_push_of_some _ e) (by rw [Heap.size_push]; exact Nat.le_succ _) ?_
  · intro i v hP
    obtain ⟨n, t, e, hn⟩ := IntsAre.at hi i v (by simpa using hP)
    exact ⟨n, t, hn, e⟩
  · intro b hb
    rw [Heap.size_push]
    rcases List.mem_cons.mp hb with rfl | hb
    · exact Nat.lt_succ_self _
    · rw [List.mem_singleton.mp hb]; exact Nat.lt_succ_of_lt hlt
  · intro b hb
    rw [List.mem_singleton.mp hb]
    cases e : s.heap.get? s.heap.objs.size with
    | none => rfl
    | some o => exact absurd (Heap.lt_size e) (Nat.lt_irrefl _)

theorem IntSrc.bytes {b : Array UInt8} {t : Tok} {as : List Int} (hh : A.handled = none) (hk : KBw.bInts b = as) : IntSrc prog w A as (.bytes b t) s := by
  intro Q E hQ
  subst hk
  refine KBw.pyIter_bytes ?_
  have W := KBw.walks (prog := prog) (w := w) (A := A) hh s.heap.objs.size b t
  rw [← KBw.ints_length b] at W
  refine hQ s.heap.objs.size _ _ _ _ _ W ?_ ⟨_, Heap.get?_push_size _ rfl, rfl, rfl⟩ ?_ (fun b o e => Heap.get?_push_of_some _ e) (by rw [Heap.size_push]; exact Nat.le_succ _) ?_
  · rintro i v ⟨c, u, hc, rfl⟩
    exact ⟨_, u, KBw.ints_get hc, rfl⟩
  · intro b hb
    rw [Heap.size_push, List.mem_singleton.mp hb]
    exact Nat.lt_succ_self _
  · intro b hb
    rw [List.mem_singleton.mp hb]
    cases e : s.heap.get? s.heap.objs.size with
    | none => rfl
    | some o => exact absurd (Heap.lt_size e) (Nat.lt_irrefl _)

def EltEnd (v : Int) (s₂ : Shared) (y : Value) (s₃ : Shared) : Prop := (∃ t, y = .int v t) ∧ Keeps s₂ s₃
theorem EltEnd.intro {v v' : Int} {t : Tok} {s₂ : Shared} {h' : Heap} {tk : Nat} (e : v' = v) (hk : ∀ b o, s₂.heap.get? b = some o → h'.get? b = some o) : EltEnd v s₂ (.int v' t) { s₂ with heap := h', toks := tk } := ⟨⟨t, e ▸ rfl⟩, h', tk, rfl, hk⟩

def EltOk (prog : Program) (w : World) (A : Around) (env : Env) (elt : Expr) (x : Str) (scope : Scope) (cl : List (Str × Addr)) (g : Int → Int) (as : List Int) (s₁ : Shared) : Prop :=
  ∀ (C : Addr) (a : Int) (t : Tok) (s₂ : Shared) (m₂ : Str → Option Value) (E' : Value → Shared → Prop), a ∈ as → Fr s₁.heap C s₂.heap m₂ → m₂ x = some (.int a t) → wpAny (model prog w) A (eval elt (compEnvC scope cl C env)) (fun y s₃ => EltEnd (g a) s₂ y s₃) E' s₂

def CompMidE (prog : Program) (w : World) (A : Around) (h₀ : Heap) (L : Addr) (m : Str → Option Value) (news : List (Addr × Obj)) (env : Env) (elt : Expr) (x : Str) (scope : Scope) (cl : List (Str × Addr)) (g : Int → Int) (Q : Value → Shared → Prop) (xv : Value) (s₁ : Shared) : Prop :=
  ∃ as, IntSrc prog w A as xv s₁ ∧ as.length ≤ sizeLine ∧ Fr h₀ L s₁.heap m ∧ News h₀ L s₁.heap news ∧ EltOk prog w A env elt x scope cl g as s₁ ∧
    (∀ D (ys : List Value) c h' tk, Fr h₀ L h' m → News h₀ L h' ((D, listOf ys.toArray c) :: news) → OwnOff news [D] → IntsAre ys (as.map g) → Q (.ref D) { s₁ with heap := h', toks := tk })

theorem my_ListComp {elt iter : Expr} {x : Str} {px : Pos} {scope : Scope} {cl : List (Str × Addr)} {pos : Pos} {Q : Value → Shared → Prop} (g : Int → Int)
    (hclos : closureFor scope env = pure cl) (hcell : ∀ y ∈ scope.names, y.2 ≠ .cell) (hkind : scope.kind = .function)
    (hnames : ∀ y ∈ scope.names, y.2 = .local → scope.names.lookup y.1 = some .local) (hx : scope.names.lookup x = some .local)
    (hs : ∀ x, foldedSetIterable iter env x = pure x)
    (h : wpAny (model prog w) A (eval iter env) (fun xv s₁ => ∃ h₀ L m news, CompMidE prog w A h₀ L m news env elt x scope cl g Q xv s₁) E s) :
    wpAny (model prog w) A (eval (.ListComp elt [⟨.Name x px, iter, [], 0⟩] scope pos) env) Q E s := by
  refine wpAny_ListComp_free (fun _ => true) (fun v y => ∃ a, ItemKind.int.is a v ∧ Carried y (.int (g a))) hclos hcell hkind hnames hx (wpAny_mono h (fun xv s₁ h₁ => ?_) fun _ _ e => e) hs
  obtain ⟨h₀, L, m, news, as, src, hsz, F, N, hel, hQ⟩ := h₁
  refine src _ _ ?_
  intro I hp fp wr P St W hP hst hfp hup hle hwr
  have upk : ∀ (h3 : Heap), (∀ b o, b ∉ wr → hp.get? b = some o → h3.get? b = some o) → ∀ b o, s₁.heap.get? b = some o → h3.get? b = some o :=
    fun h3 hk b o e => hk b o (fun hb => by rw [hwr b hb] at e; cases e) (hup b o e)
  refine ⟨I, fp, wr, as.length, P, St, rfl, W, hsz, hst, hfp, ⟨?_, ?_⟩, ?_⟩
  · intro C i v s₃ m₃ E' hC hv hn hm hk _
    exact wpAny_pure ⟨rfl, s₃.heap, s₃.toks, rfl, fun _ _ e => e⟩
  · intro C i v s₃ m₃ E' hC hv _ hn hm hk _
    obtain ⟨a, t, ha, rfl⟩ := hP i v hv
    refine wpAny_mono (hel C a t s₃ m₃ E' (List.mem_of_getElem? ha) ⟨hn, upk s₃.heap hk, Nat.le_trans hle hC⟩ hm) (fun y s₄ h₄ => ?_) fun _ _ e => e
    obtain ⟨⟨t', rfl⟩, hK⟩ := h₄
    exact ⟨⟨a, ⟨t, rfl⟩, .int _ _⟩, hK⟩
  · intro D h' tk ys vs' hnew hlD hplD hlen hPj hF hk
    have keep : ∀ b o, s₁.heap.get? b = some o → h'.get? b = some o := upk h' hk
    have hDn : s₁.heap.get? D = none := by
      cases e : s₁.heap.get? D with
      | none => rfl
      | some o => rw [hup _ _ e] at hnew; cases hnew
    have hA : AreOf .int vs' as := areOf_of_get vs' as hlen fun j v hj => by
      obtain ⟨a, t, ha, e⟩ := hP j v (hPj j v hj)
      exact ⟨a, ha, t, e⟩
    have hC := hA.paired (fun _ => true) (fun a => PyData.int (g a)) _ (by
      have e1 : vs'.filter (ItemKind.int.lift fun _ => true) = vs'.filter fun _ => true := by
        refine List.filter_congr fun v hv => ?_
        obtain ⟨j, hj⟩ := List.getElem?_of_mem hv
        obtain ⟨a, t, ha, e⟩ := hP j v (hPj j v hj)
        exact ItemKind.lift_is (K := .int) (pz := fun _ => true) ⟨t, e⟩
      rw [e1]; exact hF)
    have hI : IntsAre ys.toList (as.map g) := by
      have := hC
      rw [List.filter_eq_self.mpr (fun _ _ => rfl)] at this
      exact CarriedAll.intsOf this
    obtain ⟨c, hc⟩ := hplD
    have F' : Fr h₀ L h' m := F.keeps keep
    have N' : News h₀ L h' news := N.grown keep
    have hDL : D ≠ L := by
      rintro rfl
      obtain ⟨o, _, _, ho, _⟩ := F.ns
      rw [hDn] at ho; cases ho
    refine hQ D ys.toList c h' tk F' (fun p hp => ?_) (fun p hp b hb e => ?_) hI
    · rcases List.mem_cons.mp hp with rfl | hp
      · refine ⟨by rw [Array.toArray_toList]; exact hc, hDL, ?_⟩
        cases e : h₀.get? D with
        | none => rfl
        | some o => rw [F.keep _ _ e] at hDn; cases hDn
      · exact N' p hp
    · rw [List.mem_singleton.mp hb] at e
      rw [← e, (N p hp).1] at hDn
      cases hDn

def CompMidA (prog : Program) (w : World) (A : Around) (h₀ : Heap) (m : Str → Option Value) (news : List (Addr × Obj)) (env : Env) (elt : Expr) (x y : Str) (scope : Scope) (cl : List (Str × Addr)) (g : Int → Int) (Q : Flow → Shared → Prop) (xv : Value) (s₁ : Shared) : Prop :=
  ∃ as, IntSrc prog w A as xv s₁ ∧ as.length ≤ sizeLine ∧ Fr h₀ env.locals s₁.heap m ∧ News h₀ env.locals s₁.heap news ∧ EltOk prog w A env elt x scope cl g as s₁ ∧
    (∀ D (ys : List Value) c h' tk, Fr h₀ env.locals h' (fun z => if z = y then some (.ref D) else m z) → News h₀ env.locals h' ((D, listOf ys.toArray c) :: news) → OwnOff news [D] → IntsAre ys (as.map g) → Q .next { s₁ with heap := h', toks := tk })

theorem my_Assign {elt iter : Expr} {x y : Str} {px py : Pos} {scope : Scope} {cl : List (Str × Addr)} {pos spos : Pos} {Q : Flow → Shared → Prop} (g : Int → Int)
    (hsw : swapsWith (.ListComp elt [⟨.Name x px, iter, [], 0⟩] scope pos) (some (.Name y py)) spos.line env = pure true)
    (hclos : closureFor scope env = pure cl) (hcell : ∀ y ∈ scope.names, y.2 ≠ .cell) (hkind : scope.kind = .function)
    (hnames : ∀ y ∈ scope.names, y.2 = .local → scope.names.lookup y.1 = some .local) (hx : scope.names.lookup x = some .local)
    (hy : env.kindOf y = some .local) (hp : (env.scope.kind == .class || (env.scope.kind == .module && env.locals != env.globals)) = false)
    (hs : ∀ x, foldedSetIterable iter env x = pure x)
    (h : wpAny (model prog w) A (eval iter env) (fun xv s₁ => ∃ h₀ m news, CompMidA prog w A h₀ m news env elt x y scope cl g Q xv s₁) E s) :
    wpAny (model prog w) A (exec (.Assign [.Name y py] (.ListComp elt [⟨.Name x px, iter, [], 0⟩] scope pos) spos) env) Q E s := by
  refine wpAny_Assign_ListComp_free (fun _ => true) (fun v y => ∃ a, ItemKind.int.is a v ∧ Carried y (.int (g a))) hsw hclos hcell hkind hnames hx hy hp (wpAny_mono h (fun xv s₁ h₁ => ?_) fun _ _ e => e) hs
  obtain ⟨h₀, m, news, as, src, hsz, F, N, hel, hQ⟩ := h₁
  refine src _ _ ?_
  intro I hp fp wr P St W hP hst hfp hup hle hwr
  have upk : ∀ (h3 : Heap), (∀ b o, b ∉ wr → hp.get? b = some o → h3.get? b = some o) → ∀ b o, s₁.heap.get? b = some o → h3.get? b = some o :=
    fun h3 hk b o e => hk b o (fun hb => by rw [hwr b hb] at e; cases e) (hup b o e)
  have hLw : env.locals ∉ wr := fun hb => by
    obtain ⟨o, _, _, ho, _⟩ := F.ns
    rw [hwr _ hb] at ho; cases ho
  refine ⟨I, fp, wr, as.length, P, St, m, rfl, W, hsz, hst, hfp, hLw, F.ns.at' fun o e => hup _ _ e, ⟨?_, ?_⟩, ?_⟩
  · intro C i v s₃ m₃ E' hC hv hn hm hk _
    exact wpAny_pure ⟨rfl, s₃.heap, s₃.toks, rfl, fun _ _ e => e⟩
  · intro C i v s₃ m₃ E' hC hv _ hn hm hk _
    obtain ⟨a, t, ha, rfl⟩ := hP i v hv
    refine wpAny_mono (hel C a t s₃ m₃ E' (List.mem_of_getElem? ha) ⟨hn, upk s₃.heap hk, Nat.le_trans hle hC⟩ hm) (fun y s₄ h₄ => ?_) fun _ _ e => e
    obtain ⟨⟨t', rfl⟩, hK⟩ := h₄
    exact ⟨⟨a, ⟨t, rfl⟩, .int _ _⟩, hK⟩
  · intro D h' tk ys vs' hnew hlD hplD hlen hPj hF hn' hk
    have keep : ∀ b o, b ≠ env.locals → s₁.heap.get? b = some o → h'.get? b = some o := fun b o hb e => hk b o hb (fun hw => by rw [hwr b hw] at e; cases e) (hup b o e)
    have hDn : s₁.heap.get? D = none := by
      cases e : s₁.heap.get? D with
      | none => rfl
      | some o => rw [hup _ _ e] at hnew; cases hnew
    have hA : AreOf .int vs' as := areOf_of_get vs' as hlen fun j v hj => by
      obtain ⟨a, t, ha, e⟩ := hP j v (hPj j v hj)
      exact ⟨a, ha, t, e⟩
    have hC := hA.paired (fun _ => true) (fun a => PyData.int (g a)) _ (by
      have e1 : vs'.filter (ItemKind.int.lift fun _ => true) = vs'.filter fun _ => true := by
        refine List.filter_congr fun v hv => ?_
        obtain ⟨j, hj⟩ := List.getElem?_of_mem hv
        obtain ⟨a, t, ha, e⟩ := hP j v (hPj j v hj)
        exact ItemKind.lift_is (K := .int) (pz := fun _ => true) ⟨t, e⟩
      rw [e1]; exact hF)
    have hI : IntsAre ys.toList (as.map g) := by
      have := hC
      rw [List.filter_eq_self.mpr (fun _ _ => rfl)] at this
      exact CarriedAll.intsOf this
    obtain ⟨c, hc⟩ := hplD
    have hDL : D ≠ env.locals := by
      rintro rfl
      obtain ⟨o, _, _, ho, _⟩ := F.ns
      rw [hDn] at ho; cases ho
    refine hQ D ys.toList c h' tk ⟨hn', fun b o e => keep b o (Nat.ne_of_lt (Nat.lt_of_lt_of_le (Heap.lt_size e) F.above)) (F.keep b o e), F.above⟩ (fun p hp => ?_) (fun p hp b hb e => ?_) hI
    · rcases List.mem_cons.mp hp with rfl | hp
      · refine ⟨by rw [Array.toArray_toList]; exact hc, hDL, ?_⟩
        cases e : h₀.get? D with
        | none => rfl
        | some o => rw [F.keep _ _ e] at hDn; cases hDn
      · exact ⟨keep _ _ (N p hp).2.1 (N p hp).1, (N p hp).2⟩
    · rw [List.mem_singleton.mp hb] at e
      rw [← e, (N p hp).1] at hDn
      cases hDn
theorem midA_list {elt : Expr} {x y : Str} {scope : Scope} {cl : List (Str × Addr)} {g : Int → Int} {Q : Flow → Shared → Prop} {l : Addr} {vs : List Value} {c : Nat} {as : List Int}
    (hh : A.handled = none) (F : Fr h₀ env.locals s.heap m) (N : News h₀ env.locals s.heap news) (hm : (l, listOf vs.toArray c) ∈ news) (hi : IntsAre vs as) (hz : as.length ≤ sizeLine) (hel : EltOk prog w A env elt x scope cl g as s)
    (hf : ∀ D (ys : List Value) c h' tk, Fr h₀ env.locals h' (fun z => if z = y then some (.ref D) else m z) → News h₀ env.locals h' ((D, listOf ys.toArray c) :: news) → OwnOff news [D] → IntsAre ys (as.map g) → Q .next { s with heap := h', toks := tk }) :
    ∃ h₀ m news, CompMidA prog w A h₀ m news env elt x y scope cl g Q (.ref l) s := ⟨h₀, m, news, as, IntSrc.list hh N hm hi, hz, F, N, hel, hf⟩
theorem midE_list {elt : Expr} {x : Str} {scope : Scope} {cl : List (Str × Addr)} {g : Int → Int} {Q : Value → Shared → Prop} {l : Addr} {vs : List Value} {c : Nat} {as : List Int}
    (hh : A.handled = none) (F : Fr h₀ L s.heap m) (N : News h₀ L s.heap news) (hm : (l, listOf vs.toArray c) ∈ news) (hi : IntsAre vs as) (hz : as.length ≤ sizeLine) (hel : EltOk prog w A env elt x scope cl g as s)
    (hf : ∀ D (ys : List Value) c h' tk, Fr h₀ L h' m → News h₀ L h' ((D, listOf ys.toArray c) :: news) → OwnOff news [D] → IntsAre ys (as.map g) → Q (.ref D) { s with heap := h', toks := tk }) :
    ∃ h₀ L m news, CompMidE prog w A h₀ L m news env elt x scope cl g Q (.ref l) s := ⟨h₀, L, m, news, as, IntSrc.list hh N hm hi, hz, F, N, hel, hf⟩
theorem midE_bytes {elt : Expr} {x : Str} {scope : Scope} {cl : List (Str × Addr)} {g : Int → Int} {Q : Value → Shared → Prop} {b : Array UInt8} {t : Tok} {as : List Int}
    (hh : A.handled = none) (F : Fr h₀ L s.heap m) (N : News h₀ L s.heap news) (hk : KBw.bInts b = as) (hz : as.length ≤ sizeLine) (hel : EltOk prog w A env elt x scope cl g as s)
    (hf : ∀ D (ys : List Value) c h' tk, Fr h₀ L h' m → News h₀ L h' ((D, listOf ys.toArray c) :: news) → OwnOff news [D] → IntsAre ys (as.map g) → Q (.ref D) { s with heap := h', toks := tk }) :
    ∃ h₀ L m news, CompMidE prog w A h₀ L m news env elt x scope cl g Q (.bytes b t) s := ⟨h₀, L, m, news, as, IntSrc.bytes hh hk, hz, F, N, hel, hf⟩
theorem ldC {M : Model} {A : Around} {scope : Scope} {cl : List (Str × Addr)} {C : Addr} {x : Str} {pos : Pos} {v : Value} {Q : Value → Shared → Prop} (F : Fr h₀ C s.heap m) (hv : m x = some v) (h : Q v s)
    (hk : (compEnvC scope cl C env).scope.kind = .function := by rfl) (hl : (compEnvC scope cl C env).kindOf x = some .local := by rfl) (hd : (x == ("__debug__" : Str)) = false := by decide) :
    wpAny M A (eval (.Name x pos) (compEnvC scope cl C env)) Q E s := wpAny_Name (wpAny_loadName_local hk hl F.ns hv h) hd
theorem off_head {D : Addr} {p : Addr × Obj} {news : List (Addr × Obj)} (h : OwnOff (p :: news) [D]) : p.1 ≠ D := h p (.head _) D (.head _)
theorem off_tail {D : Addr} {p : Addr × Obj} {news : List (Addr × Obj)} (h : OwnOff (p :: news) [D]) : OwnOff news [D] := fun q hq => h q (.tail _ hq)
end
end
section
open PySem.Spec PySem.Calls
theorem figR_snoc (k n : Nat) (hk : 1 ≤ k) : (figL k n).reverse = (figL (k - 1) (n / 10)).reverse ++ [((n % 10 : Nat) : Int)] := by
  obtain ⟨j, rfl⟩ : ∃ j, k = j + 1 := ⟨k - 1, by omega⟩
  rw [figL, List.reverse_cons]; rfl
theorem last_idx {k n : Nat} (hk : 1 ≤ k) : (List.map (fun a => 48 + a) (figL k n).reverse).getD (((List.map (fun a => 48 + a) (figL k n).reverse).length : Int) - 1).toNat 0 - 48 = ((n % 10 : Nat) : Int) := by
  rw [List.length_map, figR_len, figR_snoc k n hk, List.map_append, List.getD_eq_getElem?_getD, List.getElem?_append_right (by rw [List.length_map, figR_len]; omega)]
  rw [List.length_map, figR_len, show ((k : Int) - 1).toNat - (k - 1) = 0 by omega]
  simp
  omega
section
variable {prog : Program} {w : World} {A : Around} {E : Value → Shared → Prop} {s : Shared}
theorem row_item {x : List UInt8} {i j : Int} {t ui : Tok} {value slice : Expr} {Q : Value → Shared → Prop} (e : i = j) (hfit : x.length ≤ 1099511627776) (h0 : 0 ≤ j) (h1 : j < (x.length : Int)) (h : Q (.int (x.getD j.toNat 0).toNat s.toks) { s with toks := s.toks + 1 })
    (hs : subscripted slice false (.bytes x.toArray t) (.int i ui) = operate [.bytes x.toArray t, .int i ui] (getItem (.bytes x.toArray t) (.int i ui)) := by with_unfolding_all rfl)
    (ht : ∀ r, letTemporaryGo value (.bytes x.toArray t) r = pure () := by intro _; with_unfolding_all rfl) :
    wpAny (model prog w) A (subscriptTail value slice (.bytes x.toArray t) (.int i ui)) Q E s := by
  subst e
  exact KBy.item_N hfit h0 h1 h hs ht
end
def rowP : List UInt8 := [123, 65, 66, 67, 68, 69, 70, 71, 72, 73]
def rowM : List UInt8 := [125, 74, 75, 76, 77, 78, 79, 80, 81, 82]
def signCodes (row : List UInt8) (k n : Nat) : List Int := (figL (k - 1) (n / 10)).reverse.map (fun a => 48 + a) ++ [(((row.getD (n % 10) 0).toNat : Nat) : Int)]
def octs (k : Nat) (sg : Bool) (u : Int) : List Int := if sg = true then signCodes (if u < 0 then rowM else rowP) k u.natAbs else (figL k u.natAbs).reverse.map (fun a => 48 + a)
theorem absN (u : Int) : (if u < 0 then -u else u).toNat = u.natAbs := by split <;> omega
theorem set_last {k n : Nat} (hk : 1 ≤ k) (v : Int) : (List.map (fun a => 48 + a) (figL k n).reverse).set (((List.map (fun a => 48 + a) (figL k n).reverse).length : Int) - 1).toNat v = (figL (k - 1) (n / 10)).reverse.map (fun a => 48 + a) ++ [v] := by
  rw [List.length_map, figR_len, figR_snoc k n hk, List.map_append]
  have e : ((k : Int) - 1).toNat = ((figL (k - 1) (n / 10)).reverse.map (fun a => 48 + a)).length := by rw [List.length_map, figR_len]; omega
  rw [e, List.set_append_right _ _ (Nat.le_refl _), Nat.sub_self]
  rfl
theorem signCodes_in (row : List UInt8) (k n : Nat) : KBa.In (signCodes row k n) := fun v hv => by
  rcases List.mem_append.mp hv with hv | hv
  · exact add48_in (figR_in _ _) v hv
  · rw [List.mem_singleton.mp hv]
    have := UInt8.toNat_lt (row.getD (n % 10) 0)
    omega
theorem octs_in (k : Nat) (sg : Bool) (u : Int) : KBa.In (octs k sg u) := by
  unfold octs
  split
  · exact signCodes_in _ _ _
  · exact add48_in (figR_in _ _)
theorem octs_len {k : Nat} (sg : Bool) (u : Int) (hk : 1 ≤ k) : (octs k sg u).length = k := by
  unfold octs
  split
  · rw [signCodes, List.length_append, List.length_map, figR_len]; simp; omega
  · rw [List.length_map, figR_len]
section
variable {prog : Program} {w : World} {A : Around} {E : Value → Shared → Prop} {s : Shared} {h₀ : Heap} {L D : Addr} {m : PySem.Str → Option Value} {news : List (Addr × Obj)} {vs : List Value}
theorem ret_octs {ns ks : List Int} {t : Tok} {h' : Heap} {tk' : Nat} {Q : Value → Shared → Prop} (hret : ∀ (t : Tok) (h' : Heap) (tk' : Nat), Fr h₀ L h' m → News h₀ L h' news → Q (.bytes (byteArr ns) t) { s with heap := h', toks := tk' }) (e : ks = ns)
    (F : Fr h₀ L h' m) (N : News h₀ L h' news) : Q (.bytes (byteArr ks) t) { s with heap := h', toks := tk' } := by
  subst e; exact hret t h' tk' F N
theorem octs0 (k : Nat) (u : Int) : List.map (fun a => 48 + a) (figL k (if u < 0 then -u else u).toNat).reverse = octs k false u := by rw [absN, octs, if_neg (by decide)]
theorem octsM {k : Nat} {u : Int} (h : u < 0) : signCodes rowM k (if u < 0 then -u else u).toNat = octs k true u := by rw [absN, octs, if_pos rfl, if_pos h]
theorem octsP {k : Nat} {u : Int} (h : ¬ u < 0) : signCodes rowP k (if u < 0 then -u else u).toNat = octs k true u := by rw [absN, octs, if_pos rfl, if_neg h]
theorem make_signed {Q : Value → Shared → Prop} {k n : Nat} (row : List UInt8) (F : Fr h₀ L s.heap m) (N : News h₀ L s.heap news) (hh : A.handled = none) (hl : s.heap.IsList D vs.toArray) (hk : 1 ≤ k) (hk2 : k ≤ 100)
    (hi : IntsAre vs ((List.map (fun a => 48 + a) (figL k n).reverse).set (((List.map (fun a => 48 + a) (figL k n).reverse).length : Int) - 1).toNat ((row.getD (((n % 10 : Nat) : Int)).toNat 0).toNat : Nat)))
    (h : ∀ h' t' k', Fr h₀ L h' m → News h₀ L h' news → Q (.bytes (byteArr (signCodes row k n)) t') { s with heap := h', toks := k' }) : wpAny (model prog w) A (call (.type "bytes") [.ref D]) Q E s := by
  rw [set_last hk, Int.toNat_natCast] at hi
  refine KBa.make_K F N hh hl hi (signCodes_in row k n) ?_ fun h' t' k' F' N' _ => h h' t' k' F' N'
  rw [List.length_append, List.length_map, figR_len]
  simp; omega
end
end
section
open PySem.Spec PySem.Calls
set_option maxRecDepth 100000 in
set_option maxHeartbeats 8000000 in
theorem display_octets_C0 (w : World) (mean mg mb) (news) (size digits scale units : Int) (tu : Tok) (k : Nat → Tok) (x d : Addr) (h0 : 0 ≤ digits) (h1 : digits ≤ 40) (hd1 : 1 ≤ digits) : Says w mean mg mb 2 16 160 ((x, instObj 53 d) :: (d, shapeD w size digits scale false k) :: news) [.ref x, .int units tu] 
   (fun h₀ L m s Q => ∀ (t : Tok) (h' : Heap) (tk' : Nat), Fr h₀ L h' m → News h₀ L h' ((x, instObj 53 d) :: (d, shapeD w size digits scale false k) :: news) → Q (.bytes (byteArr (octs digits.toNat false units)) t) { s with heap := h', toks := tk' }) := by
  k_with_none
  w_top off
  k_with "call ref" => (k_here; (with_reducible show wpAny _ _ (call (.ref 155) _) _ _ _); with_unfolding_all refine' says_use (figures_for_C _ _ _ _ _ _ _ _ _ ?p0 ?p1 ?p2) ?k1 ?k2 ?k3 ?k4 ?k5 ?kK ?kd ?ku ?_; (case k1 => k_asm); (case k2 => k_asm); (case k3 => k_asm); (case k4 => k_asm); (case k5 => k_asm); (case kK => first | exact rfl | assumption); (case p0 => split <;> omega); (case p1 => assumption); (case p2 => omega); (case kd => first | (k_dflt exact room_of (by assumption) (by decide)) | ktr_room); (case ku => first | (k_dflt exact units_of (by assumption) (by decide)) | ktr_units); intro vs9 l9 h9 tk9 F9 N9 hi9 hl9; k_lt hl9; (have hr9 := figR_of hi9); (have hL9 := figR_lenOf hi9); (have hb9 := add48_in hr9); (try dsimp only))
  k_with "exec Assign cons ListComp" => (k_here; (with_reducible refine my_Assign (cl := []) (fun a => 48 + a) ?hsw ?hclos ?hcell ?hkind ?hnames ?hx ?hy ?hp ?hs ?h); (case hsw => with_unfolding_all rfl); (case hclos => with_unfolding_all rfl); (case hcell => decide); (case hkind => with_unfolding_all rfl); (case hnames => decide); (case hx => with_unfolding_all rfl); (case hy => with_unfolding_all rfl); (case hp => with_unfolding_all rfl); (case hs => intro _; with_unfolding_all rfl))
  k_with "Exists" => (k_here; with_unfolding_all refine' midA_list ?hh ?hF ?hN ?hm ?hi ?hz ?hel ?hfin; (case hh => rfl); (case hF => k_asm); (case hN => k_asm); (case hm => k_mem); (case hi => k_asm); (case hz => rw [figR_len, sizeLine_eq]; omega); (case' hel => (with_reducible rename Fr _ _ _ _ => fr9); (have X9 := Frag.In.keeps (by assumption) (Fr.keep fr9)); (have T9 := Top.keeps (by assumption) (Fr.keep fr9)); intro C9 a9 t9 s9 m9 E9 ha9 F9 hm9; (try k_fold)); (case' hfin => intro D9 ys9 c9 h9 tk9 F9 N9 off9 hi9; (try dsimp only)))
  k_with "EltEnd" => exact EltEnd.intro (by first | rfl | omega) (fun _ _ e => e)
  k_with "eval Name" => (k_here; (with_reducible show wpAny _ _ (eval (Expr.Name _ _) (compEnvC _ _ _ _)) _ _ _); refine' ldC ?k1 ?k2 ?_; (case k1 => k_asm); (case k2 => k_asm))
  unfold Says
  k_fill
  intro dp un gd cn cs a ccd cl outer A₀ base h₀ L m s Q E B F X N T hk hdp hun hret
  refine wpAny_call ?_
  k_dflt cell_enter
  k_steps
  all_goals (refine' ret_octs (Q := Q) (s := s) hret ?e1 ?e2 ?e3; (case e2 => k_asm); (case e3 => first | k_asm | (refine' cb_drop ?cbN ?cbS; (case cbN => assumption); (case cbS => kcj_all))); (case e1 => exact octs0 _ _))
end
section
open PySem.Spec PySem.Calls
set_option maxRecDepth 100000 in
set_option maxHeartbeats 8000000 in
theorem display_octets_C1 (w : World) (mean mg mb) (news) (size digits scale units : Int) (tu : Tok) (k : Nat → Tok) (x d : Addr) (h0 : 0 ≤ digits) (h1 : digits ≤ 40) (hd1 : 1 ≤ digits) : Says w mean mg mb 2 16 160 ((x, instObj 53 d) :: (d, shapeD w size digits scale true k) :: news) [.ref x, .int units tu] 
   (fun h₀ L m s Q => ∀ (t : Tok) (h' : Heap) (tk' : Nat), Fr h₀ L h' m → News h₀ L h' ((x, instObj 53 d) :: (d, shapeD w size digits scale true k) :: news) → Q (.bytes (byteArr (octs digits.toNat true units)) t) { s with heap := h', toks := tk' }) := by
  k_with_none
  w_top off
  k_with "subscriptTail" => (k_here; (with_reducible show wpAny _ _ (subscriptTail _ _ (Value.bytes _ _) (Value.int _ _)) _ _ _); refine' row_item (last_idx (by omega)) ?f ?a ?b ?_; (case f => decide); (case a => omega); (case b => (simp only [List.length_cons, List.length_nil]; omega)))
  k_with "call ref" => (k_here; (with_reducible show wpAny _ _ (call (.ref 155) _) _ _ _); with_unfolding_all refine' says_use (figures_for_C _ _ _ _ _ _ _ _ _ ?p0 ?p1 ?p2) ?k1 ?k2 ?k3 ?k4 ?k5 ?kK ?kd ?ku ?_; (case k1 => k_asm); (case k2 => k_asm); (case k3 => k_asm); (case k4 => k_asm); (case k5 => k_asm); (case kK => first | exact rfl | assumption); (case p0 => split <;> omega); (case p1 => assumption); (case p2 => omega); (case kd => first | (k_dflt exact room_of (by assumption) (by decide)) | ktr_room); (case ku => first | (k_dflt exact units_of (by assumption) (by decide)) | ktr_units); intro vs9 l9 h9 tk9 F9 N9 hi9 hl9; k_lt hl9; (have hr9 := figR_of hi9); (have hL9 := figR_lenOf hi9); (have hb9 := add48_in hr9); (try dsimp only))
  k_with "exec Assign cons ListComp" => (k_here; (with_reducible refine my_Assign (cl := []) (fun a => 48 + a) ?hsw ?hclos ?hcell ?hkind ?hnames ?hx ?hy ?hp ?hs ?h); (case hsw => with_unfolding_all rfl); (case hclos => with_unfolding_all rfl); (case hcell => decide); (case hkind => with_unfolding_all rfl); (case hnames => decide); (case hx => with_unfolding_all rfl); (case hy => with_unfolding_all rfl); (case hp => with_unfolding_all rfl); (case hs => intro _; with_unfolding_all rfl))
  k_with "Exists" => (k_here; with_unfolding_all refine' midA_list ?hh ?hF ?hN ?hm ?hi ?hz ?hel ?hfin; (case hh => rfl); (case hF => k_asm); (case hN => k_asm); (case hm => k_mem); (case hi => k_asm); (case hz => rw [figR_len, sizeLine_eq]; omega); (case' hel => (with_reducible rename Fr _ _ _ _ => fr9); (have X9 := Frag.In.keeps (by assumption) (Fr.keep fr9)); (have T9 := Top.keeps (by assumption) (Fr.keep fr9)); intro C9 a9 t9 s9 m9 E9 ha9 F9 hm9; (try k_fold)); (case' hfin => intro D9 ys9 c9 h9 tk9 F9 N9 off9 hi9; (try dsimp only)))
  k_with "EltEnd" => exact EltEnd.intro (by first | rfl | omega) (fun _ _ e => e)
  k_with "eval Name" => (k_here; (with_reducible show wpAny _ _ (eval (Expr.Name _ _) (compEnvC _ _ _ _)) _ _ _); refine' ldC ?k1 ?k2 ?_; (case k1 => k_asm); (case k2 => k_asm))
  k_with "call type:bytes" => (k_here; (with_reducible show wpAny _ _ (call (Value.type "bytes") [Value.ref _]) _ _ _); k_dflt (refine' make_signed rowM ?kbaF ?kbaN ?kbah ?kbal ?k1 ?k2 ?kbai ?_); (case kbaF => k_asm); (case kbaN => k_asm); (case kbah => rfl); (case kbal => k_dflt kba_isList); (case kbai => assumption); (case k1 => omega); (case k2 => omega); intro _ _ _ F' N')
  k_with "call type:bytes" => (k_here; (with_reducible show wpAny _ _ (call (Value.type "bytes") [Value.ref _]) _ _ _); k_dflt (refine' make_signed rowP ?kbaF ?kbaN ?kbah ?kbal ?k1 ?k2 ?kbai ?_); (case kbaF => k_asm); (case kbaN => k_asm); (case kbah => rfl); (case kbal => k_dflt kba_isList); (case kbai => assumption); (case k1 => omega); (case k2 => omega); intro _ _ _ F' N')
  unfold Says
  k_fill
  intro dp un gd cn cs a ccd cl outer A₀ base h₀ L m s Q E B F X N T hk hdp hun hret
  refine wpAny_call ?_
  k_dflt cell_enter
  k_steps
  all_goals (refine' ret_octs (Q := Q) (s := s) hret ?e1 ?e2 ?e3; (case e2 => k_asm); (case e3 => first | k_asm | (refine' cb_drop ?cbN ?cbS; (case cbN => assumption); (case cbS => kcj_all))); (case e1 => first | exact octsM (by assumption) | exact octsP (by assumption)))
end
section
open PySem.Spec PySem.Calls
theorem display_octets_C (w : World) (mean mg mb) (news) (size digits scale units : Int) (tu : Tok) (sg : Bool) (k : Nat → Tok) (x d : Addr) (h0 : 0 ≤ digits) (h1 : digits ≤ 40) (hd1 : 1 ≤ digits) : Says w mean mg mb 2 16 160 ((x, instObj 53 d) :: (d, shapeD w size digits scale sg k) :: news) [.ref x, .int units tu] 
   (fun h₀ L m s Q => ∀ (t : Tok) (h' : Heap) (tk' : Nat), Fr h₀ L h' m → News h₀ L h' ((x, instObj 53 d) :: (d, shapeD w size digits scale sg k) :: news) → Q (.bytes (byteArr (octs digits.toNat sg units)) t) { s with heap := h', toks := tk' }) := by
  cases sg
  · exact display_octets_C0 w mean mg mb news size digits scale units tu k x d h0 h1 hd1
  · exact display_octets_C1 w mean mg mb news size digits scale units tu k x d h0 h1 hd1
set_option maxRecDepth 100000 in
set_option maxHeartbeats 8000000 in
theorem octets_for_C (w : World) (mean mg mb) (news) (size digits scale units : Int) (tu : Tok) (sg : Bool) (k : Nat → Tok) (x d : Addr) (h0 : 0 ≤ digits) (h1 : digits ≤ 40) (hd1 : 1 ≤ digits) : Says w mean mg mb 3 24 179 ((x, instObj 53 d) :: (d, shapeD w size digits scale sg k) :: news) [.ref x, .int units tu] 
   (fun h₀ L m s Q => ∀ (t : Tok) (h' : Heap) (tk' : Nat), Fr h₀ L h' m → News h₀ L h' ((x, instObj 53 d) :: (d, shapeD w size digits scale sg k) :: news) → Q (.bytes (byteArr (octs digits.toNat sg (kept digits sg units))) t) { s with heap := h', toks := tk' }) := by
  k_with_none
  w_top off
  k_with "call ref" => (k_here; (with_reducible show wpAny _ _ (call (.ref 148) _) _ _ _); with_unfolding_all refine' says_use (kept_units_C _ _ _ _ _ _ _ _ _ _ _ _ _ _ ?p0 ?p1) ?k1 ?k2 ?k3 ?k4 ?k5 ?kK ?kd ?ku ?_; (case k1 => k_asm); (case k2 => k_asm); (case k3 => k_asm); (case k4 => k_asm); (case k5 => k_asm); (case kK => first | exact rfl | assumption); (case p0 => assumption); (case p1 => assumption); (case kd => first | (k_dflt exact room_of (by assumption) (by decide)) | ktr_room); (case ku => first | (k_dflt exact units_of (by assumption) (by decide)) | ktr_units); intro t9 h9 tk9 F9 N9; (try dsimp only))
  k_with "call ref" => (k_here; (with_reducible show wpAny _ _ (call (.ref 160) _) _ _ _); with_unfolding_all refine' says_use (display_octets_C _ _ _ _ _ _ _ _ _ _ _ _ _ _ ?p0 ?p1 ?p2) ?k1 ?k2 ?k3 ?k4 ?k5 ?kK ?kd ?ku ?_; (case k1 => k_asm); (case k2 => k_asm); (case k3 => k_asm); (case k4 => k_asm); (case k5 => k_asm); (case kK => first | exact rfl | assumption); (case p0 => assumption); (case p1 => assumption); (case p2 => assumption); (case kd => first | (k_dflt exact room_of (by assumption) (by decide)) | ktr_room); (case ku => first | (k_dflt exact units_of (by assumption) (by decide)) | ktr_units); intro t9 h9 tk9 F9 N9; (try dsimp only))
  unfold Says
  k_fill
  intro dp un gd cn cs a ccd cl outer A₀ base h₀ L m s Q E B F X N T hk hdp hun hret
  refine wpAny_call ?_
  k_dflt cell_enter
  k_steps
  all_goals (refine' ret_octs (Q := Q) (s := s) hret ?e1 ?e2 ?e3; (case e2 => k_asm); (case e3 => k_asm); (case e1 => rfl))
end
section
open PySem.Spec PySem.Calls Builtin
set_option maxRecDepth 100000
section
variable {b : Array UInt8} {t u : Tok} {i : Int}
theorem gives_contains (h0 : 0 ≤ i) (h1 : i < 256) : Gives («bytes.__contains__» ⟨[.bytes b t, .int i u], []⟩) (.val (.bool (b.contains i.toNat.toUInt8))) := by
  refine .of_wp fun M A E s Q hq => ?_
  show wpAny M A (Bytes.containsIn "bytes.__contains__" (.bytes b t) (.int i u) >>= fun r => _) _ E s
  refine wpAny_bind ?_
  unfold Bytes.containsIn
  refine wpAny_bind (wpAny_attempt (wpAny_of_eq (a := i) rfl ?_))
  refine wpAny_bind (wpAny_of_eq KBy.buffer_eq ?_)
  dsimp only
  rw [if_neg (by simp only [Bool.or_eq_true, decide_eq_true_eq]; omega)]
  exact wpAny_pure (wpAny_pure ⟨_, rfl, hq⟩)
theorem slot_index : Slot "bytes" "index" "bytes.index" :=
  .of (owner := "bytes") (n := "index") (by rw [typeLookup_type, builtinLookup_eq_fast]; kernel_rfl) (by decide +kernel) (by decide +kernel) (by decide +kernel)
    (by first | exact .inl (by decide +kernel) | exact .inr (by decide +kernel)) (by rw [isSubtype_type]; kernel_rfl)
theorem type_index : typeOf (.builtin "bytes.index") = pure (.type "method_descriptor") := by show builtinType _ = _; rw [builtinType_eq_fast]; kernel_rfl
theorem entry_index : entryFor table "bytes.index" = some Builtin.«bytes.index» := entryFor_of_tree (by kernel_rfl)
theorem args_index (a b : Value) : argsOk "bytes.index" ⟨[a, b], []⟩ := by
  unfold argsOk; rw [signature?_of (id := "bytes.index") (n := ['x', 'e', 'd', 'n', 'i']) (o := ['s', 'e', 't', 'y', 'b']) (by kernel_rfl) FB.owner_bytes]; kernel_rfl
theorem int_no_buffer : typeLookup (.type "int") "__buffer__" = pure none := by rw [typeLookup_type, builtinLookup_eq_fast]; kernel_rfl
theorem int_buffer {id : String} : Bytes.buffer? id (.int i u) = pure none := by
  have e : specialOf (.int i u) "__buffer__" = pure none := by
    have e : specialOf (.int i u) "__buffer__" = typeLookup (.type "int") "__buffer__" := rfl
    rw [e, int_no_buffer]
  unfold Bytes.buffer?
  rw [e]
  rfl
theorem gives_index {k : Nat} (h0 : 0 ≤ i) (h1 : i < 256) (hb : 1 ≤ b.size) (hf : Bytes.find? b #[i.toNat.toUInt8] 0 b.size = some k) : Gives («bytes.index» ⟨[.bytes b t, .int i u], []⟩) (.int k) := by
  refine .of_wp fun M A E s Q hq => ?_
  show wpAny M A (Bytes.searchArgs .bytes "index" ⟨[.bytes b t, .int i u], []⟩ >>= fun r => _) _ E s
  refine wpAny_bind ?_
  unfold Bytes.searchArgs
  refine wpAny_bind (wpAny_of_eq (a := (Value.bytes b t, [Value.int i u])) rfl ?_)
  dsimp only
  refine wpAny_bind (wpAny_of_eq (a := (none : Option Int)) rfl ?_)
  refine wpAny_bind (wpAny_of_eq (a := (none : Option Int)) rfl ?_)
  refine wpAny_bind (wpAny_of_eq int_buffer ?_)
  dsimp only
  refine wpAny_bind (wpAny_specialOf (T := "int") (typeIs_int _ _ _) F.slot_int_index.lookup ?_)
  show wpAny M A (Bytes.indexHeld [.bytes b t] (.int i u) >>= fun r => _) _ E s
  refine wpAny_bind (wpAny_of_eq (a := i) rfl ?_)
  rw [if_neg (by simp only [Bool.or_eq_true, decide_eq_true_eq]; omega)]
  refine wpAny_pure ?_
  have e : (if (Bytes.window b.size none none).2 - (Bytes.window b.size none none).1 < (#[i.toNat.toUInt8] : Array UInt8).size then none else some ((Bytes.window b.size none none).1.toNat, (Bytes.window b.size none none).2.toNat)) = some (0, b.size) := by
    have e1 : Bytes.window b.size none none = ((0 : Int), (b.size : Int)) := by
      unfold Bytes.window
      simp only [Option.getD_none]
      rw [if_neg (by omega), if_neg (by omega)]
      rw [show min (b.size : Int) (b.size : Int) = b.size from Int.min_self _]
    rw [e1]
    dsimp only
    rw [if_neg (by simp; omega)]
    simp
  dsimp only
  rw [e]
  dsimp only [Option.bind]
  show wpAny M A (match Bytes.find? b #[i.toNat.toUInt8] 0 b.size with | some i => retInt i | none => _) _ E s
  rw [hf]
  exact wpAny_bind (wpAny_mkInt (wpAny_pure ⟨_, rfl, hq⟩))
end
section
variable {prog : Program} {w : World} {A : Around} {E : Value → Shared → Prop} {s : Shared} {b : Array UInt8} {t u : Tok} {i : Int}
theorem in_bytes {r : Bool} {Q : Value → Shared → Prop} (h0 : 0 ≤ i) (h1 : i < 256) (e : b.contains i.toNat.toUInt8 = r) (h : Q (.bool r) s) : wpAny (model prog w) A (compareOp .In (.int i u) (.bytes b t)) Q E s :=
  in_gives (typeIs_bytes s b t) FB.slot_bytes_contains FB.entry_bytes_contains (FB.args_bytes_contains_2 _ _) (gives_contains h0 h1) (by rw [e]; exact h)
theorem method_index {M : Model} {pl : Sem Bool} {Q : Value × List Value → Shared → Prop} (h : Q (.builtin "bytes.index", [.bytes b t]) s) : wpAny M A (getMethod (.bytes b t) "index" pl) Q E s := by
  with_reducible exact KBd.method_of (.bytes b t) (typeIs_bytes _ _ _) slot_index type_index KBd.noRef h
theorem index_bytes {k : Nat} {Q : Value → Shared → Prop} (h0 : 0 ≤ i) (h1 : i < 256) (hb : 1 ≤ b.size) (hf : Bytes.find? b #[i.toNat.toUInt8] 0 b.size = some k) (h : Q (.int k s.toks) { s with toks := s.toks + 1 }) : wpAny (model prog w) A (call (.builtin "bytes.index") [.bytes b t, .int i u]) Q E s :=
  call_gives slot_index (typeIs_bytes s b t) entry_index (args_index _ _) (gives_index h0 h1 hb hf) h
end
theorem natTo (c : UInt8) : ((c.toNat : Int)).toNat.toUInt8 = c := by simp
theorem rowP_has : ∀ d, d < 10 → rowP.toArray.contains (rowP.getD d 0) = true := by decide +kernel
theorem rowP_hasnt : ∀ d, d < 10 → rowP.toArray.contains (rowM.getD d 0) = false := by decide +kernel
theorem rowM_has : ∀ d, d < 10 → rowM.toArray.contains (rowM.getD d 0) = true := by decide +kernel
theorem rowP_at : ∀ d, d < 10 → Bytes.find? rowP.toArray #[rowP.getD d 0] 0 10 = some d := by decide +kernel
theorem rowM_at : ∀ d, d < 10 → Bytes.find? rowM.toArray #[rowM.getD d 0] 0 10 = some d := by decide +kernel
section
variable {prog : Program} {w : World} {A : Around} {E : Value → Shared → Prop} {s : Shared} {t u : Tok} {d : Nat} {Q : Value → Shared → Prop}
theorem u8b (c : UInt8) : (0 : Int) ≤ (c.toNat : Int) ∧ (c.toNat : Int) < 256 := ⟨by omega, by have := UInt8.toNat_lt c; omega⟩
theorem inPP {x : Array UInt8} (hx : x = rowP.toArray) (hd : d < 10) (h : Q (.bool true) s) : wpAny (model prog w) A (compareOp .In (.int ((rowP.getD d 0).toNat : Nat) u) (.bytes x t)) Q E s := by
  subst hx; exact in_bytes (u8b _).1 (u8b _).2 (by rw [natTo]; exact rowP_has d hd) h
theorem inMP {x : Array UInt8} (hx : x = rowP.toArray) (hd : d < 10) (h : Q (.bool false) s) : wpAny (model prog w) A (compareOp .In (.int ((rowM.getD d 0).toNat : Nat) u) (.bytes x t)) Q E s := by
  subst hx; exact in_bytes (u8b _).1 (u8b _).2 (by rw [natTo]; exact rowP_hasnt d hd) h
theorem inMM {x : Array UInt8} (hx : x = rowM.toArray) (hd : d < 10) (h : Q (.bool true) s) : wpAny (model prog w) A (compareOp .In (.int ((rowM.getD d 0).toNat : Nat) u) (.bytes x t)) Q E s := by
  subst hx; exact in_bytes (u8b _).1 (u8b _).2 (by rw [natTo]; exact rowM_has d hd) h
theorem atP {x : Array UInt8} (hx : x = rowP.toArray) (hd : d < 10) (h : Q (.int d s.toks) { s with toks := s.toks + 1 }) : wpAny (model prog w) A (call (.builtin "bytes.index") [.bytes x t, .int ((rowP.getD d 0).toNat : Nat) u]) Q E s := by
  subst hx; exact index_bytes (u8b _).1 (u8b _).2 (by decide) (by rw [natTo]; exact rowP_at d hd) h
theorem atM {x : Array UInt8} (hx : x = rowM.toArray) (hd : d < 10) (h : Q (.int d s.toks) { s with toks := s.toks + 1 }) : wpAny (model prog w) A (call (.builtin "bytes.index") [.bytes x t, .int ((rowM.getD d 0).toNat : Nat) u]) Q E s := by
  subst hx; exact index_bytes (u8b _).1 (u8b _).2 (by decide) (by rw [natTo]; exact rowM_at d hd) h
end
end
section
open PySem.Spec PySem.Calls
set_option maxRecDepth 100000 in
set_option maxHeartbeats 8000000 in
theorem signed_figure_CP (w : World) (mean mg mb) (news) (t : Tok) (d : Nat) (hd : d < 10) : Says w mean mg mb 1 8 193 news [.int ((rowP.getD d 0).toNat : Nat) t] 
   (fun h₀ L m s Q => ∀ (t : Tok) (l : Addr) (h' : Heap) (tk' : Nat), Fr h₀ L h' m → News h₀ L h' ((l, { cls := .type "tuple", data := .seq #[.int d t, .bool false] 0 }) :: news) → (∀ p ∈ news, p.1 < l) → Q (.ref l) { s with heap := h', toks := tk' }) := by
  k_with_none
  w_top off
  k_with "compareOp In int" => (k_here; (with_reducible show wpAny _ _ (compareOp CmpOp.In (Value.int _ _) (Value.bytes _ _)) _ _ _); with_reducible first | refine inPP (by with_unfolding_all rfl) (by assumption) ?_ | refine inMP (by with_unfolding_all rfl) (by assumption) ?_ | refine inMM (by with_unfolding_all rfl) (by assumption) ?_)
  k_with "getMethod bytes" => (k_here; with_reducible refine method_index ?_)
  k_with "call builtin:bytes.index" => (k_here; with_reducible first | refine atP (by with_unfolding_all rfl) (by assumption) ?_ | refine atM (by with_unfolding_all rfl) (by assumption) ?_)
  unfold Says
  k_fill
  intro dp un gd cn cs a ccd cl outer A₀ base h₀ L m s Q E B F X N T hk hdp hun hret
  refine wpAny_call ?_
  k_dflt cell_enter
  k_steps
  all_goals exact hret _ _ _ _ (by k_asm) (by k_asm) (by assumption)
set_option maxRecDepth 100000 in
set_option maxHeartbeats 8000000 in
theorem signed_figure_CM (w : World) (mean mg mb) (news) (t : Tok) (d : Nat) (hd : d < 10) : Says w mean mg mb 1 8 193 news [.int ((rowM.getD d 0).toNat : Nat) t] 
   (fun h₀ L m s Q => ∀ (t : Tok) (l : Addr) (h' : Heap) (tk' : Nat), Fr h₀ L h' m → News h₀ L h' ((l, { cls := .type "tuple", data := .seq #[.int d t, .bool true] 0 }) :: news) → (∀ p ∈ news, p.1 < l) → Q (.ref l) { s with heap := h', toks := tk' }) := by
  k_with_none
  w_top off
  k_with "compareOp In int" => (k_here; (with_reducible show wpAny _ _ (compareOp CmpOp.In (Value.int _ _) (Value.bytes _ _)) _ _ _); with_reducible first | refine inPP (by with_unfolding_all rfl) (by assumption) ?_ | refine inMP (by with_unfolding_all rfl) (by assumption) ?_ | refine inMM (by with_unfolding_all rfl) (by assumption) ?_)
  k_with "getMethod bytes" => (k_here; with_reducible refine method_index ?_)
  k_with "call builtin:bytes.index" => (k_here; with_reducible first | refine atP (by with_unfolding_all rfl) (by assumption) ?_ | refine atM (by with_unfolding_all rfl) (by assumption) ?_)
  unfold Says
  k_fill
  intro dp un gd cn cs a ccd cl outer A₀ base h₀ L m s Q E B F X N T hk hdp hun hret
  refine wpAny_call ?_
  k_dflt cell_enter
  k_steps
  all_goals exact hret _ _ _ _ (by k_asm) (by k_asm) (by assumption)
end
section
open PySem.Spec PySem.Calls
theorem map_back (ds : List Int) : List.map (fun a => a - 48) (ds.map fun a => 48 + a) = ds := by
  rw [List.map_map]
  conv => rhs; rw [← List.map_id ds]
  apply List.map_congr_left
  intro a _
  show 48 + a - 48 = a
  omega
theorem back0 (k : Nat) (u : Int) : List.map (fun a => a - 48) (octs k false u) = (figL k u.natAbs).reverse := by
  rw [octs, if_neg (by decide), map_back]
theorem back1 {k : Nat} {u : Int} : List.map (fun a => a - 48) (octs k true u) = (figL (k - 1) (u.natAbs / 10)).reverse ++ [(((if u < 0 then rowM else rowP).getD (u.natAbs % 10) 0).toNat : Int) - 48] := by
  rw [octs, if_pos rfl, signCodes, List.map_append, map_back]
  rfl
theorem join_snoc (ds : List Int) (d : Int) : join (ds ++ [d]) = 10 * join ds + d := by
  unfold join
  rw [List.foldl_append]
  rfl
theorem join_fig : ∀ k n, join (figL k n).reverse = ((n % 10 ^ k : Nat) : Int)
  | 0, n => by rw [figL, Nat.pow_zero, Nat.mod_one]; rfl
  | k + 1, n => by
    rw [figL, List.reverse_cons, join_snoc, join_fig k (n / 10), Nat.pow_succ, Nat.mul_comm (10 ^ k) 10, Nat.mod_mul]
    omega
theorem ints_octs (k : Nat) (sg : Bool) (u : Int) : KBw.bInts (byteArr (octs k sg u)) = octs k sg u := KBa.ints_make (octs_in k sg u)
theorem byte_get {ns : List Int} (h : KBa.In ns) {i : Nat} (hi : i < ns.length) : ((((ns.map fun n : Int => n.toNat.toUInt8).getD i 0).toNat : Nat) : Int) = ns.getD i 0 := by
  have e := KBa.ints_make h
  have e2 : (KBw.bInts (byteArr ns))[i]? = ns[i]? := by rw [e]
  have e3 : KBw.bInts (byteArr ns) = (ns.map fun n : Int => n.toNat.toUInt8).map fun c => ((c.toNat : Nat) : Int) := rfl
  rw [e3, List.getElem?_map] at e2
  rw [List.getD_eq_getElem?_getD, List.getD_eq_getElem?_getD, ← e2]
  have hl : i < (ns.map fun n : Int => n.toNat.toUInt8).length := by rw [List.length_map]; exact hi
  rw [List.getElem?_eq_getElem hl]
  rfl
theorem oct_at {k : Nat} {u : Int} (hk : 1 ≤ k) : (octs k true u).getD (k - 1) 0 = (((if u < 0 then rowM else rowP).getD (u.natAbs % 10) 0).toNat : Int) := by
  rw [octs, if_pos rfl, signCodes, List.getD_eq_getElem?_getD, List.getElem?_append_right (by rw [List.length_map, figR_len]; exact Nat.le_refl _), List.length_map, figR_len, Nat.sub_self]
  rfl
section
variable {prog : Program} {w : World} {A : Around} {E : Value → Shared → Prop} {s : Shared}
theorem oct_last {k : Nat} {u i : Int} {t ui : Tok} {value slice : Expr} {Q : Value → Shared → Prop} (hk : 1 ≤ k) (hk2 : k ≤ 100) (e : i = (k : Int) - 1) (h : Q (.int (((if u < 0 then rowM else rowP).getD (u.natAbs % 10) 0).toNat : Nat) s.toks) { s with toks := s.toks + 1 })
    (hs : subscripted slice false (.bytes (byteArr (octs k true u)) t) (.int i ui) = operate [.bytes (byteArr (octs k true u)) t, .int i ui] (getItem (.bytes (byteArr (octs k true u)) t) (.int i ui)) := by with_unfolding_all rfl)
    (ht : ∀ r, letTemporaryGo value (.bytes (byteArr (octs k true u)) t) r = pure () := by intro _; with_unfolding_all rfl) :
    wpAny (model prog w) A (subscriptTail value slice (.bytes (byteArr (octs k true u)) t) (.int i ui)) Q E s := by
  have hl : (octs k true u).length = k := octs_len true u hk
  have hb := byte_get (octs_in k true u) (i := k - 1) (by omega)
  rw [oct_at hk] at hb
  have hx : ((octs k true u).map fun n : Int => n.toNat.toUInt8).length = k := by rw [List.length_map, hl]
  revert hs ht
  unfold byteArr
  revert hb hx
  generalize ((octs k true u).map fun n : Int => n.toNat.toUInt8) = x
  intro hb hx hs ht
  have ei : i.toNat = k - 1 := by omega
  refine KBy.item_N (x := x) (i := i) (ui := ui) (t := t) (by omega) (by omega) (by omega) ?_ hs ht
  rw [ei, hb]
  exact h
end
theorem set_back {digits m : Int} {n : Nat} (h : 1 ≤ digits) : ((figL (digits.toNat - 1) (n / 10)).reverse ++ [m]).set (digits - 1).toNat ((n % 10 : Nat) : Int) = (figL digits.toNat n).reverse := by
  have e : (digits - 1).toNat = (figL (digits.toNat - 1) (n / 10)).reverse.length := by rw [figR_len]; omega
  rw [e, List.set_append_right _ _ (Nat.le_refl _), Nat.sub_self, figR_snoc digits.toNat n (by omega)]
  rfl
theorem back_len {digits m : Int} {n : Nat} {vs : List Value} (h : 1 ≤ digits) (_ : IntsAre vs ((figL (digits.toNat - 1) n).reverse ++ [m])) : ((((figL (digits.toNat - 1) n).reverse ++ [m]).length : Nat) : Int) = digits := by
  rw [List.length_append, figR_len]
  simp
  omega
theorem news_swap {h₀ h : Heap} {L : Addr} {a b : Addr × Obj} {r : List (Addr × Obj)} (N : News h₀ L h (a :: b :: r)) : News h₀ L h (b :: a :: r) := fun p hp => by
  rcases List.mem_cons.mp hp with rfl | hp
  · exact N _ (.tail _ (.head _))
  · rcases List.mem_cons.mp hp with rfl | hp
    · exact N _ (.head _)
    · exact N _ (.tail _ (.tail _ hp))
theorem news_swap2 {h₀ h : Heap} {L : Addr} {a b c : Addr × Obj} {r : List (Addr × Obj)} (N : News h₀ L h (a :: b :: c :: r)) : News h₀ L h (c :: a :: b :: r) := fun p hp => by
  rcases List.mem_cons.mp hp with rfl | hp
  · exact N _ (.tail _ (.tail _ (.head _)))
  · rcases List.mem_cons.mp hp with rfl | hp
    · exact N _ (.head _)
    · rcases List.mem_cons.mp hp with rfl | hp
      · exact N _ (.tail _ (.head _))
      · exact N _ (.tail _ (.tail _ (.tail _ hp)))
theorem off_head' {D a : Addr} {o : Obj} {news : List (Addr × Obj)} (h : OwnOff ((a, o) :: news) [D]) : @Ne Nat a D := off_head h
end
section
open PySem.Spec PySem.Calls
set_option maxRecDepth 100000 in
set_option maxHeartbeats 8000000 in
theorem display_units_C0 (w : World) (mean mg mb) (news) (digits scale units : Int) (tb : Tok) (k : Nat → Tok) (x d : Addr) (h0 : 0 ≤ digits) (h1 : digits ≤ 40) (hd1 : 1 ≤ digits) : Says w mean mg mb 3 24 198 ((x, instObj 53 d) :: (d, shapeD w digits digits scale false k) :: news) [.ref x, .bytes (byteArr (octs digits.toNat false units)) tb] 
   (fun h₀ L m s Q => ∀ (v : Int) (t : Tok) (h' : Heap) (tk' : Nat), v = ((units.natAbs % 10 ^ digits.toNat : Nat) : Int) → Fr h₀ L h' m → News h₀ L h' ((x, instObj 53 d) :: (d, shapeD w digits digits scale false k) :: news) → Q (.int v t) { s with heap := h', toks := tk' }) := by
  k_with_none
  w_top off
  k_with "execs cons" => (k_here; refine gen_toks fun tk9 => wpAny_execs_cons ?_; (try dsimp only))
  k_with "k_room" => ((try simp only [depth_mark, depth_under_make, depth_under_kw, depth_in1, depth_deeper, depth_caller]); (try dsimp only [ktrTop]); omega)
  k_with "eval ListComp" => (k_here; (with_reducible refine my_ListComp (cl := []) (fun a => a - 48) ?hclos ?hcell ?hkind ?hnames ?hx ?hs ?_); (case hclos => with_unfolding_all rfl); (case hcell => decide); (case hkind => with_unfolding_all rfl); (case hnames => decide); (case hx => with_unfolding_all rfl); (case hs => intro _; with_unfolding_all rfl))
  k_with "Exists" => (k_here; with_unfolding_all refine' midE_bytes ?hh ?hF ?hN ?hi ?hz ?_ ?_; (case hh => rfl); (case hF => k_asm); (case hN => k_asm); (case hi => exact ints_octs _ _ _); (case hz => rw [octs_len _ _ (by omega), sizeLine_eq]; omega); (rotate_left; (intro D9 ys9 c9 h9 tk9 F9 N9 off9 hi9; (try dsimp only); rw [back0] at hi9; (have offa := off_head' off9); (have offb := off_head' (off_tail off9)); (have offc := off_tail (off_tail off9))); rotate_left; ((with_reducible rename Fr _ _ _ _ => fr9); (have X9 := Frag.In.keeps (by assumption) (Fr.keep fr9)); (have T9 := Top.keeps (by assumption) (Fr.keep fr9)); intro C9 a9 t9 s9 m9 E9 ha9 F9 hm9; (try k_fold))))
  k_with "EltEnd" => exact EltEnd.intro (by first | rfl | omega) (fun _ _ e => e)
  k_with "eval Name" => (k_here; (with_reducible show wpAny _ _ (eval (Expr.Name _ _) (compEnvC _ _ _ _)) _ _ _); refine' ldC ?k1 ?k2 ?_; (case k1 => k_asm); (case k2 => k_asm))
  k_with "call ref" => (k_here; (with_reducible show wpAny _ _ (call (.ref 186) _) _ _ _); with_unfolding_all refine' says_use (joined_figures_C _ _ _ _ _ _ _ _ _ ?p0 ?p1 ?p2) ?k1 ?k2 ?k3 ?k4 ?k5 ?kK ?kd ?ku ?_; (case k1 => k_asm); (case k2 => k_asm); (case k3 => k_asm); (case k4 => exact news_swap (by assumption)); (case k5 => k_asm); (case kK => first | exact rfl | assumption); (case p0 => assumption); (case p1 => exact figR_in _ _); (case p2 => k_all); (case kd => first | (k_dflt exact room_of (by assumption) (by decide)) | ktr_room); (case ku => first | (k_dflt exact units_of (by assumption) (by decide)) | ktr_units); intro t9 h9 tk9 F9 N9; (try dsimp only))
  unfold Says
  k_fill
  intro dp un gd cn cs a ccd cl outer A₀ base h₀ L m s Q E B F X N T hk hdp hun hret
  refine wpAny_call ?_
  k_dflt cell_enter
  k_steps
  all_goals exact hret _ _ _ _ (join_fig _ _) (by k_asm) (by first | k_asm | (refine' cb_drop ?cbN ?cbS; (case cbN => assumption); (case cbS => kcj_all)))
end
section
open PySem.Spec PySem.Calls
theorem ret_v {h₀ h' : Heap} {L : Addr} {m : Str → Option Value} {news : List (Addr × Obj)} {s : Shared} {Q : Value → Shared → Prop} {r v : Int} {t : Tok} {tk' : Nat}
    (hret : ∀ (v : Int) (t : Tok) (h' : Heap) (tk' : Nat), v = r → Fr h₀ L h' m → News h₀ L h' news → Q (.int v t) { s with heap := h', toks := tk' }) (e : v = r) (F : Fr h₀ L h' m) (N : News h₀ L h' news) : Q (.int v t) { s with heap := h', toks := tk' } := hret v t h' tk' e F N
theorem v_neg {u : Int} {k n : Nat} (h : u < 0) : 0 - join (figL k n).reverse = (if u < 0 then 0 - ((n % 10 ^ k : Nat) : Int) else ((n % 10 ^ k : Nat) : Int)) := by rw [if_pos h, join_fig]
theorem v_pos {u : Int} {k n : Nat} (h : ¬ u < 0) : join (figL k n).reverse = (if u < 0 then 0 - ((n % 10 ^ k : Nat) : Int) else ((n % 10 ^ k : Nat) : Int)) := by rw [if_neg h, join_fig]
theorem signed_figure_C (w : World) (mean mg mb) (news) (t : Tok) (d : Nat) (hd : d < 10) (u : Int) : Says w mean mg mb 1 8 193 news [.int (((if u < 0 then rowM else rowP).getD d 0).toNat : Nat) t] 
   (fun h₀ L m s Q => ∀ (t : Tok) (l : Addr) (h' : Heap) (tk' : Nat), Fr h₀ L h' m → News h₀ L h' ((l, { cls := .type "tuple", data := .seq #[.int d t, .bool (decide (u < 0))] 0 }) :: news) → (∀ p ∈ news, p.1 < l) → Q (.ref l) { s with heap := h', toks := tk' }) := by
  by_cases h : u < 0
  · rw [if_pos h, decide_eq_true h]; exact signed_figure_CM w mean mg mb news t d hd
  · rw [if_neg h, decide_eq_false h]; exact signed_figure_CP w mean mg mb news t d hd
set_option maxRecDepth 100000 in
set_option maxHeartbeats 8000000 in
theorem display_units_C1 (w : World) (mean mg mb) (news) (digits scale units : Int) (tb : Tok) (k : Nat → Tok) (x d : Addr) (h0 : 0 ≤ digits) (h1 : digits ≤ 40) (hd1 : 1 ≤ digits) : Says w mean mg mb 3 24 198 ((x, instObj 53 d) :: (d, shapeD w digits digits scale true k) :: news) [.ref x, .bytes (byteArr (octs digits.toNat true units)) tb] 
   (fun h₀ L m s Q => ∀ (v : Int) (t : Tok) (h' : Heap) (tk' : Nat), v = (if units < 0 then 0 - ((units.natAbs % 10 ^ digits.toNat : Nat) : Int) else ((units.natAbs % 10 ^ digits.toNat : Nat) : Int)) → Fr h₀ L h' m → News h₀ L h' ((x, instObj 53 d) :: (d, shapeD w digits digits scale true k) :: news) → Q (.int v t) { s with heap := h', toks := tk' }) := by
  k_with_none
  w_top off
  k_with "execs cons" => (k_here; refine gen_toks fun tk9 => wpAny_execs_cons ?_; (try dsimp only))
  k_with "k_room" => ((try simp only [depth_mark, depth_under_make, depth_under_kw, depth_in1, depth_deeper, depth_caller]); (try dsimp only [ktrTop]); omega)
  k_with "subscriptTail" => (k_here; (with_reducible show wpAny _ _ (subscriptTail _ _ (Value.bytes _ _) (Value.int _ _)) _ _ _); refine' oct_last ?f ?a ?b ?_; (case f => omega); (case a => omega); (case b => omega))
  k_with "setItem ref int" => (k_here; (with_reducible show wpAny _ _ (setItem (Value.ref _) (Value.int _ _) (Value.int _ _)) _ _ _); k_dflt (refine' ksa_set ?k1 ?k2 ?k3 ?k4 ?k5 ?k6 ?k7 ?_; (case k1 => k_asm); (case k2 => k_asm); (case k3 => k_upd); (case k4 => with_reducible assumption); (case k5 => omega); (case k6 => omega); (case k7 => omega); k_whole); intro h' F' N' hi' hl' hs'; (try k_sweep); rw [set_back (by assumption)] at hi'; clear hs' hl')
  k_with "eval ListComp" => (k_here; (with_reducible refine my_ListComp (cl := []) (fun a => a - 48) ?hclos ?hcell ?hkind ?hnames ?hx ?hs ?_); (case hclos => with_unfolding_all rfl); (case hcell => decide); (case hkind => with_unfolding_all rfl); (case hnames => decide); (case hx => with_unfolding_all rfl); (case hs => intro _; with_unfolding_all rfl))
  k_with "Exists" => (k_here; with_unfolding_all refine' midE_bytes ?hh ?hF ?hN ?hi ?hz ?_ ?_; (case hh => rfl); (case hF => k_asm); (case hN => k_asm); (case hi => exact ints_octs _ _ _); (case hz => rw [octs_len _ _ (by omega), sizeLine_eq]; omega); (rotate_left; (intro D9 ys9 c9 h9 tk9 F9 N9 off9 hi9; (try dsimp only); rw [back1] at hi9; (have hL9 := back_len (by assumption) hi9); (have offa := off_head' off9); (have offb := off_head' (off_tail off9)); (have offc := off_tail (off_tail off9))); rotate_left; ((with_reducible rename Fr _ _ _ _ => fr9); (have X9 := Frag.In.keeps (by assumption) (Fr.keep fr9)); (have T9 := Top.keeps (by assumption) (Fr.keep fr9)); intro C9 a9 t9 s9 m9 E9 ha9 F9 hm9; (try k_fold))))
  k_with "EltEnd" => exact EltEnd.intro (by first | rfl | omega) (fun _ _ e => e)
  k_with "eval Name" => (k_here; (with_reducible show wpAny _ _ (eval (Expr.Name _ _) (compEnvC _ _ _ _)) _ _ _); refine' ldC ?k1 ?k2 ?_; (case k1 => k_asm); (case k2 => k_asm))
  k_with "call ref" => (k_here; (with_reducible show wpAny _ _ (call (.ref 186) _) _ _ _); with_unfolding_all refine' says_use (joined_figures_C _ _ _ _ _ _ _ _ _ ?p0 ?p1 ?p2) ?k1 ?k2 ?k3 ?k4 ?k5 ?kK ?kd ?ku ?_; (case k1 => k_asm); (case k2 => k_asm); (case k3 => k_asm); (case k4 => exact news_swap2 (by assumption)); (case k5 => k_asm); (case kK => first | exact rfl | assumption); (case p0 => assumption); (case p1 => exact figR_in _ _); (case p2 => k_all); (case kd => first | (k_dflt exact room_of (by assumption) (by decide)) | ktr_room); (case ku => first | (k_dflt exact units_of (by assumption) (by decide)) | ktr_units); intro t9 h9 tk9 F9 N9; (try dsimp only))
  k_with "call ref" => (k_here; (with_reducible show wpAny _ _ (call (.ref 193) _) _ _ _); with_unfolding_all refine' says_use (signed_figure_C _ _ _ _ _ _ _ ?p0 _) ?k1 ?k2 ?k3 ?k4 ?k5 ?kK ?kd ?ku ?_; (case k1 => k_asm); (case k2 => k_asm); (case k3 => k_asm); (case k4 => k_asm); (case k5 => k_asm); (case kK => first | exact rfl | assumption); (case p0 => omega); (case kd => first | (k_dflt exact room_of (by assumption) (by decide)) | ktr_room); (case ku => first | (k_dflt exact units_of (by assumption) (by decide)) | ktr_units); intro t9 l9 h9 tk9 F9 N9 hl9; k_lt hl9; (try dsimp only))
  unfold Says
  k_fill
  intro dp un gd cn cs a ccd cl outer A₀ base h₀ L m s Q E B F X N T hk hdp hun hret
  refine wpAny_call ?_
  k_dflt cell_enter
  k_steps
  all_goals (refine' ret_v (Q := Q) (s := s) hret ?e1 ?e2 ?e3; (case e2 => k_asm); (case e3 => first | k_asm | (refine' cb_drop ?cbN ?cbS; (case cbN => assumption); (case cbS => kcj_all))); (case e1 => first | exact v_neg (of_decide_eq_true (by assumption)) | exact v_neg (by assumption) | exact v_pos (of_decide_eq_false (by assumption)) | exact v_pos (by assumption)))
end
section
open PySem.Spec PySem.Calls
theorem says_mono {w : World} {mean : ExcName → Option Value} {mg mb : Str → Option Value} {D U : Nat} {f : Addr} {news : List (Addr × Obj)} {vs : List Value}
    {ret ret' : Heap → Addr → (Str → Option Value) → Shared → (Value → Shared → Prop) → Prop} (C : Says w mean mg mb D U f news vs ret) (h : ∀ h₀ L m s Q, ret' h₀ L m s Q → ret h₀ L m s Q) : Says w mean mg mb D U f news vs ret' :=
  fun dp un gd cn cs a ccd cl outer A₀ base h₀ L m s Q E k1 k2 k3 k4 k5 kK kd ku kR => C dp un gd cn cs a ccd cl outer A₀ base h₀ L m s Q E k1 k2 k3 k4 k5 kK kd ku (h _ _ _ _ _ kR)
/-- what fits into a shape -/
structure Fits (digits : Int) (sg : Bool) (u : Int) : Prop where
  lt : u.natAbs < 10 ^ digits.toNat
  sgn : sg = true ∨ 0 ≤ u
theorem kept_fits (digits : Int) (sg : Bool) (units : Int) : Fits digits sg (kept digits sg units) := by
  have hp : 0 < 10 ^ digits.toNat := Nat.pow_pos (by decide)
  have h1 : (units.natAbs : Int) % 10 ^ digits.toNat = ((units.natAbs % 10 ^ digits.toNat : Nat) : Int) := by
    rw [Int.natCast_emod, Int.natCast_pow]; rfl
  have h2 := Nat.mod_lt units.natAbs hp
  unfold kept
  rw [h1]
  constructor
  · split <;> omega
  · split
    · rename_i h; exact .inl h.2
    · right; omega
theorem display_units_C (w : World) (mean mg mb) (news) (digits scale u : Int) (tb : Tok) (sg : Bool) (k : Nat → Tok) (x d : Addr) (h0 : 0 ≤ digits) (h1 : digits ≤ 40) (hd1 : 1 ≤ digits) (hf : Fits digits sg u) : Says w mean mg mb 3 24 198 ((x, instObj 53 d) :: (d, shapeD w digits digits scale sg k) :: news) [.ref x, .bytes (byteArr (octs digits.toNat sg u)) tb] 
   (fun h₀ L m s Q => ∀ (t : Tok) (h' : Heap) (tk' : Nat), Fr h₀ L h' m → News h₀ L h' ((x, instObj 53 d) :: (d, shapeD w digits digits scale sg k) :: news) → Q (.int u t) { s with heap := h', toks := tk' }) := by
  cases sg
  · refine says_mono (display_units_C0 w mean mg mb news digits scale u tb k x d h0 h1 hd1) fun h₀ L m s Q hq v t h' tk' e F N => ?_
    have : v = u := by
      rw [e, Nat.mod_eq_of_lt hf.lt]
      have := hf.sgn.resolve_left (by decide)
      omega
    rw [this]; exact hq t h' tk' F N
  · refine says_mono (display_units_C1 w mean mg mb news digits scale u tb k x d h0 h1 hd1) fun h₀ L m s Q hq v t h' tk' e F N => ?_
    have : v = u := by
      rw [e, Nat.mod_eq_of_lt hf.lt]
      split <;> omega
    rw [this]; exact hq t h' tk' F N
set_option maxRecDepth 100000 in
set_option maxHeartbeats 8000000 in
theorem units_in_C (w : World) (mean mg mb) (news) (digits scale u : Int) (tb : Tok) (sg : Bool) (k : Nat → Tok) (x d : Addr) (h0 : 0 ≤ digits) (h1 : digits ≤ 40) (hd1 : 1 ≤ digits) (hf : Fits digits sg u) : Says w mean mg mb 4 32 219 ((x, instObj 53 d) :: (d, shapeD w digits digits scale sg k) :: news) [.ref x, .bytes (byteArr (octs digits.toNat sg u)) tb] 
   (fun h₀ L m s Q => ∀ (t : Tok) (h' : Heap) (tk' : Nat), Fr h₀ L h' m → News h₀ L h' ((x, instObj 53 d) :: (d, shapeD w digits digits scale sg k) :: news) → Q (.int u t) { s with heap := h', toks := tk' }) := by
  k_with_none
  w_top off
  k_with "call builtin:len" => (k_here; (with_reducible show wpAny _ _ (call (Value.builtin "len") [Value.bytes _ _]) _ _ _); refine KBw.len_K (ints_octs _ _ _) ?hl ?_; (case hl => (rw [octs_len _ _ (by omega)]; omega)); rw [octs_len _ _ (by omega)])
  k_with "call ref" => (k_here; (with_reducible show wpAny _ _ (call (.ref 198) _) _ _ _); with_unfolding_all refine' says_use (display_units_C _ _ _ _ _ _ _ _ _ _ _ _ _ ?p0 ?p1 ?p2 ?p3) ?k1 ?k2 ?k3 ?k4 ?k5 ?kK ?kd ?ku ?_; (case k1 => k_asm); (case k2 => k_asm); (case k3 => k_asm); (case k4 => k_asm); (case k5 => k_asm); (case kK => first | exact rfl | assumption); (case p0 => assumption); (case p1 => assumption); (case p2 => assumption); (case p3 => assumption); (case kd => first | (k_dflt exact room_of (by assumption) (by decide)) | ktr_room); (case ku => first | (k_dflt exact units_of (by assumption) (by decide)) | ktr_units); intro t9 h9 tk9 F9 N9; (try dsimp only))
  k_with "call ref" => (k_here; (with_reducible show wpAny _ _ (call (.ref 139) _) _ _ _); exfalso; omega)
  unfold Says
  k_fill
  intro dp un gd cn cs a ccd cl outer A₀ base h₀ L m s Q E B F X N T hk hdp hun hret
  refine wpAny_call ?_
  k_dflt cell_enter
  k_steps
  all_goals exact hret _ _ _ (by k_asm) (by k_asm)
end
section
open PySem.Spec PySem.Calls
theorem norm_stop {scale u k : Int} (h0 : 0 ≤ scale) (hn : scale = 0 ∨ u.fmod 10 ≠ 0) (hk : k ≤ scale) (h1 : min scale 0 ≤ k)
    (a2 : ∀ (j : Int), k < j → j ≤ scale → (if 0 < j then if ((accDown (fun k x => x.fdiv 10) scale u j).fmod 10 == 0) = true then true else false else false) = true) : k = scale := by
  rcases Int.lt_or_eq_of_le hk with h | h
  · have := a2 scale h (Int.le_refl _)
    rw [accDown_start] at this
    rcases hn with hn | hn
    · subst hn
      rw [if_neg (by omega)] at this
      cases this
    · by_cases hp : 0 < scale
      · rw [if_pos hp] at this
        rw [if_neg (by simpa using hn)] at this
        cases this
      · rw [if_neg hp] at this
        cases this
  · exact h
theorem ret_dec {h₀ h' : Heap} {L l : Addr} {m : Str → Option Value} {news : List (Addr × Obj)} {s : Shared} {Q : Value → Shared → Prop} {scale u k : Int} {t u' : Tok} {tk' : Nat}
    (hret : ∀ (t1 t2 : Tok) (l : Addr) (h' : Heap) (tk' : Nat), Fr h₀ L h' m → News h₀ L h' ((l, { cls := .type "tuple", data := .seq #[.int u t1, .int scale t2] 0 }) :: news) → (∀ p ∈ news, p.1 < l) → Q (.ref l) { s with heap := h', toks := tk' })
    (h0 : 0 ≤ scale) (hn : scale = 0 ∨ u.fmod 10 ≠ 0) (hk : k ≤ scale) (h1 : min scale 0 ≤ k)
    (a2 : ∀ (j : Int), k < j → j ≤ scale → (if 0 < j then if ((accDown (fun k x => x.fdiv 10) scale u j).fmod 10 == 0) = true then true else false else false) = true)
    (F : Fr h₀ L h' m) (N : News h₀ L h' ((l, { cls := .type "tuple", data := .seq #[vInt (accDown (fun k x => x.fdiv 10) scale u k) u', .int k t] 0 }) :: news)) (lt : AllLt l news) : Q (.ref l) { s with heap := h', toks := tk' } := by
  have e := norm_stop h0 hn hk h1 a2
  subst e
  rw [accDown_start] at N
  exact hret _ _ _ _ _ F N (ktn_ltOf lt)
set_option maxRecDepth 100000 in
set_option maxHeartbeats 8000000 in
theorem number_in_C (w : World) (mean mg mb) (news) (digits scale u : Int) (tb : Tok) (sg : Bool) (k : Nat → Tok) (x d : Addr) (h0 : 0 ≤ digits) (h1 : digits ≤ 40) (hd1 : 1 ≤ digits) (hf : Fits digits sg u) (hs0 : 0 ≤ scale) (hs1 : scale = 0 ∨ u.fmod 10 ≠ 0) : Says w mean mg mb 5 40 226 ((x, instObj 53 d) :: (d, shapeD w digits digits scale sg k) :: news) [.ref x, .bytes (byteArr (octs digits.toNat sg u)) tb] 
   (fun h₀ L m s Q => ∀ (t1 t2 : Tok) (l : Addr) (h' : Heap) (tk' : Nat), Fr h₀ L h' m → News h₀ L h' ((l, { cls := .type "tuple", data := .seq #[.int u t1, .int scale t2] 0 }) :: (x, instObj 53 d) :: (d, shapeD w digits digits scale sg k) :: news) → (∀ p ∈ (x, instObj 53 d) :: (d, shapeD w digits digits scale sg k) :: news, p.1 < l) → Q (.ref l) { s with heap := h', toks := tk' }) := by
  k_with_none
  w_top off
  k_with "k_room" => ((try simp only [depth_mark, depth_under_make, depth_under_kw, depth_in1, depth_deeper, depth_caller]); (try dsimp only [ktrTop]); omega)
  k_with "call ref" => (k_here; (with_reducible show wpAny _ _ (call (.ref 219) _) _ _ _); with_unfolding_all refine' says_use (units_in_C _ _ _ _ _ _ _ _ _ _ _ _ _ ?p0 ?p1 ?p2 ?p3) ?k1 ?k2 ?k3 ?k4 ?k5 ?kK ?kd ?ku ?_; (case k1 => k_asm); (case k2 => k_asm); (case k3 => k_asm); (case k4 => k_asm); (case k5 => k_asm); (case kK => first | exact rfl | assumption); (case p0 => assumption); (case p1 => assumption); (case p2 => assumption); (case p3 => assumption); (case kd => first | (k_dflt exact room_of (by assumption) (by decide)) | ktr_room); (case ku => first | (k_dflt exact units_of (by assumption) (by decide)) | ktr_units); intro t9 h9 tk9 F9 N9; (try dsimp only))
  unfold Says
  k_fill
  intro dp un gd cn cs a ccd cl outer A₀ base h₀ L m s Q E B F X N T hk hdp hun hret
  refine wpAny_call ?_
  k_dflt cell_enter
  k_steps
  all_goals exact ret_dec (Q := Q) (s := s) hret hs0 hs1 (by assumption) (by assumption) (by assumption) (by k_asm) (by k_asm) (by assumption)
end
section
open PySem.Spec PySem.Calls
theorem figL_zero : ∀ k, figL k 0 = List.replicate k 0
  | 0 => rfl
  | k + 1 => by rw [figL, Nat.zero_div, figL_zero k]; rfl
theorem nd_pos (n : Nat) : 1 ≤ nd n := by
  by_cases h : n < 10
  · rw [nd_small h]; omega
  · rw [nd_big h]; omega
/-- all figures of n, then noughts -/
theorem figL_lds : ∀ (k n : Nat), nd n ≤ k → figL k n = lds n ++ List.replicate (k - nd n) 0 := by
  intro k
  induction k with
  | zero => intro n h; have := nd_pos n; omega
  | succ k ih =>
    intro n h
    by_cases h10 : n < 10
    · rw [figL, nd_small h10, lds_small h10, show n / 10 = 0 by omega, figL_zero, Nat.mod_eq_of_lt h10]
      rfl
    · rw [nd_big h10] at h ⊢
      rw [figL, lds_big h10, ih (n / 10) (by omega), List.cons_append, show k + 1 - (nd (n / 10) + 1) = k - nd (n / 10) by omega]
theorem lds_in (n : Nat) : ∀ v ∈ lds n, 0 ≤ v ∧ v ≤ 9 := fun v hv => by
  have e := figL_lds (nd n) n (Nat.le_refl _)
  rw [Nat.sub_self, List.replicate_zero, List.append_nil] at e
  exact figL_in (nd n) n v (e ▸ hv)
theorem ldsR_of {vs : List Value} {n : Nat} (_ : IntsAre vs (lds n).reverse) : ∀ v ∈ (lds n).reverse, 0 ≤ v ∧ v ≤ 9 := fun v h => lds_in n v (List.mem_reverse.mp h)
theorem ldsR_lenOf {vs : List Value} {n : Nat} (_ : IntsAre vs (lds n).reverse) : (lds n).reverse.length = nd n := by rw [List.length_reverse]; rfl
theorem codes_eq {k n j : Nat} (h : nd n ≤ k) (hj : j = k - nd n) : List.replicate j (48 : Int) ++ (lds n).reverse.map (fun a => 48 + a) = (figL k n).reverse.map (fun a => 48 + a) := by
  rw [figL_lds k n h, List.reverse_append, List.map_append, List.reverse_replicate, List.map_replicate, hj]
  rfl
/-- a number below 10^k has at most k figures, and one that is not has more -/
theorem nd_le : ∀ (k n : Nat), 1 ≤ k → n < 10 ^ k → nd n ≤ k := by
  intro k
  induction k with
  | zero => intro n h; omega
  | succ k ih =>
    intro n _ h
    by_cases h10 : n < 10
    · rw [nd_small h10]; omega
    · rw [nd_big h10]
      rw [Nat.pow_succ] at h
      have : 1 ≤ k := by
        cases k with
        | zero => simp at h; omega
        | succ k => omega
      have := ih (n / 10) this (by omega)
      omega
theorem lt_nd : ∀ (n : Nat), n < 10 ^ nd n := by
  intro n
  induction n using Nat.strongRecOn with
  | _ n ih =>
    by_cases h10 : n < 10
    · rw [nd_small h10]; simpa using h10
    · rw [nd_big h10, Nat.pow_succ]
      have := ih (n / 10) (by omega)
      omega
theorem plus_minus (a : Int) : 48 + a - 48 = a := by omega
theorem laid_eq {many : Int} {n : Nat} (h : (nd n : Int) ≤ many) : (List.replicate (many - ((lds n).reverse.length : Int)).toNat [(48 : Int)]).flatten ++ List.map (fun a => 48 + a) (lds n).reverse = (figL many.toNat n).reverse.map (fun a => 48 + a) := by
  rw [List.flatten_replicate_singleton]
  refine codes_eq (by omega) ?_
  have : (lds n).reverse.length = nd n := by rw [List.length_reverse]; rfl
  omega
theorem laid_snoc {many : Int} {n : Nat} (h : (nd n : Int) ≤ many) : (List.replicate (many - ((lds n).reverse.length : Int)).toNat [(48 : Int)]).flatten ++ List.map (fun a => 48 + a) (lds n).reverse = (figL (many.toNat - 1) (n / 10)).reverse.map (fun a => 48 + a) ++ [48 + ((n % 10 : Nat) : Int)] := by
  have := nd_pos n
  rw [laid_eq h, figR_snoc many.toNat n (by omega), List.map_append]
  rfl
section
variable {prog : Program} {w : World} {A : Around} {E : Value → Shared → Prop} {s : Shared} {h₀ : Heap} {L D : Addr} {m : PySem.Str → Option Value} {news news' : List (Addr × Obj)} {vs : List Value} {ns pre : List Int} {n : Nat} {z x : Int} {t u : Tok}
theorem get_m1 {value slice : Expr} {Q : Value → Shared → Prop} (N : News h₀ L s.heap news) (hm : (D, listOf vs.toArray n) ∈ news) (hi : IntsAre vs ns) (hns : ns = pre ++ [z]) (h : ∀ t, Q (.int z t) s)
    (hs : subscripted slice false (.ref D) (.int (-1) u) = operate [.ref D, .int (-1) u] (getItem (.ref D) (.int (-1) u)) := by with_unfolding_all rfl) (hg : ∀ r, letTemporaryGo value (.ref D) r = pure () := by intro _; with_unfolding_all rfl) :
    wpAny (model prog w) A (subscriptTail value slice (.ref D) (.int (-1) u)) Q E s := by
  subst hns
  have hl : vs.length = pre.length + 1 := by rw [hi.length, List.length_append]; rfl
  have hlt : pre.length < vs.length := by omega
  obtain ⟨i, t, e, hz⟩ := IntsAre.at hi pre.length vs[pre.length] (List.getElem?_eq_getElem hlt)
  rw [List.getElem?_append_right (Nat.le_refl _), Nat.sub_self] at hz
  have hz' : z = i := by simpa using hz
  subst hz'
  refine kim_back N hm rfl rfl (by decide) (by omega) (by decide) (x := .int z t) ?_ (h t) hs hg
  rw [show ((-1 : Int) + (vs.length : Int)).toNat = pre.length by omega, List.getElem?_eq_getElem hlt, e]
theorem set_m1 {Q : Unit → Shared → Prop} (F : Fr h₀ L s.heap m) (N : News h₀ L s.heap news) (U : Upd D (listOf vs.toArray n) (listOf (vs.set (vs.length - 1) (.int x u)).toArray n) news news') (hi : IntsAre vs ns) (hns : ns = pre ++ [z])
    (h : ∀ h', Fr h₀ L h' m → News h₀ L h' news' → IntsAre (vs.set (vs.length - 1) (.int x u)) (pre ++ [x]) → Q () { s with heap := h' }) :
    wpAny (model prog w) A (setItem (.ref D) (.int (-1) t) (.int x u)) Q E s := by
  subst hns
  have hl : vs.length = pre.length + 1 := by rw [hi.length, List.length_append]; rfl
  obtain ⟨pr, post, rfl, rfl, a, b⟩ := U.split
  have z' := N (D, listOf vs.toArray n) (List.mem_append.mpr (.inr (.head _)))
  have hsz : vs.toArray.size = vs.length := List.size_toArray
  have e : ((-1 : Int) + (vs.toArray.size : Int)).toNat = vs.length - 1 := by rw [hsz]; omega
  have hI : IntsAre (vs.set (vs.length - 1) (.int x u)) (pre ++ [x]) := by
    have q := ints_set (x := x) (u := u) hi (vs.length - 1)
    rw [show vs.length - 1 = pre.length by omega, List.set_append_right _ _ (Nat.le_refl _), Nat.sub_self] at q
    rw [show vs.length - 1 = pre.length by omega]
    exact q
  refine ki_setBack z'.1 (by decide) (by rw [hsz]; omega) (by decide) (h _ (F.change (Heap.SameBut.update ..) z'.2.1 z'.2.2) (ki_turn _ N a b ?_ ?_) hI)
  · rw [e]
    apply Array.toList_inj.mp
    simp
  · simp
theorem make_ints {Q : Value → Shared → Prop} {ks : List Int} (F : Fr h₀ L s.heap m) (N : News h₀ L s.heap news) (hh : A.handled = none) (hl : s.heap.IsList D vs.toArray) (hi : IntsAre vs ns) (e : ns = ks) (hk : KBa.In ks) (hz : ks.length ≤ 16777216)
    (h : ∀ h' t' k', Fr h₀ L h' m → News h₀ L h' news → Q (.bytes (byteArr ks) t') { s with heap := h', toks := k' }) : wpAny (model prog w) A (call (.type "bytes") [.ref D]) Q E s := by
  subst e
  exact KBa.make_K F N hh hl hi hk hz fun h' t' k' F' N' _ => h h' t' k' F' N'
end
theorem octs_lenle {many : Int} (sg : Bool) (u : Int) (h0 : (nd u.natAbs : Int) ≤ many) (h1 : many ≤ 40) : (octs many.toNat sg u).length ≤ 16777216 := by
  have := nd_pos u.natAbs
  rw [octs_len sg u (by omega)]
  omega
theorem laid_plus {many u : Int} (h : (nd u.natAbs : Int) ≤ many) (hu : ¬ u < 0) : (List.replicate (many - ((lds u.natAbs).reverse.length : Int)).toNat [(48 : Int)]).flatten ++ List.map (fun a => 48 + a) (lds u.natAbs).reverse = octs many.toNat (decide (u < 0)) u := by
  rw [laid_eq h, octs, if_neg (by rw [decide_eq_false hu]; decide)]
theorem laid_minus {many u : Int} (hu : u < 0) : (figL (many.toNat - 1) (u.natAbs / 10)).reverse.map (fun a => 48 + a) ++ [(((rowM.getD (((u.natAbs % 10 : Nat) : Int)).toNat 0).toNat : Nat) : Int)] = octs many.toNat (decide (u < 0)) u := by
  rw [octs, if_pos (decide_eq_true hu), if_pos hu, Int.toNat_natCast]
  rfl
end
section
open PySem.Spec PySem.Calls
set_option maxRecDepth 100000 in
set_option maxHeartbeats 8000000 in
theorem law_laid_C (w : World) (mean mg mb) (news) (units many : Int) (t1 t2 : Tok) (h0 : (nd units.natAbs : Int) ≤ many) (h1 : many ≤ 40) : Says w mean mg mb 2 16 238 news [.int units t1, .int many t2] 
   (fun h₀ L m s Q => ∀ (t : Tok) (h' : Heap) (tk' : Nat), Fr h₀ L h' m → News h₀ L h' news → Q (.bytes (byteArr (octs many.toNat (decide (units < 0)) units)) t) { s with heap := h', toks := tk' }) := by
  k_with_none
  w_top off
  k_with "execs cons" => (k_here; refine gen_toks fun tk9 => wpAny_execs_cons ?_; (try dsimp only))
  k_with "subscriptTail" => (k_here; (with_reducible show wpAny _ _ (subscriptTail _ _ (Value.ref _) (Value.int (-1) _)) _ _ _); k_dflt (refine' get_m1 ?k1 ?k2 ?k3 ?k4 ?_; (case k1 => k_asm); (case k2 => k_mem); (case k3 => with_reducible assumption); (case k4 => exact laid_snoc (by assumption))); intro t9)
  k_with "subscriptTail" => (k_here; (with_reducible show wpAny _ _ (subscriptTail _ _ (Value.bytes _ _) (Value.int _ _)) _ _ _); k_dflt (refine' row_item (x := rowM) (plus_minus _) ?f ?a ?b ?_; (case f => decide); (case a => omega); (case b => (show _ < ((10 : Nat) : Int); omega))))
  k_with "setItem ref int" => (k_here; (with_reducible show wpAny _ _ (setItem (Value.ref _) (Value.int (-1) _) (Value.int _ _)) _ _ _); k_dflt (refine' set_m1 ?k1 ?k2 ?k3 ?k4 ?k5 ?_; (case k1 => k_asm); (case k2 => k_asm); (case k3 => k_upd); (case k4 => with_reducible assumption); (case k5 => exact laid_snoc (by assumption))); intro h' F' N' hi'; (try k_sweep))
  k_with "call ref" => (k_here; (with_reducible show wpAny _ _ (call (.ref 233) _) _ _ _); with_unfolding_all refine' says_use (law_figures_C _ _ _ _ _ _ _ ?p0 ?p1) ?k1 ?k2 ?k3 ?k4 ?k5 ?kK ?kd ?ku ?_; (case k1 => k_asm); (case k2 => k_asm); (case k3 => k_asm); (case k4 => k_asm); (case k5 => k_asm); (case kK => first | exact rfl | assumption); (case p0 => split <;> omega); (case p1 => (rw [absN]; omega)); (case kd => first | (k_dflt exact room_of (by assumption) (by decide)) | ktr_room); (case ku => first | (k_dflt exact units_of (by assumption) (by decide)) | ktr_units); intro vs9 l9 h9 tk9 F9 N9 hi9 hl9; (first | k_lt hl9 | replace hl9 := allLt_of hl9); rw [absN] at hi9; (have hr9 := ldsR_of hi9); (have hL9 := ldsR_lenOf hi9); (try dsimp only))
  k_with "eval ListComp" => (k_here; (with_reducible refine my_ListComp (cl := []) (fun a => 48 + a) ?hclos ?hcell ?hkind ?hnames ?hx ?hs ?_); (case hclos => with_unfolding_all rfl); (case hcell => decide); (case hkind => with_unfolding_all rfl); (case hnames => decide); (case hx => with_unfolding_all rfl); (case hs => intro _; with_unfolding_all rfl))
  k_with "Exists" => (k_here; with_unfolding_all refine' midE_list ?hh ?hF ?hN ?hm ?hi ?hz ?_ ?_; (case hh => rfl); (case hF => k_asm); (case hN => k_asm); (case hm => k_mem); (case hi => with_reducible assumption); (case hz => (rw [sizeLine_eq]; omega)); (rotate_left; (intro D9 ys9 c9 h9 tk9 F9 N9 off9 hi9; (try dsimp only)); rotate_left; ((with_reducible rename Fr _ _ _ _ => fr9); (have X9 := Frag.In.keeps (by assumption) (Fr.keep fr9)); (have T9 := Top.keeps (by assumption) (Fr.keep fr9)); intro C9 a9 t9 s9 m9 E9 ha9 F9 hm9; (try k_fold))))
  k_with "EltEnd" => exact EltEnd.intro (by first | rfl | omega) (fun _ _ e => e)
  k_with "eval Name" => (k_here; (with_reducible show wpAny _ _ (eval (Expr.Name _ _) (compEnvC _ _ _ _)) _ _ _); refine' ldC ?k1 ?k2 ?_; (case k1 => k_asm); (case k2 => k_asm))
  k_with "call type:bytes" => (k_here; (with_reducible show wpAny _ _ (call (Value.type "bytes") [Value.ref _]) _ _ _); k_dflt (refine' make_ints ?k1 ?k2 ?k3 ?k4 ?k5 ?k6 ?k7 ?k8 ?_; (case k1 => k_asm); (case k2 => k_asm); (case k3 => rfl); (case k4 => kba_isList); (case k5 => with_reducible assumption); (case k6 => first | exact laid_plus (by assumption) (by assumption) | exact laid_minus (by assumption)); (case k7 => exact octs_in _ _ _); (case k8 => exact octs_lenle _ _ (by assumption) (by assumption))); intro h9 t9 k9 F9 N9; (try k_sweep))
  unfold Says
  k_fill
  intro dp un gd cn cs a ccd cl outer A₀ base h₀ L m s Q E B F X N T hk hdp hun hret
  refine wpAny_call ?_
  k_dflt cell_enter
  k_steps
  all_goals exact hret _ _ _ (by k_asm) (by first | k_asm | (refine' cb_drop ?cbN ?cbS; (case cbN => assumption); (case cbS => kcj_all)))
end
section
open PySem.Spec PySem.Calls
theorem ret_ns {w : World} {h₀ h' : Heap} {L : Addr} {m : Str → Option Value} {news : List (Addr × Obj)} {s : Shared} {Q : Value → Shared → Prop} {M' M scale : Int} {sg : Bool} {x d : Addr} {tk' : Nat} {k : Nat → Tok} (e : M' = M)
    (hret : ∀ (k : Nat → Tok) (x d : Addr) (h' : Heap) (tk' : Nat), Fr h₀ L h' m → News h₀ L h' ((x, instObj 53 d) :: (d, shapeD w M M scale sg k) :: news) → (∀ p ∈ news, p.1 < d) → d < x → Q (.ref x) { s with heap := h', toks := tk' })
    (F : Fr h₀ L h' m) (N : News h₀ L h' ((x, instObj 53 d) :: (d, shapeD w M' M' scale sg k) :: news)) (l1 : AllLt d news) (l2 : @LT.lt Nat _ d x) : Q (.ref x) { s with heap := h', toks := tk' } := by
  subst e
  exact hret _ _ _ _ _ F N (ktn_ltOf l1) l2
set_option maxRecDepth 100000 in
set_option maxHeartbeats 8000000 in
theorem number_shape_C (w : World) (mean mg mb) (news) (units scale M : Int) (t1 t2 : Tok) (l : Addr) (hM : (if scale > (nd units.natAbs : Int) then scale else (nd units.natAbs : Int)) = M) : Says w mean mg mb 4 32 85 ((l, { cls := .type "tuple", data := .seq #[.int units t1, .int scale t2] 0 }) :: news) [.ref l] 
   (fun h₀ L m s Q => ∀ (k : Nat → Tok) (x d : Addr) (h' : Heap) (tk' : Nat), Fr h₀ L h' m → News h₀ L h' ((x, instObj 53 d) :: (d, shapeD w M M scale (decide (units < 0)) k) :: (l, { cls := .type "tuple", data := .seq #[.int units t1, .int scale t2] 0 }) :: news) → (∀ p ∈ (l, ({ cls := .type "tuple", data := .seq #[.int units t1, .int scale t2] 0 } : Obj)) :: news, p.1 < d) → d < x → Q (.ref x) { s with heap := h', toks := tk' }) := by
  k_with_none
  w_top off
  k_with "call ref" => (k_here; (with_reducible show wpAny _ _ (call (.ref 78) _) _ _ _); with_unfolding_all refine' says_use (figure_count_C _ _ _ _ _ _ _ ?p0) ?k1 ?k2 ?k3 ?k4 ?k5 ?kK ?kd ?ku ?_; (case k1 => k_asm); (case k2 => k_asm); (case k3 => k_asm); (case k4 => k_asm); (case k5 => k_asm); (case kK => first | exact rfl | assumption); (case p0 => split <;> omega); (case kd => first | (k_dflt exact room_of (by assumption) (by decide)) | ktr_room); (case ku => first | (k_dflt exact units_of (by assumption) (by decide)) | ktr_units); intro t9 h9 tk9 F9 N9; rw [absN]; (try dsimp only))
  k_with "call ref" => (k_here; (with_reducible show wpAny _ _ (call (.ref 71) _) _ _ _); with_unfolding_all refine' says_use (numbered_shape_C _ _ _ _ _ _ _ _ _ _ _ _ _ _) ?k1 ?k2 ?k3 ?k4 ?k5 ?kK ?kd ?ku ?_; (case k1 => k_asm); (case k2 => k_asm); (case k3 => k_asm); (case k4 => k_asm); (case k5 => k_asm); (case kK => first | exact rfl | assumption); (case kd => first | (k_dflt exact room_of (by assumption) (by decide)) | ktr_room); (case ku => first | (k_dflt exact units_of (by assumption) (by decide)) | ktr_units); intro k9 x9 d9 h9 tk9 F9 N9 hl9 hl9'; (first | k_lt hl9 | replace hl9 := allLt_of hl9); k_lt2 hl9'; (try dsimp only))
  unfold Says
  k_fill
  intro dp un gd cn cs a ccd cl outer A₀ base h₀ L m s Q E B F X N T hk hdp hun hret
  refine wpAny_call ?_
  k_dflt cell_enter
  k_steps
  all_goals exact ret_ns (Q := Q) (s := s) hM hret (by k_asm) (by k_asm) (by assumption) (by assumption)
end
section
open PySem.Spec PySem.Calls
set_option maxRecDepth 100000 in
set_option maxHeartbeats 8000000 in
theorem unsigned_shape_C (w : World) (mean mg mb) (news) (size digits scale : Int) (sg : Bool) (k : Nat → Tok) (x d : Addr) : Says w mean mg mb 4 32 92 ((x, instObj 53 d) :: (d, shapeD w size digits scale sg k) :: news) [.ref x] 
   (fun h₀ L m s Q => ∀ (k' : Nat → Tok) (x' d' : Addr) (h' : Heap) (tk' : Nat), Fr h₀ L h' m → News h₀ L h' ((x', instObj 53 d') :: (d', shapeD w digits digits scale false k') :: (x, instObj 53 d) :: (d, shapeD w size digits scale sg k) :: news) → (∀ p ∈ (x, instObj 53 d) :: (d, shapeD w size digits scale sg k) :: news, p.1 < d') → d' < x' → Q (.ref x') { s with heap := h', toks := tk' }) := by
  k_with_none
  w_top off
  k_with "execs cons" => (k_here; refine gen_toks fun tk9 => wpAny_execs_cons ?_; (try dsimp only))
  k_with "call ref" => (k_here; (with_reducible show wpAny _ _ (call (.ref 71) _) _ _ _); with_unfolding_all refine' says_use (numbered_shape_C _ _ _ _ _ _ _ _ _ _ _ _ _ _) ?k1 ?k2 ?k3 ?k4 ?k5 ?kK ?kd ?ku ?_; (case k1 => k_asm); (case k2 => k_asm); (case k3 => k_asm); (case k4 => k_asm); (case k5 => k_asm); (case kK => first | exact rfl | assumption); (case kd => first | (k_dflt exact room_of (by assumption) (by decide)) | ktr_room); (case ku => first | (k_dflt exact units_of (by assumption) (by decide)) | ktr_units); intro k9 x9 d9 h9 tk9 F9 N9 hl9 hl9'; (first | k_lt hl9 | replace hl9 := allLt_of hl9); k_lt2 hl9'; (try dsimp only))
  unfold Says
  k_fill
  intro dp un gd cn cs a ccd cl outer A₀ base h₀ L m s Q E B F X N T hk hdp hun hret
  refine wpAny_call ?_
  k_dflt cell_enter
  k_steps
  all_goals exact ret_ns (Q := Q) (s := s) rfl hret (by k_asm) (by k_asm) (by assumption) (by assumption)
end
section
open PySem.Spec PySem.Calls
section
variable {h₀ h : Heap} {L : Addr} {a b p q : Addr × Obj} {r : List (Addr × Obj)}
theorem news_dup2 (N : News h₀ L h r) (ha : a ∈ r) (hb : b ∈ r) : News h₀ L h (a :: b :: r) := fun x hx => by
  rcases List.mem_cons.mp hx with rfl | hx
  · exact N _ ha
  · rcases List.mem_cons.mp hx with rfl | hx
    · exact N _ hb
    · exact N _ hx
theorem news_dup1 (N : News h₀ L h r) (ha : a ∈ r) : News h₀ L h (a :: r) := fun x hx => by
  rcases List.mem_cons.mp hx with rfl | hx
  · exact N _ ha
  · exact N _ hx
theorem news_cut2 (N : News h₀ L h (a :: b :: r)) : News h₀ L h r := fun x hx => N x (.tail _ (.tail _ hx))
theorem news_cut12 (N : News h₀ L h (p :: a :: b :: r)) : News h₀ L h (p :: r) := fun x hx => by
  rcases List.mem_cons.mp hx with rfl | hx
  · exact N _ (.head _)
  · exact N x (.tail _ (.tail _ (.tail _ hx)))
theorem news_cut22 (N : News h₀ L h (p :: q :: a :: b :: r)) : News h₀ L h (p :: q :: r) := fun x hx => by
  rcases List.mem_cons.mp hx with rfl | hx
  · exact N _ (.head _)
  · rcases List.mem_cons.mp hx with rfl | hx
    · exact N _ (.tail _ (.head _))
    · exact N x (.tail _ (.tail _ (.tail _ (.tail _ hx))))
theorem news_cut21 (N : News h₀ L h (p :: q :: a :: r)) : News h₀ L h (p :: q :: r) := fun x hx => by
  rcases List.mem_cons.mp hx with rfl | hx
  · exact N _ (.head _)
  · rcases List.mem_cons.mp hx with rfl | hx
    · exact N _ (.tail _ (.head _))
    · exact N x (.tail _ (.tail _ (.tail _ hx)))
theorem lt_cut2 {l : Addr} (h : ∀ x ∈ a :: b :: r, x.1 < l) : ∀ x ∈ r, x.1 < l := fun x hx => h x (.tail _ (.tail _ hx))
theorem lt_cut1 {l : Addr} (h : ∀ x ∈ a :: r, x.1 < l) : ∀ x ∈ r, x.1 < l := fun x hx => h x (.tail _ hx)
end
theorem kept_signed {M u : Int} (h : u.natAbs < 10 ^ M.toNat) : kept M (decide (u < 0)) u = u := by
  have h1 : (u.natAbs : Int) % 10 ^ M.toNat = u.natAbs := by
    rw [show (10 : Int) ^ M.toNat = ((10 ^ M.toNat : Nat) : Int) by rw [Int.natCast_pow]; rfl, ← Int.natCast_emod, Nat.mod_eq_of_lt h]
  unfold kept
  rw [h1]
  by_cases hu : u < 0
  · rw [if_pos ⟨hu, decide_eq_true hu⟩]; omega
  · rw [if_neg (fun q => hu q.1)]; omega
theorem kept_plain {M u : Int} (h : u.natAbs < 10 ^ M.toNat) : kept M false u = (u.natAbs : Int) := by
  have h1 : (u.natAbs : Int) % 10 ^ M.toNat = u.natAbs := by
    rw [show (10 : Int) ^ M.toNat = ((10 ^ M.toNat : Nat) : Int) by rw [Int.natCast_pow]; rfl, ← Int.natCast_emod, Nat.mod_eq_of_lt h]
  unfold kept
  rw [h1, if_neg (fun q => absurd q.2 (by decide))]
theorem ifmax {prog : Program} {w : World} {A : Around} {E : Value → Shared → Prop} {s : Shared} {h₀ : Heap} {L a : Addr} {m : Str → Option Value} {name : Str} {scope : Scope} {cd : Value} {x y : Str} {p1 p2 p3 p4 p5 p6 : Pos} {b c M : Int} {tb tc : Tok} {Q : Value → Shared → Prop}
    (F : Fr h₀ L s.heap m) (hx : m x = some (.int b tb)) (hy : m y = some (.int c tc)) (hM : (if c > b then c else b) = M)
    (hk : scope.kind = .function) (hlx : (envOf name scope L a cd).kindOf x = some .local) (hly : (envOf name scope L a cd).kindOf y = some .local) (hdx : (x == ("__debug__" : Str)) = false) (hdy : (y == ("__debug__" : Str)) = false)
    (h : ∀ t, Q (.int M t) s) : wpAny (model prog w) A (eval (.IfExp (.Compare (.Name x p1) [.Gt] [.Name y p2] p3) (.Name x p4) (.Name y p5) p6) (envOf name scope L a cd)) Q E s := by
  refine IfExp_ (wpAny_isTrue_Compare1 (ld F hx (ld F hy (gt_int ?_) hk hly hdy) hk hlx hdx))
  refine wpAny_truthy_bool ?_
  by_cases hc : c < b
  · rw [decide_eq_true hc]
    have : b = M := by rw [← hM, if_neg (by omega)]
    exact ld F (by rw [hx, this]) (h tb) hk hlx hdx
  · rw [decide_eq_false hc]
    have : c = M := by rw [← hM]; split <;> omega
    exact ld F (by rw [hy, this]) (h tc) hk hly hdy
theorem ldsR_vlen {vs : List Value} {n : Nat} (h : IntsAre vs (lds n).reverse) : vs.length = nd n := by rw [h.length, List.length_reverse]; rfl
theorem and_self_false {a b : Int} (h : (a == a && b == b) = false) : False := by simp at h
theorem lt_v {n k : Nat} {v : Int} (hv : v = 10 ^ k) (h : n < 10 ^ k) : (n : Int) < v := by
  rw [hv, show (10 : Int) ^ k = ((10 ^ k : Nat) : Int) by rw [Int.natCast_pow]; rfl]
  omega
theorem dec_v {n k : Nat} {v : Int} (hv : v = 10 ^ k) (h : ¬ (n : Int) < 10 ^ k) : decide (v ≤ (n : Int)) = true := by
  rw [hv]; exact decide_eq_true (Int.not_lt.mp h)
theorem ret_b {h₀ h' : Heap} {L : Addr} {m : Str → Option Value} {news : List (Addr × Obj)} {s : Shared} {Q : Value → Shared → Prop} {b : Bool} {tk' : Nat}
    (hret : ∀ (h' : Heap) (tk' : Nat), Fr h₀ L h' m → News h₀ L h' news → Q (.bool true) { s with heap := h', toks := tk' }) (e : b = true) (F : Fr h₀ L h' m) (N : News h₀ L h' news) : Q (.bool b) { s with heap := h', toks := tk' } := by
  subst e; exact hret _ _ F N
theorem octs_nat (k n : Nat) : octs k (decide ((n : Int) < 0)) (n : Int) = octs k false (n : Int) := by rw [decide_eq_false (by omega)]
theorem fits_signed {M u : Int} (h : u.natAbs < 10 ^ M.toNat) : Fits M (decide (u < 0)) u := ⟨h, if hu : u < 0 then .inl (decide_eq_true hu) else .inr (by omega)⟩
theorem fits_plain {M u : Int} (h : u.natAbs < 10 ^ M.toNat) : Fits M false (u.natAbs : Int) := ⟨by rw [Int.natAbs_natCast]; exact h, by omega⟩
theorem norm_abs {scale u : Int} (h : scale = 0 ∨ u.fmod 10 ≠ 0) : scale = 0 ∨ ((u.natAbs : Nat) : Int).fmod 10 ≠ 0 := by
  rcases h with h | h
  · exact .inl h
  · right
    rw [Int.fmod_eq_emod_of_nonneg _ (by decide)] at h ⊢
    omega
theorem kept_less {M u : Int} {sg : Bool} (h : (10 : Int) ^ M.toNat ≤ (u.natAbs : Int)) : kept M sg u ≠ u := fun e => by
  have hf := (kept_fits M sg u).lt
  rw [e] at hf
  have : ((10 ^ M.toNat : Nat) : Int) ≤ (u.natAbs : Int) := by rw [Int.natCast_pow]; exact h
  omega
section
variable {prog : Program} {w : World} {A : Around} {E : Value → Shared → Prop} {s : Shared} {b : Array UInt8} {t u : Tok}
theorem abs_nat {i : Int} {t : Tok} {Q : Value → Shared → Prop} (h : ∀ u tk, Q (.int (i.natAbs : Nat) u) { s with toks := tk }) : wpAny (model prog w) A (call (.builtin "abs") [.int i t]) Q E s :=
  call_abs_int fun u tk => by rw [abs_ite]; exact h u tk
theorem ne_same {Q : Value → Shared → Prop} (h : Q (.bool false) s) : wpAny (model prog w) A (compareOp .NotEq (.bytes b t) (.bytes b u)) Q E s := ne_bytes (by rw [bne_self_eq_false]; exact h)
end
end
section
open PySem.Spec PySem.Calls
set_option maxRecDepth 100000 in
set_option maxHeartbeats 16000000 in
theorem law_right_M (w : World) (mean mg mb) (news) (units scale : Int) (t1 t2 : Tok) (hs0 : 0 ≤ scale) (hs1 : scale ≤ 12) (hn : scale = 0 ∨ units.fmod 10 ≠ 0) (hnd : nd units.natAbs ≤ 30) (M : Int) (hM : (if scale > (nd units.natAbs : Int) then scale else (nd units.natAbs : Int)) = M) : Says w mean mg mb 6 90 245 news [.int units t1, .int scale t2] 
   (fun h₀ L m s Q => ∀ (h' : Heap) (tk' : Nat), Fr h₀ L h' m → News h₀ L h' news → Q (.bool true) { s with heap := h', toks := tk' }) := by
  have hnd1 := nd_pos units.natAbs
  have hM1 : (nd units.natAbs : Int) ≤ M := by rw [← hM]; split <;> omega
  have hM3 : M ≤ 30 := by rw [← hM]; split <;> omega
  have hlt : units.natAbs < 10 ^ M.toNat := Nat.lt_of_lt_of_le (lt_nd _) (Nat.pow_le_pow_right (by decide) (by omega))
  have hf1 := fits_signed hlt
  have hf2 := fits_plain hlt
  have hn2 := norm_abs hn
  have hz : nd (units.natAbs : Int).natAbs = nd units.natAbs := by rw [Int.natAbs_natCast]
  k_with_none
  w_top off
  k_with "execs cons" => (k_here; (try ((rename News _ _ _ _ => N9); (refine' drop_dead N9 ?sb ?_; (case sb => ((repeat (first | with_reducible apply Sub.tuple | with_reducible apply Sub.list | with_reducible apply Sub.keep)); with_reducible apply Sub.refl))); clear N9; intro N9)); refine gen_toks fun tk9 => wpAny_execs_cons ?_; (try dsimp only))
  k_with "call builtin:len" => (k_here; (with_reducible show wpAny _ _ (call (Value.builtin "len") [Value.ref _]) _ _ _); k_dflt (refine' kst_len ?k1 ?k2 ?k3 ?k4 ?_; (case k1 => k_asm); (case k2 => k_mem); (case k3 => exact ldsR_vlen (by assumption)); (case k4 => omega)))
  k_with "call builtin:abs" => (refine abs_nat ?_; intro _ _)
  k_with "compareOp NotEq bytes bytes" => (k_here; with_reducible refine ne_same ?_)
  k_with "ke_room" => ktr_units
  k_with "k_room" => ((try simp only [depth_mark, depth_under_make, depth_under_kw, depth_in1, depth_deeper, depth_caller]); (try dsimp only [ktrTop]); omega)
  k_with "eval IfExp" => (k_here; k_dflt (refine' ifmax ?F ?hx ?hy ?hM ?hk ?hlx ?hly ?hdx ?hdy ?_; (case F => k_asm); (case hx => rfl); (case hy => rfl); (case hM => assumption); (case hk => rfl); (case hlx => rfl); (case hly => rfl); (case hdx => decide); (case hdy => decide)); intro t9)
  k_with "call ref" => (k_here; (with_reducible show wpAny _ _ (call (.ref 233) _) _ _ _); with_unfolding_all refine' says_use (law_figures_C _ _ _ _ _ _ _ ?p0 ?p1) ?k1 ?k2 ?k3 ?k4 ?k5 ?kK ?kd ?ku ?_; (case k1 => k_asm); (case k2 => k_asm); (case k3 => k_asm); (case k4 => k_asm); (case k5 => k_asm); (case kK => first | exact rfl | assumption); (case p0 => omega); (case p1 => (rw [Int.toNat_natCast]; omega)); (case kd => first | (k_dflt exact room_of (by assumption) (by decide)) | ktr_room); (case ku => first | (k_dflt exact units_of (by assumption) (by decide)) | ktr_units); intro vs9 l9 h9 tk9 F9 N9 hi9 hl9; (first | k_lt hl9 | replace hl9 := allLt_of hl9); rw [Int.toNat_natCast] at hi9; (have hr9 := ldsR_of hi9); (have hL9 := ldsR_lenOf hi9); (try k_sweep); (try dsimp only))
  k_with "call ref" => (k_here; (with_reducible show wpAny _ _ (call (.ref 78) _) _ _ _); with_unfolding_all refine' says_use (figure_count_C _ _ _ _ _ _ _ ?p0) ?k1 ?k2 ?k3 ?k4 ?k5 ?kK ?kd ?ku ?_; (case k1 => k_asm); (case k2 => k_asm); (case k3 => k_asm); (case k4 => k_asm); (case k5 => k_asm); (case kK => first | exact rfl | assumption); (case p0 => omega); (case kd => first | (k_dflt exact room_of (by assumption) (by decide)) | ktr_room); (case ku => first | (k_dflt exact units_of (by assumption) (by decide)) | ktr_units); intro t9 h9 tk9 F9 N9; rw [Int.toNat_natCast]; (try k_sweep); (try dsimp only))
  k_with "call ref" => (k_here; (with_reducible show wpAny _ _ (call (.ref 85) _) _ _ _); with_unfolding_all refine' says_use (number_shape_C _ _ _ _ _ _ _ _ _ _ _ ?p0) ?k1 ?k2 ?k3 ?k4 ?k5 ?kK ?kd ?ku ?_; (case k1 => k_asm); (case k2 => k_asm); (case k3 => k_asm); (case k4 => exact news_dup1 (by k_asm) (by k_mem)); (case k5 => k_asm); (case kK => first | exact rfl | assumption); (case p0 => assumption); (case kd => first | (k_dflt exact room_of (by assumption) (by decide)) | ktr_room); (case ku => first | (k_dflt exact units_of (by assumption) (by decide)) | ktr_units); intro k9 x9 d9 h9 tk9 F9 N9 hl9 hl9'; (replace N9 := news_cut21 N9); (replace hl9 := lt_cut1 hl9); (first | k_lt hl9 | replace hl9 := allLt_of hl9); k_lt2 hl9'; (try k_sweep); (try dsimp only))
  k_with "call ref" => (k_here; (with_reducible show wpAny _ _ (call (.ref 92) _) _ _ _); with_unfolding_all refine' says_use (unsigned_shape_C _ _ _ _ _ _ _ _ _ _ _ ) ?k1 ?k2 ?k3 ?k4 ?k5 ?kK ?kd ?ku ?_; (case k1 => k_asm); (case k2 => k_asm); (case k3 => k_asm); (case k4 => exact news_dup2 (by k_asm) (by k_mem) (by k_mem)); (case k5 => k_asm); (case kK => first | exact rfl | assumption); (case kd => first | (k_dflt exact room_of (by assumption) (by decide)) | ktr_room); (case ku => first | (k_dflt exact units_of (by assumption) (by decide)) | ktr_units); intro k9 x9 d9 h9 tk9 F9 N9 hl9 hl9'; (replace N9 := news_cut22 N9); (replace hl9 := lt_cut2 hl9); (first | k_lt hl9 | replace hl9 := allLt_of hl9); k_lt2 hl9'; (try k_sweep); (try dsimp only))
  k_with "call ref" => (k_here; (with_reducible show wpAny _ _ (call (.ref 71) _) _ _ _); with_unfolding_all refine' says_use (numbered_shape_C _ _ _ _ _ _ _ _ _ _ _ _ _ _ ) ?k1 ?k2 ?k3 ?k4 ?k5 ?kK ?kd ?ku ?_; (case k1 => k_asm); (case k2 => k_asm); (case k3 => k_asm); (case k4 => k_asm); (case k5 => k_asm); (case kK => first | exact rfl | assumption); (case kd => first | (k_dflt exact room_of (by assumption) (by decide)) | ktr_room); (case ku => first | (k_dflt exact units_of (by assumption) (by decide)) | ktr_units); intro k9 x9 d9 h9 tk9 F9 N9 hl9 hl9'; (first | k_lt hl9 | replace hl9 := allLt_of hl9); k_lt2 hl9'; (try k_sweep); (try dsimp only))
  k_with "call ref" => (k_here; (with_reducible show wpAny _ _ (call (.ref 64) _) _ _ _); with_unfolding_all refine' says_use (unit_bound_C _ _ _ _ _ _ _ _ _ _ _ _ ?p0 ?p1) ?k1 ?k2 ?k3 ?k4 ?k5 ?kK ?kd ?ku ?_; (case k1 => k_asm); (case k2 => k_asm); (case k3 => k_asm); (case k4 => exact news_dup2 (by k_asm) (by k_mem) (by k_mem)); (case k5 => k_asm); (case kK => first | exact rfl | assumption); (case p0 => omega); (case p1 => omega); (case kd => first | (k_dflt exact room_of (by assumption) (by decide)) | ktr_room); (case ku => first | (k_dflt exact units_of (by assumption) (by decide)) | ktr_units); intro v9 t9 h9 tk9 hv9 hp9 F9 N9; (replace N9 := news_cut2 N9); (try k_sweep); (try dsimp only))
  k_with "call ref" => (k_here; (with_reducible show wpAny _ _ (call (.ref 179) _) _ _ _); with_unfolding_all refine' says_use (octets_for_C _ _ _ _ _ _ _ _ _ _ _ _ _ _ ?p0 ?p1 ?p2) ?k1 ?k2 ?k3 ?k4 ?k5 ?kK ?kd ?ku ?_; (case k1 => k_asm); (case k2 => k_asm); (case k3 => k_asm); (case k4 => exact news_dup2 (by k_asm) (by k_mem) (by k_mem)); (case k5 => k_asm); (case kK => first | exact rfl | assumption); (case p0 => omega); (case p1 => omega); (case p2 => omega); (case kd => first | (k_dflt exact room_of (by assumption) (by decide)) | ktr_room); (case ku => first | (k_dflt exact units_of (by assumption) (by decide)) | ktr_units); intro t9 h9 tk9 F9 N9; (replace N9 := news_cut2 N9); (first | rw [kept_signed (by assumption)] | rw [kept_plain (by assumption)] | skip); (try k_sweep); (try dsimp only))
  k_with "call ref" => (k_here; (with_reducible show wpAny _ _ (call (.ref 238) _) _ _ _); with_unfolding_all refine' says_use (law_laid_C _ _ _ _ _ _ _ _ _ ?p0 ?p1) ?k1 ?k2 ?k3 ?k4 ?k5 ?kK ?kd ?ku ?_; (case k1 => k_asm); (case k2 => k_asm); (case k3 => k_asm); (case k4 => k_asm); (case k5 => k_asm); (case kK => first | exact rfl | assumption); (case p0 => omega); (case p1 => omega); (case kd => first | (k_dflt exact room_of (by assumption) (by decide)) | ktr_room); (case ku => first | (k_dflt exact units_of (by assumption) (by decide)) | ktr_units); intro t9 h9 tk9 F9 N9; (try rw [octs_nat]); (try k_sweep); (try dsimp only))
  k_with "call ref" => (k_here; (with_reducible show wpAny _ _ (call (.ref 219) _) _ _ _); with_unfolding_all refine' says_use (units_in_C _ _ _ _ _ _ _ _ _ _ _ _ _ ?p0 ?p1 ?p2 ?p3) ?k1 ?k2 ?k3 ?k4 ?k5 ?kK ?kd ?ku ?_; (case k1 => k_asm); (case k2 => k_asm); (case k3 => k_asm); (case k4 => exact news_dup2 (by k_asm) (by k_mem) (by k_mem)); (case k5 => k_asm); (case kK => first | exact rfl | assumption); (case p0 => omega); (case p1 => omega); (case p2 => omega); (case p3 => first | assumption | exact kept_fits _ _ _); (case kd => first | (k_dflt exact room_of (by assumption) (by decide)) | ktr_room); (case ku => first | (k_dflt exact units_of (by assumption) (by decide)) | ktr_units); intro t9 h9 tk9 F9 N9; (replace N9 := news_cut2 N9); (try k_sweep); (try dsimp only))
  k_with "call ref" => (k_here; (with_reducible show wpAny _ _ (call (.ref 226) _) _ _ _); with_unfolding_all refine' says_use (number_in_C _ _ _ _ _ _ _ _ _ _ _ _ _ ?p0 ?p1 ?p2 ?p3 ?p4 ?p5) ?k1 ?k2 ?k3 ?k4 ?k5 ?kK ?kd ?ku ?_; (case k1 => k_asm); (case k2 => k_asm); (case k3 => k_asm); (case k4 => exact news_dup2 (by k_asm) (by k_mem) (by k_mem)); (case k5 => k_asm); (case kK => first | exact rfl | assumption); (case p0 => omega); (case p1 => omega); (case p2 => omega); (case p3 => assumption); (case p4 => assumption); (case p5 => assumption); (case kd => first | (k_dflt exact room_of (by assumption) (by decide)) | ktr_room); (case ku => first | (k_dflt exact units_of (by assumption) (by decide)) | ktr_units); intro t8 t9 l9 h9 tk9 F9 N9 hl9; (replace N9 := news_cut12 N9); (replace hl9 := lt_cut2 hl9); (first | k_lt hl9 | replace hl9 := allLt_of hl9); (try k_sweep); (try dsimp only))
  unfold Says
  k_fill
  intro dp un gd cn cs a ccd cl outer A₀ base h₀ L m s Q E B F X N T hk hdp hun hret
  refine wpAny_call ?_
  k_dflt cell_enter
  k_steps
  all_goals (first
    | (refine' ret_b (Q := Q) (s := s) hret ?e ?F ?N; (case e => first | with_reducible rfl | exact dec_v (by assumption) (by assumption)); (case F => k_asm); (case N => first | with_reducible assumption | (refine' cb_drop ?cbN ?cbS; (case cbN => assumption); (case cbS => intro p hp; repeat (first | with_reducible exact hp | with_reducible refine List.mem_cons_of_mem _ ?_)))))
    | (exfalso; first
      | exact absurd rfl (by assumption)
      | exact and_self_false (by assumption)
      | exact absurd (Eq.symm (by assumption)) (by assumption)
      | exact absurd (lt_v (by assumption) (by assumption)) (by assumption)
      | exact kept_less (Int.not_lt.mp (by assumption)) (by assumption)))
end
section
open PySem.Spec PySem.Calls
/-- what the law asks of a number and its places -/
structure Norm (units scale : Int) : Prop where
  s0 : 0 ≤ scale
  s1 : scale ≤ 12
  n : scale = 0 ∨ units.fmod 10 ≠ 0
  b : units.natAbs < 10 ^ 30
theorem law_right_C (w : World) (mean mg mb) (news) (units scale : Int) (t1 t2 : Tok) (h : Norm units scale) : Says w mean mg mb 6 90 245 news [.int units t1, .int scale t2] 
   (fun h₀ L m s Q => ∀ (h' : Heap) (tk' : Nat), Fr h₀ L h' m → News h₀ L h' news → Q (.bool true) { s with heap := h', toks := tk' }) := by
  have hb := nd_le 30 units.natAbs (by decide) h.b
  exact law_right_M w mean mg mb news units scale t1 t2 h.s0 h.s1 h.n hb _ rfl
end
section
open PySem.Spec PySem.Calls
section
variable {prog : Program} {w : World} {A : Around} {E : Value → Shared → Prop} {s : Shared} {h₀ : Heap} {m : Str → Option Value} {env : Env} {news : List (Addr × Obj)} {x : Str} {body : List Stmt} {Q : Flow → Shared → Prop}
def TurnDone (h₀ : Heap) (L : Addr) (own : List (Addr × Obj)) (s₁ : Shared) (f : Flow) (s₂ : Shared) : Prop :=
  f = .next ∧ ∃ h' tk m', s₂ = { s₁ with heap := h', toks := tk } ∧ Fr h₀ L h' m' ∧ News h₀ L h' own
theorem TurnDone.intro {L : Addr} {own : List (Addr × Obj)} {s₁ : Shared} {h' : Heap} {tk : Nat} {m' : Str → Option Value} (F : Fr h₀ L h' m') (N : News h₀ L h' own) : TurnDone h₀ L own s₁ .next { s₁ with heap := h', toks := tk } := ⟨rfl, h', tk, m', rfl, F, N⟩
theorem for_made {D : Addr} {vs : List Value} {c : Nat} {ns : List Int} (hh : A.handled = none) (F : Fr h₀ env.locals s.heap m) (N : News h₀ env.locals s.heap news) (hm : (D, listOf vs.toArray c) ∈ news) (hi : IntsAre vs ns)
    (turn : ∀ (n : Int) (t : Tok) (m₁ : Str → Option Value) (s₁ : Shared) (own : List (Addr × Obj)), n ∈ ns → Fr h₀ env.locals s₁.heap (fun y => if y = x then some (.int n t) else m₁ y) → News h₀ env.locals s₁.heap own → wpAny (model prog w) A (execs body env) (TurnDone h₀ env.locals own s₁) E s₁)
    (done : ∀ (m' : Str → Option Value) (h' : Heap) (tk : Nat), Fr h₀ env.locals h' m' → Q .next { s with heap := h', toks := tk }) :
    wpAny (model prog w) A (pyIter (.ref D)) (fun it s₂ => LoopAtU prog w A h₀ env x body Q E it s₂) E s := by
  have hl : s.heap.IsList D vs.toArray := ⟨_, (N _ hm).1, rfl, c, rfl⟩
  have hlt : D < s.heap.objs.size := Heap.lt_size (N _ hm).1
  have hLs : env.locals < s.heap.objs.size := F.ns.lt
  refine wpAny_pyIter_list hl ?_
  have W := Walks.list (prog := prog) (w := w) (A := A) hh s.heap.objs.size D (Nat.ne_of_lt hlt) vs.toArray
  refine ⟨s.heap.objs.size, _, _, _, _, _, m, [], fun _ _ nx => nx = [], rfl, W, ?_, ?_, ?_, ⟨⟨_, Heap.get?_push_size _ rfl, rfl, rfl⟩, hl.push _⟩, F.push _, News.nil, rfl, ?_, ?_⟩
  · intro hb
    rcases List.mem_cons.mp hb with e | hb
    · exact absurd hLs (e ▸ Nat.lt_irrefl _)
    · exact (N _ hm).2.1 (List.mem_singleton.mp hb).symm
  · intro b hb
    rw [List.mem_singleton.mp hb]
    cases e : h₀.get? s.heap.objs.size with
    | none => rfl
    | some o => exact absurd (Nat.lt_of_lt_of_le (Heap.lt_size e) F.above) (Nat.not_lt.mpr (Nat.le_of_lt hLs))
  · intro p hp; cases hp
  · rintro i v m₁ news₁ s₁ own _ hP rfl _ _ _ _ _ F₁ N₁
    obtain ⟨n, t, rfl, hn⟩ := IntsAre.at hi i v (by simpa using hP)
    rw [List.append_nil] at N₁
    refine wpAny_mono (turn n t m₁ s₁ own (List.mem_of_getElem? hn) F₁ N₁) (fun f s₂ h₂ => ?_) fun _ _ e => e
    obtain ⟨rfl, h', tk, m', rfl, F₂, N₂⟩ := h₂
    exact LoopStepU.intro (news₂ := []) F₂ (by rw [List.append_nil]; exact N₂) (fun p hp => nomatch hp) rfl
  · rintro h' tk m' news' F' _ _ _
    exact done m' h' tk F'
theorem pow10 {k : Int} {t u : Tok} {Q : Value → Shared → Prop} (h0 : 0 ≤ k) (h1 : k ≤ 25) (h : ∀ v : Int, 1 ≤ v → v ≤ 10000000000000000000000000 → Q (.int v s.toks) { s with toks := s.toks + 1 }) : wpAny (model prog w) A (binaryOp .Pow (.int 10 t) (.int k u)) Q E s := by
  refine pow_int_small h0 (by omega) (by decide) (h _ ?_ ?_)
  · have : (0 : Int) < 10 ^ k.toNat := Int.pow_pos (by decide)
    omega
  · have h2 : (10 : Nat) ^ k.toNat ≤ 10 ^ 25 := Nat.pow_le_pow_right (by decide) (by omega)
    have h3 : ((10 ^ k.toNat : Nat) : Int) ≤ ((10 ^ 25 : Nat) : Int) := by omega
    rw [Int.natCast_pow] at h3
    exact h3
theorem mod_any {a b : Int} {t u : Tok} {Q : Value → Shared → Prop} (hb : 0 < b) (h : ∀ v : Int, 0 ≤ v → v < b → Q (.int v s.toks) { s with toks := s.toks + 1 }) : wpAny (model prog w) A (binaryOp .Mod (.int a t) (.int b u)) Q E s := by
  refine mod_int' (by omega) (h _ ?_ ?_)
  · rw [Int.fmod_eq_emod_of_nonneg _ (by omega)]; exact Int.emod_nonneg _ (by omega)
  · rw [Int.fmod_eq_emod_of_nonneg _ (by omega)]; exact Int.emod_lt_of_pos _ hb
theorem div_any {a b : Int} {t u : Tok} {Q : Value → Shared → Prop} (ha : 0 ≤ a) (hb : 0 < b) (hp : Builtin.divisionGoesByPylong a b = false ∨ PySem.PylongRoom (model prog w) A s) (h : ∀ v : Int, 0 ≤ v → v ≤ a → Q (.int v s.toks) { s with toks := s.toks + 1 }) : wpAny (model prog w) A (binaryOp .FloorDiv (.int a t) (.int b u)) Q E s := by
  refine floordiv_int (by omega) (h _ ?_ ?_) hp
  · rw [Int.fdiv_eq_ediv_of_nonneg _ (by omega)]; exact Int.ediv_nonneg ha (by omega)
  · rw [Int.fdiv_eq_ediv_of_nonneg _ (by omega)]; exact Int.ediv_le_self _ ha
theorem item3 {L l : Addr} {c : Nat} {i x y z : Int} {t1 t2 t3 ui : Tok} {value slice : Expr} {Q : Value → Shared → Prop} (N : News h₀ L s.heap news) (hm : (l, listOf [Value.int x t1, Value.int y t2, Value.int z t3].toArray c) ∈ news) (h0 : 0 ≤ i) (h1 : i < 3)
    (h : ∀ (v : Int) (t : Tok), (v = x ∨ v = y ∨ v = z) → Q (.int v t) s)
    (hs : subscripted slice false (.ref l) (.int i ui) = operate [.ref l, .int i ui] (getItem (.ref l) (.int i ui)) := by with_unfolding_all rfl) (hg : ∀ r, letTemporaryGo value (.ref l) r = pure () := by intro _; with_unfolding_all rfl) :
    wpAny (model prog w) A (subscriptTail value slice (.ref l) (.int i ui)) Q E s := by
  have hl : s.heap.IsList l [Value.int x t1, Value.int y t2, Value.int z t3].toArray := ⟨_, (N _ hm).1, rfl, c, rfl⟩
  have hi : i = 0 ∨ i = 1 ∨ i = 2 := by omega
  rcases hi with rfl | rfl | rfl
  · exact item_listL hl (by decide) (by decide) rfl (h x t1 (.inl rfl)) hs hg
  · exact item_listL hl (by decide) (by decide) rfl (h y t2 (.inr (.inl rfl))) hs hg
  · exact item_listL hl (by decide) (by decide) rfl (h z t3 (.inr (.inr rfl))) hs hg
end
theorem store_menu {M : Model} {A : Around} {E : Value → Shared → Prop} {s : Shared} {env : Env} {n : Str} {x y z : Int} {i : Nat} {t : Tok} {Q : Unit → Shared → Prop} (h : ∀ v : Int, (v = x ∨ v = y ∨ v = z ∨ v = 0) → wpAny M A (storeName env n (.int v t)) Q E s) :
    wpAny M A (storeName env n (.int ([x, y, z].getD i 0) t)) Q E s := by
  refine h _ ?_
  match i with
  | 0 => exact .inl rfl
  | 1 => exact .inr (.inl rfl)
  | 2 => exact .inr (.inr (.inl rfl))
  | _ + 3 => exact .inr (.inr (.inr rfl))
theorem norm_pos {u sc : Int} (h0 : 0 ≤ sc) (h1 : sc ≤ 12) (hn : sc = 0 ∨ u.fmod 10 ≠ 0) (h2 : 0 ≤ u) (h3 : u ≤ 10000000000000000000000000) : Norm u sc := ⟨h0, h1, hn, by
  have : (10 : Nat) ^ 30 = 1000000000000000000000000000000 := by decide
  rw [this]; omega⟩
theorem turn_word {u v sc : Int} (hu : u ≤ 10000000000000000000000000) (hs : sc ≤ 12) (h0 : 0 ≤ v) (h1 : v ≤ u) (hp : 0 < sc) : 0 ≤ v ∧ v ≤ 10000000000000000000000000 ∧ 0 ≤ sc - 1 ∧ sc - 1 ≤ 12 := by omega
theorem start_word {a b c v w sc : Int} (ha0 : 1 ≤ a) (ha : a ≤ 10000000000000000000000000) (hb0 : 1 ≤ b) (hb : b ≤ 10000000000000000000000000) (hw : w ≤ 10000000000000000000000000) (hc0 : 0 ≤ c) (hc : c < w) (hv : v = a - 1 ∨ v = b ∨ v = c ∨ v = 0) (h0 : 0 ≤ sc) (h1 : sc < 13) :
    0 ≤ v ∧ v ≤ 10000000000000000000000000 ∧ 0 ≤ sc ∧ sc ≤ 12 := by omega
theorem meas_word {sc : Int} (hp : 0 < sc) : (sc - 1).toNat < sc.toNat := by omega
theorem norm_neg {u sc : Int} (h : Norm u sc) : Norm (0 - u) sc := ⟨h.s0, h.s1, by
  rcases h.n with hn | hn
  · exact .inl hn
  · right
    rw [Int.fmod_eq_emod_of_nonneg _ (by decide)] at hn ⊢
    omega, by have := h.b; omega⟩
end
section
open PySem.Spec PySem.Calls
/-- a written number -/
def NumE (e : Expr) (n : Int) : Prop := (∃ k p, e = .Constant (.int n) k p) ∨ ∃ m k p q, e = .UnaryOp .USub (.Constant (.int m) k p) q ∧ n = -m
theorem NumE.pos {n : Int} {k : Nat} {p : Pos} : NumE (.Constant (.int n) k p) n := .inl ⟨k, p, rfl⟩
theorem NumE.neg {m : Int} {k : Nat} {p q : Pos} : NumE (.UnaryOp .USub (.Constant (.int m) k p) q) (-m) := .inr ⟨m, k, p, q, rfl, rfl⟩
/-- a written pair of numbers -/
def PairE (e : Expr) (p : Int × Int) : Prop := ∃ a b k q, e = .Tuple [a, b] k q ∧ NumE a p.1 ∧ NumE b p.2
theorem PairE.mk {a b : Expr} {u v : Int} {k : Nat} {q : Pos} (ha : NumE a u) (hb : NumE b v) : PairE (.Tuple [a, b] k q) (u, v) := ⟨a, b, k, q, rfl, ha, hb⟩
def PairsE : List Expr → List (Int × Int) → Prop
  | [], [] => True
  | e :: es, p :: ps => PairE e p ∧ PairsE es ps
  | _, _ => False
section
variable {prog : Program} {w : World} {A : Around} {E : Value → Shared → Prop} {s : Shared} {h₀ : Heap} {L : Addr} {m : Str → Option Value} {env : Env} {news : List (Addr × Obj)}
theorem num_eval {e : Expr} {n : Int} {Q : Value → Shared → Prop} (hn : NumE e n) (h : ∀ t k, Q (.int n t) { s with toks := k }) : wpAny (model prog w) A (eval e env) Q E s := by
  rcases hn with ⟨_, _, rfl⟩ | ⟨_, _, _, _, rfl, rfl⟩
  · exact wpAny_Constant_int (h _ _)
  · exact UnaryOp_ (wpAny_Constant_int (neg_int (h _ _)))
theorem num_plain {e : Expr} {n : Int} {rest : List Expr} (hn : NumE e n) : starEach (e :: rest) env = (false, eval e env) :: starEach rest env := by
  rcases hn with ⟨_, _, rfl⟩ | ⟨_, _, _, _, rfl, _⟩ <;> rfl
noncomputable abbrev pairObj (u v : Int) (t1 t2 : Tok) : Obj := { cls := .type "tuple", data := .seq [Value.int u t1, Value.int v t2].toArray }
theorem pair_eval {e : Expr} {p : Int × Int} {Q : Value → Shared → Prop} (hp : PairE e p) (F : Fr h₀ L s.heap m) (N : News h₀ L s.heap news)
    (h : ∀ D t1 t2 h' tk, Fr h₀ L h' m → News h₀ L h' ((D, pairObj p.1 p.2 t1 t2) :: news) → Q (.ref D) { s with heap := h', toks := tk }) : wpAny (model prog w) A (eval e env) Q E s := by
  obtain ⟨a, b, k, q, rfl, ha, hb⟩ := hp
  refine Tuple_ (wpAny_items_cons (num_eval ha fun t1 k1 => wpAny_items_cons (num_eval hb fun t2 k2 => wpAny_items_nil ?_) (num_plain hb)) (num_plain ha))
  exact newTuple_N (h₀ := h₀) (L := L) (m := m) (news := news) F N (fun h' F' N' => h _ t1 t2 h' _ F' N') (show 2 ≤ sizeLine by decide)
theorem pair_plain {e : Expr} {p : Int × Int} {rest : List Expr} (hp : PairE e p) : starEach (e :: rest) env = (false, eval e env) :: starEach rest env := by
  obtain ⟨a, b, k, q, rfl, ha, hb⟩ := hp
  rfl
/-- the values of a written row of pairs lie in the ledger -/
def PairsIn (ps : List (Int × Int)) (own : List (Addr × Obj)) (vs : List Value) : Prop :=
  ∀ v ∈ vs, ∃ D u c t1 t2, (u, c) ∈ ps ∧ v = .ref D ∧ (D, pairObj u c t1 t2) ∈ own
theorem pairs_eval {pos : Pos} : ∀ {es : List Expr} {ps : List (Int × Int)} {s : Shared} {news : List (Addr × Obj)} {Q : List Value → Shared → Prop}, PairsE es ps → Fr h₀ L s.heap m → News h₀ L s.heap news →
    (∀ vs own h' tk, vs.length = es.length → PairsIn ps own vs → Fr h₀ L h' m → News h₀ L h' (own ++ news) → Q vs { s with heap := h', toks := tk }) →
    wpAny (model prog w) A (spliced (backTo pos (starEach es env))) Q E s
  | [], ps, s, news, Q, hp, F, N, h => wpAny_items_nil (h [] [] s.heap s.toks rfl (fun v hv => nomatch hv) F N)
  | e :: es, [], s, news, Q, hp, F, N, h => hp.elim
  | e :: es, p :: ps, s, news, Q, hp, F, N, h => by
    have h1 : PairE e p := hp.1
    have h2 : PairsE es ps := hp.2
    refine wpAny_items_cons (pair_eval h1 F N fun D t1 t2 h' tk F' N' => ?_) (pair_plain h1)
    refine pairs_eval h2 F' N' fun vs own h'' tk' hl hi F'' N'' => ?_
    refine h (.ref D :: vs) (own ++ [(D, pairObj p.1 p.2 t1 t2)]) h'' tk' (by rw [List.length_cons, List.length_cons, hl]) ?_ F'' (by rw [List.append_assoc]; exact N'')
    intro v hv
    rcases List.mem_cons.mp hv with rfl | hv
    · exact ⟨D, p.1, p.2, t1, t2, .head _, rfl, List.mem_append_right _ (.head _)⟩
    · obtain ⟨D', u, c, t1', t2', m1, e1, m2⟩ := hi v hv
      exact ⟨D', u, c, t1', t2', .tail _ m1, e1, List.mem_append_left _ m2⟩
end
section
variable {prog : Program} {w : World} {A : Around} {E : Value → Shared → Prop} {s : Shared} {h₀ : Heap} {L a : Addr} {m : Str → Option Value} {news : List (Addr × Obj)} {x y name : Str} {scope : Scope} {cd : Value} {body : List Stmt} {Q : Flow → Shared → Prop}
/-- the end of a turn: one name holds what it held -/
def TurnZ (h₀ : Heap) (L : Addr) (own : List (Addr × Obj)) (s₁ : Shared) (z : Str) (v : Value) (f : Flow) (s₂ : Shared) : Prop :=
  f = .next ∧ ∃ h' tk m', s₂ = { s₁ with heap := h', toks := tk } ∧ Fr h₀ L h' m' ∧ News h₀ L h' own ∧ m' z = some v
theorem TurnZ.intro {own : List (Addr × Obj)} {s₁ : Shared} {z : Str} {v : Value} {h' : Heap} {tk : Nat} {m' : Str → Option Value} (F : Fr h₀ L h' m') (N : News h₀ L h' own) (hz : m' z = some v) : TurnZ h₀ L own s₁ z v .next { s₁ with heap := h', toks := tk } := ⟨rfl, h', tk, m', rfl, F, N, hz⟩
theorem keeps_name {m : Str → Option Value} {z : Str} {v : Value} (h : m z = some v) : m = fun k => if k = z then some v else m k := by
  funext k
  by_cases e : k = z
  · rw [if_pos e, e, h]
  · rw [if_neg e]
/-- a for loop over a written row of pairs: one turn for all -/
theorem for_pairs {ps : List (Int × Int)} {es : List Expr} {k1 k2 : Nat} {px py p3 p4 pos : Pos} (hp : PairsE es ps) (hlen : es.length ≤ sizeLine) (hh : A.handled = none) (F : Fr h₀ L s.heap m) (N : News h₀ L s.heap news)
    (hk : scope.kind = .function) (hx : (envOf name scope L a cd).kindOf x = some .local) (hy : (envOf name scope L a cd).kindOf y = some .local)
    (hE : PassesOwn (model prog w) A (envOf name scope L a cd) E)
    (z : Str) {v : Value} (hz : m z = some v)
    (turn : ∀ (u c : Int) (t1 t2 : Tok) (m₁ : Str → Option Value) (s₁ : Shared) (own : List (Addr × Obj)), (u, c) ∈ ps → Fr h₀ L s₁.heap (fun k => if k = y then some (.int c t2) else if k = x then some (.int u t1) else if k = z then some v else m₁ k) → News h₀ L s₁.heap own →
      wpAny (model prog w) A (execs body (envOf name scope L a cd)) (TurnZ h₀ L own s₁ z v) E s₁)
    (done : ∀ (m' : Str → Option Value) (h' : Heap) (tk : Nat), Fr h₀ L h' (fun k => if k = z then some v else m' k) → News h₀ L h' news → Q .next { s with heap := h', toks := tk }) :
    wpAny (model prog w) A (exec (.For (.Tuple [.Name x px, .Name y py] k1 p3) (.Tuple es k2 p4) body [] pos) (envOf name scope L a cd)) Q E s := by
  refine For_unr h₀ (Tuple_ (pairs_eval hp F N fun vs own h' tk hl hi F' N' => ?_)) (by intro _; rfl) hE
  refine newTuple_N F' N' (fun h2 F2 N2 => ?_) (by rw [hl]; exact hlen)
  have hT : IsTup h2 h'.objs.size vs.toArray := News.isTup N2 (.head _)
  refine Iter_tuple_unr hh hT F2 N2 (News.ne_locals N2 (.head _)) ?_
  have go : ∀ (k i : Nat) (m₁ : Str → Option Value), m₁ z = some v → Unr prog w A E h₀ (envOf name scope L a cd) (.Tuple [.Name x px, .Name y py] k1 p3) body Q (fun i v => vs.toArray[i]? = some v) [h2.objs.size, h'.objs.size]
      { s with heap := h2.push { cls := .type "tuple_iterator", data := .fields #[.ref h'.objs.size, .int 0 0] }, toks := tk } k i m₁ ((h'.objs.size, { cls := .type "tuple", data := .seq vs.toArray }) :: (own ++ news)) := by
    intro k
    induction k with
    | zero =>
      intro i m₁ hz₁
      exact Unr.zero fun h3 tk3 F3 N3 => done m₁ h3 tk3 (keeps_name hz₁ ▸ F3) fun p hp => N3 p (.tail _ (List.mem_append_right _ hp))
    | succ k ih =>
      intro i m₁ hz₁
      rw [keeps_name hz₁]
      refine Unr.succ fun v h3 tk3 own3 hv hsub F3 N3 => ?_
      obtain ⟨D, u, c, t1, t2, hm, rfl, hown⟩ := hi v (by
        have := List.getElem?_toArray (xs := vs) (i := i)
        exact List.mem_of_getElem? (by simpa using hv))
      refine unpackN_ F3 N3 (News.isTup N3 (List.mem_append_right _ (.tail _ (List.mem_append_left _ hown)))) hh rfl rfl fun h4 F4 N4 => ?_
      refine assignInOrder_cons (assign_Name (stN F4 N4 (fun h5 F5 N5 => ?_) hk hx))
      refine assignInOrder_cons (assign_Name (stN F5 N5 (fun h6 F6 N6 => ?_) hk hy))
      refine assignInOrder_nil ?_
      refine wpAny_mono (turn u c t1 t2 m₁ _ _ hm F6 N6) (fun f s₂ h₂ => ?_) fun _ _ e => e
      obtain ⟨rfl, h7, tk7, m7, rfl, F7, N7, hz7⟩ := h₂
      exact ⟨rfl, h7, tk7, m7, _, rfl, F7, N7, rfl, ih (i + 1) m7 hz7⟩
  exact go _ 0 m hz
end
/-- the pairs that the law writes -/
abbrev written : List (Int × Int) := [(0, 0), (5, 2), (-5, 2), (10, 0), (-1, 0), (9, 0), (100, 0), (-1001, 2), (-1, 3), (123456789012345678, 0), (-99, 1)]
theorem norm_written {u c : Int} (h : (u, c) ∈ written) : Norm u c := by
  have k : ∀ p ∈ written, 0 ≤ p.2 ∧ p.2 ≤ 12 ∧ (p.2 = 0 ∨ p.1.fmod 10 ≠ 0) ∧ p.1.natAbs < 10 ^ 30 := by decide
  have := k (u, c) h
  exact ⟨this.1, this.2.1, this.2.2.1, this.2.2.2⟩
end
section
open PySem.Spec PySem.Calls
set_option maxRecDepth 100000 in
set_option maxHeartbeats 8000000 in
theorem law_walk : PySem.Challenge.rw_pb0241_01.Holds := hd (by
  k_with_none
  k_with "execs cons" => (k_here; (try ((rename News _ _ _ _ => N9); (refine' drop_dead N9 ?sb ?_; (case sb => ((repeat (first | with_reducible apply Sub.tuple | with_reducible apply Sub.list | with_reducible apply Sub.keep)); with_reducible apply Sub.refl))); clear N9; intro N9)); refine gen_toks fun tk9 => wpAny_execs_cons ?_; (try dsimp only))
  k_with "call builtin:abs" => (refine abs_nat ?_; intro _ _)
  k_with "binaryOp Pow int int" => (k_here; refine pow10 (by omega) (by omega) ?_; intro v9 hv9 hw9)
  k_with "binaryOp Mod int int" => (k_here; (fail_if_success (with_reducible show wpAny _ _ (binaryOp _ _ (Value.int 10 _)) _ _ _)); refine mod_any (by first | decide | omega) ?_; intro v9 hv9 hw9)
  k_with "binaryOp FloorDiv int int" => (k_here; refine div_any (by omega) (by decide) (Or.inl (PyProof.noPylong_of_log2 (by decide +kernel))) ?_; intro v9 hv9 hw9)
  k_with "storeName" => (k_here; with_reducible refine store_menu ?_; intro v9 hv9)
  k_with "kst_in" => (intro p9 hp9; (repeat (first | with_reducible exact hp9 | with_reducible refine List.mem_cons_of_mem _ ?_)); done)
  k_with "exec For Tuple Tuple cons nil" => (k_here; k_dflt (refine' for_pairs (ps := written) ?k1 ?k2 ?k3 ?k4 ?k5 ?k6 ?k7 ?k8 ?k9 (Str.ofString "script") ?kz ?_ ?_; (case k1 => (repeat (first | exact trivial | refine And.intro (PairE.mk (by first | exact NumE.pos | exact NumE.neg) (by first | exact NumE.pos | exact NumE.neg)) ?_))); (case k2 => decide); (case k3 => rfl); (case k4 => k_asm); (case k5 => k_asm); (case k6 => rfl); (case k7 => rfl); (case k8 => rfl); (case k9 => passes_own); (case kz => rfl)); ((intro u9 c9 t9 t9' m9 s9 own9 hp9 F9 N9; (try k_sweep); (try k_fold)); rotate_left; intro m9 h9 tk9 F9 N9; (try k_sweep); rotate_right))
  k_with "call ref" => (k_here; (with_reducible show wpAny _ _ (call (.ref 245) _) _ _ _); with_unfolding_all refine' says_use (law_right_C _ _ _ _ _ _ _ _ _ ?p0) ?k1 ?k2 ?k3 ?k4 ?k5 ?kK ?kd ?ku ?_; (case k1 => k_asm); (case k2 => k_asm); (case k3 => k_asm); (case k4 => k_asm); (case k5 => k_asm); (case kK => first | exact rfl | assumption); (case p0 => first | exact norm_written (by assumption) | exact norm_pos (by assumption) (by assumption) (.inr (by assumption)) (by assumption) (by assumption) | exact norm_neg (norm_pos (by assumption) (by assumption) (.inr (by assumption)) (by assumption) (by assumption)) | exact norm_pos (by assumption) (by assumption) (.inl (by omega)) (by assumption) (by assumption) | exact norm_neg (norm_pos (by assumption) (by assumption) (.inl (by omega)) (by assumption) (by assumption))); (case kd => first | decide | ktr_room); (case ku => first | decide | ktr_units); intro h9 tk9 F9 N9; (try k_sweep); (try dsimp only))
  k_with "pyIter ref" => (k_here; (with_reducible show wpAny _ _ (pyIter (Value.ref _)) (fun it s₂ => LoopAtU _ _ _ _ _ _ _ _ _ it s₂) _ _); k_dflt (refine' for_made ?k1 ?k2 ?k3 ?k4 ?k5 ?_ ?_; (case k1 => rfl); (case k2 => k_asm); (case k3 => k_asm); (case k4 => k_mem); (case k5 => with_reducible assumption)); ((intro n9 t9 m9 s9 own9 hn9 F9 N9; (try k_sweep); (try k_fold)); rotate_left; intro m9 h9 tk9 F9; (try k_sweep); rotate_right))
  k_with "TurnZ" => (refine' TurnZ.intro ?F ?N ?Z; (case F => k_asm); (case N => with_reducible assumption); (case Z => k_dflt rfl))
  k_with "TurnDone" => (refine' TurnDone.intro ?F ?N; (case F => k_asm); (case N => first | with_reducible assumption | (refine' cb_drop ?cbN ?cbS; (case cbN => assumption); (case cbS => intro p hp; repeat (first | with_reducible exact hp | with_reducible refine List.mem_cons_of_mem _ ?_)))))
  k_with "exec While BoolOp" => k_while (fun _ units scale => 0 ≤ units ∧ units ≤ 10000000000000000000000000 ∧ 0 ≤ scale ∧ scale ≤ 12) (fun _ _ scale => scale.toNat) "units" "scale"
  k_with "state" => exact turn_word (by assumption) (by assumption) (by assumption) (by assumption) (by assumption)
  k_with "measure" => exact meas_word (by assumption)
  k_go0
  all_goals try k_fold
  k_steps
  done)
end
end Mine
theorem PySem.Challenge.cw_pb0241_01_holds : PySem.Challenge.rw_pb0241_01.Holds :=
  Mine.law_walk
