import PyProof.Rows.All
import Wide.All
import OpenK.AllK
import Wide.FinOn
import Lean
import PySem.Challenge.RW_sy0045_01
open PySem PySem.W PySem.Spec PySem.Calls PyProof.Rows
set_option Elab.async false
set_option maxRecDepth 100000
set_option maxHeartbeats 8000000
set_option exponentiation.threshold 5000
namespace Mine
section
local macro_rules | `(({ scope := $_, locals := $_, globals := $_, cells := $_, code := $_, frame := $_ } : $_)) => Lean.Macro.throwError "at once"
open_top hd for PySem.Challenge.rw_sy0045_01
end
theorem top_off : True := by
  w_top off
  trivial
abbrev Led := List (Addr × Obj)
noncomputable abbrev Loo : List Str := looseW hd.view_39 [Str.ofString "MOST", Str.ofString "number_of", Str.ofString "write_number"]
noncomputable def Spec (w : World) (mean : ExcName → Option Value) (mg mb : Str → Option Value) (d : Nat) (f : Addr) (vs : List Value) (news : Led) (Post : Value → Led → Prop) : Prop :=
  ∀ (dp un : Nat) (gd : Option (List Code)) (cn : Str) (cs : Scope) (a : Addr) (ccd : Value) (cl : List (Str × Addr)) (outer : List Env) (A₀ : Around) (base h₀ : Heap) (L : Addr) (m : Str → Option Value) (s : Shared) (Q E : Value → Shared → Prop),
    Below A₀ base outer h₀ → Fr h₀ L s.heap m → (hd.heap_39 w.params).In h₀ → News h₀ L s.heap news → Top hd.view_39 Loo mean mg mb h₀ → cs.kind = .function →
    dp + d < recursionLimit → un + 8 * d + 1000 < cLine →
    (∀ r news' h' tk', Fr h₀ L h' m → News h₀ L h' news' → Post r news' → Q r { s with heap := h', toks := tk' }) →
    wpAny (model PySem.Challenge.rw_sy0045_01.row.prog w) (ktrTop dp un gd cn cs L a ccd cl outer) (call (.ref f) vs) Q E s

theorem Spec.use {w : World} {mean : ExcName → Option Value} {mg mb : Str → Option Value} {d : Nat} {f : Addr} {vs : List Value} {news : Led} {Post : Value → Led → Prop} (S : Spec w mean mg mb d f vs news Post)
    {dp un : Nat} {gd : Option (List Code)} {cn : Str} {cs : Scope} {a : Addr} {ccd : Value} {cl : List (Str × Addr)} {outer : List Env} {A₀ : Around} {base h₀ : Heap} {L : Addr} {m : Str → Option Value} {s : Shared} {Q E : Value → Shared → Prop}
    (B : Below A₀ base outer h₀) (F : Fr h₀ L s.heap m) (X : (hd.heap_39 w.params).In h₀) (N : News h₀ L s.heap news) (T : Top hd.view_39 Loo mean mg mb h₀) (hk : cs.kind = .function)
    (hd : dp + d < recursionLimit) (hu : un + 8 * d + 1000 < cLine)
    (ret : ∀ r news' h' tk', Fr h₀ L h' m → News h₀ L h' news' → Post r news' → Q r { s with heap := h', toks := tk' }) :
    wpAny (model PySem.Challenge.rw_sy0045_01.row.prog w) (ktrTop dp un gd cn cs L a ccd cl outer) (call (.ref f) vs) Q E s :=
  S _ _ _ _ _ _ _ _ _ _ _ _ _ _ _ _ _ B F X N T hk hd hu ret

def IntR (x : Int) (news : Led) (r : Value) (n' : Led) : Prop := (∃ u, r = .int x u) ∧ news = n'
theorem IntR.mk' {x y : Int} {news n1 : Led} {u : Tok} (h : y = x) (hs : news = n1) : IntR x news (.int y u) n1 := ⟨⟨u, by rw [h]⟩, hs⟩

theorem ret_int {h₀ h' : Heap} {L : Addr} {m : Str → Option Value} {news nn : Led} {s : Shared} {Q : Value → Shared → Prop} {x y : Int} {t : Tok} {tk' : Nat}
    (hret : ∀ r news' h' tk', Fr h₀ L h' m → News h₀ L h' news' → IntR x news r news' → Q r { s with heap := h', toks := tk' })
    (F : Fr h₀ L h' m) (N : News h₀ L h' nn) (hs : ∀ p ∈ news, p ∈ nn) (e : y = x) : Q (.int y t) { s with heap := h', toks := tk' } :=
  hret _ news _ _ F (fun p hp => N p (hs p hp)) (IntR.mk' e rfl)
theorem Spec.useInt {w : World} {mean : ExcName → Option Value} {mg mb : Str → Option Value} {d : Nat} {f : Addr} {vs : List Value} {news : Led} {x : Int} {n1 : Led} (S : Spec w mean mg mb d f vs news (IntR x n1))
    {dp un : Nat} {gd : Option (List Code)} {cn : Str} {cs : Scope} {a : Addr} {ccd : Value} {cl : List (Str × Addr)} {outer : List Env} {A₀ : Around} {base h₀ : Heap} {L : Addr} {m : Str → Option Value} {s : Shared} {Q E : Value → Shared → Prop}
    (B : Below A₀ base outer h₀) (F : Fr h₀ L s.heap m) (X : (hd.heap_39 w.params).In h₀) (N : News h₀ L s.heap news) (T : Top hd.view_39 Loo mean mg mb h₀) (hk : cs.kind = .function)
    (hd : dp + d < recursionLimit) (hu : un + 8 * d + 1000 < cLine)
    (ret : ∀ u (h' : Heap) (tk' : Nat), Fr h₀ L h' m → News h₀ L h' n1 → Q (.int x u) { s with heap := h', toks := tk' }) :
    wpAny (model PySem.Challenge.rw_sy0045_01.row.prog w) (ktrTop dp un gd cn cs L a ccd cl outer) (call (.ref f) vs) Q E s :=
  S.use B F X N T hk hd hu fun _ _ h' tk' F' N' hp => by
    obtain ⟨⟨u, rfl⟩, rfl⟩ := hp
    exact ret u h' tk' F' N'
theorem un3 {A : Around} {un D k : Nat} (h : un + 8 * D + 1000 < cLine) (e : A.units = un) (l : 3 + 8 * k ≤ 8 * D) : A.units + 3 + 8 * k + 1000 < cLine := by rw [e]; omega
theorem unC {A : Around} {un D j c : Nat} (h : un + 8 * D + 1000 < cLine) (e : A.units = un + j) (l : j + c ≤ 8 * D + 1000) : A.units + c < cLine := by rw [e]; omega
theorem rm1 {A : Around} {dp D k : Nat} (h : dp + D < recursionLimit) (e : A.depth = dp) (l : 1 + k ≤ D) : A.depth + 1 + k < recursionLimit := by rw [e]; omega
theorem rm0 {A : Around} {dp D : Nat} (h : dp + D < recursionLimit) (e : A.depth = dp) : A.depth < recursionLimit := by rw [e]; omega

local macro_rules | `(tactic| walk_at $s:str) => `(tactic| k_extra $s)
local macro_rules | `(tactic| walk_at "x conj") => `(tactic| with_reducible first | exact (And.left (And.left (by assumption))) | exact (And.left (And.right (And.left (by assumption)))) | exact (And.right (And.right (And.left (by assumption)))) | exact (And.left (And.left (And.right (by assumption)))) | exact (And.left (And.right (And.left (And.right (by assumption))))) | exact (And.right (And.right (And.left (And.right (by assumption))))) | exact (And.left (And.left (And.right (And.right (by assumption))))) | exact (And.left (And.right (And.left (And.right (And.right (by assumption)))))) | exact (And.right (And.right (And.left (And.right (And.right (by assumption)))))) | exact (And.left (And.left (And.right (And.right (And.right (by assumption)))))) | exact (And.left (And.right (And.left (And.right (And.right (And.right (by assumption))))))) | exact (And.right (And.right (And.left (And.right (And.right (And.right (by assumption))))))) | exact (And.left (And.right (And.right (by assumption)))) | exact (And.left (And.right (And.right (And.right (by assumption))))) | exact (And.right (And.right (And.right (And.right (by assumption))))) | exact (And.left (And.right (And.right (And.right (by assumption))))) | exact (And.left (And.right (And.right (And.right (And.right (by assumption)))))) | exact (And.right (And.right (And.right (And.right (And.right (by assumption)))))))
local macro_rules | `(tactic| k_ne) => `(tactic| (refine neN ?_; (try dsimp only); first | with_reducible assumption | (with_reducible refine Ne.symm ?_; with_reducible assumption) | omega -splitDisjunctions | walk_at "x conj" | (with_reducible refine Ne.symm ?_; walk_at "x conj") | omega))
local macro_rules | `(tactic| ktr_units) => `(tactic| first | (refine' un3 ?h ?e ?l; (case h => with_reducible assumption); (case e => exact rfl); (case l => decide)) | (refine' unC ?h ?e ?l; (case h => with_reducible assumption); (case e => exact rfl); (case l => decide)))
local macro_rules | `(tactic| ktr_room) => `(tactic| first | (refine' rm1 ?h ?e ?l; (case h => with_reducible assumption); (case e => exact rfl); (case l => decide)) | (refine' rm0 ?h ?e; (case h => with_reducible assumption); (case e => exact rfl)))

local macro_rules | `(tactic| k_mem) => `(tactic| first | exact List.Mem.head _ | ktr_member | (refine List.mem_cons_of_mem _ ?_; k_mem))
local macro_rules | `(tactic| walk_at "ite") => `(tactic| with_reducible first | refine ite_pos (beq_iff_eq.mpr (by assumption)) ?_ | refine ite_neg (fun h => absurd (beq_iff_eq.mp h) (by assumption)) ?_ | refine ite_pos (decide_eq_true (by assumption)) ?_ | refine ite_neg (fun h => absurd (of_decide_eq_true h) (by assumption)) ?_)

def sgn (t : Int) : Int := if t > 0 then 1 else if t < 0 then -1 else 0

theorem sign_of_spec (w mean mg mb) (t : Int) (tk : Tok) (news : Led) : Spec w mean mg mb 1 31 [.int t tk] news (IntR (sgn t) news) := by
  unfold Spec; k_fill; intro dp un gd cn cs a ccd cl outer A₀ base h₀ L m s Q E B F X N T hk hdp hun hret
  ((refine wpAny_call ?_; k_dflt (refine' code_def ?k1 ?k2 ?k3 ?k4 ?k5 ?kA ?kF ?kK ?k6 ?k7 ?k8 ?k9 ?kB ?_ ?c2 ?c3 ?c4 ?c5; (case kA => exact rfl); (case kF => exact rfl); (case kK => assumption); (case k1 => k_asm); (case k2 => k_asm); (case k3 => k_asm); (case k4 => k_asm); (case k5 => k_asm); (case k6 => k_is); (case k7 => k_is); (case k8 => ktr_room); (case k9 => first | exact BindsTo.of_eq rfl | exact binds_K (by k_in) rfl (by k_is) rfl rfl rfl); (case c5 => decide); (case kB => exact locs rfl); (case c2 => exact rfl); (case c3 => exact rfl); (case c4 => exact rfl); k_whole; intro g' L' h' FG' F' N' B' X' T'; (try dsimp only); (try k_fold))))
  k_steps
  all_goals refine ret_int hret (by k_asm) (by k_asm) (fun _ h => h) ?_
  all_goals (unfold sgn; (repeat' split) <;> omega)


theorem cd_start (x y : Int) (hy : 0 ≤ y) : 0 ≤ (if x < 0 then -x else x) ∧ 0 ≤ y ∧ Int.gcd (if x < 0 then -x else x) y = Int.gcd x y := by
  refine ⟨by split <;> omega, hy, ?_⟩
  split
  · exact Int.neg_gcd
  · rfl
theorem cd_turn {x y f s : Int} (h : Int.gcd f s = Int.gcd x y) (h2 : 0 ≤ s) (hs : 0 < s) : 0 ≤ s ∧ 0 ≤ f.fmod s ∧ Int.gcd s (f.fmod s) = Int.gcd x y := by
  refine ⟨h2, Int.fmod_nonneg_of_pos f hs, ?_⟩
  rw [← h, Int.gcd_comm f s]
  have e : Int.gcd s (f.fmod s + s * f.fdiv s) = Int.gcd s (f.fmod s) := Int.gcd_add_mul_left_right ..
  rw [Int.fmod_add_mul_fdiv] at e
  exact e.symm
theorem cd_meas {f s : Int} (hs : 0 < s) : (f.fmod s).toNat < s.toNat := by
  have h1 := Int.fmod_nonneg_of_pos f hs
  have h2 := Int.fmod_lt_of_pos f hs
  omega
theorem cd_end {x y f s : Int} (h : Int.gcd f s = Int.gcd x y) (h1 : 0 ≤ f) (h2 : 0 ≤ s) (hs : ¬ 0 < s) : f = (Int.gcd x y : Int) := by
  have e : s = 0 := by omega
  rw [← h, e, Int.gcd_zero]; omega
  
theorem common_divisor_spec (w mean mg mb) (x y : Int) (tx ty : Tok) (hy : 0 ≤ y) (news : Led) : Spec w mean mg mb 1 24 [.int x tx, .int y ty] news (IntR (Int.gcd x y : Int) news) := by
  unfold Spec; k_fill; intro dp un gd cn cs a ccd cl outer A₀ base h₀ L m s Q E B F X N T hk hdp hun hret
  ((refine wpAny_call ?_; k_dflt (refine' code_def ?k1 ?k2 ?k3 ?k4 ?k5 ?kA ?kF ?kK ?k6 ?k7 ?k8 ?k9 ?kB ?_ ?c2 ?c3 ?c4 ?c5; (case kA => exact rfl); (case kF => exact rfl); (case kK => assumption); (case k1 => k_asm); (case k2 => k_asm); (case k3 => k_asm); (case k4 => k_asm); (case k5 => k_asm); (case k6 => k_is); (case k7 => k_is); (case k8 => ktr_room); (case k9 => first | exact BindsTo.of_eq rfl | exact binds_K (by k_in) rfl (by k_is) rfl rfl rfl); (case c5 => decide); (case kB => exact locs rfl); (case c2 => exact rfl); (case c3 => exact rfl); (case c4 => exact rfl); k_whole; intro g' L' h' FG' F' N' B' X' T'; (try dsimp only); (try k_fold))))
  k_with_none
  k_with "binaryOp Mod int int" => (k_dflt (k_extra "my mod"))
  k_with "binaryOp Pow int int" => (k_dflt (k_extra "my pow"))
  k_with "exec While Compare cons nil" => (k_dflt (k_extra "my while"))
  k_with "call ref" => (k_dflt (k_extra "my call"))
  k_with "eval Call Name" => ((k_here; (fail_if_success (with_reducible show wpAny _ _ (eval (PySem.Expr.Call (PySem.Expr.Name (PySem.Str.ofString "abs") _) _ _ _) _) _ _ _)); (fail_if_success (with_reducible show wpAny _ _ (eval (PySem.Expr.Call (PySem.Expr.Name (PySem.Str.ofString "len") _) _ _ _) _) _ _ _)); (fail_if_success (with_reducible show wpAny _ _ (eval (PySem.Expr.Call (PySem.Expr.Name (PySem.Str.ofString "range") _) _ _ _) _) _ _ _)); (fail_if_success (with_reducible show wpAny _ _ (eval (PySem.Expr.Call (PySem.Expr.Name (PySem.Str.ofString "max") _) _ _ _) _) _ _ _)); (fail_if_success (with_reducible show wpAny _ _ (eval (PySem.Expr.Call (PySem.Expr.Name (PySem.Str.ofString "min") _) _ _ _) _) _ _ _)); (fail_if_success (with_reducible show wpAny _ _ (eval (PySem.Expr.Call (PySem.Expr.Name (PySem.Str.ofString "int") _) _ _ _) _) _ _ _)); (fail_if_success (with_reducible show wpAny _ _ (eval (PySem.Expr.Call (PySem.Expr.Name (PySem.Str.ofString "str") _) _ _ _) _) _ _ _)); (with_reducible show wpAny _ _ (eval (PySem.Expr.Call (PySem.Expr.Name _ _) _ _ _) (envOf _ _ _ _ _)) _ _ _); refine Call_ ?_))
  k_with "execs cons" => (k_dflt (k_extra "my execs"))
  k_with "subscriptTail Name Constant ref int" => ((k_here; k_dflt (refine' item_tupleT ?t ?a ?b ?c ?d ?_; (case t => (refine' News.isTup ?tn ?tm; (case tn => k_asm); (case tm => k_mem))); (case a => decide); (case b => decide); (case c => rfl); (case d => rfl); k_whole)))
  k_with "state" => first | exact cd_start x y hy | exact cd_turn (by assumption) (by assumption) (by assumption)
  k_with "measure" => exact cd_meas (by assumption)
  k_with "my while" => k_while (fun (_ : List Int) f s => 0 ≤ f ∧ 0 ≤ s ∧ Int.gcd f s = Int.gcd x y) (fun _ _ s => s.toNat) "first" "second"
  k_steps
  all_goals refine' ret_int hret ?e1 ?e2 ?e3 ?e4
  case e1 => k_asm
  case e2 => k_asm
  case e3 => ((intro _ h9; repeat (first | exact h9 | apply List.mem_cons_of_mem)))
  case e4 => exact cd_end (by assumption) (by assumption) (by assumption) (by assumption)

abbrev MM : Int := 10000000000000000000000000000000000000000000000000000000000000000000000000000000000000000000000000000000000000000000000000000000000000000000000000000000000000000000000000000000000000000000000000000000000000000000000000000000000000000000000000000000000000000000000000000000000000000000000000000000000000000000000000000000000000000000000000000000000000000000000000000000000000000000000000000000000000000
theorem MM_pos : 0 < MM := by decide +kernel
theorem MM_bits : Builtin.Int.intBits MM ≤ 1400 := by decide +kernel
local macro_rules | `(tactic| bits_by_make) => `(tactic| first | (with_reducible assumption) | (with_reducible exact MM_bits))
theorem noPy {x y : Int} {n : Nat} (h : Builtin.Int.intBits y ≤ n) (hn : n ≤ 9000) : Builtin.divisionGoesByPylong x y = false := by
  refine PyProof.noPylong_of_log2 ?_
  by_cases h0 : y.natAbs = 0
  · rw [h0]; decide +kernel
  · have e : y.natAbs < 2 ^ n := intBits_le_iff.mp h
    have := (Nat.log2_lt h0).mpr e
    omega
theorem gcd_bits {x y : Int} {n : Nat} (hy : y ≠ 0) (h : Builtin.Int.intBits y ≤ n) : Builtin.Int.intBits (Int.gcd x y : Int) ≤ n := by
  refine intBits_le_of_natAbs ?_ h
  have := Int.gcd_le_natAbs_right x hy
  omega
def tupO (x y : Int) (t u : Tok) : Obj := { cls := .type "tuple", data := .seq #[.int x t, .int y u] }
/-- an answer: a new tuple of two ints upon the ledger -/
def TupR (p : Int × Int) (news : Led) (r : Value) (n' : Led) : Prop := ∃ q t u, r = .ref q ∧ (q, ({ cls := .type "tuple", data := .seq #[.int p.1 t, .int p.2 u] } : Obj)) :: news = n' ∧ ∀ p ∈ news, p.1 < q
theorem Spec.useTup {w : World} {mean : ExcName → Option Value} {mg mb : Str → Option Value} {d : Nat} {f : Addr} {vs : List Value} {news : Led} {p : Int × Int} {n1 : Led} (S : Spec w mean mg mb d f vs news (TupR p n1))
    {dp un : Nat} {gd : Option (List Code)} {cn : Str} {cs : Scope} {a : Addr} {ccd : Value} {cl : List (Str × Addr)} {outer : List Env} {A₀ : Around} {base h₀ : Heap} {L : Addr} {m : Str → Option Value} {s : Shared} {Q E : Value → Shared → Prop}
    (B : Below A₀ base outer h₀) (F : Fr h₀ L s.heap m) (X : (hd.heap_39 w.params).In h₀) (N : News h₀ L s.heap news) (T : Top hd.view_39 Loo mean mg mb h₀) (hk : cs.kind = .function)
    (hd : dp + d < recursionLimit) (hu : un + 8 * d + 1000 < cLine)
    (ret : ∀ (q : Addr) t u (h' : Heap) (tk' : Nat), Fr h₀ L h' m → News h₀ L h' ((q, ({ cls := .type "tuple", data := .seq #[.int p.1 t, .int p.2 u] } : Obj)) :: n1) → AllLt q n1 → Q (.ref q) { s with heap := h', toks := tk' }) :
    wpAny (model PySem.Challenge.rw_sy0045_01.row.prog w) (ktrTop dp un gd cn cs L a ccd cl outer) (call (.ref f) vs) Q E s :=
  S.use B F X N T hk hd hu fun _ _ h' tk' F' N' hp => by
    obtain ⟨q, t, u, rfl, rfl, l⟩ := hp
    exact ret q t u h' tk' F' N' (allLt_of l)

theorem ret_tup {h₀ h' : Heap} {L : Addr} {m : Str → Option Value} {news nn : Led} {s : Shared} {Q : Value → Shared → Prop} {p : Int × Int} {x' y' : Int} {q : Addr} {t u : Tok} {tk' : Nat}
    (hret : ∀ r news' h' tk', Fr h₀ L h' m → News h₀ L h' news' → TupR p news r news' → Q r { s with heap := h', toks := tk' })
    (F : Fr h₀ L h' m) (N : News h₀ L h' nn) (hs : ∀ p ∈ news, p ∈ nn) (hq : (q, ({ cls := .type "tuple", data := .seq #[.int x' t, .int y' u] } : Obj)) ∈ nn) (hl : ∀ p ∈ news, p.1 < q) (e : (x', y') = p) : Q (.ref q) { s with heap := h', toks := tk' } := by
  subst e
  refine hret _ ((q, ({ cls := .type "tuple", data := .seq #[.int x' t, .int y' u] } : Obj)) :: news) _ _ F (fun p hp => ?_) ⟨q, t, u, rfl, rfl, hl⟩
  rcases List.mem_cons.mp hp with rfl | hp
  · exact N _ hq
  · exact N p (hs p hp)

theorem lt_sub1 {x : Addr × Obj} {news : Led} {q : Addr} (h : ∀ p ∈ x :: news, p.1 < q) : ∀ p ∈ news, p.1 < q := fun p hp => h p (.tail _ hp)
theorem lt_sub2 {x y : Addr × Obj} {news : Led} {q : Addr} (h : ∀ p ∈ x :: y :: news, p.1 < q) : ∀ p ∈ news, p.1 < q := fun p hp => h p (.tail _ (.tail _ hp))
theorem lt_sub3 {x y z : Addr × Obj} {news : Led} {q : Addr} (h : ∀ p ∈ x :: y :: z :: news, p.1 < q) : ∀ p ∈ news, p.1 < q := fun p hp => h p (.tail _ (.tail _ (.tail _ hp)))
def num1 (t b : Int) : Int × Int := if MM * b ≤ (if t < 0 then -t else t) then (sgn t, 0) else (t.fdiv (Int.gcd t b), b.fdiv (Int.gcd t b))
def near (t b : Int) : Int := (2 * t.fdiv (Int.gcd t b) * MM + b.fdiv (Int.gcd t b)).fdiv (2 * b.fdiv (Int.gcd t b))
/-- what number_of tells of t over b, b above 0 -/
def numF (t b : Int) : Int × Int :=
  if MM * b ≤ (if t < 0 then -t else t) then (sgn t, 0)
  else if b.fdiv (Int.gcd t b) ≤ MM then (t.fdiv (Int.gcd t b), b.fdiv (Int.gcd t b)) else num1 (near t b) MM

theorem num1_big {t b : Int} (h : MM * b ≤ (if t < 0 then -t else t)) : num1 t b = (sgn t, 0) := if_pos h
theorem num1_sml {t b : Int} (h : ¬ MM * b ≤ (if t < 0 then -t else t)) : num1 t b = (t.fdiv (Int.gcd t b), b.fdiv (Int.gcd t b)) := if_neg h
theorem numF_big {t b : Int} (h : MM * b ≤ (if t < 0 then -t else t)) : numF t b = (sgn t, 0) := if_pos h
theorem numF_sml {t b : Int} (h : ¬ MM * b ≤ (if t < 0 then -t else t)) (h2 : b.fdiv (Int.gcd t b) ≤ MM) : numF t b = (t.fdiv (Int.gcd t b), b.fdiv (Int.gcd t b)) := by unfold numF; rw [if_neg h, if_pos h2]
theorem numF_near {t b : Int} (h : ¬ MM * b ≤ (if t < 0 then -t else t)) (h2 : ¬ b.fdiv (Int.gcd t b) ≤ MM) : numF t b = num1 (near t b) MM := by unfold numF; rw [if_neg h, if_neg h2]

theorem number_of_spec1 (w mean mg mb) (t b : Int) (tt tb : Tok) (hb : 0 < b) (hbb : Builtin.Int.intBits b ≤ 8000) (hle : b.fdiv (Int.gcd t b) ≤ MM) (news : Led) :
    Spec w mean mg mb 2 39 [.int t tt, .int b tb] news (TupR (num1 t b) news) := by
  have hg : 0 < (Int.gcd t b : Int) := by have := Int.gcd_pos_of_ne_zero_right t (show b ≠ 0 by omega); omega
  have hgb := gcd_bits (x := t) (show b ≠ 0 by omega) hbb
  unfold Spec; k_fill; intro dp un gd cn cs a ccd cl outer A₀ base h₀ L m s Q E B F X N T hk hdp hun hret
  ((refine wpAny_call ?_; k_dflt (refine' code_def ?k1 ?k2 ?k3 ?k4 ?k5 ?kA ?kF ?kK ?k6 ?k7 ?k8 ?k9 ?kB ?_ ?c2 ?c3 ?c4 ?c5; (case kA => exact rfl); (case kF => exact rfl); (case kK => assumption); (case k1 => k_asm); (case k2 => k_asm); (case k3 => k_asm); (case k4 => k_asm); (case k5 => k_asm); (case k6 => k_is); (case k7 => k_is); (case k8 => ktr_room); (case k9 => first | exact BindsTo.of_eq rfl | exact binds_K (by k_in) rfl (by k_is) rfl rfl rfl); (case c5 => decide); (case kB => exact locs rfl); (case c2 => exact rfl); (case c3 => exact rfl); (case c4 => exact rfl); k_whole; intro g' L' h' FG' F' N' B' X' T'; (try dsimp only); (try k_fold))))
  k_with_none
  k_with "binaryOp Mod int int" => (k_dflt (k_extra "my mod"))
  k_with "binaryOp Pow int int" => (k_dflt (k_extra "my pow"))
  k_with "exec While Compare cons nil" => (k_dflt (k_extra "my while"))
  k_with "call ref" => (k_dflt (k_extra "my call"))
  k_with "eval Call Name" => ((k_here; (fail_if_success (with_reducible show wpAny _ _ (eval (PySem.Expr.Call (PySem.Expr.Name (PySem.Str.ofString "abs") _) _ _ _) _) _ _ _)); (fail_if_success (with_reducible show wpAny _ _ (eval (PySem.Expr.Call (PySem.Expr.Name (PySem.Str.ofString "len") _) _ _ _) _) _ _ _)); (fail_if_success (with_reducible show wpAny _ _ (eval (PySem.Expr.Call (PySem.Expr.Name (PySem.Str.ofString "range") _) _ _ _) _) _ _ _)); (fail_if_success (with_reducible show wpAny _ _ (eval (PySem.Expr.Call (PySem.Expr.Name (PySem.Str.ofString "max") _) _ _ _) _) _ _ _)); (fail_if_success (with_reducible show wpAny _ _ (eval (PySem.Expr.Call (PySem.Expr.Name (PySem.Str.ofString "min") _) _ _ _) _) _ _ _)); (fail_if_success (with_reducible show wpAny _ _ (eval (PySem.Expr.Call (PySem.Expr.Name (PySem.Str.ofString "int") _) _ _ _) _) _ _ _)); (fail_if_success (with_reducible show wpAny _ _ (eval (PySem.Expr.Call (PySem.Expr.Name (PySem.Str.ofString "str") _) _ _ _) _) _ _ _)); (with_reducible show wpAny _ _ (eval (PySem.Expr.Call (PySem.Expr.Name _ _) _ _ _) (envOf _ _ _ _ _)) _ _ _); refine Call_ ?_))
  k_with "execs cons" => (k_dflt (k_extra "my execs"))
  k_with "subscriptTail Name Constant ref int" => ((k_here; k_dflt (refine' item_tupleT ?t ?a ?b ?c ?d ?_; (case t => (refine' News.isTup ?tn ?tm; (case tn => k_asm); (case tm => k_mem))); (case a => decide); (case b => decide); (case c => rfl); (case d => rfl); k_whole)))
  k_with "binaryOp FloorDiv int int" => (first | k_dflt (k_extra "my div") | (with_reducible refine' floordiv_int ?xa ?_ (Or.inl (noPy ?xb ?xc)); (case xa => first | assumption | omega); (case xb => bits_by_make); (case xc => decide)))
  k_with "my call" => first | ((with_reducible show wpAny _ _ (call (Value.ref 31) _) _ _ _); ((rename News _ _ _ _ => N8); (refine' Spec.useInt (sign_of_spec _ _ _ _ _ _ _) ?k1 ?k2 ?k3 N8 ?k5 ?kK ?kd ?ku ?_; (case k1 => k_asm); (case k2 => k_asm); (case k3 => k_asm); (case k5 => k_asm); (case kK => first | exact rfl | assumption); (case kd => ktr_room); (case ku => ktr_units); intro u9 h9 tk9 F9 N9; (try dsimp only); (try k_sweep); (try k_unmd); (try k_fold)))) | ((with_reducible show wpAny _ _ (call (Value.ref 24) _) _ _ _); ((rename News _ _ _ _ => N8); (refine' Spec.useInt (common_divisor_spec _ _ _ _ _ _ _ _ (by first | assumption | omega) _) ?k1 ?k2 ?k3 N8 ?k5 ?kK ?kd ?ku ?_; (case k1 => k_asm); (case k2 => k_asm); (case k3 => k_asm); (case k5 => k_asm); (case kK => first | exact rfl | assumption); (case kd => ktr_room); (case ku => ktr_units); intro u9 h9 tk9 F9 N9; (try dsimp only); (try k_sweep); (try k_unmd); (try k_fold))))
  k_steps
  all_goals (((refine' ret_tup (by assumption) ?e1 ?e2 ?e3 ?e4 ?e5 ?_; (case e1 => k_asm); (case e2 => k_asm); (case e3 => ((intro _ h9; repeat (first | exact h9 | apply List.mem_cons_of_mem)))); (case e4 => k_mem); (case e5 => (first | assumption | exact lt_sub1 (by assumption) | exact lt_sub2 (by assumption) | exact lt_sub3 (by assumption) | exact ktn_ltOf (by assumption) | exact ktn_ltOf (And.right (by assumption)) | exact ktn_ltOf (And.right (And.right (by assumption))) | exact ktn_ltOf (And.right (And.right (And.right (by assumption)))) | exact ktn_ltOf (And.right (And.right (And.right (And.right (by assumption))))))))))
  all_goals first | exact (num1_big (by assumption)).symm | exact (num1_sml (by assumption)).symm | omega

theorem near_bits {t b : Int} (ht : Builtin.Int.intBits t ≤ 30000) (hbb : Builtin.Int.intBits b ≤ 8000) : Builtin.Int.intBits (near t b) ≤ 40000 := by
  unfold near
  refine Nat.le_trans (bits_fdiv (bits_add (bits_mul (bits_mul (m := 2) (by decide) (bits_fdiv ht)) MM_bits) (bits_fdiv hbb))) (by decide)
theorem MM_red (x : Int) : MM.fdiv (Int.gcd x MM : Int) ≤ MM := by
  have := natAbs_fdiv_le MM (Int.gcd x MM : Int)
  have := MM_pos
  omega

theorem red_pos (t : Int) {b : Int} (hb : 0 < b) : 0 < b.fdiv (Int.gcd t b : Int) := by
  have hg : 0 < (Int.gcd t b : Int) := by have := Int.gcd_pos_of_ne_zero_right t (show b ≠ 0 by omega); omega
  have h := Int.mul_fdiv_cancel_of_dvd (Int.gcd_dvd_right t b)
  rcases Int.lt_or_le 0 (b.fdiv (Int.gcd t b : Int)) with h1 | h1
  · exact h1
  · have h2 := Int.mul_le_mul_of_nonneg_left h1 (Int.le_of_lt hg)
    rw [h, Int.mul_zero] at h2; omega

theorem number_of_spec (w mean mg mb) (t b : Int) (tt tb : Tok) (hb : 0 < b) (ht : Builtin.Int.intBits t ≤ 30000) (hbb : Builtin.Int.intBits b ≤ 8000) (news : Led) :
    Spec w mean mg mb 4 39 [.int t tt, .int b tb] news (TupR (numF t b) news) := by
  have hg : 0 < (Int.gcd t b : Int) := by have := Int.gcd_pos_of_ne_zero_right t (show b ≠ 0 by omega); omega
  have hgb := gcd_bits (x := t) (show b ≠ 0 by omega) hbb
  have hnb := near_bits ht hbb
  have hr := red_pos t hb
  unfold Spec; k_fill; intro dp un gd cn cs a ccd cl outer A₀ base h₀ L m s Q E B F X N T hk hdp hun hret
  ((refine wpAny_call ?_; k_dflt (refine' code_def ?k1 ?k2 ?k3 ?k4 ?k5 ?kA ?kF ?kK ?k6 ?k7 ?k8 ?k9 ?kB ?_ ?c2 ?c3 ?c4 ?c5; (case kA => exact rfl); (case kF => exact rfl); (case kK => assumption); (case k1 => k_asm); (case k2 => k_asm); (case k3 => k_asm); (case k4 => k_asm); (case k5 => k_asm); (case k6 => k_is); (case k7 => k_is); (case k8 => ktr_room); (case k9 => first | exact BindsTo.of_eq rfl | exact binds_K (by k_in) rfl (by k_is) rfl rfl rfl); (case c5 => decide); (case kB => exact locs rfl); (case c2 => exact rfl); (case c3 => exact rfl); (case c4 => exact rfl); k_whole; intro g' L' h' FG' F' N' B' X' T'; (try dsimp only); (try k_fold))))
  k_with_none
  k_with "binaryOp Mod int int" => (k_dflt (k_extra "my mod"))
  k_with "binaryOp Pow int int" => (k_dflt (k_extra "my pow"))
  k_with "exec While Compare cons nil" => (k_dflt (k_extra "my while"))
  k_with "call ref" => (k_dflt (k_extra "my call"))
  k_with "eval Call Name" => ((k_here; (fail_if_success (with_reducible show wpAny _ _ (eval (PySem.Expr.Call (PySem.Expr.Name (PySem.Str.ofString "abs") _) _ _ _) _) _ _ _)); (fail_if_success (with_reducible show wpAny _ _ (eval (PySem.Expr.Call (PySem.Expr.Name (PySem.Str.ofString "len") _) _ _ _) _) _ _ _)); (fail_if_success (with_reducible show wpAny _ _ (eval (PySem.Expr.Call (PySem.Expr.Name (PySem.Str.ofString "range") _) _ _ _) _) _ _ _)); (fail_if_success (with_reducible show wpAny _ _ (eval (PySem.Expr.Call (PySem.Expr.Name (PySem.Str.ofString "max") _) _ _ _) _) _ _ _)); (fail_if_success (with_reducible show wpAny _ _ (eval (PySem.Expr.Call (PySem.Expr.Name (PySem.Str.ofString "min") _) _ _ _) _) _ _ _)); (fail_if_success (with_reducible show wpAny _ _ (eval (PySem.Expr.Call (PySem.Expr.Name (PySem.Str.ofString "int") _) _ _ _) _) _ _ _)); (fail_if_success (with_reducible show wpAny _ _ (eval (PySem.Expr.Call (PySem.Expr.Name (PySem.Str.ofString "str") _) _ _ _) _) _ _ _)); (with_reducible show wpAny _ _ (eval (PySem.Expr.Call (PySem.Expr.Name _ _) _ _ _) (envOf _ _ _ _ _)) _ _ _); refine Call_ ?_))
  k_with "execs cons" => (k_dflt (k_extra "my execs"))
  k_with "subscriptTail Name Constant ref int" => ((k_here; k_dflt (refine' item_tupleT ?t ?a ?b ?c ?d ?_; (case t => (refine' News.isTup ?tn ?tm; (case tn => k_asm); (case tm => k_mem))); (case a => decide); (case b => decide); (case c => rfl); (case d => rfl); k_whole)))
  k_with "binaryOp FloorDiv int int" => (first | k_dflt (k_extra "my div") | (with_reducible refine' floordiv_int ?xa ?_ (Or.inl (noPy ?xb ?xc)); (case xa => first | assumption | omega); (case xb => bits_by_make); (case xc => decide)))
  k_with "my call" => first | ((with_reducible show wpAny _ _ (call (Value.ref 31) _) _ _ _); ((rename News _ _ _ _ => N8); (refine' Spec.useInt (sign_of_spec _ _ _ _ _ _ _) ?k1 ?k2 ?k3 N8 ?k5 ?kK ?kd ?ku ?_; (case k1 => k_asm); (case k2 => k_asm); (case k3 => k_asm); (case k5 => k_asm); (case kK => first | exact rfl | assumption); (case kd => ktr_room); (case ku => ktr_units); intro u9 h9 tk9 F9 N9; (try dsimp only); (try k_sweep); (try k_unmd); (try k_fold)))) | ((with_reducible show wpAny _ _ (call (Value.ref 24) _) _ _ _); ((rename News _ _ _ _ => N8); (refine' Spec.useInt (common_divisor_spec _ _ _ _ _ _ _ _ (by first | assumption | omega) _) ?k1 ?k2 ?k3 N8 ?k5 ?kK ?kd ?ku ?_; (case k1 => k_asm); (case k2 => k_asm); (case k3 => k_asm); (case k5 => k_asm); (case kK => first | exact rfl | assumption); (case kd => ktr_room); (case ku => ktr_units); intro u9 h9 tk9 F9 N9; (try dsimp only); (try k_sweep); (try k_unmd); (try k_fold)))) | ((with_reducible show wpAny _ _ (call (Value.ref 39) _) _ _ _); ((rename News _ _ _ _ => N8); (refine' Spec.useTup (number_of_spec1 _ _ _ _ (near t b) MM _ _ MM_pos (Nat.le_trans MM_bits (by decide)) (MM_red _) _) ?k1 ?k2 ?k3 N8 ?k5 ?kK ?kd ?ku ?_; (case k1 => k_asm); (case k2 => k_asm); (case k3 => k_asm); (case k5 => k_asm); (case kK => first | exact rfl | assumption); (case kd => ktr_room); (case ku => ktr_units); intro q9 t9 u9 h9 tk9 F9 N9 l9; (try dsimp only [AllLt] at l9); (try dsimp only); (try k_sweep); (try k_unmd); (try k_fold))))
  k_steps
  all_goals (((refine' ret_tup (by assumption) ?e1 ?e2 ?e3 ?e4 ?e5 ?_; (case e1 => k_asm); (case e2 => k_asm); (case e3 => ((intro _ h9; repeat (first | exact h9 | apply List.mem_cons_of_mem)))); (case e4 => k_mem); (case e5 => (first | assumption | exact lt_sub1 (by assumption) | exact lt_sub2 (by assumption) | exact lt_sub3 (by assumption) | exact ktn_ltOf (by assumption) | exact ktn_ltOf (And.right (by assumption)) | exact ktn_ltOf (And.right (And.right (by assumption))) | exact ktn_ltOf (And.right (And.right (And.right (by assumption)))) | exact ktn_ltOf (And.right (And.right (And.right (And.right (by assumption))))))))))
  all_goals first | exact (numF_big (by assumption)).symm | exact (numF_sml (by assumption) (by assumption)).symm | exact (numF_near (by assumption) (by assumption)).symm | omega

theorem number_of_specN (w mean mg mb) (t b : Int) (tt tb : Tok) (hb : b < 0) (ht : Builtin.Int.intBits (-t) ≤ 30000) (hbb : Builtin.Int.intBits (-b) ≤ 8000) (news : Led) :
    Spec w mean mg mb 4 39 [.int t tt, .int b tb] news (TupR (numF (-t) (-b)) news) := by
  have hg : 0 < (Int.gcd (-t) (-b) : Int) := by have := Int.gcd_pos_of_ne_zero_right (-t) (show -b ≠ 0 by omega); omega
  have hgb := gcd_bits (x := -t) (show -b ≠ 0 by omega) hbb
  have hnb := near_bits ht hbb
  have hr := red_pos (-t) (show 0 < -b by omega)
  unfold Spec; k_fill; intro dp un gd cn cs a ccd cl outer A₀ base h₀ L m s Q E B F X N T hk hdp hun hret
  ((refine wpAny_call ?_; k_dflt (refine' code_def ?k1 ?k2 ?k3 ?k4 ?k5 ?kA ?kF ?kK ?k6 ?k7 ?k8 ?k9 ?kB ?_ ?c2 ?c3 ?c4 ?c5; (case kA => exact rfl); (case kF => exact rfl); (case kK => assumption); (case k1 => k_asm); (case k2 => k_asm); (case k3 => k_asm); (case k4 => k_asm); (case k5 => k_asm); (case k6 => k_is); (case k7 => k_is); (case k8 => ktr_room); (case k9 => first | exact BindsTo.of_eq rfl | exact binds_K (by k_in) rfl (by k_is) rfl rfl rfl); (case c5 => decide); (case kB => exact locs rfl); (case c2 => exact rfl); (case c3 => exact rfl); (case c4 => exact rfl); k_whole; intro g' L' h' FG' F' N' B' X' T'; (try dsimp only); (try k_fold))))
  k_with_none
  k_with "binaryOp Mod int int" => (k_dflt (k_extra "my mod"))
  k_with "binaryOp Pow int int" => (k_dflt (k_extra "my pow"))
  k_with "exec While Compare cons nil" => (k_dflt (k_extra "my while"))
  k_with "call ref" => (k_dflt (k_extra "my call"))
  k_with "eval Call Name" => ((k_here; (fail_if_success (with_reducible show wpAny _ _ (eval (PySem.Expr.Call (PySem.Expr.Name (PySem.Str.ofString "abs") _) _ _ _) _) _ _ _)); (fail_if_success (with_reducible show wpAny _ _ (eval (PySem.Expr.Call (PySem.Expr.Name (PySem.Str.ofString "len") _) _ _ _) _) _ _ _)); (fail_if_success (with_reducible show wpAny _ _ (eval (PySem.Expr.Call (PySem.Expr.Name (PySem.Str.ofString "range") _) _ _ _) _) _ _ _)); (fail_if_success (with_reducible show wpAny _ _ (eval (PySem.Expr.Call (PySem.Expr.Name (PySem.Str.ofString "max") _) _ _ _) _) _ _ _)); (fail_if_success (with_reducible show wpAny _ _ (eval (PySem.Expr.Call (PySem.Expr.Name (PySem.Str.ofString "min") _) _ _ _) _) _ _ _)); (fail_if_success (with_reducible show wpAny _ _ (eval (PySem.Expr.Call (PySem.Expr.Name (PySem.Str.ofString "int") _) _ _ _) _) _ _ _)); (fail_if_success (with_reducible show wpAny _ _ (eval (PySem.Expr.Call (PySem.Expr.Name (PySem.Str.ofString "str") _) _ _ _) _) _ _ _)); (with_reducible show wpAny _ _ (eval (PySem.Expr.Call (PySem.Expr.Name _ _) _ _ _) (envOf _ _ _ _ _)) _ _ _); refine Call_ ?_))
  k_with "execs cons" => (k_dflt (k_extra "my execs"))
  k_with "subscriptTail Name Constant ref int" => ((k_here; k_dflt (refine' item_tupleT ?t ?a ?b ?c ?d ?_; (case t => (refine' News.isTup ?tn ?tm; (case tn => k_asm); (case tm => k_mem))); (case a => decide); (case b => decide); (case c => rfl); (case d => rfl); k_whole)))
  k_with "binaryOp FloorDiv int int" => (first | k_dflt (k_extra "my div") | (with_reducible refine' floordiv_int ?xa ?_ (Or.inl (noPy ?xb ?xc)); (case xa => first | assumption | omega); (case xb => bits_by_make); (case xc => decide)))
  k_with "my call" => first | ((with_reducible show wpAny _ _ (call (Value.ref 31) _) _ _ _); ((rename News _ _ _ _ => N8); (refine' Spec.useInt (sign_of_spec _ _ _ _ _ _ _) ?k1 ?k2 ?k3 N8 ?k5 ?kK ?kd ?ku ?_; (case k1 => k_asm); (case k2 => k_asm); (case k3 => k_asm); (case k5 => k_asm); (case kK => first | exact rfl | assumption); (case kd => ktr_room); (case ku => ktr_units); intro u9 h9 tk9 F9 N9; (try dsimp only); (try k_sweep); (try k_unmd); (try k_fold)))) | ((with_reducible show wpAny _ _ (call (Value.ref 24) _) _ _ _); ((rename News _ _ _ _ => N8); (refine' Spec.useInt (common_divisor_spec _ _ _ _ _ _ _ _ (by first | assumption | omega) _) ?k1 ?k2 ?k3 N8 ?k5 ?kK ?kd ?ku ?_; (case k1 => k_asm); (case k2 => k_asm); (case k3 => k_asm); (case k5 => k_asm); (case kK => first | exact rfl | assumption); (case kd => ktr_room); (case ku => ktr_units); intro u9 h9 tk9 F9 N9; (try dsimp only); (try k_sweep); (try k_unmd); (try k_fold)))) | ((with_reducible show wpAny _ _ (call (Value.ref 39) _) _ _ _); ((rename News _ _ _ _ => N8); (refine' Spec.useTup (number_of_spec1 _ _ _ _ (near (-t) (-b)) MM _ _ MM_pos (Nat.le_trans MM_bits (by decide)) (MM_red _) _) ?k1 ?k2 ?k3 N8 ?k5 ?kK ?kd ?ku ?_; (case k1 => k_asm); (case k2 => k_asm); (case k3 => k_asm); (case k5 => k_asm); (case kK => first | exact rfl | assumption); (case kd => ktr_room); (case ku => ktr_units); intro q9 t9 u9 h9 tk9 F9 N9 l9; (try dsimp only [AllLt] at l9); (try dsimp only); (try k_sweep); (try k_unmd); (try k_fold))))
  k_steps
  all_goals (((refine' ret_tup (by assumption) ?e1 ?e2 ?e3 ?e4 ?e5 ?_; (case e1 => k_asm); (case e2 => k_asm); (case e3 => ((intro _ h9; repeat (first | exact h9 | apply List.mem_cons_of_mem)))); (case e4 => k_mem); (case e5 => (first | assumption | exact lt_sub1 (by assumption) | exact lt_sub2 (by assumption) | exact lt_sub3 (by assumption) | exact ktn_ltOf (by assumption) | exact ktn_ltOf (And.right (by assumption)) | exact ktn_ltOf (And.right (And.right (by assumption))) | exact ktn_ltOf (And.right (And.right (And.right (by assumption)))) | exact ktn_ltOf (And.right (And.right (And.right (And.right (by assumption))))))))))
  all_goals first | exact (numF_big (by assumption)).symm | exact (numF_sml (by assumption) (by assumption)).symm | exact (numF_near (by assumption) (by assumption)).symm | omega

theorem number_of_specD (w mean mg mb) (t : Int) (tt : Tok) (news : Led) :
    Spec w mean mg mb 4 39 [.int t tt] news (TupR (numF t 1) news) := by
  have hg : 0 < (Int.gcd t 1 : Int) := by have := Int.gcd_pos_of_ne_zero_right t (show (1 : Int) ≠ 0 by omega); omega
  have hgb := gcd_bits (x := t) (show (1 : Int) ≠ 0 by omega) (show Builtin.Int.intBits 1 ≤ 1 by decide)
  have hle : (1 : Int).fdiv (Int.gcd t 1 : Int) ≤ MM := by rw [Int.gcd_one]; decide
  unfold Spec; k_fill; intro dp un gd cn cs a ccd cl outer A₀ base h₀ L m s Q E B F X N T hk hdp hun hret
  ((refine wpAny_call ?_; k_dflt (refine' code_def ?k1 ?k2 ?k3 ?k4 ?k5 ?kA ?kF ?kK ?k6 ?k7 ?k8 ?k9 ?kB ?_ ?c2 ?c3 ?c4 ?c5; (case kA => exact rfl); (case kF => exact rfl); (case kK => assumption); (case k1 => k_asm); (case k2 => k_asm); (case k3 => k_asm); (case k4 => k_asm); (case k5 => k_asm); (case k6 => k_is); (case k7 => k_is); (case k8 => ktr_room); (case k9 => first | exact BindsTo.of_eq rfl | exact binds_K (by k_in) rfl (by k_is) rfl rfl rfl); (case c5 => decide); (case kB => exact locs rfl); (case c2 => exact rfl); (case c3 => exact rfl); (case c4 => exact rfl); k_whole; intro g' L' h' FG' F' N' B' X' T'; (try dsimp only); (try k_fold))))
  k_with_none
  k_with "binaryOp Mod int int" => (k_dflt (k_extra "my mod"))
  k_with "binaryOp Pow int int" => (k_dflt (k_extra "my pow"))
  k_with "exec While Compare cons nil" => (k_dflt (k_extra "my while"))
  k_with "call ref" => (k_dflt (k_extra "my call"))
  k_with "eval Call Name" => ((k_here; (fail_if_success (with_reducible show wpAny _ _ (eval (PySem.Expr.Call (PySem.Expr.Name (PySem.Str.ofString "abs") _) _ _ _) _) _ _ _)); (fail_if_success (with_reducible show wpAny _ _ (eval (PySem.Expr.Call (PySem.Expr.Name (PySem.Str.ofString "len") _) _ _ _) _) _ _ _)); (fail_if_success (with_reducible show wpAny _ _ (eval (PySem.Expr.Call (PySem.Expr.Name (PySem.Str.ofString "range") _) _ _ _) _) _ _ _)); (fail_if_success (with_reducible show wpAny _ _ (eval (PySem.Expr.Call (PySem.Expr.Name (PySem.Str.ofString "max") _) _ _ _) _) _ _ _)); (fail_if_success (with_reducible show wpAny _ _ (eval (PySem.Expr.Call (PySem.Expr.Name (PySem.Str.ofString "min") _) _ _ _) _) _ _ _)); (fail_if_success (with_reducible show wpAny _ _ (eval (PySem.Expr.Call (PySem.Expr.Name (PySem.Str.ofString "int") _) _ _ _) _) _ _ _)); (fail_if_success (with_reducible show wpAny _ _ (eval (PySem.Expr.Call (PySem.Expr.Name (PySem.Str.ofString "str") _) _ _ _) _) _ _ _)); (with_reducible show wpAny _ _ (eval (PySem.Expr.Call (PySem.Expr.Name _ _) _ _ _) (envOf _ _ _ _ _)) _ _ _); refine Call_ ?_))
  k_with "execs cons" => (k_dflt (k_extra "my execs"))
  k_with "subscriptTail Name Constant ref int" => ((k_here; k_dflt (refine' item_tupleT ?t ?a ?b ?c ?d ?_; (case t => (refine' News.isTup ?tn ?tm; (case tn => k_asm); (case tm => k_mem))); (case a => decide); (case b => decide); (case c => rfl); (case d => rfl); k_whole)))
  k_with "binaryOp FloorDiv int int" => (first | k_dflt (k_extra "my div") | (with_reducible refine' floordiv_int ?xa ?_ (Or.inl (noPy ?xb ?xc)); (case xa => first | assumption | omega); (case xb => bits_by_make); (case xc => decide)))
  k_with "my call" => first | ((with_reducible show wpAny _ _ (call (Value.ref 31) _) _ _ _); ((rename News _ _ _ _ => N8); (refine' Spec.useInt (sign_of_spec _ _ _ _ _ _ _) ?k1 ?k2 ?k3 N8 ?k5 ?kK ?kd ?ku ?_; (case k1 => k_asm); (case k2 => k_asm); (case k3 => k_asm); (case k5 => k_asm); (case kK => first | exact rfl | assumption); (case kd => ktr_room); (case ku => ktr_units); intro u9 h9 tk9 F9 N9; (try dsimp only); (try k_sweep); (try k_unmd); (try k_fold)))) | ((with_reducible show wpAny _ _ (call (Value.ref 24) _) _ _ _); ((rename News _ _ _ _ => N8); (refine' Spec.useInt (common_divisor_spec _ _ _ _ _ _ _ _ (by first | assumption | omega) _) ?k1 ?k2 ?k3 N8 ?k5 ?kK ?kd ?ku ?_; (case k1 => k_asm); (case k2 => k_asm); (case k3 => k_asm); (case k5 => k_asm); (case kK => first | exact rfl | assumption); (case kd => ktr_room); (case ku => ktr_units); intro u9 h9 tk9 F9 N9; (try dsimp only); (try k_sweep); (try k_unmd); (try k_fold))))
  k_steps
  all_goals (((refine' ret_tup (by assumption) ?e1 ?e2 ?e3 ?e4 ?e5 ?_; (case e1 => k_asm); (case e2 => k_asm); (case e3 => ((intro _ h9; repeat (first | exact h9 | apply List.mem_cons_of_mem)))); (case e4 => k_mem); (case e5 => (first | assumption | exact lt_sub1 (by assumption) | exact lt_sub2 (by assumption) | exact lt_sub3 (by assumption) | exact ktn_ltOf (by assumption) | exact ktn_ltOf (And.right (by assumption)) | exact ktn_ltOf (And.right (And.right (by assumption))) | exact ktn_ltOf (And.right (And.right (And.right (by assumption)))) | exact ktn_ltOf (And.right (And.right (And.right (And.right (by assumption))))))))))
  all_goals first | exact (numF_big (by assumption)).symm | exact (numF_sml (by assumption) (by assumption)).symm | omega

abbrev tup (x y : Int) (t u : Tok) : Obj := { cls := .type "tuple", data := .seq #[.int x t, .int y u] }
def BoolR (b : Bool) (news : Led) (r : Value) (n' : Led) : Prop := r = .bool b ∧ news = n'
theorem Spec.useBool {w : World} {mean : ExcName → Option Value} {mg mb : Str → Option Value} {d : Nat} {f : Addr} {vs : List Value} {news : Led} {b : Bool} {n1 : Led} (S : Spec w mean mg mb d f vs news (BoolR b n1))
    {dp un : Nat} {gd : Option (List Code)} {cn : Str} {cs : Scope} {a : Addr} {ccd : Value} {cl : List (Str × Addr)} {outer : List Env} {A₀ : Around} {base h₀ : Heap} {L : Addr} {m : Str → Option Value} {s : Shared} {Q E : Value → Shared → Prop}
    (B : Below A₀ base outer h₀) (F : Fr h₀ L s.heap m) (X : (hd.heap_39 w.params).In h₀) (N : News h₀ L s.heap news) (T : Top hd.view_39 Loo mean mg mb h₀) (hk : cs.kind = .function)
    (hd : dp + d < recursionLimit) (hu : un + 8 * d + 1000 < cLine)
    (ret : ∀ (h' : Heap) (tk' : Nat), Fr h₀ L h' m → News h₀ L h' n1 → Q (.bool b) { s with heap := h', toks := tk' }) :
    wpAny (model PySem.Challenge.rw_sy0045_01.row.prog w) (ktrTop dp un gd cn cs L a ccd cl outer) (call (.ref f) vs) Q E s :=
  S.use B F X N T hk hd hu fun _ _ h' tk' F' N' hp => by
    obtain ⟨rfl, rfl⟩ := hp
    exact ret h' tk' F' N'
theorem ret_bool {h₀ h' : Heap} {L : Addr} {m : Str → Option Value} {news nn : Led} {s : Shared} {Q : Value → Shared → Prop} {x y : Bool} {tk' : Nat}
    (hret : ∀ r news' h' tk', Fr h₀ L h' m → News h₀ L h' news' → BoolR x news r news' → Q r { s with heap := h', toks := tk' })
    (F : Fr h₀ L h' m) (N : News h₀ L h' nn) (hs : ∀ p ∈ news, p ∈ nn) (e : y = x) : Q (.bool y) { s with heap := h', toks := tk' } :=
  hret _ news _ _ F (fun p hp => N p (hs p hp)) ⟨by rw [e], rfl⟩

/-- an answer: a tuple of two ints, new or not -/
def TupW (p : Int × Int) (news : Led) (r : Value) (n' : Led) : Prop := ∃ q t u, r = .ref q ∧ (q, ({ cls := .type "tuple", data := .seq #[.int p.1 t, .int p.2 u] } : Obj)) :: news = n' ∧ True
theorem Spec.useTupW {w : World} {mean : ExcName → Option Value} {mg mb : Str → Option Value} {d : Nat} {f : Addr} {vs : List Value} {news : Led} {p : Int × Int} {n1 : Led} (S : Spec w mean mg mb d f vs news (TupW p n1))
    {dp un : Nat} {gd : Option (List Code)} {cn : Str} {cs : Scope} {a : Addr} {ccd : Value} {cl : List (Str × Addr)} {outer : List Env} {A₀ : Around} {base h₀ : Heap} {L : Addr} {m : Str → Option Value} {s : Shared} {Q E : Value → Shared → Prop}
    (B : Below A₀ base outer h₀) (F : Fr h₀ L s.heap m) (X : (hd.heap_39 w.params).In h₀) (N : News h₀ L s.heap news) (T : Top hd.view_39 Loo mean mg mb h₀) (hk : cs.kind = .function)
    (hd : dp + d < recursionLimit) (hu : un + 8 * d + 1000 < cLine)
    (ret : ∀ (q : Addr) t u (h' : Heap) (tk' : Nat), Fr h₀ L h' m → News h₀ L h' ((q, ({ cls := .type "tuple", data := .seq #[.int p.1 t, .int p.2 u] } : Obj)) :: n1) → Q (.ref q) { s with heap := h', toks := tk' }) :
    wpAny (model PySem.Challenge.rw_sy0045_01.row.prog w) (ktrTop dp un gd cn cs L a ccd cl outer) (call (.ref f) vs) Q E s :=
  S.use B F X N T hk hd hu fun _ _ h' tk' F' N' hp => by
    obtain ⟨q, t, u, rfl, rfl, _⟩ := hp
    exact ret q t u h' tk' F' N'
theorem ret_tupw {h₀ h' : Heap} {L : Addr} {m : Str → Option Value} {news nn : Led} {s : Shared} {Q : Value → Shared → Prop} {p : Int × Int} {x' y' : Int} {q : Addr} {t u : Tok} {tk' : Nat}
    (hret : ∀ r news' h' tk', Fr h₀ L h' m → News h₀ L h' news' → TupW p news r news' → Q r { s with heap := h', toks := tk' })
    (F : Fr h₀ L h' m) (N : News h₀ L h' nn) (hs : ∀ p ∈ news, p ∈ nn) (hq : (q, ({ cls := .type "tuple", data := .seq #[.int x' t, .int y' u] } : Obj)) ∈ nn) (e : (x', y') = p) : Q (.ref q) { s with heap := h', toks := tk' } := by
  subst e
  refine hret _ ((q, ({ cls := .type "tuple", data := .seq #[.int x' t, .int y' u] } : Obj)) :: news) _ _ F (fun p hp => ?_) ⟨q, t, u, rfl, rfl, trivial⟩
  rcases List.mem_cons.mp hp with rfl | hp
  · exact N _ hq
  · exact N p (hs p hp)

theorem is_nan_spec (w mean mg mb) (x y : Int) (qa : Addr) (t u : Tok) (news : Led) (ha : (qa, tup x y t u) ∈ news) (hy : y ≠ 0) : Spec w mean mg mb 1 46 [.ref qa] news (BoolR false news) := by
  unfold Spec; k_fill; intro dp un gd cn cs a ccd cl outer A₀ base h₀ L m s Q E B F X N T hk hdp hun hret
  ((refine wpAny_call ?_; k_dflt (refine' code_def ?k1 ?k2 ?k3 ?k4 ?k5 ?kA ?kF ?kK ?k6 ?k7 ?k8 ?k9 ?kB ?_ ?c2 ?c3 ?c4 ?c5; (case kA => exact rfl); (case kF => exact rfl); (case kK => assumption); (case k1 => k_asm); (case k2 => k_asm); (case k3 => k_asm); (case k4 => k_asm); (case k5 => k_asm); (case k6 => k_is); (case k7 => k_is); (case k8 => ktr_room); (case k9 => first | exact BindsTo.of_eq rfl | exact binds_K (by k_in) rfl (by k_is) rfl rfl rfl); (case c5 => decide); (case kB => exact locs rfl); (case c2 => exact rfl); (case c3 => exact rfl); (case c4 => exact rfl); k_whole; intro g' L' h' FG' F' N' B' X' T'; (try dsimp only); (try k_fold))))
  k_with_none
  k_with "binaryOp Mod int int" => (k_dflt (k_extra "my mod"))
  k_with "binaryOp Pow int int" => (k_dflt (k_extra "my pow"))
  k_with "exec While Compare cons nil" => (k_dflt (k_extra "my while"))
  k_with "call ref" => (k_dflt (k_extra "my call"))
  k_with "eval Call Name" => ((k_here; (fail_if_success (with_reducible show wpAny _ _ (eval (PySem.Expr.Call (PySem.Expr.Name (PySem.Str.ofString "abs") _) _ _ _) _) _ _ _)); (fail_if_success (with_reducible show wpAny _ _ (eval (PySem.Expr.Call (PySem.Expr.Name (PySem.Str.ofString "len") _) _ _ _) _) _ _ _)); (fail_if_success (with_reducible show wpAny _ _ (eval (PySem.Expr.Call (PySem.Expr.Name (PySem.Str.ofString "range") _) _ _ _) _) _ _ _)); (fail_if_success (with_reducible show wpAny _ _ (eval (PySem.Expr.Call (PySem.Expr.Name (PySem.Str.ofString "max") _) _ _ _) _) _ _ _)); (fail_if_success (with_reducible show wpAny _ _ (eval (PySem.Expr.Call (PySem.Expr.Name (PySem.Str.ofString "min") _) _ _ _) _) _ _ _)); (fail_if_success (with_reducible show wpAny _ _ (eval (PySem.Expr.Call (PySem.Expr.Name (PySem.Str.ofString "int") _) _ _ _) _) _ _ _)); (fail_if_success (with_reducible show wpAny _ _ (eval (PySem.Expr.Call (PySem.Expr.Name (PySem.Str.ofString "str") _) _ _ _) _) _ _ _)); (with_reducible show wpAny _ _ (eval (PySem.Expr.Call (PySem.Expr.Name _ _) _ _ _) (envOf _ _ _ _ _)) _ _ _); refine Call_ ?_))
  k_with "execs cons" => (k_dflt (k_extra "my execs"))
  k_with "subscriptTail Name Constant ref int" => ((k_here; k_dflt (refine' item_tupleT ?t ?a ?b ?c ?d ?_; (case t => (refine' News.isTup ?tn ?tm; (case tn => k_asm); (case tm => k_mem))); (case a => decide); (case b => decide); (case c => rfl); (case d => rfl); k_whole)))
  k_with "binaryOp FloorDiv int int" => (first | k_dflt (k_extra "my div") | (with_reducible refine' floordiv_int ?xa ?_ (Or.inl (noPy ?xb ?xc)); (case xa => first | assumption | omega); (case xb => bits_by_make); (case xc => decide)))
  k_steps
  all_goals (((refine' ret_bool (by assumption) ?e1 ?e2 ?e3 ?_; (case e1 => k_asm); (case e2 => k_asm); (case e3 => ((intro _ h9; repeat (first | exact h9 | apply List.mem_cons_of_mem)))))))
  all_goals first | exact beq_false_of_ne hy | exact absurd ‹y = 0› hy

theorem negated_spec (w mean mg mb) (x y : Int) (qa : Addr) (t u : Tok) (news : Led) (ha : (qa, tup x y t u) ∈ news) : Spec w mean mg mb 1 53 [.ref qa] news (TupR (-x, y) news) := by
  unfold Spec; k_fill; intro dp un gd cn cs a ccd cl outer A₀ base h₀ L m s Q E B F X N T hk hdp hun hret
  ((refine wpAny_call ?_; k_dflt (refine' code_def ?k1 ?k2 ?k3 ?k4 ?k5 ?kA ?kF ?kK ?k6 ?k7 ?k8 ?k9 ?kB ?_ ?c2 ?c3 ?c4 ?c5; (case kA => exact rfl); (case kF => exact rfl); (case kK => assumption); (case k1 => k_asm); (case k2 => k_asm); (case k3 => k_asm); (case k4 => k_asm); (case k5 => k_asm); (case k6 => k_is); (case k7 => k_is); (case k8 => ktr_room); (case k9 => first | exact BindsTo.of_eq rfl | exact binds_K (by k_in) rfl (by k_is) rfl rfl rfl); (case c5 => decide); (case kB => exact locs rfl); (case c2 => exact rfl); (case c3 => exact rfl); (case c4 => exact rfl); k_whole; intro g' L' h' FG' F' N' B' X' T'; (try dsimp only); (try k_fold))))
  k_with_none
  k_with "binaryOp Mod int int" => (k_dflt (k_extra "my mod"))
  k_with "binaryOp Pow int int" => (k_dflt (k_extra "my pow"))
  k_with "exec While Compare cons nil" => (k_dflt (k_extra "my while"))
  k_with "call ref" => (k_dflt (k_extra "my call"))
  k_with "eval Call Name" => ((k_here; (fail_if_success (with_reducible show wpAny _ _ (eval (PySem.Expr.Call (PySem.Expr.Name (PySem.Str.ofString "abs") _) _ _ _) _) _ _ _)); (fail_if_success (with_reducible show wpAny _ _ (eval (PySem.Expr.Call (PySem.Expr.Name (PySem.Str.ofString "len") _) _ _ _) _) _ _ _)); (fail_if_success (with_reducible show wpAny _ _ (eval (PySem.Expr.Call (PySem.Expr.Name (PySem.Str.ofString "range") _) _ _ _) _) _ _ _)); (fail_if_success (with_reducible show wpAny _ _ (eval (PySem.Expr.Call (PySem.Expr.Name (PySem.Str.ofString "max") _) _ _ _) _) _ _ _)); (fail_if_success (with_reducible show wpAny _ _ (eval (PySem.Expr.Call (PySem.Expr.Name (PySem.Str.ofString "min") _) _ _ _) _) _ _ _)); (fail_if_success (with_reducible show wpAny _ _ (eval (PySem.Expr.Call (PySem.Expr.Name (PySem.Str.ofString "int") _) _ _ _) _) _ _ _)); (fail_if_success (with_reducible show wpAny _ _ (eval (PySem.Expr.Call (PySem.Expr.Name (PySem.Str.ofString "str") _) _ _ _) _) _ _ _)); (with_reducible show wpAny _ _ (eval (PySem.Expr.Call (PySem.Expr.Name _ _) _ _ _) (envOf _ _ _ _ _)) _ _ _); refine Call_ ?_))
  k_with "execs cons" => (k_dflt (k_extra "my execs"))
  k_with "subscriptTail Name Constant ref int" => ((k_here; k_dflt (refine' item_tupleT ?t ?a ?b ?c ?d ?_; (case t => (refine' News.isTup ?tn ?tm; (case tn => k_asm); (case tm => k_mem))); (case a => decide); (case b => decide); (case c => rfl); (case d => rfl); k_whole)))
  k_with "binaryOp FloorDiv int int" => (first | k_dflt (k_extra "my div") | (with_reducible refine' floordiv_int ?xa ?_ (Or.inl (noPy ?xb ?xc)); (case xa => first | assumption | omega); (case xb => bits_by_make); (case xc => decide)))
  k_steps
  all_goals (((refine' ret_tup (by assumption) ?e1 ?e2 ?e3 ?e4 ?e5 ?_; (case e1 => k_asm); (case e2 => k_asm); (case e3 => ((intro _ h9; repeat (first | exact h9 | apply List.mem_cons_of_mem)))); (case e4 => k_mem); (case e5 => (first | assumption | exact lt_sub1 (by assumption) | exact lt_sub2 (by assumption) | exact lt_sub3 (by assumption) | exact ktn_ltOf (by assumption) | exact ktn_ltOf (And.right (by assumption)) | exact ktn_ltOf (And.right (And.right (by assumption))) | exact ktn_ltOf (And.right (And.right (And.right (by assumption)))) | exact ktn_ltOf (And.right (And.right (And.right (And.right (by assumption))))))))))
  all_goals rfl

theorem plus_spec (w mean mg mb) (x y x' y' : Int) (qa qb : Addr) (t u t' u' : Tok) (news : Led) (ha : (qa, tup x y t u) ∈ news) (hb : (qb, tup x' y' t' u') ∈ news) (hy : 0 < y) (hy' : 0 < y')
    (b1 : Builtin.Int.intBits x ≤ 4000) (b2 : Builtin.Int.intBits y ≤ 1400) (b3 : Builtin.Int.intBits x' ≤ 4000) (b4 : Builtin.Int.intBits y' ≤ 1400) :
    Spec w mean mg mb 5 60 [.ref qa, .ref qb] news (TupR (numF (x * y' + x' * y) (y * y')) news) := by
  have hyy : 0 < y * y' := Int.mul_pos hy hy'
  have hy0 : y ≠ 0 := by omega
  have hy0' : y' ≠ 0 := by omega
  have c1 : Builtin.Int.intBits (x * y' + x' * y) ≤ 30000 := Nat.le_trans (bits_add (bits_mul b1 b4) (bits_mul b3 b2)) (by decide)
  have c2 : Builtin.Int.intBits (y * y') ≤ 8000 := Nat.le_trans (bits_mul b2 b4) (by decide)
  unfold Spec; k_fill; intro dp un gd cn cs a ccd cl outer A₀ base h₀ L m s Q E B F X N T hk hdp hun hret
  ((refine wpAny_call ?_; k_dflt (refine' code_def ?k1 ?k2 ?k3 ?k4 ?k5 ?kA ?kF ?kK ?k6 ?k7 ?k8 ?k9 ?kB ?_ ?c2 ?c3 ?c4 ?c5; (case kA => exact rfl); (case kF => exact rfl); (case kK => assumption); (case k1 => k_asm); (case k2 => k_asm); (case k3 => k_asm); (case k4 => k_asm); (case k5 => k_asm); (case k6 => k_is); (case k7 => k_is); (case k8 => ktr_room); (case k9 => first | exact BindsTo.of_eq rfl | exact binds_K (by k_in) rfl (by k_is) rfl rfl rfl); (case c5 => decide); (case kB => exact locs rfl); (case c2 => exact rfl); (case c3 => exact rfl); (case c4 => exact rfl); k_whole; intro g' L' h' FG' F' N' B' X' T'; (try dsimp only); (try k_fold))))
  k_with_none
  k_with "binaryOp Mod int int" => (k_dflt (k_extra "my mod"))
  k_with "binaryOp Pow int int" => (k_dflt (k_extra "my pow"))
  k_with "exec While Compare cons nil" => (k_dflt (k_extra "my while"))
  k_with "call ref" => (k_dflt (k_extra "my call"))
  k_with "eval Call Name" => ((k_here; (fail_if_success (with_reducible show wpAny _ _ (eval (PySem.Expr.Call (PySem.Expr.Name (PySem.Str.ofString "abs") _) _ _ _) _) _ _ _)); (fail_if_success (with_reducible show wpAny _ _ (eval (PySem.Expr.Call (PySem.Expr.Name (PySem.Str.ofString "len") _) _ _ _) _) _ _ _)); (fail_if_success (with_reducible show wpAny _ _ (eval (PySem.Expr.Call (PySem.Expr.Name (PySem.Str.ofString "range") _) _ _ _) _) _ _ _)); (fail_if_success (with_reducible show wpAny _ _ (eval (PySem.Expr.Call (PySem.Expr.Name (PySem.Str.ofString "max") _) _ _ _) _) _ _ _)); (fail_if_success (with_reducible show wpAny _ _ (eval (PySem.Expr.Call (PySem.Expr.Name (PySem.Str.ofString "min") _) _ _ _) _) _ _ _)); (fail_if_success (with_reducible show wpAny _ _ (eval (PySem.Expr.Call (PySem.Expr.Name (PySem.Str.ofString "int") _) _ _ _) _) _ _ _)); (fail_if_success (with_reducible show wpAny _ _ (eval (PySem.Expr.Call (PySem.Expr.Name (PySem.Str.ofString "str") _) _ _ _) _) _ _ _)); (with_reducible show wpAny _ _ (eval (PySem.Expr.Call (PySem.Expr.Name _ _) _ _ _) (envOf _ _ _ _ _)) _ _ _); refine Call_ ?_))
  k_with "execs cons" => (k_dflt (k_extra "my execs"))
  k_with "subscriptTail Name Constant ref int" => ((k_here; k_dflt (refine' item_tupleT ?t ?a ?b ?c ?d ?_; (case t => (refine' News.isTup ?tn ?tm; (case tn => k_asm); (case tm => k_mem))); (case a => decide); (case b => decide); (case c => rfl); (case d => rfl); k_whole)))
  k_with "binaryOp FloorDiv int int" => (first | k_dflt (k_extra "my div") | (with_reducible refine' floordiv_int ?xa ?_ (Or.inl (noPy ?xb ?xc)); (case xa => first | assumption | omega); (case xb => bits_by_make); (case xc => decide)))
  k_with "my call" => first | ((with_reducible show wpAny _ _ (call (Value.ref 46) _) _ _ _); ((rename News _ _ _ _ => N8); (refine' Spec.useBool (is_nan_spec _ _ _ _ _ _ _ _ _ _ (by k_mem) (by assumption)) ?k1 ?k2 ?k3 N8 ?k5 ?kK ?kd ?ku ?_; (case k1 => k_asm); (case k2 => k_asm); (case k3 => k_asm); (case k5 => k_asm); (case kK => first | exact rfl | assumption); (case kd => ktr_room); (case ku => ktr_units); intro h9 tk9 F9 N9; (try dsimp only); (try k_sweep); (try k_unmd); (try k_fold)))) | ((with_reducible show wpAny _ _ (call (Value.ref 39) _) _ _ _); ((rename News _ _ _ _ => N8); (refine' Spec.useTup (number_of_spec _ _ _ _ _ _ _ _ hyy c1 c2 _) ?k1 ?k2 ?k3 N8 ?k5 ?kK ?kd ?ku ?_; (case k1 => k_asm); (case k2 => k_asm); (case k3 => k_asm); (case k5 => k_asm); (case kK => first | exact rfl | assumption); (case kd => ktr_room); (case ku => ktr_units); intro q9 t9 u9 h9 tk9 F9 N9 l9; (try dsimp only [AllLt] at l9); (try dsimp only); (try k_sweep); (try k_unmd); (try k_fold))))
  k_steps
  all_goals first | (((refine' ret_tup (by assumption) ?e1 ?e2 ?e3 ?e4 ?e5 ?_; (case e1 => k_asm); (case e2 => k_asm); (case e3 => ((intro _ h9; repeat (first | exact h9 | apply List.mem_cons_of_mem)))); (case e4 => k_mem); (case e5 => (first | assumption | exact lt_sub1 (by assumption) | exact lt_sub2 (by assumption) | exact lt_sub3 (by assumption) | exact ktn_ltOf (by assumption) | exact ktn_ltOf (And.right (by assumption)) | exact ktn_ltOf (And.right (And.right (by assumption))) | exact ktn_ltOf (And.right (And.right (And.right (by assumption)))) | exact ktn_ltOf (And.right (And.right (And.right (And.right (by assumption)))))))))) | (exfalso; omega)
  all_goals rfl

theorem minus_spec (w mean mg mb) (x y x' y' : Int) (qa qb : Addr) (t u t' u' : Tok) (news : Led) (ha : (qa, tup x y t u) ∈ news) (hb : (qb, tup x' y' t' u') ∈ news) (hy : 0 < y) (hy' : 0 < y')
    (b1 : Builtin.Int.intBits x ≤ 4000) (b2 : Builtin.Int.intBits y ≤ 1400) (b3 : Builtin.Int.intBits x' ≤ 4000) (b4 : Builtin.Int.intBits y' ≤ 1400) :
    Spec w mean mg mb 6 67 [.ref qa, .ref qb] news (TupR (numF (x * y' + -x' * y) (y * y')) news) := by
  have b3' := bits_neg b3
  unfold Spec; k_fill; intro dp un gd cn cs a ccd cl outer A₀ base h₀ L m s Q E B F X N T hk hdp hun hret
  ((refine wpAny_call ?_; k_dflt (refine' code_def ?k1 ?k2 ?k3 ?k4 ?k5 ?kA ?kF ?kK ?k6 ?k7 ?k8 ?k9 ?kB ?_ ?c2 ?c3 ?c4 ?c5; (case kA => exact rfl); (case kF => exact rfl); (case kK => assumption); (case k1 => k_asm); (case k2 => k_asm); (case k3 => k_asm); (case k4 => k_asm); (case k5 => k_asm); (case k6 => k_is); (case k7 => k_is); (case k8 => ktr_room); (case k9 => first | exact BindsTo.of_eq rfl | exact binds_K (by k_in) rfl (by k_is) rfl rfl rfl); (case c5 => decide); (case kB => exact locs rfl); (case c2 => exact rfl); (case c3 => exact rfl); (case c4 => exact rfl); k_whole; intro g' L' h' FG' F' N' B' X' T'; (try dsimp only); (try k_fold))))
  k_with_none
  k_with "binaryOp Mod int int" => (k_dflt (k_extra "my mod"))
  k_with "binaryOp Pow int int" => (k_dflt (k_extra "my pow"))
  k_with "exec While Compare cons nil" => (k_dflt (k_extra "my while"))
  k_with "call ref" => (k_dflt (k_extra "my call"))
  k_with "eval Call Name" => ((k_here; (fail_if_success (with_reducible show wpAny _ _ (eval (PySem.Expr.Call (PySem.Expr.Name (PySem.Str.ofString "abs") _) _ _ _) _) _ _ _)); (fail_if_success (with_reducible show wpAny _ _ (eval (PySem.Expr.Call (PySem.Expr.Name (PySem.Str.ofString "len") _) _ _ _) _) _ _ _)); (fail_if_success (with_reducible show wpAny _ _ (eval (PySem.Expr.Call (PySem.Expr.Name (PySem.Str.ofString "range") _) _ _ _) _) _ _ _)); (fail_if_success (with_reducible show wpAny _ _ (eval (PySem.Expr.Call (PySem.Expr.Name (PySem.Str.ofString "max") _) _ _ _) _) _ _ _)); (fail_if_success (with_reducible show wpAny _ _ (eval (PySem.Expr.Call (PySem.Expr.Name (PySem.Str.ofString "min") _) _ _ _) _) _ _ _)); (fail_if_success (with_reducible show wpAny _ _ (eval (PySem.Expr.Call (PySem.Expr.Name (PySem.Str.ofString "int") _) _ _ _) _) _ _ _)); (fail_if_success (with_reducible show wpAny _ _ (eval (PySem.Expr.Call (PySem.Expr.Name (PySem.Str.ofString "str") _) _ _ _) _) _ _ _)); (with_reducible show wpAny _ _ (eval (PySem.Expr.Call (PySem.Expr.Name _ _) _ _ _) (envOf _ _ _ _ _)) _ _ _); refine Call_ ?_))
  k_with "execs cons" => (k_dflt (k_extra "my execs"))
  k_with "subscriptTail Name Constant ref int" => ((k_here; k_dflt (refine' item_tupleT ?t ?a ?b ?c ?d ?_; (case t => (refine' News.isTup ?tn ?tm; (case tn => k_asm); (case tm => k_mem))); (case a => decide); (case b => decide); (case c => rfl); (case d => rfl); k_whole)))
  k_with "binaryOp FloorDiv int int" => (first | k_dflt (k_extra "my div") | (with_reducible refine' floordiv_int ?xa ?_ (Or.inl (noPy ?xb ?xc)); (case xa => first | assumption | omega); (case xb => bits_by_make); (case xc => decide)))
  k_with "my call" => first | ((with_reducible show wpAny _ _ (call (Value.ref 53) _) _ _ _); ((rename News _ _ _ _ => N8); (refine' Spec.useTup (negated_spec _ _ _ _ _ _ _ _ _ _ (by k_mem)) ?k1 ?k2 ?k3 N8 ?k5 ?kK ?kd ?ku ?_; (case k1 => k_asm); (case k2 => k_asm); (case k3 => k_asm); (case k5 => k_asm); (case kK => first | exact rfl | assumption); (case kd => ktr_room); (case ku => ktr_units); intro q9 t9 u9 h9 tk9 F9 N9 l9; (try dsimp only [AllLt] at l9); (try dsimp only); (try k_sweep); (try k_unmd); (try k_fold)))) | ((with_reducible show wpAny _ _ (call (Value.ref 60) _) _ _ _); ((rename News _ _ _ _ => N8); (refine' Spec.useTup (plus_spec _ _ _ _ _ _ _ _ _ _ _ _ _ _ _ (by k_mem) (by k_mem) hy hy' b1 b2 b3' b4) ?k1 ?k2 ?k3 N8 ?k5 ?kK ?kd ?ku ?_; (case k1 => k_asm); (case k2 => k_asm); (case k3 => k_asm); (case k5 => k_asm); (case kK => first | exact rfl | assumption); (case kd => ktr_room); (case ku => ktr_units); intro q9 t9 u9 h9 tk9 F9 N9 l9; (try dsimp only [AllLt] at l9); (try dsimp only); (try k_sweep); (try k_unmd); (try k_fold))))
  k_steps
  all_goals (((refine' ret_tup (by assumption) ?e1 ?e2 ?e3 ?e4 ?e5 ?_; (case e1 => k_asm); (case e2 => k_asm); (case e3 => ((intro _ h9; repeat (first | exact h9 | apply List.mem_cons_of_mem)))); (case e4 => k_mem); (case e5 => (first | assumption | exact lt_sub1 (by assumption) | exact lt_sub2 (by assumption) | exact lt_sub3 (by assumption) | exact ktn_ltOf (by assumption) | exact ktn_ltOf (And.right (by assumption)) | exact ktn_ltOf (And.right (And.right (by assumption))) | exact ktn_ltOf (And.right (And.right (And.right (by assumption)))) | exact ktn_ltOf (And.right (And.right (And.right (And.right (by assumption))))))))))
  all_goals rfl

theorem times_spec (w mean mg mb) (x y x' y' : Int) (qa qb : Addr) (t u t' u' : Tok) (news : Led) (ha : (qa, tup x y t u) ∈ news) (hb : (qb, tup x' y' t' u') ∈ news) (hy : 0 < y) (hy' : 0 < y')
    (b1 : Builtin.Int.intBits x ≤ 4000) (b2 : Builtin.Int.intBits y ≤ 1400) (b3 : Builtin.Int.intBits x' ≤ 4000) (b4 : Builtin.Int.intBits y' ≤ 1400) :
    Spec w mean mg mb 5 74 [.ref qa, .ref qb] news (TupR (numF (x * x') (y * y')) news) := by
  have hyy : 0 < y * y' := Int.mul_pos hy hy'
  have hy0 : y ≠ 0 := by omega
  have hy0' : y' ≠ 0 := by omega
  have c2 : Builtin.Int.intBits (y * y') ≤ 8000 := Nat.le_trans (bits_mul b2 b4) (by decide)
  have c1 : Builtin.Int.intBits (x * x') ≤ 30000 := Nat.le_trans (bits_mul b1 b3) (by decide)
  unfold Spec; k_fill; intro dp un gd cn cs a ccd cl outer A₀ base h₀ L m s Q E B F X N T hk hdp hun hret
  ((refine wpAny_call ?_; k_dflt (refine' code_def ?k1 ?k2 ?k3 ?k4 ?k5 ?kA ?kF ?kK ?k6 ?k7 ?k8 ?k9 ?kB ?_ ?c2 ?c3 ?c4 ?c5; (case kA => exact rfl); (case kF => exact rfl); (case kK => assumption); (case k1 => k_asm); (case k2 => k_asm); (case k3 => k_asm); (case k4 => k_asm); (case k5 => k_asm); (case k6 => k_is); (case k7 => k_is); (case k8 => ktr_room); (case k9 => first | exact BindsTo.of_eq rfl | exact binds_K (by k_in) rfl (by k_is) rfl rfl rfl); (case c5 => decide); (case kB => exact locs rfl); (case c2 => exact rfl); (case c3 => exact rfl); (case c4 => exact rfl); k_whole; intro g' L' h' FG' F' N' B' X' T'; (try dsimp only); (try k_fold))))
  k_with_none
  k_with "binaryOp Mod int int" => (k_dflt (k_extra "my mod"))
  k_with "binaryOp Pow int int" => (k_dflt (k_extra "my pow"))
  k_with "exec While Compare cons nil" => (k_dflt (k_extra "my while"))
  k_with "call ref" => (k_dflt (k_extra "my call"))
  k_with "eval Call Name" => ((k_here; (fail_if_success (with_reducible show wpAny _ _ (eval (PySem.Expr.Call (PySem.Expr.Name (PySem.Str.ofString "abs") _) _ _ _) _) _ _ _)); (fail_if_success (with_reducible show wpAny _ _ (eval (PySem.Expr.Call (PySem.Expr.Name (PySem.Str.ofString "len") _) _ _ _) _) _ _ _)); (fail_if_success (with_reducible show wpAny _ _ (eval (PySem.Expr.Call (PySem.Expr.Name (PySem.Str.ofString "range") _) _ _ _) _) _ _ _)); (fail_if_success (with_reducible show wpAny _ _ (eval (PySem.Expr.Call (PySem.Expr.Name (PySem.Str.ofString "max") _) _ _ _) _) _ _ _)); (fail_if_success (with_reducible show wpAny _ _ (eval (PySem.Expr.Call (PySem.Expr.Name (PySem.Str.ofString "min") _) _ _ _) _) _ _ _)); (fail_if_success (with_reducible show wpAny _ _ (eval (PySem.Expr.Call (PySem.Expr.Name (PySem.Str.ofString "int") _) _ _ _) _) _ _ _)); (fail_if_success (with_reducible show wpAny _ _ (eval (PySem.Expr.Call (PySem.Expr.Name (PySem.Str.ofString "str") _) _ _ _) _) _ _ _)); (with_reducible show wpAny _ _ (eval (PySem.Expr.Call (PySem.Expr.Name _ _) _ _ _) (envOf _ _ _ _ _)) _ _ _); refine Call_ ?_))
  k_with "execs cons" => (k_dflt (k_extra "my execs"))
  k_with "subscriptTail Name Constant ref int" => ((k_here; k_dflt (refine' item_tupleT ?t ?a ?b ?c ?d ?_; (case t => (refine' News.isTup ?tn ?tm; (case tn => k_asm); (case tm => k_mem))); (case a => decide); (case b => decide); (case c => rfl); (case d => rfl); k_whole)))
  k_with "binaryOp FloorDiv int int" => (first | k_dflt (k_extra "my div") | (with_reducible refine' floordiv_int ?xa ?_ (Or.inl (noPy ?xb ?xc)); (case xa => first | assumption | omega); (case xb => bits_by_make); (case xc => decide)))
  k_with "my call" => first | ((with_reducible show wpAny _ _ (call (Value.ref 46) _) _ _ _); ((rename News _ _ _ _ => N8); (refine' Spec.useBool (is_nan_spec _ _ _ _ _ _ _ _ _ _ (by k_mem) (by assumption)) ?k1 ?k2 ?k3 N8 ?k5 ?kK ?kd ?ku ?_; (case k1 => k_asm); (case k2 => k_asm); (case k3 => k_asm); (case k5 => k_asm); (case kK => first | exact rfl | assumption); (case kd => ktr_room); (case ku => ktr_units); intro h9 tk9 F9 N9; (try dsimp only); (try k_sweep); (try k_unmd); (try k_fold)))) | ((with_reducible show wpAny _ _ (call (Value.ref 39) _) _ _ _); ((rename News _ _ _ _ => N8); (refine' Spec.useTup (number_of_spec _ _ _ _ _ _ _ _ hyy c1 c2 _) ?k1 ?k2 ?k3 N8 ?k5 ?kK ?kd ?ku ?_; (case k1 => k_asm); (case k2 => k_asm); (case k3 => k_asm); (case k5 => k_asm); (case kK => first | exact rfl | assumption); (case kd => ktr_room); (case ku => ktr_units); intro q9 t9 u9 h9 tk9 F9 N9 l9; (try dsimp only [AllLt] at l9); (try dsimp only); (try k_sweep); (try k_unmd); (try k_fold))))
  k_steps
  all_goals first | (((refine' ret_tup (by assumption) ?e1 ?e2 ?e3 ?e4 ?e5 ?_; (case e1 => k_asm); (case e2 => k_asm); (case e3 => ((intro _ h9; repeat (first | exact h9 | apply List.mem_cons_of_mem)))); (case e4 => k_mem); (case e5 => (first | assumption | exact lt_sub1 (by assumption) | exact lt_sub2 (by assumption) | exact lt_sub3 (by assumption) | exact ktn_ltOf (by assumption) | exact ktn_ltOf (And.right (by assumption)) | exact ktn_ltOf (And.right (And.right (by assumption))) | exact ktn_ltOf (And.right (And.right (And.right (by assumption)))) | exact ktn_ltOf (And.right (And.right (And.right (And.right (by assumption)))))))))) | (exfalso; omega)
  all_goals rfl

theorem floor_spec (w mean mg mb) (x y : Int) (qa : Addr) (t u : Tok) (news : Led) (ha : (qa, tup x y t u) ∈ news) (b2 : Builtin.Int.intBits y ≤ 1400) :
    Spec w mean mg mb 5 95 [.ref qa] news (TupW (if y = 0 then (x, y) else numF (x.fdiv y) 1) news) := by
  unfold Spec; k_fill; intro dp un gd cn cs a ccd cl outer A₀ base h₀ L m s Q E B F X N T hk hdp hun hret
  ((refine wpAny_call ?_; k_dflt (refine' code_def ?k1 ?k2 ?k3 ?k4 ?k5 ?kA ?kF ?kK ?k6 ?k7 ?k8 ?k9 ?kB ?_ ?c2 ?c3 ?c4 ?c5; (case kA => exact rfl); (case kF => exact rfl); (case kK => assumption); (case k1 => k_asm); (case k2 => k_asm); (case k3 => k_asm); (case k4 => k_asm); (case k5 => k_asm); (case k6 => k_is); (case k7 => k_is); (case k8 => ktr_room); (case k9 => first | exact BindsTo.of_eq rfl | exact binds_K (by k_in) rfl (by k_is) rfl rfl rfl); (case c5 => decide); (case kB => exact locs rfl); (case c2 => exact rfl); (case c3 => exact rfl); (case c4 => exact rfl); k_whole; intro g' L' h' FG' F' N' B' X' T'; (try dsimp only); (try k_fold))))
  k_with_none
  k_with "binaryOp Mod int int" => (k_dflt (k_extra "my mod"))
  k_with "binaryOp Pow int int" => (k_dflt (k_extra "my pow"))
  k_with "exec While Compare cons nil" => (k_dflt (k_extra "my while"))
  k_with "call ref" => (k_dflt (k_extra "my call"))
  k_with "eval Call Name" => ((k_here; (fail_if_success (with_reducible show wpAny _ _ (eval (PySem.Expr.Call (PySem.Expr.Name (PySem.Str.ofString "abs") _) _ _ _) _) _ _ _)); (fail_if_success (with_reducible show wpAny _ _ (eval (PySem.Expr.Call (PySem.Expr.Name (PySem.Str.ofString "len") _) _ _ _) _) _ _ _)); (fail_if_success (with_reducible show wpAny _ _ (eval (PySem.Expr.Call (PySem.Expr.Name (PySem.Str.ofString "range") _) _ _ _) _) _ _ _)); (fail_if_success (with_reducible show wpAny _ _ (eval (PySem.Expr.Call (PySem.Expr.Name (PySem.Str.ofString "max") _) _ _ _) _) _ _ _)); (fail_if_success (with_reducible show wpAny _ _ (eval (PySem.Expr.Call (PySem.Expr.Name (PySem.Str.ofString "min") _) _ _ _) _) _ _ _)); (fail_if_success (with_reducible show wpAny _ _ (eval (PySem.Expr.Call (PySem.Expr.Name (PySem.Str.ofString "int") _) _ _ _) _) _ _ _)); (fail_if_success (with_reducible show wpAny _ _ (eval (PySem.Expr.Call (PySem.Expr.Name (PySem.Str.ofString "str") _) _ _ _) _) _ _ _)); (with_reducible show wpAny _ _ (eval (PySem.Expr.Call (PySem.Expr.Name _ _) _ _ _) (envOf _ _ _ _ _)) _ _ _); refine Call_ ?_))
  k_with "execs cons" => (k_dflt (k_extra "my execs"))
  k_with "subscriptTail Name Constant ref int" => ((k_here; k_dflt (refine' item_tupleT ?t ?a ?b ?c ?d ?_; (case t => (refine' News.isTup ?tn ?tm; (case tn => k_asm); (case tm => k_mem))); (case a => decide); (case b => decide); (case c => rfl); (case d => rfl); k_whole)))
  k_with "binaryOp FloorDiv int int" => (first | k_dflt (k_extra "my div") | (with_reducible refine' floordiv_int ?xa ?_ (Or.inl (noPy ?xb ?xc)); (case xa => first | assumption | omega); (case xb => bits_by_make); (case xc => decide)))
  k_with "my call" => first | ((with_reducible show wpAny _ _ (call (Value.ref 39) _) _ _ _); ((rename News _ _ _ _ => N8); (refine' Spec.useTup (number_of_specD _ _ _ _ _ _ _) ?k1 ?k2 ?k3 N8 ?k5 ?kK ?kd ?ku ?_; (case k1 => k_asm); (case k2 => k_asm); (case k3 => k_asm); (case k5 => k_asm); (case kK => first | exact rfl | assumption); (case kd => ktr_room); (case ku => ktr_units); intro q9 t9 u9 h9 tk9 F9 N9 l9; (try dsimp only [AllLt] at l9); (try dsimp only); (try k_sweep); (try k_unmd); (try k_fold))))
  k_steps
  all_goals (((refine' ret_tupw (by assumption) ?e1 ?e2 ?e3 ?e4 ?_; (case e1 => k_asm); (case e2 => k_asm); (case e3 => ((intro _ h9; repeat (first | exact h9 | apply List.mem_cons_of_mem)))); (case e4 => k_mem))))
  all_goals first | exact (if_pos (by assumption)).symm | exact (if_neg (by assumption)).symm

theorem floor_specF (w mean mg mb) (x y : Int) (qa : Addr) (t u : Tok) (news : Led) (ha : (qa, tup x y t u) ∈ news) (hy : y ≠ 0) (b2 : Builtin.Int.intBits y ≤ 1400) :
    Spec w mean mg mb 5 95 [.ref qa] news (TupW (numF (x.fdiv y) 1) news) := by
  have h := floor_spec w mean mg mb x y qa t u news ha b2
  rw [if_neg hy] at h
  exact h

theorem ceiling_spec (w mean mg mb) (x y : Int) (qa : Addr) (t u : Tok) (news : Led) (ha : (qa, tup x y t u) ∈ news) (hy : y ≠ 0) (b2 : Builtin.Int.intBits y ≤ 1400) :
    Spec w mean mg mb 6 102 [.ref qa] news (TupW (-(numF ((-x).fdiv y) 1).1, (numF ((-x).fdiv y) 1).2) news) := by
  unfold Spec; k_fill; intro dp un gd cn cs a ccd cl outer A₀ base h₀ L m s Q E B F X N T hk hdp hun hret
  ((refine wpAny_call ?_; k_dflt (refine' code_def ?k1 ?k2 ?k3 ?k4 ?k5 ?kA ?kF ?kK ?k6 ?k7 ?k8 ?k9 ?kB ?_ ?c2 ?c3 ?c4 ?c5; (case kA => exact rfl); (case kF => exact rfl); (case kK => assumption); (case k1 => k_asm); (case k2 => k_asm); (case k3 => k_asm); (case k4 => k_asm); (case k5 => k_asm); (case k6 => k_is); (case k7 => k_is); (case k8 => ktr_room); (case k9 => first | exact BindsTo.of_eq rfl | exact binds_K (by k_in) rfl (by k_is) rfl rfl rfl); (case c5 => decide); (case kB => exact locs rfl); (case c2 => exact rfl); (case c3 => exact rfl); (case c4 => exact rfl); k_whole; intro g' L' h' FG' F' N' B' X' T'; (try dsimp only); (try k_fold))))
  k_with_none
  k_with "binaryOp Mod int int" => (k_dflt (k_extra "my mod"))
  k_with "binaryOp Pow int int" => (k_dflt (k_extra "my pow"))
  k_with "exec While Compare cons nil" => (k_dflt (k_extra "my while"))
  k_with "call ref" => (k_dflt (k_extra "my call"))
  k_with "eval Call Name" => ((k_here; (fail_if_success (with_reducible show wpAny _ _ (eval (PySem.Expr.Call (PySem.Expr.Name (PySem.Str.ofString "abs") _) _ _ _) _) _ _ _)); (fail_if_success (with_reducible show wpAny _ _ (eval (PySem.Expr.Call (PySem.Expr.Name (PySem.Str.ofString "len") _) _ _ _) _) _ _ _)); (fail_if_success (with_reducible show wpAny _ _ (eval (PySem.Expr.Call (PySem.Expr.Name (PySem.Str.ofString "range") _) _ _ _) _) _ _ _)); (fail_if_success (with_reducible show wpAny _ _ (eval (PySem.Expr.Call (PySem.Expr.Name (PySem.Str.ofString "max") _) _ _ _) _) _ _ _)); (fail_if_success (with_reducible show wpAny _ _ (eval (PySem.Expr.Call (PySem.Expr.Name (PySem.Str.ofString "min") _) _ _ _) _) _ _ _)); (fail_if_success (with_reducible show wpAny _ _ (eval (PySem.Expr.Call (PySem.Expr.Name (PySem.Str.ofString "int") _) _ _ _) _) _ _ _)); (fail_if_success (with_reducible show wpAny _ _ (eval (PySem.Expr.Call (PySem.Expr.Name (PySem.Str.ofString "str") _) _ _ _) _) _ _ _)); (with_reducible show wpAny _ _ (eval (PySem.Expr.Call (PySem.Expr.Name _ _) _ _ _) (envOf _ _ _ _ _)) _ _ _); refine Call_ ?_))
  k_with "execs cons" => (k_dflt (k_extra "my execs"))
  k_with "subscriptTail Name Constant ref int" => ((k_here; k_dflt (refine' item_tupleT ?t ?a ?b ?c ?d ?_; (case t => (refine' News.isTup ?tn ?tm; (case tn => k_asm); (case tm => k_mem))); (case a => decide); (case b => decide); (case c => rfl); (case d => rfl); k_whole)))
  k_with "binaryOp FloorDiv int int" => (first | k_dflt (k_extra "my div") | (with_reducible refine' floordiv_int ?xa ?_ (Or.inl (noPy ?xb ?xc)); (case xa => first | assumption | omega); (case xb => bits_by_make); (case xc => decide)))
  k_with "my call" => first | ((with_reducible show wpAny _ _ (call (Value.ref 53) _) _ _ _); ((rename News _ _ _ _ => N8); (refine' Spec.useTup (negated_spec _ _ _ _ _ _ _ _ _ _ (by k_mem)) ?k1 ?k2 ?k3 N8 ?k5 ?kK ?kd ?ku ?_; (case k1 => k_asm); (case k2 => k_asm); (case k3 => k_asm); (case k5 => k_asm); (case kK => first | exact rfl | assumption); (case kd => ktr_room); (case ku => ktr_units); intro q9 t9 u9 h9 tk9 F9 N9 l9; (try dsimp only [AllLt] at l9); (try dsimp only); (try k_sweep); (try k_unmd); (try k_fold)))) | (((with_reducible show wpAny _ _ (call (Value.ref 95) _) _ _ _); ((rename News _ _ _ _ => N8); (refine' Spec.useTupW (floor_specF _ _ _ _ (-x) y _ _ _ _ (by k_mem) hy b2) ?k1 ?k2 ?k3 N8 ?k5 ?kK ?kd ?ku ?_; (case k1 => k_asm); (case k2 => k_asm); (case k3 => k_asm); (case k5 => k_asm); (case kK => first | exact rfl | assumption); (case kd => ktr_room); (case ku => ktr_units); intro q9 t9 u9 h9 tk9 F9 N9; (try dsimp only); (try k_sweep); (try k_unmd); (try k_fold)))))
  k_steps
  all_goals (((refine' ret_tupw (by assumption) ?e1 ?e2 ?e3 ?e4 ?_; (case e1 => k_asm); (case e2 => k_asm); (case e3 => ((intro _ h9; repeat (first | exact h9 | apply List.mem_cons_of_mem)))); (case e4 => k_mem))))
  all_goals rfl


def rndF (x y : Int) : Int × Int := if (numF (x * 2 + 1 * y) (y * 2)).2 = 0 then numF (x * 2 + 1 * y) (y * 2) else numF ((numF (x * 2 + 1 * y) (y * 2)).1.fdiv (numF (x * 2 + 1 * y) (y * 2)).2) 1

theorem bits_le_of_nn {x y : Int} {n : Nat} (h0 : 0 ≤ x) (h : x ≤ y) (hb : Builtin.Int.intBits y ≤ n) : Builtin.Int.intBits x ≤ n := intBits_le_of_natAbs (by omega) hb
theorem num1_den (t : Int) : 0 ≤ (num1 t MM).2 ∧ (num1 t MM).2 ≤ MM := by
  by_cases h : MM * MM ≤ (if t < 0 then -t else t)
  · rw [num1_big h]; exact ⟨Int.le_refl 0, Int.le_of_lt MM_pos⟩
  · rw [num1_sml h]; exact ⟨Int.le_of_lt (red_pos t MM_pos), MM_red t⟩
theorem numF_den (t : Int) {b : Int} (hb : 0 < b) : 0 ≤ (numF t b).2 ∧ (numF t b).2 ≤ MM := by
  by_cases h : MM * b ≤ (if t < 0 then -t else t)
  · rw [numF_big h]; exact ⟨Int.le_refl 0, Int.le_of_lt MM_pos⟩
  · by_cases h2 : b.fdiv (Int.gcd t b) ≤ MM
    · rw [numF_sml h h2]; exact ⟨Int.le_of_lt (red_pos t hb), h2⟩
    · rw [numF_near h h2]; exact num1_den _
theorem numF_bits2 (t : Int) {b : Int} (hb : 0 < b) : Builtin.Int.intBits (numF t b).2 ≤ 1400 := bits_le_of_nn (numF_den t hb).1 (numF_den t hb).2 MM_bits

theorem rounded_spec (w mean mg mb) (x y : Int) (qa : Addr) (t u : Tok) (news : Led) (ha : (qa, tup x y t u) ∈ news) (hy : 0 < y) (b1 : Builtin.Int.intBits x ≤ 4000) (b2 : Builtin.Int.intBits y ≤ 1400) :
    Spec w mean mg mb 6 109 [.ref qa] news (TupW (rndF x y) news) := by
  have hb2 := numF_bits2 (x * 2 + 1 * y) (show 0 < y * 2 by omega)
  unfold Spec; k_fill; intro dp un gd cn cs a ccd cl outer A₀ base h₀ L m s Q E B F X N T hk hdp hun hret
  ((refine wpAny_call ?_; k_dflt (refine' code_def ?k1 ?k2 ?k3 ?k4 ?k5 ?kA ?kF ?kK ?k6 ?k7 ?k8 ?k9 ?kB ?_ ?c2 ?c3 ?c4 ?c5; (case kA => exact rfl); (case kF => exact rfl); (case kK => assumption); (case k1 => k_asm); (case k2 => k_asm); (case k3 => k_asm); (case k4 => k_asm); (case k5 => k_asm); (case k6 => k_is); (case k7 => k_is); (case k8 => ktr_room); (case k9 => first | exact BindsTo.of_eq rfl | exact binds_K (by k_in) rfl (by k_is) rfl rfl rfl); (case c5 => decide); (case kB => exact locs rfl); (case c2 => exact rfl); (case c3 => exact rfl); (case c4 => exact rfl); k_whole; intro g' L' h' FG' F' N' B' X' T'; (try dsimp only); (try k_fold))))
  k_with_none
  k_with "binaryOp Mod int int" => (k_dflt (k_extra "my mod"))
  k_with "binaryOp Pow int int" => (k_dflt (k_extra "my pow"))
  k_with "exec While Compare cons nil" => (k_dflt (k_extra "my while"))
  k_with "call ref" => (k_dflt (k_extra "my call"))
  k_with "eval Call Name" => ((k_here; (fail_if_success (with_reducible show wpAny _ _ (eval (PySem.Expr.Call (PySem.Expr.Name (PySem.Str.ofString "abs") _) _ _ _) _) _ _ _)); (fail_if_success (with_reducible show wpAny _ _ (eval (PySem.Expr.Call (PySem.Expr.Name (PySem.Str.ofString "len") _) _ _ _) _) _ _ _)); (fail_if_success (with_reducible show wpAny _ _ (eval (PySem.Expr.Call (PySem.Expr.Name (PySem.Str.ofString "range") _) _ _ _) _) _ _ _)); (fail_if_success (with_reducible show wpAny _ _ (eval (PySem.Expr.Call (PySem.Expr.Name (PySem.Str.ofString "max") _) _ _ _) _) _ _ _)); (fail_if_success (with_reducible show wpAny _ _ (eval (PySem.Expr.Call (PySem.Expr.Name (PySem.Str.ofString "min") _) _ _ _) _) _ _ _)); (fail_if_success (with_reducible show wpAny _ _ (eval (PySem.Expr.Call (PySem.Expr.Name (PySem.Str.ofString "int") _) _ _ _) _) _ _ _)); (fail_if_success (with_reducible show wpAny _ _ (eval (PySem.Expr.Call (PySem.Expr.Name (PySem.Str.ofString "str") _) _ _ _) _) _ _ _)); (with_reducible show wpAny _ _ (eval (PySem.Expr.Call (PySem.Expr.Name _ _) _ _ _) (envOf _ _ _ _ _)) _ _ _); refine Call_ ?_))
  k_with "execs cons" => (k_dflt (k_extra "my execs"))
  k_with "subscriptTail Name Constant ref int" => ((k_here; k_dflt (refine' item_tupleT ?t ?a ?b ?c ?d ?_; (case t => (refine' News.isTup ?tn ?tm; (case tn => k_asm); (case tm => k_mem))); (case a => decide); (case b => decide); (case c => rfl); (case d => rfl); k_whole)))
  k_with "binaryOp FloorDiv int int" => (first | k_dflt (k_extra "my div") | (with_reducible refine' floordiv_int ?xa ?_ (Or.inl (noPy ?xb ?xc)); (case xa => first | assumption | omega); (case xb => bits_by_make); (case xc => decide)))
  k_with "my call" => first | ((with_reducible show wpAny _ _ (call (Value.ref 60) _) _ _ _); ((rename News _ _ _ _ => N8); (refine' Spec.useTup (plus_spec _ _ _ _ x y 1 2 _ _ _ _ _ _ _ (by k_mem) (by k_mem) hy (by decide) b1 b2 (by decide) (by decide)) ?k1 ?k2 ?k3 N8 ?k5 ?kK ?kd ?ku ?_; (case k1 => k_asm); (case k2 => k_asm); (case k3 => k_asm); (case k5 => k_asm); (case kK => first | exact rfl | assumption); (case kd => ktr_room); (case ku => ktr_units); intro q9 t9 u9 h9 tk9 F9 N9 l9; (try dsimp only [AllLt] at l9); (try dsimp only); (try k_sweep); (try k_unmd); (try k_fold)))) | (((with_reducible show wpAny _ _ (call (Value.ref 95) _) _ _ _); ((rename News _ _ _ _ => N8); (refine' Spec.useTupW (floor_spec _ _ _ _ _ _ _ _ _ _ (by k_mem) hb2) ?k1 ?k2 ?k3 N8 ?k5 ?kK ?kd ?ku ?_; (case k1 => k_asm); (case k2 => k_asm); (case k3 => k_asm); (case k5 => k_asm); (case kK => first | exact rfl | assumption); (case kd => ktr_room); (case ku => ktr_units); intro q9 t9 u9 h9 tk9 F9 N9; (try dsimp only); (try k_sweep); (try k_unmd); (try k_fold)))))
  k_steps
  all_goals (((refine' ret_tupw (by assumption) ?e1 ?e2 ?e3 ?e4 ?_; (case e1 => k_asm); (case e2 => k_asm); (case e3 => ((intro _ h9; repeat (first | exact h9 | apply List.mem_cons_of_mem)))); (case e4 => k_mem))))
  all_goals rfl

theorem divided_spec0 (w mean mg mb) (x y x' y' : Int) (qa qb : Addr) (t u t' u' : Tok) (news : Led) (ha : (qa, tup x y t u) ∈ news) (hb : (qb, tup x' y' t' u') ∈ news) (hy : 0 < y) (hy' : 0 < y') (hx : x' = 0)
    (b1 : Builtin.Int.intBits x ≤ 4000) (b2 : Builtin.Int.intBits y ≤ 1400) (b3 : Builtin.Int.intBits x' ≤ 4000) (b4 : Builtin.Int.intBits y' ≤ 1400) :
    Spec w mean mg mb 5 81 [.ref qa, .ref qb] news (TupR (sgn x, 0) news) := by
  have hyy : 0 < y * y' := Int.mul_pos hy hy'
  have hy0 : y ≠ 0 := by omega
  have hy0' : y' ≠ 0 := by omega
  unfold Spec; k_fill; intro dp un gd cn cs a ccd cl outer A₀ base h₀ L m s Q E B F X N T hk hdp hun hret
  ((refine wpAny_call ?_; k_dflt (refine' code_def ?k1 ?k2 ?k3 ?k4 ?k5 ?kA ?kF ?kK ?k6 ?k7 ?k8 ?k9 ?kB ?_ ?c2 ?c3 ?c4 ?c5; (case kA => exact rfl); (case kF => exact rfl); (case kK => assumption); (case k1 => k_asm); (case k2 => k_asm); (case k3 => k_asm); (case k4 => k_asm); (case k5 => k_asm); (case k6 => k_is); (case k7 => k_is); (case k8 => ktr_room); (case k9 => first | exact BindsTo.of_eq rfl | exact binds_K (by k_in) rfl (by k_is) rfl rfl rfl); (case c5 => decide); (case kB => exact locs rfl); (case c2 => exact rfl); (case c3 => exact rfl); (case c4 => exact rfl); k_whole; intro g' L' h' FG' F' N' B' X' T'; (try dsimp only); (try k_fold))))
  k_with_none
  k_with "binaryOp Mod int int" => (k_dflt (k_extra "my mod"))
  k_with "binaryOp Pow int int" => (k_dflt (k_extra "my pow"))
  k_with "exec While Compare cons nil" => (k_dflt (k_extra "my while"))
  k_with "call ref" => (k_dflt (k_extra "my call"))
  k_with "eval Call Name" => ((k_here; (fail_if_success (with_reducible show wpAny _ _ (eval (PySem.Expr.Call (PySem.Expr.Name (PySem.Str.ofString "abs") _) _ _ _) _) _ _ _)); (fail_if_success (with_reducible show wpAny _ _ (eval (PySem.Expr.Call (PySem.Expr.Name (PySem.Str.ofString "len") _) _ _ _) _) _ _ _)); (fail_if_success (with_reducible show wpAny _ _ (eval (PySem.Expr.Call (PySem.Expr.Name (PySem.Str.ofString "range") _) _ _ _) _) _ _ _)); (fail_if_success (with_reducible show wpAny _ _ (eval (PySem.Expr.Call (PySem.Expr.Name (PySem.Str.ofString "max") _) _ _ _) _) _ _ _)); (fail_if_success (with_reducible show wpAny _ _ (eval (PySem.Expr.Call (PySem.Expr.Name (PySem.Str.ofString "min") _) _ _ _) _) _ _ _)); (fail_if_success (with_reducible show wpAny _ _ (eval (PySem.Expr.Call (PySem.Expr.Name (PySem.Str.ofString "int") _) _ _ _) _) _ _ _)); (fail_if_success (with_reducible show wpAny _ _ (eval (PySem.Expr.Call (PySem.Expr.Name (PySem.Str.ofString "str") _) _ _ _) _) _ _ _)); (with_reducible show wpAny _ _ (eval (PySem.Expr.Call (PySem.Expr.Name _ _) _ _ _) (envOf _ _ _ _ _)) _ _ _); refine Call_ ?_))
  k_with "execs cons" => (k_dflt (k_extra "my execs"))
  k_with "subscriptTail Name Constant ref int" => ((k_here; k_dflt (refine' item_tupleT ?t ?a ?b ?c ?d ?_; (case t => (refine' News.isTup ?tn ?tm; (case tn => k_asm); (case tm => k_mem))); (case a => decide); (case b => decide); (case c => rfl); (case d => rfl); k_whole)))
  k_with "binaryOp FloorDiv int int" => (first | k_dflt (k_extra "my div") | (with_reducible refine' floordiv_int ?xa ?_ (Or.inl (noPy ?xb ?xc)); (case xa => first | assumption | omega); (case xb => bits_by_make); (case xc => decide)))
  k_with "my call" => first | ((with_reducible show wpAny _ _ (call (Value.ref 46) _) _ _ _); ((rename News _ _ _ _ => N8); (refine' Spec.useBool (is_nan_spec _ _ _ _ _ _ _ _ _ _ (by k_mem) (by assumption)) ?k1 ?k2 ?k3 N8 ?k5 ?kK ?kd ?ku ?_; (case k1 => k_asm); (case k2 => k_asm); (case k3 => k_asm); (case k5 => k_asm); (case kK => first | exact rfl | assumption); (case kd => ktr_room); (case ku => ktr_units); intro h9 tk9 F9 N9; (try dsimp only); (try k_sweep); (try k_unmd); (try k_fold)))) | ((with_reducible show wpAny _ _ (call (Value.ref 31) _) _ _ _); ((rename News _ _ _ _ => N8); (refine' Spec.useInt (sign_of_spec _ _ _ _ _ _ _) ?k1 ?k2 ?k3 N8 ?k5 ?kK ?kd ?ku ?_; (case k1 => k_asm); (case k2 => k_asm); (case k3 => k_asm); (case k5 => k_asm); (case kK => first | exact rfl | assumption); (case kd => ktr_room); (case ku => ktr_units); intro u9 h9 tk9 F9 N9; (try dsimp only); (try k_sweep); (try k_unmd); (try k_fold))))
  k_steps
  all_goals first | (((refine' ret_tup (by assumption) ?e1 ?e2 ?e3 ?e4 ?e5 ?_; (case e1 => k_asm); (case e2 => k_asm); (case e3 => ((intro _ h9; repeat (first | exact h9 | apply List.mem_cons_of_mem)))); (case e4 => k_mem); (case e5 => (first | assumption | exact lt_sub1 (by assumption) | exact lt_sub2 (by assumption) | exact lt_sub3 (by assumption) | exact ktn_ltOf (by assumption) | exact ktn_ltOf (And.right (by assumption)) | exact ktn_ltOf (And.right (And.right (by assumption))) | exact ktn_ltOf (And.right (And.right (And.right (by assumption)))) | exact ktn_ltOf (And.right (And.right (And.right (And.right (by assumption)))))))))) | (exfalso; omega)
  all_goals rfl

theorem divided_specP (w mean mg mb) (x y x' y' : Int) (qa qb : Addr) (t u t' u' : Tok) (news : Led) (ha : (qa, tup x y t u) ∈ news) (hb : (qb, tup x' y' t' u') ∈ news) (hy : 0 < y) (hy' : 0 < y') (hx : 0 < x')
    (b1 : Builtin.Int.intBits x ≤ 4000) (b2 : Builtin.Int.intBits y ≤ 1400) (b3 : Builtin.Int.intBits x' ≤ 4000) (b4 : Builtin.Int.intBits y' ≤ 1400) :
    Spec w mean mg mb 5 81 [.ref qa, .ref qb] news (TupR (numF (x * y') (y * x')) news) := by
  have hyy : 0 < y * y' := Int.mul_pos hy hy'
  have hy0 : y ≠ 0 := by omega
  have hy0' : y' ≠ 0 := by omega
  have c0 : 0 < y * x' := Int.mul_pos hy hx
  have c1 : Builtin.Int.intBits (x * y') ≤ 30000 := Nat.le_trans (bits_mul b1 b4) (by decide)
  have c2 : Builtin.Int.intBits (y * x') ≤ 8000 := Nat.le_trans (bits_mul b2 b3) (by decide)
  unfold Spec; k_fill; intro dp un gd cn cs a ccd cl outer A₀ base h₀ L m s Q E B F X N T hk hdp hun hret
  ((refine wpAny_call ?_; k_dflt (refine' code_def ?k1 ?k2 ?k3 ?k4 ?k5 ?kA ?kF ?kK ?k6 ?k7 ?k8 ?k9 ?kB ?_ ?c2 ?c3 ?c4 ?c5; (case kA => exact rfl); (case kF => exact rfl); (case kK => assumption); (case k1 => k_asm); (case k2 => k_asm); (case k3 => k_asm); (case k4 => k_asm); (case k5 => k_asm); (case k6 => k_is); (case k7 => k_is); (case k8 => ktr_room); (case k9 => first | exact BindsTo.of_eq rfl | exact binds_K (by k_in) rfl (by k_is) rfl rfl rfl); (case c5 => decide); (case kB => exact locs rfl); (case c2 => exact rfl); (case c3 => exact rfl); (case c4 => exact rfl); k_whole; intro g' L' h' FG' F' N' B' X' T'; (try dsimp only); (try k_fold))))
  k_with_none
  k_with "binaryOp Mod int int" => (k_dflt (k_extra "my mod"))
  k_with "binaryOp Pow int int" => (k_dflt (k_extra "my pow"))
  k_with "exec While Compare cons nil" => (k_dflt (k_extra "my while"))
  k_with "call ref" => (k_dflt (k_extra "my call"))
  k_with "eval Call Name" => ((k_here; (fail_if_success (with_reducible show wpAny _ _ (eval (PySem.Expr.Call (PySem.Expr.Name (PySem.Str.ofString "abs") _) _ _ _) _) _ _ _)); (fail_if_success (with_reducible show wpAny _ _ (eval (PySem.Expr.Call (PySem.Expr.Name (PySem.Str.ofString "len") _) _ _ _) _) _ _ _)); (fail_if_success (with_reducible show wpAny _ _ (eval (PySem.Expr.Call (PySem.Expr.Name (PySem.Str.ofString "range") _) _ _ _) _) _ _ _)); (fail_if_success (with_reducible show wpAny _ _ (eval (PySem.Expr.Call (PySem.Expr.Name (PySem.Str.ofString "max") _) _ _ _) _) _ _ _)); (fail_if_success (with_reducible show wpAny _ _ (eval (PySem.Expr.Call (PySem.Expr.Name (PySem.Str.ofString "min") _) _ _ _) _) _ _ _)); (fail_if_success (with_reducible show wpAny _ _ (eval (PySem.Expr.Call (PySem.Expr.Name (PySem.Str.ofString "int") _) _ _ _) _) _ _ _)); (fail_if_success (with_reducible show wpAny _ _ (eval (PySem.Expr.Call (PySem.Expr.Name (PySem.Str.ofString "str") _) _ _ _) _) _ _ _)); (with_reducible show wpAny _ _ (eval (PySem.Expr.Call (PySem.Expr.Name _ _) _ _ _) (envOf _ _ _ _ _)) _ _ _); refine Call_ ?_))
  k_with "execs cons" => (k_dflt (k_extra "my execs"))
  k_with "subscriptTail Name Constant ref int" => ((k_here; k_dflt (refine' item_tupleT ?t ?a ?b ?c ?d ?_; (case t => (refine' News.isTup ?tn ?tm; (case tn => k_asm); (case tm => k_mem))); (case a => decide); (case b => decide); (case c => rfl); (case d => rfl); k_whole)))
  k_with "binaryOp FloorDiv int int" => (first | k_dflt (k_extra "my div") | (with_reducible refine' floordiv_int ?xa ?_ (Or.inl (noPy ?xb ?xc)); (case xa => first | assumption | omega); (case xb => bits_by_make); (case xc => decide)))
  k_with "my call" => first | ((with_reducible show wpAny _ _ (call (Value.ref 46) _) _ _ _); ((rename News _ _ _ _ => N8); (refine' Spec.useBool (is_nan_spec _ _ _ _ _ _ _ _ _ _ (by k_mem) (by assumption)) ?k1 ?k2 ?k3 N8 ?k5 ?kK ?kd ?ku ?_; (case k1 => k_asm); (case k2 => k_asm); (case k3 => k_asm); (case k5 => k_asm); (case kK => first | exact rfl | assumption); (case kd => ktr_room); (case ku => ktr_units); intro h9 tk9 F9 N9; (try dsimp only); (try k_sweep); (try k_unmd); (try k_fold)))) | ((with_reducible show wpAny _ _ (call (Value.ref 39) _) _ _ _); ((rename News _ _ _ _ => N8); (refine' Spec.useTup (number_of_spec _ _ _ _ _ _ _ _ c0 c1 c2 _) ?k1 ?k2 ?k3 N8 ?k5 ?kK ?kd ?ku ?_; (case k1 => k_asm); (case k2 => k_asm); (case k3 => k_asm); (case k5 => k_asm); (case kK => first | exact rfl | assumption); (case kd => ktr_room); (case ku => ktr_units); intro q9 t9 u9 h9 tk9 F9 N9 l9; (try dsimp only [AllLt] at l9); (try dsimp only); (try k_sweep); (try k_unmd); (try k_fold))))
  k_steps
  all_goals first | (((refine' ret_tup (by assumption) ?e1 ?e2 ?e3 ?e4 ?e5 ?_; (case e1 => k_asm); (case e2 => k_asm); (case e3 => ((intro _ h9; repeat (first | exact h9 | apply List.mem_cons_of_mem)))); (case e4 => k_mem); (case e5 => (first | assumption | exact lt_sub1 (by assumption) | exact lt_sub2 (by assumption) | exact lt_sub3 (by assumption) | exact ktn_ltOf (by assumption) | exact ktn_ltOf (And.right (by assumption)) | exact ktn_ltOf (And.right (And.right (by assumption))) | exact ktn_ltOf (And.right (And.right (And.right (by assumption)))) | exact ktn_ltOf (And.right (And.right (And.right (And.right (by assumption)))))))))) | (exfalso; omega)
  all_goals rfl

theorem divided_specN (w mean mg mb) (x y x' y' : Int) (qa qb : Addr) (t u t' u' : Tok) (news : Led) (ha : (qa, tup x y t u) ∈ news) (hb : (qb, tup x' y' t' u') ∈ news) (hy : 0 < y) (hy' : 0 < y') (hx : x' < 0)
    (b1 : Builtin.Int.intBits x ≤ 4000) (b2 : Builtin.Int.intBits y ≤ 1400) (b3 : Builtin.Int.intBits x' ≤ 4000) (b4 : Builtin.Int.intBits y' ≤ 1400) :
    Spec w mean mg mb 5 81 [.ref qa, .ref qb] news (TupR (numF (-(x * y')) (-(y * x'))) news) := by
  have hyy : 0 < y * y' := Int.mul_pos hy hy'
  have hy0 : y ≠ 0 := by omega
  have hy0' : y' ≠ 0 := by omega
  have c0 : y * x' < 0 := Int.mul_neg_of_pos_of_neg hy hx
  have c1 : Builtin.Int.intBits (-(x * y')) ≤ 30000 := Nat.le_trans (bits_neg (bits_mul b1 b4)) (by decide)
  have c2 : Builtin.Int.intBits (-(y * x')) ≤ 8000 := Nat.le_trans (bits_neg (bits_mul b2 b3)) (by decide)
  unfold Spec; k_fill; intro dp un gd cn cs a ccd cl outer A₀ base h₀ L m s Q E B F X N T hk hdp hun hret
  ((refine wpAny_call ?_; k_dflt (refine' code_def ?k1 ?k2 ?k3 ?k4 ?k5 ?kA ?kF ?kK ?k6 ?k7 ?k8 ?k9 ?kB ?_ ?c2 ?c3 ?c4 ?c5; (case kA => exact rfl); (case kF => exact rfl); (case kK => assumption); (case k1 => k_asm); (case k2 => k_asm); (case k3 => k_asm); (case k4 => k_asm); (case k5 => k_asm); (case k6 => k_is); (case k7 => k_is); (case k8 => ktr_room); (case k9 => first | exact BindsTo.of_eq rfl | exact binds_K (by k_in) rfl (by k_is) rfl rfl rfl); (case c5 => decide); (case kB => exact locs rfl); (case c2 => exact rfl); (case c3 => exact rfl); (case c4 => exact rfl); k_whole; intro g' L' h' FG' F' N' B' X' T'; (try dsimp only); (try k_fold))))
  k_with_none
  k_with "binaryOp Mod int int" => (k_dflt (k_extra "my mod"))
  k_with "binaryOp Pow int int" => (k_dflt (k_extra "my pow"))
  k_with "exec While Compare cons nil" => (k_dflt (k_extra "my while"))
  k_with "call ref" => (k_dflt (k_extra "my call"))
  k_with "eval Call Name" => ((k_here; (fail_if_success (with_reducible show wpAny _ _ (eval (PySem.Expr.Call (PySem.Expr.Name (PySem.Str.ofString "abs") _) _ _ _) _) _ _ _)); (fail_if_success (with_reducible show wpAny _ _ (eval (PySem.Expr.Call (PySem.Expr.Name (PySem.Str.ofString "len") _) _ _ _) _) _ _ _)); (fail_if_success (with_reducible show wpAny _ _ (eval (PySem.Expr.Call (PySem.Expr.Name (PySem.Str.ofString "range") _) _ _ _) _) _ _ _)); (fail_if_success (with_reducible show wpAny _ _ (eval (PySem.Expr.Call (PySem.Expr.Name (PySem.Str.ofString "max") _) _ _ _) _) _ _ _)); (fail_if_success (with_reducible show wpAny _ _ (eval (PySem.Expr.Call (PySem.Expr.Name (PySem.Str.ofString "min") _) _ _ _) _) _ _ _)); (fail_if_success (with_reducible show wpAny _ _ (eval (PySem.Expr.Call (PySem.Expr.Name (PySem.Str.ofString "int") _) _ _ _) _) _ _ _)); (fail_if_success (with_reducible show wpAny _ _ (eval (PySem.Expr.Call (PySem.Expr.Name (PySem.Str.ofString "str") _) _ _ _) _) _ _ _)); (with_reducible show wpAny _ _ (eval (PySem.Expr.Call (PySem.Expr.Name _ _) _ _ _) (envOf _ _ _ _ _)) _ _ _); refine Call_ ?_))
  k_with "execs cons" => (k_dflt (k_extra "my execs"))
  k_with "subscriptTail Name Constant ref int" => ((k_here; k_dflt (refine' item_tupleT ?t ?a ?b ?c ?d ?_; (case t => (refine' News.isTup ?tn ?tm; (case tn => k_asm); (case tm => k_mem))); (case a => decide); (case b => decide); (case c => rfl); (case d => rfl); k_whole)))
  k_with "binaryOp FloorDiv int int" => (first | k_dflt (k_extra "my div") | (with_reducible refine' floordiv_int ?xa ?_ (Or.inl (noPy ?xb ?xc)); (case xa => first | assumption | omega); (case xb => bits_by_make); (case xc => decide)))
  k_with "my call" => first | ((with_reducible show wpAny _ _ (call (Value.ref 46) _) _ _ _); ((rename News _ _ _ _ => N8); (refine' Spec.useBool (is_nan_spec _ _ _ _ _ _ _ _ _ _ (by k_mem) (by assumption)) ?k1 ?k2 ?k3 N8 ?k5 ?kK ?kd ?ku ?_; (case k1 => k_asm); (case k2 => k_asm); (case k3 => k_asm); (case k5 => k_asm); (case kK => first | exact rfl | assumption); (case kd => ktr_room); (case ku => ktr_units); intro h9 tk9 F9 N9; (try dsimp only); (try k_sweep); (try k_unmd); (try k_fold)))) | ((with_reducible show wpAny _ _ (call (Value.ref 39) _) _ _ _); ((rename News _ _ _ _ => N8); (refine' Spec.useTup (number_of_specN _ _ _ _ _ _ _ _ c0 c1 c2 _) ?k1 ?k2 ?k3 N8 ?k5 ?kK ?kd ?ku ?_; (case k1 => k_asm); (case k2 => k_asm); (case k3 => k_asm); (case k5 => k_asm); (case kK => first | exact rfl | assumption); (case kd => ktr_room); (case ku => ktr_units); intro q9 t9 u9 h9 tk9 F9 N9 l9; (try dsimp only [AllLt] at l9); (try dsimp only); (try k_sweep); (try k_unmd); (try k_fold))))
  k_steps
  all_goals first | (((refine' ret_tup (by assumption) ?e1 ?e2 ?e3 ?e4 ?e5 ?_; (case e1 => k_asm); (case e2 => k_asm); (case e3 => ((intro _ h9; repeat (first | exact h9 | apply List.mem_cons_of_mem)))); (case e4 => k_mem); (case e5 => (first | assumption | exact lt_sub1 (by assumption) | exact lt_sub2 (by assumption) | exact lt_sub3 (by assumption) | exact ktn_ltOf (by assumption) | exact ktn_ltOf (And.right (by assumption)) | exact ktn_ltOf (And.right (And.right (by assumption))) | exact ktn_ltOf (And.right (And.right (And.right (by assumption)))) | exact ktn_ltOf (And.right (And.right (And.right (And.right (by assumption)))))))))) | (exfalso; omega)
  all_goals rfl

theorem sgn_bits (t : Int) : Builtin.Int.intBits (sgn t) ≤ 1 := by
  unfold sgn
  split
  · decide
  · split <;> decide
/-- the magnitude, as the model tells it -/
abbrev mag (x : Int) : Int := if x < 0 then -x else x
theorem mag_bits {x : Int} {n : Nat} (h : Builtin.Int.intBits x ≤ n) : Builtin.Int.intBits (mag x) ≤ n := intBits_le_of_natAbs (by unfold mag; split <;> omega) h
theorem mag_ne {x : Int} (h : x ≠ 0) : mag x ≠ 0 := by unfold mag; split <;> omega
def modF (x y x' y' : Int) : Int × Int := numF (sgn (x * y') * (mag (x * y')).fmod (mag (x' * y))) (y * y')
theorem modulo_spec (w mean mg mb) (x y x' y' : Int) (qa qb : Addr) (t u t' u' : Tok) (news : Led) (ha : (qa, tup x y t u) ∈ news) (hb : (qb, tup x' y' t' u') ∈ news) (hy : 0 < y) (hy' : 0 < y') (hx : x' ≠ 0)
    (b1 : Builtin.Int.intBits x ≤ 4000) (b2 : Builtin.Int.intBits y ≤ 1400) (b3 : Builtin.Int.intBits x' ≤ 4000) (b4 : Builtin.Int.intBits y' ≤ 1400) :
    Spec w mean mg mb 5 88 [.ref qa, .ref qb] news (TupR (modF x y x' y') news) := by
  have hyy : 0 < y * y' := Int.mul_pos hy hy'
  have hy0 : y ≠ 0 := by omega
  have hy0' : y' ≠ 0 := by omega
  have d1 := sgn_bits (x * y')
  have d2 := mag_ne (Int.mul_ne_zero hx hy0)
  have d3 : Builtin.Int.intBits ((mag (x * y')).fmod (mag (x' * y))) ≤ 10000 := Nat.le_trans (bits_fmod (mag_bits (bits_mul b1 b4)) (mag_bits (bits_mul b3 b2))) (by decide)
  have c1 : Builtin.Int.intBits (sgn (x * y') * (mag (x * y')).fmod (mag (x' * y))) ≤ 30000 := Nat.le_trans (bits_mul d1 d3) (by decide)
  have c2 : Builtin.Int.intBits (y * y') ≤ 8000 := Nat.le_trans (bits_mul b2 b4) (by decide)
  unfold Spec; k_fill; intro dp un gd cn cs a ccd cl outer A₀ base h₀ L m s Q E B F X N T hk hdp hun hret
  ((refine wpAny_call ?_; k_dflt (refine' code_def ?k1 ?k2 ?k3 ?k4 ?k5 ?kA ?kF ?kK ?k6 ?k7 ?k8 ?k9 ?kB ?_ ?c2 ?c3 ?c4 ?c5; (case kA => exact rfl); (case kF => exact rfl); (case kK => assumption); (case k1 => k_asm); (case k2 => k_asm); (case k3 => k_asm); (case k4 => k_asm); (case k5 => k_asm); (case k6 => k_is); (case k7 => k_is); (case k8 => ktr_room); (case k9 => first | exact BindsTo.of_eq rfl | exact binds_K (by k_in) rfl (by k_is) rfl rfl rfl); (case c5 => decide); (case kB => exact locs rfl); (case c2 => exact rfl); (case c3 => exact rfl); (case c4 => exact rfl); k_whole; intro g' L' h' FG' F' N' B' X' T'; (try dsimp only); (try k_fold))))
  k_with_none
  k_with "binaryOp Mod int int" => (k_dflt (k_extra "my mod"))
  k_with "binaryOp Pow int int" => (k_dflt (k_extra "my pow"))
  k_with "exec While Compare cons nil" => (k_dflt (k_extra "my while"))
  k_with "call ref" => (k_dflt (k_extra "my call"))
  k_with "eval Call Name" => ((k_here; (fail_if_success (with_reducible show wpAny _ _ (eval (PySem.Expr.Call (PySem.Expr.Name (PySem.Str.ofString "abs") _) _ _ _) _) _ _ _)); (fail_if_success (with_reducible show wpAny _ _ (eval (PySem.Expr.Call (PySem.Expr.Name (PySem.Str.ofString "len") _) _ _ _) _) _ _ _)); (fail_if_success (with_reducible show wpAny _ _ (eval (PySem.Expr.Call (PySem.Expr.Name (PySem.Str.ofString "range") _) _ _ _) _) _ _ _)); (fail_if_success (with_reducible show wpAny _ _ (eval (PySem.Expr.Call (PySem.Expr.Name (PySem.Str.ofString "max") _) _ _ _) _) _ _ _)); (fail_if_success (with_reducible show wpAny _ _ (eval (PySem.Expr.Call (PySem.Expr.Name (PySem.Str.ofString "min") _) _ _ _) _) _ _ _)); (fail_if_success (with_reducible show wpAny _ _ (eval (PySem.Expr.Call (PySem.Expr.Name (PySem.Str.ofString "int") _) _ _ _) _) _ _ _)); (fail_if_success (with_reducible show wpAny _ _ (eval (PySem.Expr.Call (PySem.Expr.Name (PySem.Str.ofString "str") _) _ _ _) _) _ _ _)); (with_reducible show wpAny _ _ (eval (PySem.Expr.Call (PySem.Expr.Name _ _) _ _ _) (envOf _ _ _ _ _)) _ _ _); refine Call_ ?_))
  k_with "execs cons" => (k_dflt (k_extra "my execs"))
  k_with "subscriptTail Name Constant ref int" => ((k_here; k_dflt (refine' item_tupleT ?t ?a ?b ?c ?d ?_; (case t => (refine' News.isTup ?tn ?tm; (case tn => k_asm); (case tm => k_mem))); (case a => decide); (case b => decide); (case c => rfl); (case d => rfl); k_whole)))
  k_with "binaryOp FloorDiv int int" => (first | k_dflt (k_extra "my div") | (with_reducible refine' floordiv_int ?xa ?_ (Or.inl (noPy ?xb ?xc)); (case xa => first | assumption | omega); (case xb => bits_by_make); (case xc => decide)))
  k_with "my call" => first | ((with_reducible show wpAny _ _ (call (Value.ref 46) _) _ _ _); ((rename News _ _ _ _ => N8); (refine' Spec.useBool (is_nan_spec _ _ _ _ _ _ _ _ _ _ (by k_mem) (by assumption)) ?k1 ?k2 ?k3 N8 ?k5 ?kK ?kd ?ku ?_; (case k1 => k_asm); (case k2 => k_asm); (case k3 => k_asm); (case k5 => k_asm); (case kK => first | exact rfl | assumption); (case kd => ktr_room); (case ku => ktr_units); intro h9 tk9 F9 N9; (try dsimp only); (try k_sweep); (try k_unmd); (try k_fold)))) | ((with_reducible show wpAny _ _ (call (Value.ref 31) _) _ _ _); ((rename News _ _ _ _ => N8); (refine' Spec.useInt (sign_of_spec _ _ _ _ _ _ _) ?k1 ?k2 ?k3 N8 ?k5 ?kK ?kd ?ku ?_; (case k1 => k_asm); (case k2 => k_asm); (case k3 => k_asm); (case k5 => k_asm); (case kK => first | exact rfl | assumption); (case kd => ktr_room); (case ku => ktr_units); intro u9 h9 tk9 F9 N9; (try dsimp only); (try k_sweep); (try k_unmd); (try k_fold)))) | ((with_reducible show wpAny _ _ (call (Value.ref 39) _) _ _ _); ((rename News _ _ _ _ => N8); (refine' Spec.useTup (number_of_spec _ _ _ _ _ _ _ _ hyy c1 c2 _) ?k1 ?k2 ?k3 N8 ?k5 ?kK ?kd ?ku ?_; (case k1 => k_asm); (case k2 => k_asm); (case k3 => k_asm); (case k5 => k_asm); (case kK => first | exact rfl | assumption); (case kd => ktr_room); (case ku => ktr_units); intro q9 t9 u9 h9 tk9 F9 N9 l9; (try dsimp only [AllLt] at l9); (try dsimp only); (try k_sweep); (try k_unmd); (try k_fold))))
  k_steps
  all_goals first | (((refine' ret_tup (by assumption) ?e1 ?e2 ?e3 ?e4 ?e5 ?_; (case e1 => k_asm); (case e2 => k_asm); (case e3 => ((intro _ h9; repeat (first | exact h9 | apply List.mem_cons_of_mem)))); (case e4 => k_mem); (case e5 => (first | assumption | exact lt_sub1 (by assumption) | exact lt_sub2 (by assumption) | exact lt_sub3 (by assumption) | exact ktn_ltOf (by assumption) | exact ktn_ltOf (And.right (by assumption)) | exact ktn_ltOf (And.right (And.right (by assumption))) | exact ktn_ltOf (And.right (And.right (And.right (by assumption)))) | exact ktn_ltOf (And.right (And.right (And.right (And.right (by assumption)))))))))) | (exfalso; omega)
  all_goals rfl

def NanR (k : Addr) (news : Led) (r : Value) (n' : Led) : Prop := r = .ref k ∧ news = n'
theorem Spec.useNan {w : World} {mean : ExcName → Option Value} {mg mb : Str → Option Value} {d : Nat} {f : Addr} {vs : List Value} {news : Led} {k : Addr} {n1 : Led} (S : Spec w mean mg mb d f vs news (NanR k n1))
    {dp un : Nat} {gd : Option (List Code)} {cn : Str} {cs : Scope} {a : Addr} {ccd : Value} {cl : List (Str × Addr)} {outer : List Env} {A₀ : Around} {base h₀ : Heap} {L : Addr} {m : Str → Option Value} {s : Shared} {Q E : Value → Shared → Prop}
    (B : Below A₀ base outer h₀) (F : Fr h₀ L s.heap m) (X : (hd.heap_39 w.params).In h₀) (N : News h₀ L s.heap news) (T : Top hd.view_39 Loo mean mg mb h₀) (hk : cs.kind = .function)
    (hd : dp + d < recursionLimit) (hu : un + 8 * d + 1000 < cLine)
    (ret : ∀ (h' : Heap) (tk' : Nat), Fr h₀ L h' m → News h₀ L h' n1 → Q (.ref k) { s with heap := h', toks := tk' }) :
    wpAny (model PySem.Challenge.rw_sy0045_01.row.prog w) (ktrTop dp un gd cn cs L a ccd cl outer) (call (.ref f) vs) Q E s :=
  S.use B F X N T hk hd hu fun _ _ h' tk' F' N' hp => by
    obtain ⟨rfl, rfl⟩ := hp
    exact ret h' tk' F' N'
theorem ret_nan {h₀ h' : Heap} {L k : Addr} {m : Str → Option Value} {news nn : Led} {s : Shared} {Q : Value → Shared → Prop} {tk' : Nat}
    (hret : ∀ r news' h' tk', Fr h₀ L h' m → News h₀ L h' news' → NanR k news r news' → Q r { s with heap := h', toks := tk' })
    (F : Fr h₀ L h' m) (N : News h₀ L h' nn) (hs : ∀ p ∈ news, p ∈ nn) : Q (.ref k) { s with heap := h', toks := tk' } :=
  hret _ news _ _ F (fun p hp => N p (hs p hp)) ⟨rfl, rfl⟩
theorem modulo_spec0 (w mean mg mb) (x y x' y' : Int) (qa qb : Addr) (t u t' u' : Tok) (news : Led) (ha : (qa, tup x y t u) ∈ news) (hb : (qb, tup x' y' t' u') ∈ news) (hy : 0 < y) (hy' : 0 < y') (hx : x' = 0) :
    Spec w mean mg mb 5 88 [.ref qa, .ref qb] news (NanR 15 news) := by
  have hyy : 0 < y * y' := Int.mul_pos hy hy'
  have hy0 : y ≠ 0 := by omega
  have hy0' : y' ≠ 0 := by omega
  unfold Spec; k_fill; intro dp un gd cn cs a ccd cl outer A₀ base h₀ L m s Q E B F X N T hk hdp hun hret
  ((refine wpAny_call ?_; k_dflt (refine' code_def ?k1 ?k2 ?k3 ?k4 ?k5 ?kA ?kF ?kK ?k6 ?k7 ?k8 ?k9 ?kB ?_ ?c2 ?c3 ?c4 ?c5; (case kA => exact rfl); (case kF => exact rfl); (case kK => assumption); (case k1 => k_asm); (case k2 => k_asm); (case k3 => k_asm); (case k4 => k_asm); (case k5 => k_asm); (case k6 => k_is); (case k7 => k_is); (case k8 => ktr_room); (case k9 => first | exact BindsTo.of_eq rfl | exact binds_K (by k_in) rfl (by k_is) rfl rfl rfl); (case c5 => decide); (case kB => exact locs rfl); (case c2 => exact rfl); (case c3 => exact rfl); (case c4 => exact rfl); k_whole; intro g' L' h' FG' F' N' B' X' T'; (try dsimp only); (try k_fold))))
  k_with_none
  k_with "binaryOp Mod int int" => (k_dflt (k_extra "my mod"))
  k_with "binaryOp Pow int int" => (k_dflt (k_extra "my pow"))
  k_with "exec While Compare cons nil" => (k_dflt (k_extra "my while"))
  k_with "call ref" => (k_dflt (k_extra "my call"))
  k_with "eval Call Name" => ((k_here; (fail_if_success (with_reducible show wpAny _ _ (eval (PySem.Expr.Call (PySem.Expr.Name (PySem.Str.ofString "abs") _) _ _ _) _) _ _ _)); (fail_if_success (with_reducible show wpAny _ _ (eval (PySem.Expr.Call (PySem.Expr.Name (PySem.Str.ofString "len") _) _ _ _) _) _ _ _)); (fail_if_success (with_reducible show wpAny _ _ (eval (PySem.Expr.Call (PySem.Expr.Name (PySem.Str.ofString "range") _) _ _ _) _) _ _ _)); (fail_if_success (with_reducible show wpAny _ _ (eval (PySem.Expr.Call (PySem.Expr.Name (PySem.Str.ofString "max") _) _ _ _) _) _ _ _)); (fail_if_success (with_reducible show wpAny _ _ (eval (PySem.Expr.Call (PySem.Expr.Name (PySem.Str.ofString "min") _) _ _ _) _) _ _ _)); (fail_if_success (with_reducible show wpAny _ _ (eval (PySem.Expr.Call (PySem.Expr.Name (PySem.Str.ofString "int") _) _ _ _) _) _ _ _)); (fail_if_success (with_reducible show wpAny _ _ (eval (PySem.Expr.Call (PySem.Expr.Name (PySem.Str.ofString "str") _) _ _ _) _) _ _ _)); (with_reducible show wpAny _ _ (eval (PySem.Expr.Call (PySem.Expr.Name _ _) _ _ _) (envOf _ _ _ _ _)) _ _ _); refine Call_ ?_))
  k_with "execs cons" => (k_dflt (k_extra "my execs"))
  k_with "subscriptTail Name Constant ref int" => ((k_here; k_dflt (refine' item_tupleT ?t ?a ?b ?c ?d ?_; (case t => (refine' News.isTup ?tn ?tm; (case tn => k_asm); (case tm => k_mem))); (case a => decide); (case b => decide); (case c => rfl); (case d => rfl); k_whole)))
  k_with "binaryOp FloorDiv int int" => (first | k_dflt (k_extra "my div") | (with_reducible refine' floordiv_int ?xa ?_ (Or.inl (noPy ?xb ?xc)); (case xa => first | assumption | omega); (case xb => bits_by_make); (case xc => decide)))
  k_with "my call" => first | ((with_reducible show wpAny _ _ (call (Value.ref 46) _) _ _ _); ((rename News _ _ _ _ => N8); (refine' Spec.useBool (is_nan_spec _ _ _ _ _ _ _ _ _ _ (by k_mem) (by assumption)) ?k1 ?k2 ?k3 N8 ?k5 ?kK ?kd ?ku ?_; (case k1 => k_asm); (case k2 => k_asm); (case k3 => k_asm); (case k5 => k_asm); (case kK => first | exact rfl | assumption); (case kd => ktr_room); (case ku => ktr_units); intro h9 tk9 F9 N9; (try dsimp only); (try k_sweep); (try k_unmd); (try k_fold))))
  k_steps
  all_goals first | (((refine' ret_nan (by assumption) ?e1 ?e2 ?e3; (case e1 => k_asm); (case e2 => k_asm); (case e3 => ((intro _ h9; repeat (first | exact h9 | apply List.mem_cons_of_mem))))))) | (exfalso; omega)

theorem MM_pow : (10 : Int) ^ (400 : Int).toNat = MM := by decide +kernel
theorem most_spec (w mean mg mb) (news : Led) : Spec w mean mg mb 1 159 [] news (IntR MM news) := by
  unfold Spec; k_fill; intro dp un gd cn cs a ccd cl outer A₀ base h₀ L m s Q E B F X N T hk hdp hun hret
  ((refine wpAny_call ?_; k_dflt (refine' code_def ?k1 ?k2 ?k3 ?k4 ?k5 ?kA ?kF ?kK ?k6 ?k7 ?k8 ?k9 ?kB ?_ ?c2 ?c3 ?c4 ?c5; (case kA => exact rfl); (case kF => exact rfl); (case kK => assumption); (case k1 => k_asm); (case k2 => k_asm); (case k3 => k_asm); (case k4 => k_asm); (case k5 => k_asm); (case k6 => k_is); (case k7 => k_is); (case k8 => ktr_room); (case k9 => first | exact BindsTo.of_eq rfl | exact binds_K (by k_in) rfl (by k_is) rfl rfl rfl); (case c5 => decide); (case kB => exact locs rfl); (case c2 => exact rfl); (case c3 => exact rfl); (case c4 => exact rfl); k_whole; intro g' L' h' FG' F' N' B' X' T'; (try dsimp only); (try k_fold))))
  k_with_none
  k_with "binaryOp Mod int int" => (k_dflt (k_extra "my mod"))
  k_with "binaryOp Pow int int" => (k_dflt (k_extra "my pow"))
  k_with "exec While Compare cons nil" => (k_dflt (k_extra "my while"))
  k_with "call ref" => (k_dflt (k_extra "my call"))
  k_with "eval Call Name" => ((k_here; (fail_if_success (with_reducible show wpAny _ _ (eval (PySem.Expr.Call (PySem.Expr.Name (PySem.Str.ofString "abs") _) _ _ _) _) _ _ _)); (fail_if_success (with_reducible show wpAny _ _ (eval (PySem.Expr.Call (PySem.Expr.Name (PySem.Str.ofString "len") _) _ _ _) _) _ _ _)); (fail_if_success (with_reducible show wpAny _ _ (eval (PySem.Expr.Call (PySem.Expr.Name (PySem.Str.ofString "range") _) _ _ _) _) _ _ _)); (fail_if_success (with_reducible show wpAny _ _ (eval (PySem.Expr.Call (PySem.Expr.Name (PySem.Str.ofString "max") _) _ _ _) _) _ _ _)); (fail_if_success (with_reducible show wpAny _ _ (eval (PySem.Expr.Call (PySem.Expr.Name (PySem.Str.ofString "min") _) _ _ _) _) _ _ _)); (fail_if_success (with_reducible show wpAny _ _ (eval (PySem.Expr.Call (PySem.Expr.Name (PySem.Str.ofString "int") _) _ _ _) _) _ _ _)); (fail_if_success (with_reducible show wpAny _ _ (eval (PySem.Expr.Call (PySem.Expr.Name (PySem.Str.ofString "str") _) _ _ _) _) _ _ _)); (with_reducible show wpAny _ _ (eval (PySem.Expr.Call (PySem.Expr.Name _ _) _ _ _) (envOf _ _ _ _ _)) _ _ _); refine Call_ ?_))
  k_with "execs cons" => (k_dflt (k_extra "my execs"))
  k_with "subscriptTail Name Constant ref int" => ((k_here; k_dflt (refine' item_tupleT ?t ?a ?b ?c ?d ?_; (case t => (refine' News.isTup ?tn ?tm; (case tn => k_asm); (case tm => k_mem))); (case a => decide); (case b => decide); (case c => rfl); (case d => rfl); k_whole)))
  k_with "binaryOp FloorDiv int int" => (first | k_dflt (k_extra "my div") | (with_reducible refine' floordiv_int ?xa ?_ (Or.inl (noPy ?xb ?xc)); (case xa => first | assumption | omega); (case xb => bits_by_make); (case xc => decide)))
  k_steps
  all_goals (((refine' ret_int (by assumption) ?e1 ?e2 ?e3 ?_; (case e1 => k_asm); (case e2 => k_asm); (case e3 => ((intro _ h9; repeat (first | exact h9 | apply List.mem_cons_of_mem)))))))
  all_goals first | rfl | exact MM_pow

theorem lowest_spec (w mean mg mb) (t b : Int) (tt tb : Tok) (hb : 0 < b) (hbb : Builtin.Int.intBits b ≤ 8000) (news : Led) :
    Spec w mean mg mb 1 187 [.int t tt, .int b tb] news (TupR (t.fdiv (Int.gcd t b), b.fdiv (Int.gcd t b)) news) := by
  have hg : 0 < (Int.gcd t b : Int) := by have := Int.gcd_pos_of_ne_zero_right t (show b ≠ 0 by omega); omega
  have hgb := gcd_bits (x := t) (show b ≠ 0 by omega) hbb
  unfold Spec; k_fill; intro dp un gd cn cs a ccd cl outer A₀ base h₀ L m s Q E B F X N T hk hdp hun hret
  ((refine wpAny_call ?_; k_dflt (refine' code_def ?k1 ?k2 ?k3 ?k4 ?k5 ?kA ?kF ?kK ?k6 ?k7 ?k8 ?k9 ?kB ?_ ?c2 ?c3 ?c4 ?c5; (case kA => exact rfl); (case kF => exact rfl); (case kK => assumption); (case k1 => k_asm); (case k2 => k_asm); (case k3 => k_asm); (case k4 => k_asm); (case k5 => k_asm); (case k6 => k_is); (case k7 => k_is); (case k8 => ktr_room); (case k9 => first | exact BindsTo.of_eq rfl | exact binds_K (by k_in) rfl (by k_is) rfl rfl rfl); (case c5 => decide); (case kB => exact locs rfl); (case c2 => exact rfl); (case c3 => exact rfl); (case c4 => exact rfl); k_whole; intro g' L' h' FG' F' N' B' X' T'; (try dsimp only); (try k_fold))))
  k_with_none
  k_with "binaryOp Mod int int" => (k_dflt (k_extra "my mod"))
  k_with "binaryOp Pow int int" => (k_dflt (k_extra "my pow"))
  k_with "exec While Compare cons nil" => (k_dflt (k_extra "my while"))
  k_with "call ref" => (k_dflt (k_extra "my call"))
  k_with "eval Call Name" => ((k_here; (fail_if_success (with_reducible show wpAny _ _ (eval (PySem.Expr.Call (PySem.Expr.Name (PySem.Str.ofString "abs") _) _ _ _) _) _ _ _)); (fail_if_success (with_reducible show wpAny _ _ (eval (PySem.Expr.Call (PySem.Expr.Name (PySem.Str.ofString "len") _) _ _ _) _) _ _ _)); (fail_if_success (with_reducible show wpAny _ _ (eval (PySem.Expr.Call (PySem.Expr.Name (PySem.Str.ofString "range") _) _ _ _) _) _ _ _)); (fail_if_success (with_reducible show wpAny _ _ (eval (PySem.Expr.Call (PySem.Expr.Name (PySem.Str.ofString "max") _) _ _ _) _) _ _ _)); (fail_if_success (with_reducible show wpAny _ _ (eval (PySem.Expr.Call (PySem.Expr.Name (PySem.Str.ofString "min") _) _ _ _) _) _ _ _)); (fail_if_success (with_reducible show wpAny _ _ (eval (PySem.Expr.Call (PySem.Expr.Name (PySem.Str.ofString "int") _) _ _ _) _) _ _ _)); (fail_if_success (with_reducible show wpAny _ _ (eval (PySem.Expr.Call (PySem.Expr.Name (PySem.Str.ofString "str") _) _ _ _) _) _ _ _)); (with_reducible show wpAny _ _ (eval (PySem.Expr.Call (PySem.Expr.Name _ _) _ _ _) (envOf _ _ _ _ _)) _ _ _); refine Call_ ?_))
  k_with "execs cons" => (k_dflt (k_extra "my execs"))
  k_with "subscriptTail Name Constant ref int" => ((k_here; k_dflt (refine' item_tupleT ?t ?a ?b ?c ?d ?_; (case t => (refine' News.isTup ?tn ?tm; (case tn => k_asm); (case tm => k_mem))); (case a => decide); (case b => decide); (case c => rfl); (case d => rfl); k_whole)))
  k_with "binaryOp FloorDiv int int" => (first | k_dflt (k_extra "my div") | (with_reducible refine' floordiv_int ?xa ?_ (Or.inl (noPy ?xb ?xc)); (case xa => first | assumption | omega); (case xb => bits_by_make); (case xc => decide)))
  k_with "state" => first | exact cd_start t b (Int.le_of_lt hb) | exact cd_turn (by assumption) (by assumption) (by assumption)
  k_with "measure" => exact cd_meas (by assumption)
  k_with "my while" => k_while (fun (_ : List Int) f s => 0 ≤ f ∧ 0 ≤ s ∧ Int.gcd f s = Int.gcd t b) (fun _ _ s => s.toNat) "one" "other"
  k_with "binaryOp FloorDiv int int" => ((have e9 := cd_end (x := t) (y := b) (by assumption) (by assumption) (by assumption) (by assumption)); subst e9)
  k_steps
  all_goals (((refine' ret_tup (by assumption) ?e1 ?e2 ?e3 ?e4 ?e5 ?_; (case e1 => k_asm); (case e2 => k_asm); (case e3 => ((intro _ h9; repeat (first | exact h9 | apply List.mem_cons_of_mem)))); (case e4 => k_mem); (case e5 => (first | assumption | exact lt_sub1 (by assumption) | exact lt_sub2 (by assumption) | exact lt_sub3 (by assumption) | exact ktn_ltOf (by assumption) | exact ktn_ltOf (And.right (by assumption)) | exact ktn_ltOf (And.right (And.right (by assumption))) | exact ktn_ltOf (And.right (And.right (And.right (by assumption)))) | exact ktn_ltOf (And.right (And.right (And.right (And.right (by assumption))))))))))
  all_goals rfl

theorem due_bigP {t b : Int} (h : MM * b ≤ mag t) (ht : 0 < t) : (1, 0) = numF t b := by rw [numF_big h]; unfold sgn; rw [if_pos ht]
theorem due_bigN {t b : Int} (hb : 0 < b) (h : MM * b ≤ mag t) (ht : ¬ 0 < t) : (-1, 0) = numF t b := by
  have h0 : 0 < MM * b := Int.mul_pos MM_pos hb
  have h1 : t < 0 := by unfold mag at h; split at h <;> omega
  rw [numF_big h]; unfold sgn; rw [if_neg ht, if_pos h1]
theorem due_nearP {t b : Int} (h : ¬ MM * b ≤ mag t) (h2 : ¬ b.fdiv (Int.gcd t b) ≤ MM) (h3 : MM * MM ≤ mag (near t b)) (h4 : 0 < near t b) : (1, 0) = numF t b := by
  rw [numF_near h h2, num1_big h3]; unfold sgn; rw [if_pos h4]
theorem due_nearN {t b : Int} (h : ¬ MM * b ≤ mag t) (h2 : ¬ b.fdiv (Int.gcd t b) ≤ MM) (h3 : MM * MM ≤ mag (near t b)) (h4 : ¬ 0 < near t b) : (-1, 0) = numF t b := by
  have h0 : 0 < MM * MM := Int.mul_pos MM_pos MM_pos
  have h1 : near t b < 0 := by unfold mag at h3; split at h3 <;> omega
  rw [numF_near h h2, num1_big h3]; unfold sgn; rw [if_neg h4, if_pos h1]
theorem due_near1 {t b : Int} (h : ¬ MM * b ≤ mag t) (h2 : ¬ b.fdiv (Int.gcd t b) ≤ MM) (h3 : ¬ MM * MM ≤ mag (near t b)) : ((near t b).fdiv (Int.gcd (near t b) MM), MM.fdiv (Int.gcd (near t b) MM)) = numF t b := by
  rw [numF_near h h2, num1_sml h3]

theorem due_spec (w mean mg mb) (t b : Int) (tt tb : Tok) (hb : 0 < b) (ht : Builtin.Int.intBits t ≤ 30000) (hbb : Builtin.Int.intBits b ≤ 8000) (news : Led) :
    Spec w mean mg mb 3 194 [.int t tt, .int b tb] news (TupR (numF t b) news) := by
  have hg : 0 < (Int.gcd t b : Int) := by have := Int.gcd_pos_of_ne_zero_right t (show b ≠ 0 by omega); omega
  have hgb := gcd_bits (x := t) (show b ≠ 0 by omega) hbb
  have hnb := near_bits ht hbb
  have hr := red_pos t hb
  unfold Spec; k_fill; intro dp un gd cn cs a ccd cl outer A₀ base h₀ L m s Q E B F X N T hk hdp hun hret
  ((refine wpAny_call ?_; k_dflt (refine' code_def ?k1 ?k2 ?k3 ?k4 ?k5 ?kA ?kF ?kK ?k6 ?k7 ?k8 ?k9 ?kB ?_ ?c2 ?c3 ?c4 ?c5; (case kA => exact rfl); (case kF => exact rfl); (case kK => assumption); (case k1 => k_asm); (case k2 => k_asm); (case k3 => k_asm); (case k4 => k_asm); (case k5 => k_asm); (case k6 => k_is); (case k7 => k_is); (case k8 => ktr_room); (case k9 => first | exact BindsTo.of_eq rfl | exact binds_K (by k_in) rfl (by k_is) rfl rfl rfl); (case c5 => decide); (case kB => exact locs rfl); (case c2 => exact rfl); (case c3 => exact rfl); (case c4 => exact rfl); k_whole; intro g' L' h' FG' F' N' B' X' T'; (try dsimp only); (try k_fold))))
  k_with_none
  k_with "binaryOp Mod int int" => (k_dflt (k_extra "my mod"))
  k_with "binaryOp Pow int int" => (k_dflt (k_extra "my pow"))
  k_with "exec While Compare cons nil" => (k_dflt (k_extra "my while"))
  k_with "call ref" => (k_dflt (k_extra "my call"))
  k_with "eval Call Name" => ((k_here; (fail_if_success (with_reducible show wpAny _ _ (eval (PySem.Expr.Call (PySem.Expr.Name (PySem.Str.ofString "abs") _) _ _ _) _) _ _ _)); (fail_if_success (with_reducible show wpAny _ _ (eval (PySem.Expr.Call (PySem.Expr.Name (PySem.Str.ofString "len") _) _ _ _) _) _ _ _)); (fail_if_success (with_reducible show wpAny _ _ (eval (PySem.Expr.Call (PySem.Expr.Name (PySem.Str.ofString "range") _) _ _ _) _) _ _ _)); (fail_if_success (with_reducible show wpAny _ _ (eval (PySem.Expr.Call (PySem.Expr.Name (PySem.Str.ofString "max") _) _ _ _) _) _ _ _)); (fail_if_success (with_reducible show wpAny _ _ (eval (PySem.Expr.Call (PySem.Expr.Name (PySem.Str.ofString "min") _) _ _ _) _) _ _ _)); (fail_if_success (with_reducible show wpAny _ _ (eval (PySem.Expr.Call (PySem.Expr.Name (PySem.Str.ofString "int") _) _ _ _) _) _ _ _)); (fail_if_success (with_reducible show wpAny _ _ (eval (PySem.Expr.Call (PySem.Expr.Name (PySem.Str.ofString "str") _) _ _ _) _) _ _ _)); (with_reducible show wpAny _ _ (eval (PySem.Expr.Call (PySem.Expr.Name _ _) _ _ _) (envOf _ _ _ _ _)) _ _ _); refine Call_ ?_))
  k_with "execs cons" => (k_dflt (k_extra "my execs"))
  k_with "subscriptTail Name Constant ref int" => ((k_here; k_dflt (refine' item_tupleT ?t ?a ?b ?c ?d ?_; (case t => (refine' News.isTup ?tn ?tm; (case tn => k_asm); (case tm => k_mem))); (case a => decide); (case b => decide); (case c => rfl); (case d => rfl); k_whole)))
  k_with "binaryOp FloorDiv int int" => (first | k_dflt (k_extra "my div") | (with_reducible refine' floordiv_int ?xa ?_ (Or.inl (noPy ?xb ?xc)); (case xa => first | assumption | omega); (case xb => bits_by_make); (case xc => decide)))
  k_with "my call" => first | ((with_reducible show wpAny _ _ (call (Value.ref 159) _) _ _ _); ((rename News _ _ _ _ => N8); (refine' Spec.useInt (most_spec _ _ _ _ _) ?k1 ?k2 ?k3 N8 ?k5 ?kK ?kd ?ku ?_; (case k1 => k_asm); (case k2 => k_asm); (case k3 => k_asm); (case k5 => k_asm); (case kK => first | exact rfl | assumption); (case kd => ktr_room); (case ku => ktr_units); intro u9 h9 tk9 F9 N9; (try dsimp only); (try k_sweep); (try k_unmd); (try k_fold)))) | ((with_reducible show wpAny _ _ (call (Value.ref 187) _) _ _ _); ((rename News _ _ _ _ => N8); (refine' Spec.useTup (lowest_spec _ _ _ _ t b _ _ hb hbb _) ?k1 ?k2 ?k3 N8 ?k5 ?kK ?kd ?ku ?_; (case k1 => k_asm); (case k2 => k_asm); (case k3 => k_asm); (case k5 => k_asm); (case kK => first | exact rfl | assumption); (case kd => ktr_room); (case ku => ktr_units); intro q9 t9 u9 h9 tk9 F9 N9 l9; (try dsimp only [AllLt] at l9); (try dsimp only); (try k_sweep); (try k_unmd); (try k_fold)))) | ((with_reducible show wpAny _ _ (call (Value.ref 187) _) _ _ _); ((rename News _ _ _ _ => N8); (refine' Spec.useTup (lowest_spec _ _ _ _ _ MM _ _ MM_pos (Nat.le_trans MM_bits (by decide)) _) ?k1 ?k2 ?k3 N8 ?k5 ?kK ?kd ?ku ?_; (case k1 => k_asm); (case k2 => k_asm); (case k3 => k_asm); (case k5 => k_asm); (case kK => first | exact rfl | assumption); (case kd => ktr_room); (case ku => ktr_units); intro q9 t9 u9 h9 tk9 F9 N9 l9; (try dsimp only [AllLt] at l9); (try dsimp only); (try k_sweep); (try k_unmd); (try k_fold))))
  k_steps
  all_goals (((refine' ret_tup (by assumption) ?e1 ?e2 ?e3 ?e4 ?e5 ?_; (case e1 => k_asm); (case e2 => k_asm); (case e3 => ((intro _ h9; repeat (first | exact h9 | apply List.mem_cons_of_mem)))); (case e4 => k_mem); (case e5 => (first | assumption | exact lt_sub1 (by assumption) | exact lt_sub2 (by assumption) | exact lt_sub3 (by assumption) | exact ktn_ltOf (by assumption) | exact ktn_ltOf (And.right (by assumption)) | exact ktn_ltOf (And.right (And.right (by assumption))) | exact ktn_ltOf (And.right (And.right (And.right (by assumption)))) | exact ktn_ltOf (And.right (And.right (And.right (And.right (by assumption))))))))))
  all_goals first
    | exact due_bigP (by assumption) (by assumption)
    | exact due_bigN hb (by assumption) (by assumption)
    | exact (numF_sml (by assumption) (by assumption)).symm
    | exact due_nearP (by assumption) (by assumption) (by assumption) (by assumption)
    | exact due_nearN (by assumption) (by assumption) (by assumption) (by assumption)
    | exact due_near1 (by assumption) (by assumption) (by assumption)

/-- an answer: a text -/
def StrR (x : Str) (news : Led) (r : Value) (n' : Led) : Prop := (∃ u, r = .str x u) ∧ news = n'
theorem Spec.useStr {w : World} {mean : ExcName → Option Value} {mg mb : Str → Option Value} {d : Nat} {f : Addr} {vs : List Value} {news : Led} {x : Str} {n1 : Led} (S : Spec w mean mg mb d f vs news (StrR x n1))
    {dp un : Nat} {gd : Option (List Code)} {cn : Str} {cs : Scope} {a : Addr} {ccd : Value} {cl : List (Str × Addr)} {outer : List Env} {A₀ : Around} {base h₀ : Heap} {L : Addr} {m : Str → Option Value} {s : Shared} {Q E : Value → Shared → Prop}
    (B : Below A₀ base outer h₀) (F : Fr h₀ L s.heap m) (X : (hd.heap_39 w.params).In h₀) (N : News h₀ L s.heap news) (T : Top hd.view_39 Loo mean mg mb h₀) (hk : cs.kind = .function)
    (hd : dp + d < recursionLimit) (hu : un + 8 * d + 1000 < cLine)
    (ret : ∀ u (h' : Heap) (tk' : Nat), Fr h₀ L h' m → News h₀ L h' n1 → Q (.str x u) { s with heap := h', toks := tk' }) :
    wpAny (model PySem.Challenge.rw_sy0045_01.row.prog w) (ktrTop dp un gd cn cs L a ccd cl outer) (call (.ref f) vs) Q E s :=
  S.use B F X N T hk hd hu fun _ _ h' tk' F' N' hp => by
    obtain ⟨⟨u, rfl⟩, rfl⟩ := hp
    exact ret u h' tk' F' N'
theorem ret_str {h₀ h' : Heap} {L : Addr} {m : Str → Option Value} {news nn : Led} {s : Shared} {Q : Value → Shared → Prop} {x y : Str} {t : Tok} {tk' : Nat}
    (hret : ∀ r news' h' tk', Fr h₀ L h' m → News h₀ L h' news' → StrR x news r news' → Q r { s with heap := h', toks := tk' })
    (F : Fr h₀ L h' m) (N : News h₀ L h' nn) (hs : ∀ p ∈ news, p ∈ nn) (e : y = x) : Q (.str y t) { s with heap := h', toks := tk' } :=
  hret _ news _ _ F (fun p hp => N p (hs p hp)) ⟨⟨t, by rw [e]⟩, rfl⟩

section
variable {prog : Program} {w : World} {A : Around} {E : Value → Shared → Prop} {s : Shared} {Q : Value → Shared → Prop} {t u : Tok} {a b c : Int}
theorem fdiv_as (e : a.fdiv b = c) (hb : b ≠ 0) (hn : Builtin.Int.intBits b ≤ 9000) (h : Q (.int c s.toks) { s with toks := s.toks + 1 }) : wpAny (model prog w) A (binaryOp .FloorDiv (.int a t) (.int b u)) Q E s := by
  subst e; exact floordiv_int hb h (Or.inl (noPy hn (Nat.le_refl _)))
theorem fmod_as (e : a.fmod b = c) (hb : b ≠ 0) (h : Q (.int c s.toks) { s with toks := s.toks + 1 }) : wpAny (model prog w) A (binaryOp .Mod (.int a t) (.int b u)) Q E s := by
  subst e; exact mod_int' hb h
theorem pow_as (e : a ^ b.toNat = c) (h0 : 0 ≤ b) (h1 : b ≤ 1000000) (h2 : a.natAbs < 2 ^ 64) (h : Q (.int c s.toks) { s with toks := s.toks + 1 }) : wpAny (model prog w) A (binaryOp .Pow (.int a t) (.int b u)) Q E s := by
  subst e; exact pow_int_small h0 h1 h2 h
end

theorem mag_nn (x : Int) : 0 ≤ mag x := by unfold mag; split <;> omega
theorem scaled_is (x S : Int) : (2 * mag x * S + 1).fdiv (2 * 1) = mag x * S := by
  rw [Int.mul_assoc 2]
  generalize mag x * S = y
  rw [Int.fdiv_eq_ediv_of_nonneg _ (by decide)]
  omega
theorem scaled_div (x : Int) {S : Int} (hS : 0 < S) : (mag x * S).fdiv S = mag x := Int.mul_fdiv_cancel _ (by omega)
theorem scaled_mod (x : Int) {S : Int} (hS : 0 < S) : (mag x * S).fmod S = 0 := Int.mul_fmod_left ..
theorem ofString_cat (x y : String) : Str.ofString x ++ Str.ofString y = Str.ofString (x ++ y) := by
  rw [Str.ofString_eq_toList, Str.ofString_eq_toList, Str.ofString_eq_toList]
  show (⟨_ ++ _⟩ : Str) = _
  rw [String.toList_append, List.map_append, List.append_toArray]
theorem text_neg {x : Int} (h : x < 0) : Str.ofString "-" ++ Str.ofString (toString (-x)) = Str.ofString (toString x) := by
  obtain ⟨m, rfl⟩ := Int.eq_negSucc_of_lt_zero h
  rw [ofString_cat]
  rfl
theorem mag_log {x : Int} (b1 : Builtin.Int.intBits x ≤ 1400) : (mag x).natAbs.log2 < 1920 := by
  have h := mag_bits b1
  by_cases h0 : (mag x).natAbs = 0
  · rw [h0]; decide +kernel
  · have e := (Nat.log2_lt h0).mpr (intBits_le_iff.mp h)
    omega

def Pow15 (S : Int) : Prop := (10 : Int) ^ (15 : Int).toNat = S
theorem pow15 : ∃ S : Int, 0 < S ∧ Builtin.Int.intBits S ≤ 60 ∧ Pow15 S := ⟨1000000000000000, by decide +kernel, by decide +kernel, by unfold Pow15; decide +kernel⟩
theorem mag_case {x S : Int} (hx : x < 0) (hS : 0 < S) (h : ¬ 0 < mag x * S) : False := h (Int.mul_pos (by unfold mag; split <;> omega) hS)
theorem text_magN {x : Int} (h : x < 0) : Str.ofString "-" ++ Str.ofString (toString (mag x)) = Str.ofString (toString x) := by
  unfold mag; rw [if_pos h]; exact text_neg h
theorem text_magP {x : Int} (h : ¬ x < 0) : Str.ofString (toString (mag x)) = Str.ofString (toString x) := by
  unfold mag; rw [if_neg h]
theorem text_fits {x : Int} (h : (mag x).natAbs.log2 < 1920) : (Str.ofString "-").length + (Str.ofString (toString (mag x))).length ≤ sizeLine := by
  have e : (Str.ofString "-").length = 1 := by decide +kernel
  rw [e, PySem.ofString_length, sizeLine_eq]
  have := int_text_length_le (a := mag x) (k := 1920) (by decide) h
  omega
theorem write_spec (w mean mg mb) (x : Int) (qa : Addr) (t u : Tok) (news : Led) (ha : (qa, tup x 1 t u) ∈ news) (b1 : Builtin.Int.intBits x ≤ 1400) :
    Spec w mean mg mb 2 152 [.ref qa] news (StrR (Str.ofString (toString x)) news) := by
  obtain ⟨S, hS0, hSb, hS⟩ := pow15
  have hl := mag_log b1
  unfold Spec; k_fill; intro dp un gd cn cs a ccd cl outer A₀ base h₀ L m s Q E B F X N T hk hdp hun hret
  ((refine wpAny_call ?_; k_dflt (refine' code_def ?k1 ?k2 ?k3 ?k4 ?k5 ?kA ?kF ?kK ?k6 ?k7 ?k8 ?k9 ?kB ?_ ?c2 ?c3 ?c4 ?c5; (case kA => exact rfl); (case kF => exact rfl); (case kK => assumption); (case k1 => k_asm); (case k2 => k_asm); (case k3 => k_asm); (case k4 => k_asm); (case k5 => k_asm); (case k6 => k_is); (case k7 => k_is); (case k8 => ktr_room); (case k9 => first | exact BindsTo.of_eq rfl | exact binds_K (by k_in) rfl (by k_is) rfl rfl rfl); (case c5 => decide); (case kB => exact locs rfl); (case c2 => exact rfl); (case c3 => exact rfl); (case c4 => exact rfl); k_whole; intro g' L' h' FG' F' N' B' X' T'; (try dsimp only); (try k_fold))))
  k_with_none
  k_with "binaryOp Mod int int" => (k_dflt (k_extra "my mod"))
  k_with "binaryOp Pow int int" => (k_dflt (k_extra "my pow"))
  k_with "exec While Compare cons nil" => (k_dflt (k_extra "my while"))
  k_with "call ref" => (k_dflt (k_extra "my call"))
  k_with "eval Call Name" => ((k_here; (fail_if_success (with_reducible show wpAny _ _ (eval (PySem.Expr.Call (PySem.Expr.Name (PySem.Str.ofString "abs") _) _ _ _) _) _ _ _)); (fail_if_success (with_reducible show wpAny _ _ (eval (PySem.Expr.Call (PySem.Expr.Name (PySem.Str.ofString "len") _) _ _ _) _) _ _ _)); (fail_if_success (with_reducible show wpAny _ _ (eval (PySem.Expr.Call (PySem.Expr.Name (PySem.Str.ofString "range") _) _ _ _) _) _ _ _)); (fail_if_success (with_reducible show wpAny _ _ (eval (PySem.Expr.Call (PySem.Expr.Name (PySem.Str.ofString "max") _) _ _ _) _) _ _ _)); (fail_if_success (with_reducible show wpAny _ _ (eval (PySem.Expr.Call (PySem.Expr.Name (PySem.Str.ofString "min") _) _ _ _) _) _ _ _)); (fail_if_success (with_reducible show wpAny _ _ (eval (PySem.Expr.Call (PySem.Expr.Name (PySem.Str.ofString "int") _) _ _ _) _) _ _ _)); (fail_if_success (with_reducible show wpAny _ _ (eval (PySem.Expr.Call (PySem.Expr.Name (PySem.Str.ofString "str") _) _ _ _) _) _ _ _)); (with_reducible show wpAny _ _ (eval (PySem.Expr.Call (PySem.Expr.Name _ _) _ _ _) (envOf _ _ _ _ _)) _ _ _); refine Call_ ?_))
  k_with "execs cons" => (k_dflt (k_extra "my execs"))
  k_with "subscriptTail Name Constant ref int" => ((k_here; k_dflt (refine' item_tupleT ?t ?a ?b ?c ?d ?_; (case t => (refine' News.isTup ?tn ?tm; (case tn => k_asm); (case tm => k_mem))); (case a => decide); (case b => decide); (case c => rfl); (case d => rfl); k_whole)))
  k_with "binaryOp FloorDiv int int" => (first | k_dflt (k_extra "my div") | (with_reducible refine' floordiv_int ?xa ?_ (Or.inl (noPy ?xb ?xc)); (case xa => first | assumption | omega); (case xb => bits_by_make); (case xc => decide)))
  k_with "my call" => first | ((with_reducible show wpAny _ _ (call (Value.ref 46) _) _ _ _); ((rename News _ _ _ _ => N8); (refine' Spec.useBool (is_nan_spec _ _ _ _ _ _ _ _ _ _ (by k_mem) (by decide)) ?k1 ?k2 ?k3 N8 ?k5 ?kK ?kd ?ku ?_; (case k1 => k_asm); (case k2 => k_asm); (case k3 => k_asm); (case k5 => k_asm); (case kK => first | exact rfl | assumption); (case kd => ktr_room); (case ku => ktr_units); intro h9 tk9 F9 N9; (try dsimp only); (try k_sweep); (try k_unmd); (try k_fold))))
  k_with "my execs" => ((with_reducible refine wpAny_execs_cons ?_); try dsimp only)
  k_with "my pow" => refine pow_as hS (by decide) (by decide) (by decide) ?_
  k_with "my div" => first | refine fdiv_as (scaled_is x S) (by decide) (by decide) ?_ | refine fdiv_as (scaled_div x hS0) (Int.ne_of_gt hS0) (Nat.le_trans hSb (by decide)) ?_
  k_with "my mod" => refine fmod_as (scaled_mod x hS0) (Int.ne_of_gt hS0) ?_
  k_with "call type:str" => refine P.str_of_int hl ?_
  k_with "binaryOp Add str str" => (refine PyProof.Rows.add_str ?_ (text_fits hl); intro _ _; try dsimp only)
  k_steps
  all_goals first | (exfalso; exact mag_case (by assumption) hS0 (by assumption)) | skip
  all_goals (((refine' ret_str (by assumption) ?e1 ?e2 ?e3 ?_; (case e1 => k_asm); (case e2 => k_asm); (case e3 => ((intro _ h9; repeat (first | exact h9 | apply List.mem_cons_of_mem)))))))
  all_goals first | exact text_magN (by assumption) | exact text_magP (by assumption)

section
variable {prog : Program} {w : World} {A : Around} {E : Value → Shared → Prop} {s : Shared} {Q : Value → Shared → Prop} {h₀ : Heap} {L a b : Addr} {news : Led} {x y x' y' : Int} {t u t' u' : Tok}
theorem tup_reads (N : News h₀ L s.heap news) (ha : (a, tup x y t u) ∈ news) : ∃ as, Reads s.heap (.ref a) (.tuple [.int x, .int y]) as :=
  ⟨_, reads_tuple_at (News.get N ha) rfl rfl (ReadsAll.cons (Reads.int _ _) (ReadsAll.cons (Reads.int _ _) ReadsAll.nil))⟩
theorem tup_eqv : PyData.eqv (.tuple [.int x, .int y]) (.tuple [.int x', .int y']) = decide ((x, y) = (x', y')) := by
  simp only [PyData.eqv, PyData.eqvAll]
  by_cases h : x = x' <;> by_cases h' : y = y' <;> simp [h, h']
theorem tup_ne (N : News h₀ L s.heap news) (ha : (a, tup x y t u) ∈ news) (hb : (b, tup x' y' t' u') ∈ news) (hu : A.units + 64 < cLine) (e : (x, y) = (x', y')) (h : Q (.bool false) s) :
    wpAny (model prog w) A (compareOp .NotEq (.ref a) (.ref b)) Q E s := by
  obtain ⟨as, ra⟩ := tup_reads N ha
  obtain ⟨bs, rb⟩ := tup_reads N hb
  refine ne_dataH ra rb rfl rfl hu ?_
  rw [tup_eqv, decide_eq_true e]
  exact h
theorem tup_eq (N : News h₀ L s.heap news) (ha : (a, tup x y t u) ∈ news) (hb : (b, tup x' y' t' u') ∈ news) (hu : A.units + 64 < cLine) (e : (x, y) = (x', y')) (h : Q (.bool true) s) :
    wpAny (model prog w) A (compareOp .Eq (.ref a) (.ref b)) Q E s := by
  obtain ⟨as, ra⟩ := tup_reads N ha
  obtain ⟨bs, rb⟩ := tup_reads N hb
  refine eq_dataH ra rb rfl rfl hu ?_
  rw [tup_eqv, decide_eq_true e]
  exact h
end
theorem news_drop2 {h₀ h : Heap} {L : Addr} {p q : Addr × Obj} {r : Led} (N : News h₀ L h (p :: q :: r)) : News h₀ L h r := fun e he => N e (.tail _ (.tail _ he))

theorem sgn_neg (t : Int) : sgn (-t) = -sgn t := by unfold sgn; split <;> split <;> (try split) <;> (try split) <;> omega
theorem one_num (t : Int) : numF t 1 = if MM * 1 ≤ mag t then (sgn t, 0) else (t, 1) := by
  by_cases h : MM * 1 ≤ mag t
  · rw [numF_big h, if_pos h]
  · rw [numF_sml h (by rw [Int.gcd_one]; decide), if_neg h, Int.gcd_one]
    show (t.fdiv 1, (1 : Int).fdiv 1) = (t, 1)
    rw [Int.fdiv_one, Int.fdiv_one]
theorem mag_neg (t : Int) : mag (-t) = mag t := by unfold mag; split <;> split <;> omega
theorem numF_neg1 (t : Int) : (-(numF t 1).1, (numF t 1).2) = numF (-t) 1 := by
  rw [one_num, one_num, mag_neg, sgn_neg]
  by_cases h : MM * 1 ≤ mag t
  · rw [if_pos h, if_pos h]
  · rw [if_neg h, if_neg h]
theorem rnd_arg (x y : Int) : numF (x * 2 + 1 * y) (y * 2) = numF (2 * x + y) (2 * y) := by
  rw [Int.mul_comm x 2, Int.one_mul, Int.mul_comm y 2]

theorem numF_bits1 {t b : Int} {n : Nat} (ht : Builtin.Int.intBits t ≤ n) (hb : Builtin.Int.intBits b ≤ n + 1402) (hn : 1 ≤ n) : Builtin.Int.intBits (numF t b).1 ≤ n + 1403 := by
  have hs : ∀ z, Builtin.Int.intBits (sgn z) ≤ n + 1403 := fun z => Nat.le_trans (sgn_bits z) (by omega)
  have hnear : Builtin.Int.intBits (near t b) ≤ n + 1403 := by
    unfold near
    refine Nat.le_trans (bits_fdiv (bits_add (bits_mul (bits_mul (m := 2) (by decide) (bits_fdiv ht)) MM_bits) (bits_fdiv hb))) ?_
    omega
  by_cases h : MM * b ≤ mag t
  · rw [numF_big h]; exact hs _
  · by_cases h2 : b.fdiv (Int.gcd t b) ≤ MM
    · rw [numF_sml h h2]; exact Nat.le_trans (bits_fdiv ht) (by omega)
    · rw [numF_near h h2]
      by_cases h3 : MM * MM ≤ mag (near t b)
      · rw [num1_big h3]; exact hs _
      · rw [num1_sml h3]; exact bits_fdiv hnear
theorem rnd_0 {x y : Int} (h : (numF (2 * x + y) (2 * y)).2 = 0) : ((rndF x y).1, (rndF x y).2) = ((numF (2 * x + y) (2 * y)).1, (numF (2 * x + y) (2 * y)).2) := by
  unfold rndF; rw [rnd_arg, if_pos h]
theorem rnd_1 {x y : Int} (h : (numF (2 * x + y) (2 * y)).2 ≠ 0) : ((rndF x y).1, (rndF x y).2) = ((numF ((numF (2 * x + y) (2 * y)).1.fdiv (numF (2 * x + y) (2 * y)).2) 1).1, (numF ((numF (2 * x + y) (2 * y)).1.fdiv (numF (2 * x + y) (2 * y)).2) 1).2) := by
  unfold rndF; rw [rnd_arg, if_neg h]

theorem wholes_spec (w mean mg mb) (x y : Int) (qa : Addr) (t u : Tok) (news : Led) (ha : (qa, tup x y t u) ∈ news) (hy : 0 < y) (b1 : Builtin.Int.intBits x ≤ 4000) (b2 : Builtin.Int.intBits y ≤ 1400) :
    Spec w mean mg mb 7 208 [.ref qa] news (BoolR true news) := by
  have hy0 : y ≠ 0 := by omega
  have c1 : Builtin.Int.intBits (x.fdiv y) ≤ 30000 := Nat.le_trans (bits_fdiv b1) (by decide)
  have c2 : Builtin.Int.intBits (-(-x).fdiv y) ≤ 30000 := Nat.le_trans (bits_neg (bits_fdiv (bits_neg b1))) (by decide)
  have c3 : Builtin.Int.intBits (2 * x + y) ≤ 30000 := Nat.le_trans (bits_add (bits_mul (m := 2) (by decide) b1) b2) (by decide)
  have c4 : Builtin.Int.intBits (2 * y) ≤ 8000 := Nat.le_trans (bits_mul (m := 2) (by decide) b2) (by decide)
  have c5 := numF_bits2 (2 * x + y) (show 0 < 2 * y by omega)
  have c6 : Builtin.Int.intBits ((numF (2 * x + y) (2 * y)).1.fdiv (numF (2 * x + y) (2 * y)).2) ≤ 30000 := Nat.le_trans (bits_fdiv (numF_bits1 (n := 4003) (Nat.le_trans (bits_add (bits_mul (m := 2) (by decide) b1) b2) (by decide)) (Nat.le_trans (bits_mul (m := 2) (by decide) b2) (by decide)) (by decide))) (by decide)
  unfold Spec; k_fill; intro dp un gd cn cs a ccd cl outer A₀ base h₀ L m s Q E B F X N T hk hdp hun hret
  ((refine wpAny_call ?_; k_dflt (refine' code_def ?k1 ?k2 ?k3 ?k4 ?k5 ?kA ?kF ?kK ?k6 ?k7 ?k8 ?k9 ?kB ?_ ?c2 ?c3 ?c4 ?c5; (case kA => exact rfl); (case kF => exact rfl); (case kK => assumption); (case k1 => k_asm); (case k2 => k_asm); (case k3 => k_asm); (case k4 => k_asm); (case k5 => k_asm); (case k6 => k_is); (case k7 => k_is); (case k8 => ktr_room); (case k9 => first | exact BindsTo.of_eq rfl | exact binds_K (by k_in) rfl (by k_is) rfl rfl rfl); (case c5 => decide); (case kB => exact locs rfl); (case c2 => exact rfl); (case c3 => exact rfl); (case c4 => exact rfl); k_whole; intro g' L' h' FG' F' N' B' X' T'; (try dsimp only); (try k_fold))))
  k_with_none
  k_with "binaryOp Mod int int" => (k_dflt (k_extra "my mod"))
  k_with "binaryOp Pow int int" => (k_dflt (k_extra "my pow"))
  k_with "exec While Compare cons nil" => (k_dflt (k_extra "my while"))
  k_with "call ref" => (k_dflt (k_extra "my call"))
  k_with "eval Call Name" => ((k_here; (fail_if_success (with_reducible show wpAny _ _ (eval (PySem.Expr.Call (PySem.Expr.Name (PySem.Str.ofString "abs") _) _ _ _) _) _ _ _)); (fail_if_success (with_reducible show wpAny _ _ (eval (PySem.Expr.Call (PySem.Expr.Name (PySem.Str.ofString "len") _) _ _ _) _) _ _ _)); (fail_if_success (with_reducible show wpAny _ _ (eval (PySem.Expr.Call (PySem.Expr.Name (PySem.Str.ofString "range") _) _ _ _) _) _ _ _)); (fail_if_success (with_reducible show wpAny _ _ (eval (PySem.Expr.Call (PySem.Expr.Name (PySem.Str.ofString "max") _) _ _ _) _) _ _ _)); (fail_if_success (with_reducible show wpAny _ _ (eval (PySem.Expr.Call (PySem.Expr.Name (PySem.Str.ofString "min") _) _ _ _) _) _ _ _)); (fail_if_success (with_reducible show wpAny _ _ (eval (PySem.Expr.Call (PySem.Expr.Name (PySem.Str.ofString "int") _) _ _ _) _) _ _ _)); (fail_if_success (with_reducible show wpAny _ _ (eval (PySem.Expr.Call (PySem.Expr.Name (PySem.Str.ofString "str") _) _ _ _) _) _ _ _)); (with_reducible show wpAny _ _ (eval (PySem.Expr.Call (PySem.Expr.Name _ _) _ _ _) (envOf _ _ _ _ _)) _ _ _); refine Call_ ?_))
  k_with "execs cons" => (k_dflt (k_extra "my execs"))
  k_with "subscriptTail Name Constant ref int" => ((k_here; k_dflt (refine' item_tupleT ?t ?a ?b ?c ?d ?_; (case t => (refine' News.isTup ?tn ?tm; (case tn => k_asm); (case tm => k_mem))); (case a => decide); (case b => decide); (case c => rfl); (case d => rfl); k_whole)))
  k_with "binaryOp FloorDiv int int" => (first | k_dflt (k_extra "my div") | (with_reducible refine' floordiv_int ?xa ?_ (Or.inl (noPy ?xb ?xc)); (case xa => first | assumption | omega); (case xb => bits_by_make); (case xc => decide)))
  k_with "compareOp NotEq ref ref" => (k_dflt (refine' tup_ne ?xN ?xa ?xb ?xu ?xe ?_; (case xN => k_asm); (case xa => k_mem); (case xb => k_mem); (case xu => ktr_units); (case xe => first | with_reducible rfl | k_extra "my eq"); (((rename News _ _ _ _ => N8); (have N7 := news_drop2 N8); clear N8))))
  k_with "compareOp Eq ref ref" => (k_dflt (refine' tup_eq ?xN ?xa ?xb ?xu ?xe ?_; (case xN => k_asm); (case xa => k_mem); (case xb => k_mem); (case xu => ktr_units); (case xe => first | with_reducible rfl | k_extra "my eq"); (((rename News _ _ _ _ => N8); (have N7 := news_drop2 N8); clear N8))))
  k_with "my call" => first
    | ((with_reducible show wpAny _ _ (call (Value.ref 95) _) _ _ _); ((rename News _ _ _ _ => N8); (refine' Spec.useTupW (floor_specF _ _ _ _ _ _ _ _ _ _ (by k_mem) hy0 b2) ?k1 ?k2 ?k3 N8 ?k5 ?kK ?kd ?ku ?_; (case k1 => k_asm); (case k2 => k_asm); (case k3 => k_asm); (case k5 => k_asm); (case kK => first | exact rfl | assumption); (case kd => ktr_room); (case ku => ktr_units); intro q9 t9 u9 h9 tk9 F9 N9; (try dsimp only); (try k_sweep); (try k_unmd); (try k_fold))))
    | ((with_reducible show wpAny _ _ (call (Value.ref 102) _) _ _ _); ((rename News _ _ _ _ => N8); (refine' Spec.useTupW (ceiling_spec _ _ _ _ _ _ _ _ _ _ (by k_mem) hy0 b2) ?k1 ?k2 ?k3 N8 ?k5 ?kK ?kd ?ku ?_; (case k1 => k_asm); (case k2 => k_asm); (case k3 => k_asm); (case k5 => k_asm); (case kK => first | exact rfl | assumption); (case kd => ktr_room); (case ku => ktr_units); intro q9 t9 u9 h9 tk9 F9 N9; (try dsimp only); (try k_sweep); (try k_unmd); (try k_fold))))
    | ((with_reducible show wpAny _ _ (call (Value.ref 109) _) _ _ _); ((rename News _ _ _ _ => N8); (refine' Spec.useTupW (rounded_spec _ _ _ _ _ _ _ _ _ _ (by k_mem) hy b1 b2) ?k1 ?k2 ?k3 N8 ?k5 ?kK ?kd ?ku ?_; (case k1 => k_asm); (case k2 => k_asm); (case k3 => k_asm); (case k5 => k_asm); (case kK => first | exact rfl | assumption); (case kd => ktr_room); (case ku => ktr_units); intro q9 t9 u9 h9 tk9 F9 N9; (try dsimp only); (try k_sweep); (try k_unmd); (try k_fold))))
    | ((with_reducible show wpAny _ _ (call (Value.ref 194) _) _ _ _); ((rename News _ _ _ _ => N8); (refine' Spec.useTup (due_spec _ _ _ _ (x.fdiv y) 1 _ _ (by decide) c1 (by decide) _) ?k1 ?k2 ?k3 N8 ?k5 ?kK ?kd ?ku ?_; (case k1 => k_asm); (case k2 => k_asm); (case k3 => k_asm); (case k5 => k_asm); (case kK => first | exact rfl | assumption); (case kd => ktr_room); (case ku => ktr_units); intro q9 t9 u9 h9 tk9 F9 N9 l9; (try dsimp only [AllLt] at l9); (try dsimp only); (try k_sweep); (try k_unmd); (try k_fold))))
    | ((with_reducible show wpAny _ _ (call (Value.ref 194) _) _ _ _); ((rename News _ _ _ _ => N8); (refine' Spec.useTup (due_spec _ _ _ _ (-(-x).fdiv y) 1 _ _ (by decide) c2 (by decide) _) ?k1 ?k2 ?k3 N8 ?k5 ?kK ?kd ?ku ?_; (case k1 => k_asm); (case k2 => k_asm); (case k3 => k_asm); (case k5 => k_asm); (case kK => first | exact rfl | assumption); (case kd => ktr_room); (case ku => ktr_units); intro q9 t9 u9 h9 tk9 F9 N9 l9; (try dsimp only [AllLt] at l9); (try dsimp only); (try k_sweep); (try k_unmd); (try k_fold))))
    | ((with_reducible show wpAny _ _ (call (Value.ref 194) _) _ _ _); ((rename News _ _ _ _ => N8); (refine' Spec.useTup (due_spec _ _ _ _ ((numF (2 * x + y) (2 * y)).1.fdiv (numF (2 * x + y) (2 * y)).2) 1 _ _ (by decide) c6 (by decide) _) ?k1 ?k2 ?k3 N8 ?k5 ?kK ?kd ?ku ?_; (case k1 => k_asm); (case k2 => k_asm); (case k3 => k_asm); (case k5 => k_asm); (case kK => first | exact rfl | assumption); (case kd => ktr_room); (case ku => ktr_units); intro q9 t9 u9 h9 tk9 F9 N9 l9; (try dsimp only [AllLt] at l9); (try dsimp only); (try k_sweep); (try k_unmd); (try k_fold))))
    | ((with_reducible show wpAny _ _ (call (Value.ref 194) _) _ _ _); ((rename News _ _ _ _ => N8); (refine' Spec.useTup (due_spec _ _ _ _ (2 * x + y) (2 * y) _ _ (by omega) c3 c4 _) ?k1 ?k2 ?k3 N8 ?k5 ?kK ?kd ?ku ?_; (case k1 => k_asm); (case k2 => k_asm); (case k3 => k_asm); (case k5 => k_asm); (case kK => first | exact rfl | assumption); (case kd => ktr_room); (case ku => ktr_units); intro q9 t9 u9 h9 tk9 F9 N9 l9; (try dsimp only [AllLt] at l9); (try dsimp only); (try k_sweep); (try k_unmd); (try k_fold))))
  k_with "my eq" => first | with_reducible exact numF_neg1 _ | with_reducible exact rnd_0 (by assumption) | with_reducible exact rnd_1 (by assumption)
  k_steps
  all_goals (((refine' ret_bool (by assumption) ?e1 ?e2 ?e3 ?_; (case e1 => k_asm); (case e2 => k_asm); (case e3 => ((intro _ h9; repeat (first | exact h9 | apply List.mem_cons_of_mem)))))))
  all_goals rfl

section
variable {prog : Program} {w : World} {A : Around} {E : Value → Shared → Prop} {s : Shared} {Q : Value → Shared → Prop} {h₀ : Heap} {L a b : Addr} {m : Str → Option Value} {news : Led} {x y x' y' : Int} {t u t' u' : Tok} {K : Frag}
theorem tup_eqK (F : Fr h₀ L s.heap m) (X : K.In h₀) (N : News h₀ L s.heap news) (ha : K.lookup a = some (tup x y t u)) (hb : (b, tup x' y' t' u') ∈ news) (hu : A.units + 64 < cLine) (e : (x, y) = (x', y')) (h : Q (.bool true) s) :
    wpAny (model prog w) A (compareOp .Eq (.ref a) (.ref b)) Q E s := by
  obtain ⟨bs, rb⟩ := tup_reads N hb
  have ra : Reads s.heap (.ref a) (.tuple [.int x, .int y]) _ := reads_tuple_at (X.keeps F.keep _ _ ha) rfl rfl (ReadsAll.cons (Reads.int _ _) (ReadsAll.cons (Reads.int _ _) ReadsAll.nil))
  refine eq_dataH ra rb rfl rfl hu ?_
  rw [tup_eqv, decide_eq_true e]
  exact h
theorem tup_neK (F : Fr h₀ L s.heap m) (X : K.In h₀) (N : News h₀ L s.heap news) (ha : K.lookup a = some (tup x y t u)) (hb : (b, tup x' y' t' u') ∈ news) (hu : A.units + 64 < cLine) (e : (x, y) = (x', y')) (h : Q (.bool false) s) :
    wpAny (model prog w) A (compareOp .NotEq (.ref a) (.ref b)) Q E s := by
  obtain ⟨bs, rb⟩ := tup_reads N hb
  have ra : Reads s.heap (.ref a) (.tuple [.int x, .int y]) _ := reads_tuple_at (X.keeps F.keep _ _ ha) rfl rfl (ReadsAll.cons (Reads.int _ _) (ReadsAll.cons (Reads.int _ _) ReadsAll.nil))
  refine ne_dataH ra rb rfl rfl hu ?_
  rw [tup_eqv, decide_eq_true e]
  exact h
end
theorem sub_neg_mul (x y x' y' : Int) : ((numF (x * y' + -x' * y) (y * y')).1, (numF (x * y' + -x' * y) (y * y')).2) = ((numF (x * y' - x' * y) (y * y')).1, (numF (x * y' - x' * y) (y * y')).2) := by
  rw [Int.neg_mul, ← Int.sub_eq_add_neg]

theorem sgn_b2i (x : Int) : ((sgn x, (0 : Int)).1, (sgn x, (0 : Int)).2) = (b2i (decide (0 < x)) - b2i (decide (x < 0)), 0) := by
  unfold sgn b2i
  by_cases h1 : 0 < x <;> by_cases h2 : x < 0 <;> simp [h1, h2] <;> omega
theorem reck_spec0 (w mean mg mb) (x y x' y' : Int) (qa qb : Addr) (t u t' u' : Tok) (news : Led) (ha : (qa, tup x y t u) ∈ news) (hb : (qb, tup x' y' t' u') ∈ news) (hy : 0 < y) (hy' : 0 < y') (hx : x' = 0)
    (b1 : Builtin.Int.intBits x ≤ 4000) (b2 : Builtin.Int.intBits y ≤ 1400) (b3 : Builtin.Int.intBits x' ≤ 4000) (b4 : Builtin.Int.intBits y' ≤ 1400) :
    Spec w mean mg mb 8 215 [.ref qa, .ref qb] news (BoolR true news) := by
  have hyy : 0 < y * y' := Int.mul_pos hy hy'
  have c1 : Builtin.Int.intBits (x * y' + x' * y) ≤ 30000 := Nat.le_trans (bits_add (bits_mul b1 b4) (bits_mul b3 b2)) (by decide)
  have c2 : Builtin.Int.intBits (y * y') ≤ 8000 := Nat.le_trans (bits_mul b2 b4) (by decide)
  have c3 : Builtin.Int.intBits (x * y' - x' * y) ≤ 30000 := Nat.le_trans (bits_sub (bits_mul b1 b4) (bits_mul b3 b2)) (by decide)
  have c4 : Builtin.Int.intBits (x * x') ≤ 30000 := Nat.le_trans (bits_mul b1 b3) (by decide)
  unfold Spec; k_fill; intro dp un gd cn cs a ccd cl outer A₀ base h₀ L m s Q E B F X N T hk hdp hun hret
  ((refine wpAny_call ?_; k_dflt (refine' code_def ?k1 ?k2 ?k3 ?k4 ?k5 ?kA ?kF ?kK ?k6 ?k7 ?k8 ?k9 ?kB ?_ ?c2 ?c3 ?c4 ?c5; (case kA => exact rfl); (case kF => exact rfl); (case kK => assumption); (case k1 => k_asm); (case k2 => k_asm); (case k3 => k_asm); (case k4 => k_asm); (case k5 => k_asm); (case k6 => k_is); (case k7 => k_is); (case k8 => ktr_room); (case k9 => first | exact BindsTo.of_eq rfl | exact binds_K (by k_in) rfl (by k_is) rfl rfl rfl); (case c5 => decide); (case kB => exact locs rfl); (case c2 => exact rfl); (case c3 => exact rfl); (case c4 => exact rfl); k_whole; intro g' L' h' FG' F' N' B' X' T'; (try dsimp only); (try k_fold))))
  k_with_none
  k_with "binaryOp Mod int int" => (k_dflt (k_extra "my mod"))
  k_with "binaryOp Pow int int" => (k_dflt (k_extra "my pow"))
  k_with "exec While Compare cons nil" => (k_dflt (k_extra "my while"))
  k_with "call ref" => (k_dflt (k_extra "my call"))
  k_with "eval Call Name" => ((k_here; (fail_if_success (with_reducible show wpAny _ _ (eval (PySem.Expr.Call (PySem.Expr.Name (PySem.Str.ofString "abs") _) _ _ _) _) _ _ _)); (fail_if_success (with_reducible show wpAny _ _ (eval (PySem.Expr.Call (PySem.Expr.Name (PySem.Str.ofString "len") _) _ _ _) _) _ _ _)); (fail_if_success (with_reducible show wpAny _ _ (eval (PySem.Expr.Call (PySem.Expr.Name (PySem.Str.ofString "range") _) _ _ _) _) _ _ _)); (fail_if_success (with_reducible show wpAny _ _ (eval (PySem.Expr.Call (PySem.Expr.Name (PySem.Str.ofString "max") _) _ _ _) _) _ _ _)); (fail_if_success (with_reducible show wpAny _ _ (eval (PySem.Expr.Call (PySem.Expr.Name (PySem.Str.ofString "min") _) _ _ _) _) _ _ _)); (fail_if_success (with_reducible show wpAny _ _ (eval (PySem.Expr.Call (PySem.Expr.Name (PySem.Str.ofString "int") _) _ _ _) _) _ _ _)); (fail_if_success (with_reducible show wpAny _ _ (eval (PySem.Expr.Call (PySem.Expr.Name (PySem.Str.ofString "str") _) _ _ _) _) _ _ _)); (with_reducible show wpAny _ _ (eval (PySem.Expr.Call (PySem.Expr.Name _ _) _ _ _) (envOf _ _ _ _ _)) _ _ _); refine Call_ ?_))
  k_with "execs cons" => (k_dflt (k_extra "my execs"))
  k_with "subscriptTail Name Constant ref int" => ((k_here; k_dflt (refine' item_tupleT ?t ?a ?b ?c ?d ?_; (case t => (refine' News.isTup ?tn ?tm; (case tn => k_asm); (case tm => k_mem))); (case a => decide); (case b => decide); (case c => rfl); (case d => rfl); k_whole)))
  k_with "binaryOp FloorDiv int int" => (first | k_dflt (k_extra "my div") | (with_reducible refine' floordiv_int ?xa ?_ (Or.inl (noPy ?xb ?xc)); (case xa => first | assumption | omega); (case xb => bits_by_make); (case xc => decide)))
  k_with "compareOp NotEq ref ref" => (k_dflt (refine' tup_ne ?xN ?xa ?xb ?xu ?xe ?_; (case xN => k_asm); (case xa => k_mem); (case xb => k_mem); (case xu => ktr_units); (case xe => first | with_reducible rfl | k_extra "my eq"); (((rename News _ _ _ _ => N8); (have N7 := news_drop2 N8); clear N8))))
  k_with "compareOp Eq ref ref" => (k_dflt (refine' tup_eq ?xN ?xa ?xb ?xu ?xe ?_; (case xN => k_asm); (case xa => k_mem); (case xb => k_mem); (case xu => ktr_units); (case xe => first | with_reducible rfl | k_extra "my eq"); (((rename News _ _ _ _ => N8); (have N7 := news_drop2 N8); clear N8))))
  k_with "compareOp Eq ref ref" => (k_dflt (refine' tup_eqK ?xF ?xX ?xN ?xa ?xb ?xu ?xe ?_; (case xF => k_asm); (case xX => k_asm); (case xN => k_asm); (case xa => k_is); (case xb => k_mem); (case xu => ktr_units); (case xe => first | with_reducible rfl | k_extra "my eq")))
  k_with "compareOp NotEq ref ref" => (k_dflt (refine' tup_neK ?xF ?xX ?xN ?xa ?xb ?xu ?xe ?_; (case xF => k_asm); (case xX => k_asm); (case xN => k_asm); (case xa => k_is); (case xb => k_mem); (case xu => ktr_units); (case xe => first | with_reducible rfl | k_extra "my eq")))
  k_with "my call" => first
    | ((with_reducible show wpAny _ _ (call (Value.ref 60) _) _ _ _); ((rename News _ _ _ _ => N8); (refine' Spec.useTup (plus_spec _ _ _ _ _ _ _ _ _ _ _ _ _ _ _ (by k_mem) (by k_mem) hy hy' b1 b2 b3 b4) ?k1 ?k2 ?k3 N8 ?k5 ?kK ?kd ?ku ?_; (case k1 => k_asm); (case k2 => k_asm); (case k3 => k_asm); (case k5 => k_asm); (case kK => first | exact rfl | assumption); (case kd => ktr_room); (case ku => ktr_units); intro q9 t9 u9 h9 tk9 F9 N9 l9; (try dsimp only [AllLt] at l9); (try dsimp only); (try k_sweep); (try k_unmd); (try k_fold))))
    | ((with_reducible show wpAny _ _ (call (Value.ref 67) _) _ _ _); ((rename News _ _ _ _ => N8); (refine' Spec.useTup (minus_spec _ _ _ _ _ _ _ _ _ _ _ _ _ _ _ (by k_mem) (by k_mem) hy hy' b1 b2 b3 b4) ?k1 ?k2 ?k3 N8 ?k5 ?kK ?kd ?ku ?_; (case k1 => k_asm); (case k2 => k_asm); (case k3 => k_asm); (case k5 => k_asm); (case kK => first | exact rfl | assumption); (case kd => ktr_room); (case ku => ktr_units); intro q9 t9 u9 h9 tk9 F9 N9 l9; (try dsimp only [AllLt] at l9); (try dsimp only); (try k_sweep); (try k_unmd); (try k_fold))))
    | ((with_reducible show wpAny _ _ (call (Value.ref 74) _) _ _ _); ((rename News _ _ _ _ => N8); (refine' Spec.useTup (times_spec _ _ _ _ _ _ _ _ _ _ _ _ _ _ _ (by k_mem) (by k_mem) hy hy' b1 b2 b3 b4) ?k1 ?k2 ?k3 N8 ?k5 ?kK ?kd ?ku ?_; (case k1 => k_asm); (case k2 => k_asm); (case k3 => k_asm); (case k5 => k_asm); (case kK => first | exact rfl | assumption); (case kd => ktr_room); (case ku => ktr_units); intro q9 t9 u9 h9 tk9 F9 N9 l9; (try dsimp only [AllLt] at l9); (try dsimp only); (try k_sweep); (try k_unmd); (try k_fold))))
    | ((with_reducible show wpAny _ _ (call (Value.ref 194) _) _ _ _); ((rename News _ _ _ _ => N8); (refine' Spec.useTup (due_spec _ _ _ _ _ _ _ _ (by assumption) (by assumption) (by assumption) _) ?k1 ?k2 ?k3 N8 ?k5 ?kK ?kd ?ku ?_; (case k1 => k_asm); (case k2 => k_asm); (case k3 => k_asm); (case k5 => k_asm); (case kK => first | exact rfl | assumption); (case kd => ktr_room); (case ku => ktr_units); intro q9 t9 u9 h9 tk9 F9 N9 l9; (try dsimp only [AllLt] at l9); (try dsimp only); (try k_sweep); (try k_unmd); (try k_fold))))
    | ((with_reducible show wpAny _ _ (call (Value.ref 81) _) _ _ _); ((rename News _ _ _ _ => N8); (refine' Spec.useTup (divided_spec0 _ _ _ _ _ _ _ _ _ _ _ _ _ _ _ (by k_mem) (by k_mem) hy hy' hx b1 b2 b3 b4) ?k1 ?k2 ?k3 N8 ?k5 ?kK ?kd ?ku ?_; (case k1 => k_asm); (case k2 => k_asm); (case k3 => k_asm); (case k5 => k_asm); (case kK => first | exact rfl | assumption); (case kd => ktr_room); (case ku => ktr_units); intro q9 t9 u9 h9 tk9 F9 N9 l9; (try dsimp only [AllLt] at l9); (try dsimp only); (try k_sweep); (try k_unmd); (try k_fold))))
    | ((with_reducible show wpAny _ _ (call (Value.ref 88) _) _ _ _); ((rename News _ _ _ _ => N8); (refine' Spec.useNan (modulo_spec0 _ _ _ _ _ _ _ _ _ _ _ _ _ _ _ (by k_mem) (by k_mem) hy hy' hx) ?k1 ?k2 ?k3 N8 ?k5 ?kK ?kd ?ku ?_; (case k1 => k_asm); (case k2 => k_asm); (case k3 => k_asm); (case k5 => k_asm); (case kK => first | exact rfl | assumption); (case kd => ktr_room); (case ku => ktr_units); intro h9 tk9 F9 N9; (try dsimp only); (try k_sweep); (try k_unmd); (try k_fold))))
  k_with "my eq" => first | with_reducible exact sub_neg_mul _ _ _ _ | with_reducible exact sgn_b2i _
  (repeat' (first | (k_unfold; (try dsimp only)) | (k_end; wrow_close) | walk1 | (dsimp only; walk1) | (leave1; walk_say "STEP leave1"; try dsimp only) | (k_unmd; k_unfold; (try dsimp only)) | fail "no step"))
  all_goals (((refine' ret_bool (by assumption) ?e1 ?e2 ?e3 ?_; (case e1 => k_asm); (case e2 => k_asm); (case e3 => ((intro _ h9; repeat (first | exact h9 | apply List.mem_cons_of_mem)))))))
  all_goals rfl

theorem eq_sgn1 (x y x' y' : Int) : ((numF (x * y') (y * x')).1, (numF (x * y') (y * x')).2) = ((numF (1 * (x * y')) (1 * (x' * y))).1, (numF (1 * (x * y')) (1 * (x' * y))).2) := by
  rw [Int.one_mul, Int.one_mul, Int.mul_comm x' y]
theorem eq_sgnN (x y x' y' : Int) : ((numF (-(x * y')) (-(y * x'))).1, (numF (-(x * y')) (-(y * x'))).2) = ((numF (-1 * (x * y')) (-1 * (x' * y))).1, (numF (-1 * (x * y')) (-1 * (x' * y))).2) := by
  rw [Int.neg_mul, Int.neg_mul, Int.one_mul, Int.one_mul, Int.mul_comm x' y]
theorem eq_modN {x y x' y' : Int} (h : x * y' < 0) : ((modF x y x' y').1, (modF x y x' y').2) = ((numF (-(mag (x * y')).fmod (mag (x' * y))) (y * y')).1, (numF (-(mag (x * y')).fmod (mag (x' * y))) (y * y')).2) := by
  unfold modF sgn
  rw [if_neg (by omega), if_pos h, Int.neg_mul, Int.one_mul]
theorem eq_modP {x y x' y' : Int} (h : ¬ x * y' < 0) : ((modF x y x' y').1, (modF x y x' y').2) = ((numF ((mag (x * y')).fmod (mag (x' * y))) (y * y')).1, (numF ((mag (x * y')).fmod (mag (x' * y))) (y * y')).2) := by
  unfold modF sgn
  by_cases h0 : x * y' = 0
  · rw [h0]; simp [mag]
  · rw [if_pos (by omega), Int.one_mul]

theorem reck_specP (w mean mg mb) (x y x' y' : Int) (qa qb : Addr) (t u t' u' : Tok) (news : Led) (ha : (qa, tup x y t u) ∈ news) (hb : (qb, tup x' y' t' u') ∈ news) (hy : 0 < y) (hy' : 0 < y') (hx : 0 < x')
    (b1 : Builtin.Int.intBits x ≤ 4000) (b2 : Builtin.Int.intBits y ≤ 1400) (b3 : Builtin.Int.intBits x' ≤ 4000) (b4 : Builtin.Int.intBits y' ≤ 1400) :
    Spec w mean mg mb 8 215 [.ref qa, .ref qb] news (BoolR true news) := by
  have hyy : 0 < y * y' := Int.mul_pos hy hy'
  have c1 : Builtin.Int.intBits (x * y' + x' * y) ≤ 30000 := Nat.le_trans (bits_add (bits_mul b1 b4) (bits_mul b3 b2)) (by decide)
  have c2 : Builtin.Int.intBits (y * y') ≤ 8000 := Nat.le_trans (bits_mul b2 b4) (by decide)
  have c3 : Builtin.Int.intBits (x * y' - x' * y) ≤ 30000 := Nat.le_trans (bits_sub (bits_mul b1 b4) (bits_mul b3 b2)) (by decide)
  have c4 : Builtin.Int.intBits (x * x') ≤ 30000 := Nat.le_trans (bits_mul b1 b3) (by decide)
  have hx0 : x' ≠ 0 := by omega
  have hx1 : ¬ x' < 0 := by omega
  have d0 : 0 < 1 * (x' * y) := by rw [Int.one_mul]; exact Int.mul_pos hx hy
  have d1 : Builtin.Int.intBits (1 * (x * y')) ≤ 30000 := by rw [Int.one_mul]; exact Nat.le_trans (bits_mul b1 b4) (by decide)
  have d2 : Builtin.Int.intBits (1 * (x' * y)) ≤ 8000 := by rw [Int.one_mul]; exact Nat.le_trans (bits_mul b3 b2) (by decide)
  have e0 := mag_ne (Int.mul_ne_zero hx0 (show y ≠ 0 by omega))
  have e1 : Builtin.Int.intBits ((mag (x * y')).fmod (mag (x' * y))) ≤ 30000 := Nat.le_trans (bits_fmod (mag_bits (bits_mul b1 b4)) (mag_bits (bits_mul b3 b2))) (by decide)
  have e2 := bits_neg e1
  unfold Spec; k_fill; intro dp un gd cn cs a ccd cl outer A₀ base h₀ L m s Q E B F X N T hk hdp hun hret
  ((refine wpAny_call ?_; k_dflt (refine' code_def ?k1 ?k2 ?k3 ?k4 ?k5 ?kA ?kF ?kK ?k6 ?k7 ?k8 ?k9 ?kB ?_ ?c2 ?c3 ?c4 ?c5; (case kA => exact rfl); (case kF => exact rfl); (case kK => assumption); (case k1 => k_asm); (case k2 => k_asm); (case k3 => k_asm); (case k4 => k_asm); (case k5 => k_asm); (case k6 => k_is); (case k7 => k_is); (case k8 => ktr_room); (case k9 => first | exact BindsTo.of_eq rfl | exact binds_K (by k_in) rfl (by k_is) rfl rfl rfl); (case c5 => decide); (case kB => exact locs rfl); (case c2 => exact rfl); (case c3 => exact rfl); (case c4 => exact rfl); k_whole; intro g' L' h' FG' F' N' B' X' T'; (try dsimp only); (try k_fold))))
  k_with_none
  k_with "binaryOp Mod int int" => (k_dflt (k_extra "my mod"))
  k_with "binaryOp Pow int int" => (k_dflt (k_extra "my pow"))
  k_with "exec While Compare cons nil" => (k_dflt (k_extra "my while"))
  k_with "call ref" => (k_dflt (k_extra "my call"))
  k_with "eval Call Name" => ((k_here; (fail_if_success (with_reducible show wpAny _ _ (eval (PySem.Expr.Call (PySem.Expr.Name (PySem.Str.ofString "abs") _) _ _ _) _) _ _ _)); (fail_if_success (with_reducible show wpAny _ _ (eval (PySem.Expr.Call (PySem.Expr.Name (PySem.Str.ofString "len") _) _ _ _) _) _ _ _)); (fail_if_success (with_reducible show wpAny _ _ (eval (PySem.Expr.Call (PySem.Expr.Name (PySem.Str.ofString "range") _) _ _ _) _) _ _ _)); (fail_if_success (with_reducible show wpAny _ _ (eval (PySem.Expr.Call (PySem.Expr.Name (PySem.Str.ofString "max") _) _ _ _) _) _ _ _)); (fail_if_success (with_reducible show wpAny _ _ (eval (PySem.Expr.Call (PySem.Expr.Name (PySem.Str.ofString "min") _) _ _ _) _) _ _ _)); (fail_if_success (with_reducible show wpAny _ _ (eval (PySem.Expr.Call (PySem.Expr.Name (PySem.Str.ofString "int") _) _ _ _) _) _ _ _)); (fail_if_success (with_reducible show wpAny _ _ (eval (PySem.Expr.Call (PySem.Expr.Name (PySem.Str.ofString "str") _) _ _ _) _) _ _ _)); (with_reducible show wpAny _ _ (eval (PySem.Expr.Call (PySem.Expr.Name _ _) _ _ _) (envOf _ _ _ _ _)) _ _ _); refine Call_ ?_))
  k_with "execs cons" => (k_dflt (k_extra "my execs"))
  k_with "subscriptTail Name Constant ref int" => ((k_here; k_dflt (refine' item_tupleT ?t ?a ?b ?c ?d ?_; (case t => (refine' News.isTup ?tn ?tm; (case tn => k_asm); (case tm => k_mem))); (case a => decide); (case b => decide); (case c => rfl); (case d => rfl); k_whole)))
  k_with "binaryOp FloorDiv int int" => (first | k_dflt (k_extra "my div") | (with_reducible refine' floordiv_int ?xa ?_ (Or.inl (noPy ?xb ?xc)); (case xa => first | assumption | omega); (case xb => bits_by_make); (case xc => decide)))
  k_with "compareOp NotEq ref ref" => (k_dflt (refine' tup_ne ?xN ?xa ?xb ?xu ?xe ?_; (case xN => k_asm); (case xa => k_mem); (case xb => k_mem); (case xu => ktr_units); (case xe => first | with_reducible rfl | k_extra "my eq"); (((rename News _ _ _ _ => N8); (have N7 := news_drop2 N8); clear N8))))
  k_with "compareOp Eq ref ref" => (k_dflt (refine' tup_eq ?xN ?xa ?xb ?xu ?xe ?_; (case xN => k_asm); (case xa => k_mem); (case xb => k_mem); (case xu => ktr_units); (case xe => first | with_reducible rfl | k_extra "my eq"); (((rename News _ _ _ _ => N8); (have N7 := news_drop2 N8); clear N8))))
  k_with "compareOp Eq ref ref" => (k_dflt (refine' tup_eqK ?xF ?xX ?xN ?xa ?xb ?xu ?xe ?_; (case xF => k_asm); (case xX => k_asm); (case xN => k_asm); (case xa => k_is); (case xb => k_mem); (case xu => ktr_units); (case xe => first | with_reducible rfl | k_extra "my eq")))
  k_with "compareOp NotEq ref ref" => (k_dflt (refine' tup_neK ?xF ?xX ?xN ?xa ?xb ?xu ?xe ?_; (case xF => k_asm); (case xX => k_asm); (case xN => k_asm); (case xa => k_is); (case xb => k_mem); (case xu => ktr_units); (case xe => first | with_reducible rfl | k_extra "my eq")))
  k_with "my call" => first
    | ((with_reducible show wpAny _ _ (call (Value.ref 60) _) _ _ _); ((rename News _ _ _ _ => N8); (refine' Spec.useTup (plus_spec _ _ _ _ _ _ _ _ _ _ _ _ _ _ _ (by k_mem) (by k_mem) hy hy' b1 b2 b3 b4) ?k1 ?k2 ?k3 N8 ?k5 ?kK ?kd ?ku ?_; (case k1 => k_asm); (case k2 => k_asm); (case k3 => k_asm); (case k5 => k_asm); (case kK => first | exact rfl | assumption); (case kd => ktr_room); (case ku => ktr_units); intro q9 t9 u9 h9 tk9 F9 N9 l9; (try dsimp only [AllLt] at l9); (try dsimp only); (try k_sweep); (try k_unmd); (try k_fold))))
    | ((with_reducible show wpAny _ _ (call (Value.ref 67) _) _ _ _); ((rename News _ _ _ _ => N8); (refine' Spec.useTup (minus_spec _ _ _ _ _ _ _ _ _ _ _ _ _ _ _ (by k_mem) (by k_mem) hy hy' b1 b2 b3 b4) ?k1 ?k2 ?k3 N8 ?k5 ?kK ?kd ?ku ?_; (case k1 => k_asm); (case k2 => k_asm); (case k3 => k_asm); (case k5 => k_asm); (case kK => first | exact rfl | assumption); (case kd => ktr_room); (case ku => ktr_units); intro q9 t9 u9 h9 tk9 F9 N9 l9; (try dsimp only [AllLt] at l9); (try dsimp only); (try k_sweep); (try k_unmd); (try k_fold))))
    | ((with_reducible show wpAny _ _ (call (Value.ref 74) _) _ _ _); ((rename News _ _ _ _ => N8); (refine' Spec.useTup (times_spec _ _ _ _ _ _ _ _ _ _ _ _ _ _ _ (by k_mem) (by k_mem) hy hy' b1 b2 b3 b4) ?k1 ?k2 ?k3 N8 ?k5 ?kK ?kd ?ku ?_; (case k1 => k_asm); (case k2 => k_asm); (case k3 => k_asm); (case k5 => k_asm); (case kK => first | exact rfl | assumption); (case kd => ktr_room); (case ku => ktr_units); intro q9 t9 u9 h9 tk9 F9 N9 l9; (try dsimp only [AllLt] at l9); (try dsimp only); (try k_sweep); (try k_unmd); (try k_fold))))
    | ((with_reducible show wpAny _ _ (call (Value.ref 194) _) _ _ _); ((rename News _ _ _ _ => N8); (refine' Spec.useTup (due_spec _ _ _ _ _ _ _ _ (by assumption) (by assumption) (by assumption) _) ?k1 ?k2 ?k3 N8 ?k5 ?kK ?kd ?ku ?_; (case k1 => k_asm); (case k2 => k_asm); (case k3 => k_asm); (case k5 => k_asm); (case kK => first | exact rfl | assumption); (case kd => ktr_room); (case ku => ktr_units); intro q9 t9 u9 h9 tk9 F9 N9 l9; (try dsimp only [AllLt] at l9); (try dsimp only); (try k_sweep); (try k_unmd); (try k_fold))))
    | ((with_reducible show wpAny _ _ (call (Value.ref 81) _) _ _ _); ((rename News _ _ _ _ => N8); (refine' Spec.useTup (divided_specP _ _ _ _ _ _ _ _ _ _ _ _ _ _ _ (by k_mem) (by k_mem) hy hy' hx b1 b2 b3 b4) ?k1 ?k2 ?k3 N8 ?k5 ?kK ?kd ?ku ?_; (case k1 => k_asm); (case k2 => k_asm); (case k3 => k_asm); (case k5 => k_asm); (case kK => first | exact rfl | assumption); (case kd => ktr_room); (case ku => ktr_units); intro q9 t9 u9 h9 tk9 F9 N9 l9; (try dsimp only [AllLt] at l9); (try dsimp only); (try k_sweep); (try k_unmd); (try k_fold))))
    | ((with_reducible show wpAny _ _ (call (Value.ref 88) _) _ _ _); ((rename News _ _ _ _ => N8); (refine' Spec.useTup (modulo_spec _ _ _ _ _ _ _ _ _ _ _ _ _ _ _ (by k_mem) (by k_mem) hy hy' hx0 b1 b2 b3 b4) ?k1 ?k2 ?k3 N8 ?k5 ?kK ?kd ?ku ?_; (case k1 => k_asm); (case k2 => k_asm); (case k3 => k_asm); (case k5 => k_asm); (case kK => first | exact rfl | assumption); (case kd => ktr_room); (case ku => ktr_units); intro q9 t9 u9 h9 tk9 F9 N9 l9; (try dsimp only [AllLt] at l9); (try dsimp only); (try k_sweep); (try k_unmd); (try k_fold))))
  k_with "my eq" => first | with_reducible exact sub_neg_mul _ _ _ _ | with_reducible exact eq_sgn1 _ _ _ _ | with_reducible exact eq_sgnN _ _ _ _ | with_reducible exact eq_modN (by assumption) | with_reducible exact eq_modP (by assumption)
  (repeat' (first | (k_unfold; (try dsimp only)) | (k_end; wrow_close) | walk1 | (dsimp only; walk1) | (leave1; walk_say "STEP leave1"; try dsimp only) | (k_unmd; k_unfold; (try dsimp only)) | fail "no step"))
  all_goals (((refine' ret_bool (by assumption) ?e1 ?e2 ?e3 ?_; (case e1 => k_asm); (case e2 => k_asm); (case e3 => ((intro _ h9; repeat (first | exact h9 | apply List.mem_cons_of_mem)))))))
  all_goals rfl

theorem reck_specN (w mean mg mb) (x y x' y' : Int) (qa qb : Addr) (t u t' u' : Tok) (news : Led) (ha : (qa, tup x y t u) ∈ news) (hb : (qb, tup x' y' t' u') ∈ news) (hy : 0 < y) (hy' : 0 < y') (hx : x' < 0)
    (b1 : Builtin.Int.intBits x ≤ 4000) (b2 : Builtin.Int.intBits y ≤ 1400) (b3 : Builtin.Int.intBits x' ≤ 4000) (b4 : Builtin.Int.intBits y' ≤ 1400) :
    Spec w mean mg mb 8 215 [.ref qa, .ref qb] news (BoolR true news) := by
  have hyy : 0 < y * y' := Int.mul_pos hy hy'
  have c1 : Builtin.Int.intBits (x * y' + x' * y) ≤ 30000 := Nat.le_trans (bits_add (bits_mul b1 b4) (bits_mul b3 b2)) (by decide)
  have c2 : Builtin.Int.intBits (y * y') ≤ 8000 := Nat.le_trans (bits_mul b2 b4) (by decide)
  have c3 : Builtin.Int.intBits (x * y' - x' * y) ≤ 30000 := Nat.le_trans (bits_sub (bits_mul b1 b4) (bits_mul b3 b2)) (by decide)
  have c4 : Builtin.Int.intBits (x * x') ≤ 30000 := Nat.le_trans (bits_mul b1 b3) (by decide)
  have hx0 : x' ≠ 0 := by omega
  have d0 : 0 < -1 * (x' * y) := by have := Int.mul_neg_of_neg_of_pos hx hy; omega
  have d1 : Builtin.Int.intBits (-1 * (x * y')) ≤ 30000 := by rw [Int.neg_mul, Int.one_mul]; exact Nat.le_trans (bits_neg (bits_mul b1 b4)) (by decide)
  have d2 : Builtin.Int.intBits (-1 * (x' * y)) ≤ 8000 := by rw [Int.neg_mul, Int.one_mul]; exact Nat.le_trans (bits_neg (bits_mul b3 b2)) (by decide)
  have e0 := mag_ne (Int.mul_ne_zero hx0 (show y ≠ 0 by omega))
  have e1 : Builtin.Int.intBits ((mag (x * y')).fmod (mag (x' * y))) ≤ 30000 := Nat.le_trans (bits_fmod (mag_bits (bits_mul b1 b4)) (mag_bits (bits_mul b3 b2))) (by decide)
  have e2 := bits_neg e1
  unfold Spec; k_fill; intro dp un gd cn cs a ccd cl outer A₀ base h₀ L m s Q E B F X N T hk hdp hun hret
  ((refine wpAny_call ?_; k_dflt (refine' code_def ?k1 ?k2 ?k3 ?k4 ?k5 ?kA ?kF ?kK ?k6 ?k7 ?k8 ?k9 ?kB ?_ ?c2 ?c3 ?c4 ?c5; (case kA => exact rfl); (case kF => exact rfl); (case kK => assumption); (case k1 => k_asm); (case k2 => k_asm); (case k3 => k_asm); (case k4 => k_asm); (case k5 => k_asm); (case k6 => k_is); (case k7 => k_is); (case k8 => ktr_room); (case k9 => first | exact BindsTo.of_eq rfl | exact binds_K (by k_in) rfl (by k_is) rfl rfl rfl); (case c5 => decide); (case kB => exact locs rfl); (case c2 => exact rfl); (case c3 => exact rfl); (case c4 => exact rfl); k_whole; intro g' L' h' FG' F' N' B' X' T'; (try dsimp only); (try k_fold))))
  k_with_none
  k_with "binaryOp Mod int int" => (k_dflt (k_extra "my mod"))
  k_with "binaryOp Pow int int" => (k_dflt (k_extra "my pow"))
  k_with "exec While Compare cons nil" => (k_dflt (k_extra "my while"))
  k_with "call ref" => (k_dflt (k_extra "my call"))
  k_with "eval Call Name" => ((k_here; (fail_if_success (with_reducible show wpAny _ _ (eval (PySem.Expr.Call (PySem.Expr.Name (PySem.Str.ofString "abs") _) _ _ _) _) _ _ _)); (fail_if_success (with_reducible show wpAny _ _ (eval (PySem.Expr.Call (PySem.Expr.Name (PySem.Str.ofString "len") _) _ _ _) _) _ _ _)); (fail_if_success (with_reducible show wpAny _ _ (eval (PySem.Expr.Call (PySem.Expr.Name (PySem.Str.ofString "range") _) _ _ _) _) _ _ _)); (fail_if_success (with_reducible show wpAny _ _ (eval (PySem.Expr.Call (PySem.Expr.Name (PySem.Str.ofString "max") _) _ _ _) _) _ _ _)); (fail_if_success (with_reducible show wpAny _ _ (eval (PySem.Expr.Call (PySem.Expr.Name (PySem.Str.ofString "min") _) _ _ _) _) _ _ _)); (fail_if_success (with_reducible show wpAny _ _ (eval (PySem.Expr.Call (PySem.Expr.Name (PySem.Str.ofString "int") _) _ _ _) _) _ _ _)); (fail_if_success (with_reducible show wpAny _ _ (eval (PySem.Expr.Call (PySem.Expr.Name (PySem.Str.ofString "str") _) _ _ _) _) _ _ _)); (with_reducible show wpAny _ _ (eval (PySem.Expr.Call (PySem.Expr.Name _ _) _ _ _) (envOf _ _ _ _ _)) _ _ _); refine Call_ ?_))
  k_with "execs cons" => (k_dflt (k_extra "my execs"))
  k_with "subscriptTail Name Constant ref int" => ((k_here; k_dflt (refine' item_tupleT ?t ?a ?b ?c ?d ?_; (case t => (refine' News.isTup ?tn ?tm; (case tn => k_asm); (case tm => k_mem))); (case a => decide); (case b => decide); (case c => rfl); (case d => rfl); k_whole)))
  k_with "binaryOp FloorDiv int int" => (first | k_dflt (k_extra "my div") | (with_reducible refine' floordiv_int ?xa ?_ (Or.inl (noPy ?xb ?xc)); (case xa => first | assumption | omega); (case xb => bits_by_make); (case xc => decide)))
  k_with "compareOp NotEq ref ref" => (k_dflt (refine' tup_ne ?xN ?xa ?xb ?xu ?xe ?_; (case xN => k_asm); (case xa => k_mem); (case xb => k_mem); (case xu => ktr_units); (case xe => first | with_reducible rfl | k_extra "my eq"); (((rename News _ _ _ _ => N8); (have N7 := news_drop2 N8); clear N8))))
  k_with "compareOp Eq ref ref" => (k_dflt (refine' tup_eq ?xN ?xa ?xb ?xu ?xe ?_; (case xN => k_asm); (case xa => k_mem); (case xb => k_mem); (case xu => ktr_units); (case xe => first | with_reducible rfl | k_extra "my eq"); (((rename News _ _ _ _ => N8); (have N7 := news_drop2 N8); clear N8))))
  k_with "compareOp Eq ref ref" => (k_dflt (refine' tup_eqK ?xF ?xX ?xN ?xa ?xb ?xu ?xe ?_; (case xF => k_asm); (case xX => k_asm); (case xN => k_asm); (case xa => k_is); (case xb => k_mem); (case xu => ktr_units); (case xe => first | with_reducible rfl | k_extra "my eq")))
  k_with "compareOp NotEq ref ref" => (k_dflt (refine' tup_neK ?xF ?xX ?xN ?xa ?xb ?xu ?xe ?_; (case xF => k_asm); (case xX => k_asm); (case xN => k_asm); (case xa => k_is); (case xb => k_mem); (case xu => ktr_units); (case xe => first | with_reducible rfl | k_extra "my eq")))
  k_with "my call" => first
    | ((with_reducible show wpAny _ _ (call (Value.ref 60) _) _ _ _); ((rename News _ _ _ _ => N8); (refine' Spec.useTup (plus_spec _ _ _ _ _ _ _ _ _ _ _ _ _ _ _ (by k_mem) (by k_mem) hy hy' b1 b2 b3 b4) ?k1 ?k2 ?k3 N8 ?k5 ?kK ?kd ?ku ?_; (case k1 => k_asm); (case k2 => k_asm); (case k3 => k_asm); (case k5 => k_asm); (case kK => first | exact rfl | assumption); (case kd => ktr_room); (case ku => ktr_units); intro q9 t9 u9 h9 tk9 F9 N9 l9; (try dsimp only [AllLt] at l9); (try dsimp only); (try k_sweep); (try k_unmd); (try k_fold))))
    | ((with_reducible show wpAny _ _ (call (Value.ref 67) _) _ _ _); ((rename News _ _ _ _ => N8); (refine' Spec.useTup (minus_spec _ _ _ _ _ _ _ _ _ _ _ _ _ _ _ (by k_mem) (by k_mem) hy hy' b1 b2 b3 b4) ?k1 ?k2 ?k3 N8 ?k5 ?kK ?kd ?ku ?_; (case k1 => k_asm); (case k2 => k_asm); (case k3 => k_asm); (case k5 => k_asm); (case kK => first | exact rfl | assumption); (case kd => ktr_room); (case ku => ktr_units); intro q9 t9 u9 h9 tk9 F9 N9 l9; (try dsimp only [AllLt] at l9); (try dsimp only); (try k_sweep); (try k_unmd); (try k_fold))))
    | ((with_reducible show wpAny _ _ (call (Value.ref 74) _) _ _ _); ((rename News _ _ _ _ => N8); (refine' Spec.useTup (times_spec _ _ _ _ _ _ _ _ _ _ _ _ _ _ _ (by k_mem) (by k_mem) hy hy' b1 b2 b3 b4) ?k1 ?k2 ?k3 N8 ?k5 ?kK ?kd ?ku ?_; (case k1 => k_asm); (case k2 => k_asm); (case k3 => k_asm); (case k5 => k_asm); (case kK => first | exact rfl | assumption); (case kd => ktr_room); (case ku => ktr_units); intro q9 t9 u9 h9 tk9 F9 N9 l9; (try dsimp only [AllLt] at l9); (try dsimp only); (try k_sweep); (try k_unmd); (try k_fold))))
    | ((with_reducible show wpAny _ _ (call (Value.ref 194) _) _ _ _); ((rename News _ _ _ _ => N8); (refine' Spec.useTup (due_spec _ _ _ _ _ _ _ _ (by assumption) (by assumption) (by assumption) _) ?k1 ?k2 ?k3 N8 ?k5 ?kK ?kd ?ku ?_; (case k1 => k_asm); (case k2 => k_asm); (case k3 => k_asm); (case k5 => k_asm); (case kK => first | exact rfl | assumption); (case kd => ktr_room); (case ku => ktr_units); intro q9 t9 u9 h9 tk9 F9 N9 l9; (try dsimp only [AllLt] at l9); (try dsimp only); (try k_sweep); (try k_unmd); (try k_fold))))
    | ((with_reducible show wpAny _ _ (call (Value.ref 81) _) _ _ _); ((rename News _ _ _ _ => N8); (refine' Spec.useTup (divided_specN _ _ _ _ _ _ _ _ _ _ _ _ _ _ _ (by k_mem) (by k_mem) hy hy' hx b1 b2 b3 b4) ?k1 ?k2 ?k3 N8 ?k5 ?kK ?kd ?ku ?_; (case k1 => k_asm); (case k2 => k_asm); (case k3 => k_asm); (case k5 => k_asm); (case kK => first | exact rfl | assumption); (case kd => ktr_room); (case ku => ktr_units); intro q9 t9 u9 h9 tk9 F9 N9 l9; (try dsimp only [AllLt] at l9); (try dsimp only); (try k_sweep); (try k_unmd); (try k_fold))))
    | ((with_reducible show wpAny _ _ (call (Value.ref 88) _) _ _ _); ((rename News _ _ _ _ => N8); (refine' Spec.useTup (modulo_spec _ _ _ _ _ _ _ _ _ _ _ _ _ _ _ (by k_mem) (by k_mem) hy hy' hx0 b1 b2 b3 b4) ?k1 ?k2 ?k3 N8 ?k5 ?kK ?kd ?ku ?_; (case k1 => k_asm); (case k2 => k_asm); (case k3 => k_asm); (case k5 => k_asm); (case kK => first | exact rfl | assumption); (case kd => ktr_room); (case ku => ktr_units); intro q9 t9 u9 h9 tk9 F9 N9 l9; (try dsimp only [AllLt] at l9); (try dsimp only); (try k_sweep); (try k_unmd); (try k_fold))))
  k_with "my eq" => first | with_reducible exact sub_neg_mul _ _ _ _ | with_reducible exact eq_sgn1 _ _ _ _ | with_reducible exact eq_sgnN _ _ _ _ | with_reducible exact eq_modN (by assumption) | with_reducible exact eq_modP (by assumption)
  (repeat' (first | (k_unfold; (try dsimp only)) | (k_end; wrow_close) | walk1 | (dsimp only; walk1) | (leave1; walk_say "STEP leave1"; try dsimp only) | (k_unmd; k_unfold; (try dsimp only)) | fail "no step"))
  all_goals (((refine' ret_bool (by assumption) ?e1 ?e2 ?e3 ?_; (case e1 => k_asm); (case e2 => k_asm); (case e3 => ((intro _ h9; repeat (first | exact h9 | apply List.mem_cons_of_mem)))))))
  all_goals rfl

/-- the source of draws: a list of two ints -/
abbrev srcO (b m : Int) (t u : Tok) (k : Nat) : Obj := { cls := .type "list", data := .seq #[.int b t, .int m u] k }
def SrcAt (src : Addr) (rest n' : Led) : Prop := ∃ b m t u k, 0 ≤ b ∧ 0 ≤ m ∧ m < 2147483647 ∧ (src, srcO b m t u k) :: rest = n'
def TakeR (src : Addr) (top : Int) (rest : Led) (r : Value) (n' : Led) : Prop := (∃ v t, r = .int v t ∧ 0 ≤ v ∧ v < top) ∧ SrcAt src rest n'
theorem Spec.useTake {w : World} {mean : ExcName → Option Value} {mg mb : Str → Option Value} {d : Nat} {f : Addr} {vs : List Value} {news : Led} {src : Addr} {top : Int} {rest : Led} (S : Spec w mean mg mb d f vs news (TakeR src top rest))
    {dp un : Nat} {gd : Option (List Code)} {cn : Str} {cs : Scope} {a : Addr} {ccd : Value} {cl : List (Str × Addr)} {outer : List Env} {A₀ : Around} {base h₀ : Heap} {L : Addr} {m : Str → Option Value} {s : Shared} {Q E : Value → Shared → Prop}
    (B : Below A₀ base outer h₀) (F : Fr h₀ L s.heap m) (X : (hd.heap_39 w.params).In h₀) (N : News h₀ L s.heap news) (T : Top hd.view_39 Loo mean mg mb h₀) (hk : cs.kind = .function)
    (hd : dp + d < recursionLimit) (hu : un + 8 * d + 1000 < cLine)
    (ret : ∀ v t b c t8 u8 k8 (h' : Heap) (tk' : Nat), Fr h₀ L h' m → News h₀ L h' ((src, srcO b c t8 u8 k8) :: rest) → 0 ≤ v → v < top → 0 ≤ b → 0 ≤ c → c < 2147483647 → Q (.int v t) { s with heap := h', toks := tk' }) :
    wpAny (model PySem.Challenge.rw_sy0045_01.row.prog w) (ktrTop dp un gd cn cs L a ccd cl outer) (call (.ref f) vs) Q E s :=
  S.use B F X N T hk hd hu fun _ _ h' tk' F' N' hp => by
    obtain ⟨⟨v, t, rfl, hv, hw⟩, b, c, t8, u8, k8, hb, hc, hc', rfl⟩ := hp
    exact ret v t b c t8 u8 k8 h' tk' F' N' hv hw hb hc hc'

section
variable {prog : Program} {w : World} {A : Around} {E : Value → Shared → Prop} {s : Shared} {h₀ : Heap} {L src : Addr} {mm : Str → Option Value} {rest news : Led} {b n x : Int} {t u tk tx : Tok} {k : Nat}
theorem src_set0 {Q : Unit → Shared → Prop} (F : Fr h₀ L s.heap mm) (N : News h₀ L s.heap ((src, srcO b n t u k) :: rest)) (hr : ∀ p ∈ rest, p.1 ≠ src)
    (h : ∀ h', Fr h₀ L h' mm → News h₀ L h' ((src, srcO x n tx u k) :: rest) → Q () { s with heap := h' }) : wpAny (model prog w) A (setItem (.ref src) (.int 0 tk) (.int x tx)) Q E s :=
  ksa_set (vs := [.int b t, .int n u]) (ns := [b, n]) F N (Upd.head hr) (.cons _ _ (.cons _ _ .nil)) (by decide) (by simp) (by decide) fun h' F' N' _ _ _ => h h' F' N'
theorem src_set1 {Q : Unit → Shared → Prop} (F : Fr h₀ L s.heap mm) (N : News h₀ L s.heap ((src, srcO b n t u k) :: rest)) (hr : ∀ p ∈ rest, p.1 ≠ src)
    (h : ∀ h', Fr h₀ L h' mm → News h₀ L h' ((src, srcO b x t tx k) :: rest) → Q () { s with heap := h' }) : wpAny (model prog w) A (setItem (.ref src) (.int 1 tk) (.int x tx)) Q E s :=
  ksa_set (vs := [.int b t, .int n u]) (ns := [b, n]) F N (Upd.head hr) (.cons _ _ (.cons _ _ .nil)) (by decide) (by simp) (by decide) fun h' F' N' _ _ _ => h h' F' N'
theorem lst_item {value slice : PySem.Expr} {Q : Value → Shared → Prop} {vs : List Value} {v : Value} {i : Int} {o : Addr} (N : News h₀ L s.heap news) (hm : (o, ({ cls := .type "list", data := .seq vs.toArray k } : Obj)) ∈ news) (h0 : 0 ≤ i) (hhi : i < 2 ^ 63) (hx : vs[i.toNat]? = some v) (h : Q v s)
    (hs : subscripted slice false (.ref o) (.int i u) = operate [.ref o, .int i u] (getItem (.ref o) (.int i u)) := by with_unfolding_all rfl) : wpAny (model prog w) A (subscriptTail value slice (.ref o) (.int i u)) Q E s :=
  have hl : s.heap.IsList o vs.toArray := ⟨_, News.get N hm, rfl, k, rfl⟩
  tail_any hl.typeIs slot_list_getitem.lookup (wpAny_getItem_list hl h0 hhi (by simpa using hx) h) hs
end

theorem ret_take {h₀ h' : Heap} {L src : Addr} {m : Str → Option Value} {rest : Led} {s : Shared} {Q : Value → Shared → Prop} {v top b n : Int} {t tb tn : Tok} {k tk' : Nat}
    (hret : ∀ r news' h' tk', Fr h₀ L h' m → News h₀ L h' news' → TakeR src top rest r news' → Q r { s with heap := h', toks := tk' })
    (F : Fr h₀ L h' m) (N : News h₀ L h' ((src, srcO b n tb tn k) :: rest)) (h0 : 0 ≤ v) (h1 : v < top) (hb : 0 ≤ b) (hn : 0 ≤ n) (hn' : n < 2147483647) : Q (.int v t) { s with heap := h', toks := tk' } :=
  hret _ _ _ _ F N ⟨⟨v, t, rfl, h0, h1⟩, b, n, tb, tn, k, hb, hn, hn', rfl⟩
theorem fdiv_nn {a b : Int} (ha : 0 ≤ a) (hb : 0 < b) : 0 ≤ a.fdiv b := by
  rw [Int.fdiv_eq_ediv_of_nonneg _ (Int.le_of_lt hb)]; exact Int.ediv_nonneg ha (Int.le_of_lt hb)
theorem take_spec (w mean mg mb) (src : Addr) (b n : Int) (t u : Tok) (k : Nat) (top : Int) (tt : Tok) (rest : Led) (hr : ∀ p ∈ rest, p.1 ≠ src) (hb : 0 ≤ b) (hn : 0 ≤ n) (hn' : n < 2147483647) (ht : 0 < top) (ht' : top ≤ 1000000) :
    Spec w mean mg mb 1 173 [.ref src, .int top tt] ((src, srcO b n t u k) :: rest) (TakeR src top rest) := by
  have ht0 : top ≠ 0 := by omega
  unfold Spec; k_fill; intro dp un gd cn cs a ccd cl outer A₀ base h₀ L m s Q E B F X N T hk hdp hun hret
  ((refine wpAny_call ?_; k_dflt (refine' code_def ?k1 ?k2 ?k3 ?k4 ?k5 ?kA ?kF ?kK ?k6 ?k7 ?k8 ?k9 ?kB ?_ ?c2 ?c3 ?c4 ?c5; (case kA => exact rfl); (case kF => exact rfl); (case kK => assumption); (case k1 => k_asm); (case k2 => k_asm); (case k3 => k_asm); (case k4 => k_asm); (case k5 => k_asm); (case k6 => k_is); (case k7 => k_is); (case k8 => ktr_room); (case k9 => first | exact BindsTo.of_eq rfl | exact binds_K (by k_in) rfl (by k_is) rfl rfl rfl); (case c5 => decide); (case kB => exact locs rfl); (case c2 => exact rfl); (case c3 => exact rfl); (case c4 => exact rfl); k_whole; intro g' L' h' FG' F' N' B' X' T'; (try dsimp only); (try k_fold))))
  k_with_none
  k_with "binaryOp Mod int int" => (k_dflt (k_extra "my mod"))
  k_with "binaryOp Pow int int" => (k_dflt (k_extra "my pow"))
  k_with "exec While Compare cons nil" => (k_dflt (k_extra "my while"))
  k_with "call ref" => (k_dflt (k_extra "my call"))
  k_with "eval Call Name" => ((k_here; (fail_if_success (with_reducible show wpAny _ _ (eval (PySem.Expr.Call (PySem.Expr.Name (PySem.Str.ofString "abs") _) _ _ _) _) _ _ _)); (fail_if_success (with_reducible show wpAny _ _ (eval (PySem.Expr.Call (PySem.Expr.Name (PySem.Str.ofString "len") _) _ _ _) _) _ _ _)); (fail_if_success (with_reducible show wpAny _ _ (eval (PySem.Expr.Call (PySem.Expr.Name (PySem.Str.ofString "range") _) _ _ _) _) _ _ _)); (fail_if_success (with_reducible show wpAny _ _ (eval (PySem.Expr.Call (PySem.Expr.Name (PySem.Str.ofString "max") _) _ _ _) _) _ _ _)); (fail_if_success (with_reducible show wpAny _ _ (eval (PySem.Expr.Call (PySem.Expr.Name (PySem.Str.ofString "min") _) _ _ _) _) _ _ _)); (fail_if_success (with_reducible show wpAny _ _ (eval (PySem.Expr.Call (PySem.Expr.Name (PySem.Str.ofString "int") _) _ _ _) _) _ _ _)); (fail_if_success (with_reducible show wpAny _ _ (eval (PySem.Expr.Call (PySem.Expr.Name (PySem.Str.ofString "str") _) _ _ _) _) _ _ _)); (with_reducible show wpAny _ _ (eval (PySem.Expr.Call (PySem.Expr.Name _ _) _ _ _) (envOf _ _ _ _ _)) _ _ _); refine Call_ ?_))
  k_with "execs cons" => (k_dflt (k_extra "my execs"))
  k_with "subscriptTail Name Constant ref int" => ((k_here; k_dflt (refine' item_tupleT ?t ?a ?b ?c ?d ?_; (case t => (refine' News.isTup ?tn ?tm; (case tn => k_asm); (case tm => k_mem))); (case a => decide); (case b => decide); (case c => rfl); (case d => rfl); k_whole)))
  k_with "binaryOp FloorDiv int int" => (first | k_dflt (k_extra "my div") | (with_reducible refine' floordiv_int ?xa ?_ (Or.inl (noPy ?xb ?xc)); (case xa => first | assumption | omega); (case xb => bits_by_make); (case xc => decide)))
  k_with "compareOp NotEq ref ref" => (k_dflt (refine' tup_ne ?xN ?xa ?xb ?xu ?xe ?_; (case xN => k_asm); (case xa => k_mem); (case xb => k_mem); (case xu => ktr_units); (case xe => first | with_reducible rfl | k_extra "my eq"); (((rename News _ _ _ _ => N8); (have N7 := news_drop2 N8); clear N8))))
  k_with "compareOp Eq ref ref" => (k_dflt (refine' tup_eq ?xN ?xa ?xb ?xu ?xe ?_; (case xN => k_asm); (case xa => k_mem); (case xb => k_mem); (case xu => ktr_units); (case xe => first | with_reducible rfl | k_extra "my eq"); (((rename News _ _ _ _ => N8); (have N7 := news_drop2 N8); clear N8))))
  k_with "compareOp Eq ref ref" => (k_dflt (refine' tup_eqK ?xF ?xX ?xN ?xa ?xb ?xu ?xe ?_; (case xF => k_asm); (case xX => k_asm); (case xN => k_asm); (case xa => k_is); (case xb => k_mem); (case xu => ktr_units); (case xe => first | with_reducible rfl | k_extra "my eq")))
  k_with "compareOp NotEq ref ref" => (k_dflt (refine' tup_neK ?xF ?xX ?xN ?xa ?xb ?xu ?xe ?_; (case xF => k_asm); (case xX => k_asm); (case xN => k_asm); (case xa => k_is); (case xb => k_mem); (case xu => ktr_units); (case xe => first | with_reducible rfl | k_extra "my eq")))
  k_with "subscriptTail Name Constant ref int" => ((k_here; k_dflt (refine' lst_item (vs := [_, _]) ?t ?a ?b ?c ?d ?_ ?e; (case t => k_asm); (case a => k_mem); (case b => decide); (case c => decide); (case d => exact rfl); (case e => with_unfolding_all rfl); k_whole)))
  k_with "setItem ref int" => ((k_here; k_dflt (first | ((with_reducible show wpAny _ _ (setItem (Value.ref _) (Value.int 0 _) _) _ _ _); refine' src_set0 ?t ?a ?b ?_; (case t => k_asm); (case a => k_asm); (case b => assumption); k_whole) | ((with_reducible show wpAny _ _ (setItem (Value.ref _) (Value.int 1 _) _) _ _ _); refine' src_set1 ?t ?a ?b ?_; (case t => k_asm); (case a => k_asm); (case b => assumption); k_whole)); intro h' F' N'; (try k_sweep)))

  (repeat' (first | (k_unfold; (try dsimp only)) | (k_end; wrow_close) | walk1 | (dsimp only; walk1) | (leave1; walk_say "STEP leave1"; try dsimp only) | (k_unmd; k_unfold; (try dsimp only)) | fail "no step"))
  all_goals (((refine' ret_take (by assumption) ?e1 ?e2 ?_ ?_ ?_ ?_ ?_; (case e1 => k_asm); (case e2 => k_asm))))
  all_goals first
    | assumption
    | exact Int.fmod_nonneg_of_pos _ ht
    | exact Int.fmod_lt_of_pos _ ht
    | exact fdiv_nn hb ht
    | exact Int.fmod_nonneg_of_pos _ (by decide)
    | exact Int.fmod_lt_of_pos _ (by decide)

def IntP (φ : Int → Prop) (v : Value) : Prop := ∃ x t, v = .int x t ∧ φ x
def StrP (φ : Str → Prop) (v : Value) : Prop := ∃ x t, v = .str x t ∧ φ x
def OneR (P : Value → Prop) (src : Addr) (rest : Led) (r : Value) (n' : Led) : Prop := P r ∧ SrcAt src rest n'
section
variable {prog : Program} {w : World} {A : Around} {E : Value → Shared → Prop} {s : Shared} {h₀ : Heap} {L : Addr} {news : Led} {k : Nat} {Q : Value → Shared → Prop} {vs : List Value} {o : Addr}
theorem lst_len (N : News h₀ L s.heap news) (hm : (o, ({ cls := .type "list", data := .seq vs.toArray k } : Obj)) ∈ news) (hl : vs.length ≤ 1000) (h : Q (.int (vs.length : Int) (s.toks + 1)) { s with toks := s.toks + 1 + 1 }) :
    wpAny (model prog w) A (call (.builtin "len") [.ref o]) Q E s :=
  len_list (items := vs.toArray) ⟨_, News.get N hm, rfl, k, rfl⟩ (by rw [List.size_toArray]; omega) (by rw [List.size_toArray]; exact h)
end
theorem ret_one {P : Value → Prop} {h₀ h' : Heap} {L src : Addr} {m : Str → Option Value} {rest : Led} {s : Shared} {Q : Value → Shared → Prop} {v : Value} {b n : Int} {tb tn : Tok} {k tk' : Nat}
    (hret : ∀ r news' h' tk', Fr h₀ L h' m → News h₀ L h' news' → OneR P src rest r news' → Q r { s with heap := h', toks := tk' })
    (F : Fr h₀ L h' m) (N : News h₀ L h' ((src, srcO b n tb tn k) :: rest)) (hv : P v) (hb : 0 ≤ b) (hn : 0 ≤ n) (hn' : n < 2147483647) : Q v { s with heap := h', toks := tk' } :=
  hret _ _ _ _ F N ⟨hv, b, n, tb, tn, k, hb, hn, hn', rfl⟩

theorem at_some {vs : List Value} {i : Int} (h0 : 0 ≤ i) (h1 : i < (vs.length : Int)) : vs[i.toNat]? = some (vs.getD i.toNat .none) := by
  have h : i.toNat < vs.length := by omega
  rw [List.getD_eq_getElem?_getD, List.getElem?_eq_getElem h]
  rfl
theorem at_mem {vs : List Value} {i : Int} (h0 : 0 ≤ i) (h1 : i < (vs.length : Int)) : vs.getD i.toNat .none ∈ vs := List.mem_of_getElem? (at_some h0 h1)

theorem one_spec (w mean mg mb) (P : Value → Prop) (src lst : Addr) (b n : Int) (t u : Tok) (k k2 : Nat) (vs : List Value) (rest : Led) (hr : ∀ p ∈ rest, p.1 ≠ src) (hb : 0 ≤ b) (hn : 0 ≤ n) (hn' : n < 2147483647)
    (hm : (lst, ({ cls := .type "list", data := .seq vs.toArray k2 } : Obj)) ∈ rest) (hP : ∀ v ∈ vs, P v) (h0 : 0 < vs.length) (h1 : vs.length ≤ 1000) :
    Spec w mean mg mb 2 180 [.ref src, .ref lst] ((src, srcO b n t u k) :: rest) (OneR P src rest) := by
  have hl0 : (0 : Int) < (vs.length : Int) := by omega
  have hl1 : (vs.length : Int) ≤ 1000000 := by omega
  unfold Spec; k_fill; intro dp un gd cn cs a ccd cl outer A₀ base h₀ L m s Q E B F X N T hk hdp hun hret
  ((refine wpAny_call ?_; k_dflt (refine' code_def ?k1 ?k2 ?k3 ?k4 ?k5 ?kA ?kF ?kK ?k6 ?k7 ?k8 ?k9 ?kB ?_ ?c2 ?c3 ?c4 ?c5; (case kA => exact rfl); (case kF => exact rfl); (case kK => assumption); (case k1 => k_asm); (case k2 => k_asm); (case k3 => k_asm); (case k4 => k_asm); (case k5 => k_asm); (case k6 => k_is); (case k7 => k_is); (case k8 => ktr_room); (case k9 => first | exact BindsTo.of_eq rfl | exact binds_K (by k_in) rfl (by k_is) rfl rfl rfl); (case c5 => decide); (case kB => exact locs rfl); (case c2 => exact rfl); (case c3 => exact rfl); (case c4 => exact rfl); k_whole; intro g' L' h' FG' F' N' B' X' T'; (try dsimp only); (try k_fold))))
  k_with_none
  k_with "binaryOp Mod int int" => (k_dflt (k_extra "my mod"))
  k_with "binaryOp Pow int int" => (k_dflt (k_extra "my pow"))
  k_with "exec While Compare cons nil" => (k_dflt (k_extra "my while"))
  k_with "call ref" => (k_dflt (k_extra "my call"))
  k_with "eval Call Name" => ((k_here; (fail_if_success (with_reducible show wpAny _ _ (eval (PySem.Expr.Call (PySem.Expr.Name (PySem.Str.ofString "abs") _) _ _ _) _) _ _ _)); (fail_if_success (with_reducible show wpAny _ _ (eval (PySem.Expr.Call (PySem.Expr.Name (PySem.Str.ofString "len") _) _ _ _) _) _ _ _)); (fail_if_success (with_reducible show wpAny _ _ (eval (PySem.Expr.Call (PySem.Expr.Name (PySem.Str.ofString "range") _) _ _ _) _) _ _ _)); (fail_if_success (with_reducible show wpAny _ _ (eval (PySem.Expr.Call (PySem.Expr.Name (PySem.Str.ofString "max") _) _ _ _) _) _ _ _)); (fail_if_success (with_reducible show wpAny _ _ (eval (PySem.Expr.Call (PySem.Expr.Name (PySem.Str.ofString "min") _) _ _ _) _) _ _ _)); (fail_if_success (with_reducible show wpAny _ _ (eval (PySem.Expr.Call (PySem.Expr.Name (PySem.Str.ofString "int") _) _ _ _) _) _ _ _)); (fail_if_success (with_reducible show wpAny _ _ (eval (PySem.Expr.Call (PySem.Expr.Name (PySem.Str.ofString "str") _) _ _ _) _) _ _ _)); (with_reducible show wpAny _ _ (eval (PySem.Expr.Call (PySem.Expr.Name _ _) _ _ _) (envOf _ _ _ _ _)) _ _ _); refine Call_ ?_))
  k_with "execs cons" => (k_dflt (k_extra "my execs"))
  k_with "subscriptTail Name Constant ref int" => ((k_here; k_dflt (refine' item_tupleT ?t ?a ?b ?c ?d ?_; (case t => (refine' News.isTup ?tn ?tm; (case tn => k_asm); (case tm => k_mem))); (case a => decide); (case b => decide); (case c => rfl); (case d => rfl); k_whole)))
  k_with "binaryOp FloorDiv int int" => (first | k_dflt (k_extra "my div") | (with_reducible refine' floordiv_int ?xa ?_ (Or.inl (noPy ?xb ?xc)); (case xa => first | assumption | omega); (case xb => bits_by_make); (case xc => decide)))
  k_with "compareOp NotEq ref ref" => (k_dflt (refine' tup_ne ?xN ?xa ?xb ?xu ?xe ?_; (case xN => k_asm); (case xa => k_mem); (case xb => k_mem); (case xu => ktr_units); (case xe => first | with_reducible rfl | k_extra "my eq"); (((rename News _ _ _ _ => N8); (have N7 := news_drop2 N8); clear N8))))
  k_with "compareOp Eq ref ref" => (k_dflt (refine' tup_eq ?xN ?xa ?xb ?xu ?xe ?_; (case xN => k_asm); (case xa => k_mem); (case xb => k_mem); (case xu => ktr_units); (case xe => first | with_reducible rfl | k_extra "my eq"); (((rename News _ _ _ _ => N8); (have N7 := news_drop2 N8); clear N8))))
  k_with "compareOp Eq ref ref" => (k_dflt (refine' tup_eqK ?xF ?xX ?xN ?xa ?xb ?xu ?xe ?_; (case xF => k_asm); (case xX => k_asm); (case xN => k_asm); (case xa => k_is); (case xb => k_mem); (case xu => ktr_units); (case xe => first | with_reducible rfl | k_extra "my eq")))
  k_with "compareOp NotEq ref ref" => (k_dflt (refine' tup_neK ?xF ?xX ?xN ?xa ?xb ?xu ?xe ?_; (case xF => k_asm); (case xX => k_asm); (case xN => k_asm); (case xa => k_is); (case xb => k_mem); (case xu => ktr_units); (case xe => first | with_reducible rfl | k_extra "my eq")))
  k_with "subscriptTail Name Constant ref int" => ((k_here; k_dflt (refine' lst_item (vs := [_, _]) ?t ?a ?b ?c ?d ?_ ?e; (case t => k_asm); (case a => k_mem); (case b => decide); (case c => decide); (case d => exact rfl); (case e => with_unfolding_all rfl); k_whole)))
  k_with "setItem ref int" => ((k_here; k_dflt (first | ((with_reducible show wpAny _ _ (setItem (Value.ref _) (Value.int 0 _) _) _ _ _); refine' src_set0 ?t ?a ?b ?_; (case t => k_asm); (case a => k_asm); (case b => assumption); k_whole) | ((with_reducible show wpAny _ _ (setItem (Value.ref _) (Value.int 1 _) _) _ _ _); refine' src_set1 ?t ?a ?b ?_; (case t => k_asm); (case a => k_asm); (case b => assumption); k_whole)); intro h' F' N'; (try k_sweep)))

  k_with "call builtin:len" => (refine' lst_len ?xN ?xm h1 ?_; (case xN => k_asm); (case xm => exact .tail _ hm))
  k_with "my call" => (with_reducible show wpAny _ _ (call (Value.ref 173) _) _ _ _); ((rename News _ _ _ _ => N8); (refine' Spec.useTake (take_spec _ _ _ _ _ _ _ _ _ _ _ _ _ hr hb hn hn' hl0 hl1) ?k1 ?k2 ?k3 N8 ?k5 ?kK ?kd ?ku ?_; (case k1 => k_asm); (case k2 => k_asm); (case k3 => k_asm); (case k5 => k_asm); (case kK => first | exact rfl | assumption); (case kd => ktr_room); (case ku => ktr_units); intro v9 t9 b9 m9 t8 u8 k8 h9 tk9 F9 N9 hv9 hw9 hb9 hm9 hm8; (try dsimp only); (try k_sweep); (try k_unmd); (try k_fold)))
  k_with "subscriptTail" => ((with_reducible show wpAny _ _ (subscriptTail _ _ (Value.ref _) (Value.int _ _)) _ _ _); k_dflt (refine' lst_item (vs := vs) ?t ?a ?b ?c ?d ?_ ?e; (case t => k_asm); (case a => exact .tail _ hm); (case b => assumption); (case c => omega); (case d => exact at_some (by assumption) (by assumption)); (case e => with_unfolding_all rfl); k_whole))
  (repeat' (first | (k_unfold; (try dsimp only)) | (k_end; wrow_close) | walk1 | (dsimp only; walk1) | (leave1; walk_say "STEP leave1"; try dsimp only) | (k_unmd; k_unfold; (try dsimp only)) | fail "no step"))
  all_goals (refine' ret_one hret ?e1 ?e2 ?e3 ?e4 ?e5 ?e6)
  case e1 => k_asm
  case e2 => k_asm
  case e3 => exact hP _ (at_mem (by assumption) (by assumption))
  all_goals assumption

def TB (x y : Int) : Prop := Builtin.Int.intBits x ≤ 1500 ∧ 0 < y ∧ Builtin.Int.intBits y ≤ 1400
/-- what _law_fraction gives back: a new tuple; the source is turned -/
def FracR (src : Addr) (rest : Led) (r : Value) (n' : Led) : Prop := ∃ q x y t u, r = .ref q ∧ TB x y ∧ q ≠ src ∧ (∀ p ∈ rest, p.1 < q) ∧ SrcAt src ((q, tup x y t u) :: rest) n'
theorem Spec.useFrac {w : World} {mean : ExcName → Option Value} {mg mb : Str → Option Value} {d : Nat} {f : Addr} {vs : List Value} {news : Led} {src : Addr} {rest : Led} (S : Spec w mean mg mb d f vs news (FracR src rest))
    {dp un : Nat} {gd : Option (List Code)} {cn : Str} {cs : Scope} {a : Addr} {ccd : Value} {cl : List (Str × Addr)} {outer : List Env} {A₀ : Around} {base h₀ : Heap} {L : Addr} {m : Str → Option Value} {s : Shared} {Q E : Value → Shared → Prop}
    (B : Below A₀ base outer h₀) (F : Fr h₀ L s.heap m) (X : (hd.heap_39 w.params).In h₀) (N : News h₀ L s.heap news) (T : Top hd.view_39 Loo mean mg mb h₀) (hk : cs.kind = .function)
    (hd : dp + d < recursionLimit) (hu : un + 8 * d + 1000 < cLine)
    (ret : ∀ (q : Addr) x y t u b c t8 u8 k8 (h' : Heap) (tk' : Nat), Fr h₀ L h' m → News h₀ L h' ((src, srcO b c t8 u8 k8) :: (q, tup x y t u) :: rest) → TB x y → @Ne Nat q src → AllLt q rest → 0 ≤ b → 0 ≤ c → c < 2147483647 → Q (.ref q) { s with heap := h', toks := tk' }) :
    wpAny (model PySem.Challenge.rw_sy0045_01.row.prog w) (ktrTop dp un gd cn cs L a ccd cl outer) (call (.ref f) vs) Q E s :=
  S.use B F X N T hk hd hu fun _ _ h' tk' F' N' hp => by
    obtain ⟨q, x, y, t, u, rfl, hT, hq, hl, b, c, t8, u8, k8, hb, hc, hc', rfl⟩ := hp
    exact ret q x y t u b c t8 u8 k8 h' tk' F' N' hT hq (allLt_of hl) hb hc hc'
theorem news_swap {h₀ h : Heap} {L : Addr} {p q : Addr × Obj} {r : Led} (N : News h₀ L h (p :: q :: r)) : News h₀ L h (q :: p :: r) := fun e he => N e (by
  rcases List.mem_cons.mp he with rfl | he
  · exact .tail _ (.head _)
  · rcases List.mem_cons.mp he with rfl | he
    · exact .head _
    · exact .tail _ (.tail _ he))
theorem news_dropSnd {h₀ h : Heap} {L : Addr} {p q : Addr × Obj} {r : Led} (N : News h₀ L h (p :: q :: r)) : News h₀ L h (p :: r) := fun e he => N e (by
  rcases List.mem_cons.mp he with rfl | he
  · exact .head _
  · exact .tail _ (.tail _ he))
theorem Spec.useTwoI {w : World} {mean : ExcName → Option Value} {mg mb : Str → Option Value} {d : Nat} {f : Addr} {vs : List Value} {φ : Int → Prop} {src : Addr} {so x : Addr × Obj} {rest : Led} (S : Spec w mean mg mb d f vs (so :: x :: rest) (OneR (IntP φ) src (x :: rest)))
    {dp un : Nat} {gd : Option (List Code)} {cn : Str} {cs : Scope} {a : Addr} {ccd : Value} {cl : List (Str × Addr)} {outer : List Env} {A₀ : Around} {base h₀ : Heap} {L : Addr} {m : Str → Option Value} {s : Shared} {Q E : Value → Shared → Prop}
    (B : Below A₀ base outer h₀) (F : Fr h₀ L s.heap m) (X : (hd.heap_39 w.params).In h₀) (N : News h₀ L s.heap (x :: so :: rest)) (T : Top hd.view_39 Loo mean mg mb h₀) (hk : cs.kind = .function)
    (hd : dp + d < recursionLimit) (hu : un + 8 * d + 1000 < cLine)
    (ret : ∀ z t b c t8 u8 k8 (h' : Heap) (tk' : Nat), Fr h₀ L h' m → News h₀ L h' ((src, srcO b c t8 u8 k8) :: rest) → φ z → 0 ≤ b → 0 ≤ c → c < 2147483647 → Q (.int z t) { s with heap := h', toks := tk' }) :
    wpAny (model PySem.Challenge.rw_sy0045_01.row.prog w) (ktrTop dp un gd cn cs L a ccd cl outer) (call (.ref f) vs) Q E s :=
  S.use B F X (news_swap N) T hk hd hu fun _ _ h' tk' F' N' hp => by
    obtain ⟨⟨z, t, rfl, hz⟩, b, c, t8, u8, k8, hb, hc, hc', rfl⟩ := hp
    exact ret z t b c t8 u8 k8 h' tk' F' (news_dropSnd N') hz hb hc hc'

theorem Spec.useTwoS {w : World} {mean : ExcName → Option Value} {mg mb : Str → Option Value} {d : Nat} {f : Addr} {vs : List Value} {φ : Str → Prop} {src : Addr} {so x : Addr × Obj} {rest : Led} (S : Spec w mean mg mb d f vs (so :: x :: rest) (OneR (StrP φ) src (x :: rest)))
    {dp un : Nat} {gd : Option (List Code)} {cn : Str} {cs : Scope} {a : Addr} {ccd : Value} {cl : List (Str × Addr)} {outer : List Env} {A₀ : Around} {base h₀ : Heap} {L : Addr} {m : Str → Option Value} {s : Shared} {Q E : Value → Shared → Prop}
    (B : Below A₀ base outer h₀) (F : Fr h₀ L s.heap m) (X : (hd.heap_39 w.params).In h₀) (N : News h₀ L s.heap (x :: so :: rest)) (T : Top hd.view_39 Loo mean mg mb h₀) (hk : cs.kind = .function)
    (hd : dp + d < recursionLimit) (hu : un + 8 * d + 1000 < cLine)
    (ret : ∀ z t b c t8 u8 k8 (h' : Heap) (tk' : Nat), Fr h₀ L h' m → News h₀ L h' ((src, srcO b c t8 u8 k8) :: rest) → φ z → 0 ≤ b → 0 ≤ c → c < 2147483647 → Q (.str z t) { s with heap := h', toks := tk' }) :
    wpAny (model PySem.Challenge.rw_sy0045_01.row.prog w) (ktrTop dp un gd cn cs L a ccd cl outer) (call (.ref f) vs) Q E s :=
  S.use B F X (news_swap N) T hk hd hu fun _ _ h' tk' F' N' hp => by
    obtain ⟨⟨z, t, rfl, hz⟩, b, c, t8, u8, k8, hb, hc, hc', rfl⟩ := hp
    exact ret z t b c t8 u8 k8 h' tk' F' (news_dropSnd N') hz hb hc hc'
theorem ne_cons {x : Addr × Obj} {src : Addr} {rest : Led} (h : src < x.1) (hr : ∀ p ∈ rest, p.1 ≠ src) : ∀ p ∈ x :: rest, p.1 ≠ src := fun p hp => by
  rcases List.mem_cons.mp hp with rfl | hp
  · exact Nat.ne_of_gt h
  · exact hr p hp
theorem pow_bits {a : Int} {p : Nat} {c n : Nat} (ha : a.natAbs ≤ c) (hc : 0 < c) (hp : p ≤ n) {m : Nat} (h : c ^ n < 2 ^ m) : Builtin.Int.intBits (a ^ p) ≤ m := by
  refine intBits_le_iff.mpr ?_
  rw [Int.natAbs_pow]
  exact Nat.lt_of_le_of_lt (Nat.le_trans (Nat.pow_le_pow_left ha p) (Nat.pow_le_pow_right hc hp)) h
def PowR (x : Int) : Prop := 0 ≤ x ∧ x ≤ 400
def BitR (x : Int) : Prop := Builtin.Int.intBits x ≤ 1400
def BotR (x : Int) : Prop := 0 < x ∧ Builtin.Int.intBits x ≤ 1400

theorem half_pow {x : Int} (h : PowR x) : PowR (x.fdiv 2) := by
  unfold PowR at *
  rw [Int.fdiv_eq_ediv_of_nonneg _ (by decide)]
  omega
section
variable {prog : Program} {w : World} {A : Around} {E : Value → Shared → Prop} {s : Shared} {Q : Value → Shared → Prop} {t u : Tok} {a n : Int}
theorem pow_PowR (hn : PowR n) (ha : a.natAbs < 2 ^ 64) (h : Q (.int (a ^ n.toNat) s.toks) { s with toks := s.toks + 1 }) : wpAny (model prog w) A (binaryOp .Pow (.int a t) (.int n u)) Q E s :=
  pow_int_small hn.1 (by have := hn.2; omega) ha h
theorem pow_lt {c : Int} (h0 : 0 ≤ n) (h1 : n < c) (hc : c ≤ 1000) (ha : a.natAbs < 2 ^ 64) (h : Q (.int (a ^ n.toNat) s.toks) { s with toks := s.toks + 1 }) : wpAny (model prog w) A (binaryOp .Pow (.int a t) (.int n u)) Q E s :=
  pow_int_small h0 (by omega) ha h
end
theorem pow10_bits {x : Int} (h : PowR x) : BitR (10 ^ x.toNat) := pow_bits (c := 10) (n := 400) (by decide) (by decide) (by have := h.2; omega) (by decide +kernel)
theorem bot_pow {a v c : Int} {d n : Nat} (ha : a.natAbs ≤ d) (h0 : 0 < a) (hv : v < c) (hc : c.toNat ≤ n) (h : d ^ n < 2 ^ 1400) (hd : 0 < d) : BotR (a ^ v.toNat) :=
  ⟨Int.pow_pos h0, pow_bits (c := d) (n := n) ha hd (by omega) h⟩
theorem top_bits {v p x : Int} (h0 : 0 ≤ v) (h1 : v < 30) (hp : PowR p) (hx : BitR x) : Builtin.Int.intBits ((v - 15) * 10 ^ p.toNat + x) ≤ 1500 :=
  Nat.le_trans (bits_add (bits_mul (intBits_le_64 (by omega) (by omega)) (pow10_bits hp)) hx) (by decide)
theorem ret_frac {h₀ h' : Heap} {L src q : Addr} {m : Str → Option Value} {rest : Led} {s : Shared} {Q : Value → Shared → Prop} {x y b n : Int} {t u tb tn : Tok} {k tk' : Nat}
    (hret : ∀ r news' h' tk', Fr h₀ L h' m → News h₀ L h' news' → FracR src rest r news' → Q r { s with heap := h', toks := tk' })
    (F : Fr h₀ L h' m) (N : News h₀ L h' ((q, tup x y t u) :: (src, srcO b n tb tn k) :: rest)) (hq : src < q ∧ AllLt q rest) (hb : 0 ≤ b) (hn : 0 ≤ n) (hn' : n < 2147483647) (hx : Builtin.Int.intBits x ≤ 1500) (hy : BotR y) : Q (.ref q) { s with heap := h', toks := tk' } :=
  hret _ ((src, srcO b n tb tn k) :: (q, tup x y t u) :: rest) _ _ F (news_swap N) ⟨q, x, y, t, u, rfl, ⟨hx, hy.1, hy.2⟩, Nat.ne_of_gt hq.1, ktn_ltOf hq.2, b, n, tb, tn, k, hb, hn, hn', rfl⟩

theorem fraction_spec (w mean mg mb) (src : Addr) (b n : Int) (t u : Tok) (k : Nat) (rest : Led) (hr : ∀ p ∈ rest, p.1 ≠ src) (hb : 0 ≤ b) (hn : 0 ≤ n) (hn' : n < 2147483647) :
    Spec w mean mg mb 4 201 [.ref src] ((src, srcO b n t u k) :: rest) (FracR src rest) := by
  unfold Spec; k_fill; intro dp un gd cn cs a ccd cl outer A₀ base h₀ L m s Q E B F X N T hk hdp hun hret
  ((refine wpAny_call ?_; k_dflt (refine' code_def ?k1 ?k2 ?k3 ?k4 ?k5 ?kA ?kF ?kK ?k6 ?k7 ?k8 ?k9 ?kB ?_ ?c2 ?c3 ?c4 ?c5; (case kA => exact rfl); (case kF => exact rfl); (case kK => assumption); (case k1 => k_asm); (case k2 => k_asm); (case k3 => k_asm); (case k4 => k_asm); (case k5 => k_asm); (case k6 => k_is); (case k7 => k_is); (case k8 => ktr_room); (case k9 => first | exact BindsTo.of_eq rfl | exact binds_K (by k_in) rfl (by k_is) rfl rfl rfl); (case c5 => decide); (case kB => exact locs rfl); (case c2 => exact rfl); (case c3 => exact rfl); (case c4 => exact rfl); k_whole; intro g' L' h' FG' F' N' B' X' T'; (try dsimp only); (try k_fold))))
  k_with_none
  k_with "binaryOp Mod int int" => (k_dflt (k_extra "my mod"))
  k_with "binaryOp Pow int int" => (k_dflt (k_extra "my pow"))
  k_with "exec While Compare cons nil" => (k_dflt (k_extra "my while"))
  k_with "call ref" => (k_dflt (k_extra "my call"))
  k_with "eval Call Name" => ((k_here; (fail_if_success (with_reducible show wpAny _ _ (eval (PySem.Expr.Call (PySem.Expr.Name (PySem.Str.ofString "abs") _) _ _ _) _) _ _ _)); (fail_if_success (with_reducible show wpAny _ _ (eval (PySem.Expr.Call (PySem.Expr.Name (PySem.Str.ofString "len") _) _ _ _) _) _ _ _)); (fail_if_success (with_reducible show wpAny _ _ (eval (PySem.Expr.Call (PySem.Expr.Name (PySem.Str.ofString "range") _) _ _ _) _) _ _ _)); (fail_if_success (with_reducible show wpAny _ _ (eval (PySem.Expr.Call (PySem.Expr.Name (PySem.Str.ofString "max") _) _ _ _) _) _ _ _)); (fail_if_success (with_reducible show wpAny _ _ (eval (PySem.Expr.Call (PySem.Expr.Name (PySem.Str.ofString "min") _) _ _ _) _) _ _ _)); (fail_if_success (with_reducible show wpAny _ _ (eval (PySem.Expr.Call (PySem.Expr.Name (PySem.Str.ofString "int") _) _ _ _) _) _ _ _)); (fail_if_success (with_reducible show wpAny _ _ (eval (PySem.Expr.Call (PySem.Expr.Name (PySem.Str.ofString "str") _) _ _ _) _) _ _ _)); (with_reducible show wpAny _ _ (eval (PySem.Expr.Call (PySem.Expr.Name _ _) _ _ _) (envOf _ _ _ _ _)) _ _ _); refine Call_ ?_))
  k_with "execs cons" => (k_dflt (k_extra "my execs"))
  k_with "subscriptTail Name Constant ref int" => ((k_here; k_dflt (refine' item_tupleT ?t ?a ?b ?c ?d ?_; (case t => (refine' News.isTup ?tn ?tm; (case tn => k_asm); (case tm => k_mem))); (case a => decide); (case b => decide); (case c => rfl); (case d => rfl); k_whole)))
  k_with "binaryOp FloorDiv int int" => (first | k_dflt (k_extra "my div") | (with_reducible refine' floordiv_int ?xa ?_ (Or.inl (noPy ?xb ?xc)); (case xa => first | assumption | omega); (case xb => bits_by_make); (case xc => decide)))
  k_with "compareOp NotEq ref ref" => (k_dflt (refine' tup_ne ?xN ?xa ?xb ?xu ?xe ?_; (case xN => k_asm); (case xa => k_mem); (case xb => k_mem); (case xu => ktr_units); (case xe => first | with_reducible rfl | k_extra "my eq"); (((rename News _ _ _ _ => N8); (have N7 := news_drop2 N8); clear N8))))
  k_with "compareOp Eq ref ref" => (k_dflt (refine' tup_eq ?xN ?xa ?xb ?xu ?xe ?_; (case xN => k_asm); (case xa => k_mem); (case xb => k_mem); (case xu => ktr_units); (case xe => first | with_reducible rfl | k_extra "my eq"); (((rename News _ _ _ _ => N8); (have N7 := news_drop2 N8); clear N8))))
  k_with "compareOp Eq ref ref" => (k_dflt (refine' tup_eqK ?xF ?xX ?xN ?xa ?xb ?xu ?xe ?_; (case xF => k_asm); (case xX => k_asm); (case xN => k_asm); (case xa => k_is); (case xb => k_mem); (case xu => ktr_units); (case xe => first | with_reducible rfl | k_extra "my eq")))
  k_with "compareOp NotEq ref ref" => (k_dflt (refine' tup_neK ?xF ?xX ?xN ?xa ?xb ?xu ?xe ?_; (case xF => k_asm); (case xX => k_asm); (case xN => k_asm); (case xa => k_is); (case xb => k_mem); (case xu => ktr_units); (case xe => first | with_reducible rfl | k_extra "my eq")))
  k_with "subscriptTail Name Constant ref int" => ((k_here; k_dflt (refine' lst_item (vs := [_, _]) ?t ?a ?b ?c ?d ?_ ?e; (case t => k_asm); (case a => k_mem); (case b => decide); (case c => decide); (case d => exact rfl); (case e => with_unfolding_all rfl); k_whole)))
  k_with "setItem ref int" => ((k_here; k_dflt (first | ((with_reducible show wpAny _ _ (setItem (Value.ref _) (Value.int 0 _) _) _ _ _); refine' src_set0 ?t ?a ?b ?_; (case t => k_asm); (case a => k_asm); (case b => assumption); k_whole) | ((with_reducible show wpAny _ _ (setItem (Value.ref _) (Value.int 1 _) _) _ _ _); refine' src_set1 ?t ?a ?b ?_; (case t => k_asm); (case a => k_asm); (case b => assumption); k_whole)); intro h' F' N'; (try k_sweep)))

  k_with "my pow" => first
    | ((with_reducible show wpAny _ _ (binaryOp _ (Value.int 10 _) (Value.int 400 _)) _ _ _); refine pow_as MM_pow (by decide) (by decide) (by decide) ?_)
    | refine pow_PowR (by assumption) (by decide) ?_
    | refine pow_PowR (half_pow (by assumption)) (by decide) ?_
    | refine pow_lt (by assumption) (by assumption) (by decide) (by decide) ?_
  k_with "my item" => first
    | (unfold PowR; decide)
    | (unfold BitR; decide)
    | exact pow10_bits (half_pow (by assumption))
    | (unfold BotR; decide)
    | exact bot_pow (d := 7) (n := 300) (by decide) (by decide) (by assumption) (by decide) (by decide +kernel) (by decide)
    | exact bot_pow (d := 3) (n := 500) (by decide) (by decide) (by assumption) (by decide) (by decide +kernel) (by decide)
    | exact bot_pow (d := 10) (n := 210) (by decide) (by decide) (by assumption) (by decide) (by decide +kernel) (by decide)
    | (unfold BotR; decide +kernel)
  k_with "my call" => first
    | ((with_reducible show wpAny _ _ (call (Value.ref 173) _) _ _ _); ((rename News _ _ _ _ => N8); (refine' Spec.useTake (take_spec _ _ _ _ _ _ _ _ _ _ _ _ _ hr (by assumption) (by assumption) (by assumption) (by decide) (by decide)) ?k1 ?k2 ?k3 N8 ?k5 ?kK ?kd ?ku ?_; (case k1 => k_asm); (case k2 => k_asm); (case k3 => k_asm); (case k5 => k_asm); (case kK => first | exact rfl | assumption); (case kd => ktr_room); (case ku => ktr_units); intro v9 t9 b9 m9 t8 u8 k8 h9 tk9 F9 N9 hv9 hw9 hb9 hm9 hm8; (try dsimp only); (try k_sweep); (try k_unmd); (try k_fold))))
    | ((with_reducible show wpAny _ _ (call (Value.ref 180) _) _ _ _); first | ((rename News _ _ _ _ => N8); refine' Spec.useTwoI (one_spec _ _ _ _ (IntP PowR) _ _ _ _ _ _ _ _ _ _ ?r1 ?r2 ?r3 ?r4 ?r5 ?r6 ?r7 ?r8) ?k1 ?k2 ?k3 N8 ?k5 ?kK ?kd ?ku ?_; (case r5 => exact List.Mem.head _); (case r6 => (repeat' (first | exact List.forall_mem_nil _ | refine List.forall_mem_cons.mpr ⟨⟨_, _, rfl, ?_⟩, ?_⟩)) <;> k_extra "my item"); (case r1 => exact ne_cons (And.left (by assumption)) (by assumption)); (case r2 => assumption); (case r3 => assumption); (case r4 => assumption); (case r7 => exact Nat.succ_pos _); (case r8 => exact Nat.le_of_ble_eq_true rfl); (case k1 => k_asm); (case k2 => k_asm); (case k3 => k_asm); (case k5 => k_asm); (case kK => first | exact rfl | assumption); (case kd => ktr_room); (case ku => ktr_units); intro x9 t9 b9 m9 t8 u8 k8 h9 tk9 F9 N9 hx9 hb9 hm9 hm8; (try dsimp only); (try k_sweep); (try k_unmd); (try k_fold)) | ((rename News _ _ _ _ => N8); refine' Spec.useTwoI (one_spec _ _ _ _ (IntP BitR) _ _ _ _ _ _ _ _ _ _ ?r1 ?r2 ?r3 ?r4 ?r5 ?r6 ?r7 ?r8) ?k1 ?k2 ?k3 N8 ?k5 ?kK ?kd ?ku ?_; (case r5 => exact List.Mem.head _); (case r6 => (repeat' (first | exact List.forall_mem_nil _ | refine List.forall_mem_cons.mpr ⟨⟨_, _, rfl, ?_⟩, ?_⟩)) <;> k_extra "my item"); (case r1 => exact ne_cons (And.left (by assumption)) (by assumption)); (case r2 => assumption); (case r3 => assumption); (case r4 => assumption); (case r7 => exact Nat.succ_pos _); (case r8 => exact Nat.le_of_ble_eq_true rfl); (case k1 => k_asm); (case k2 => k_asm); (case k3 => k_asm); (case k5 => k_asm); (case kK => first | exact rfl | assumption); (case kd => ktr_room); (case ku => ktr_units); intro x9 t9 b9 m9 t8 u8 k8 h9 tk9 F9 N9 hx9 hb9 hm9 hm8; (try dsimp only); (try k_sweep); (try k_unmd); (try k_fold)) | ((rename News _ _ _ _ => N8); refine' Spec.useTwoI (one_spec _ _ _ _ (IntP BotR) _ _ _ _ _ _ _ _ _ _ ?r1 ?r2 ?r3 ?r4 ?r5 ?r6 ?r7 ?r8) ?k1 ?k2 ?k3 N8 ?k5 ?kK ?kd ?ku ?_; (case r5 => exact List.Mem.head _); (case r6 => (repeat' (first | exact List.forall_mem_nil _ | refine List.forall_mem_cons.mpr ⟨⟨_, _, rfl, ?_⟩, ?_⟩)) <;> k_extra "my item"); (case r1 => exact ne_cons (And.left (by assumption)) (by assumption)); (case r2 => assumption); (case r3 => assumption); (case r4 => assumption); (case r7 => exact Nat.succ_pos _); (case r8 => exact Nat.le_of_ble_eq_true rfl); (case k1 => k_asm); (case k2 => k_asm); (case k3 => k_asm); (case k5 => k_asm); (case kK => first | exact rfl | assumption); (case kd => ktr_room); (case ku => ktr_units); intro x9 t9 b9 m9 t8 u8 k8 h9 tk9 F9 N9 hx9 hb9 hm9 hm8; (try dsimp only); (try k_sweep); (try k_unmd); (try k_fold)))
  k_steps
  refine' ret_frac hret ?e1 ?e2 ?e3 ?e4 ?e5 ?e6 ?e7 ?e8
  case e1 => k_asm
  case e2 => k_asm
  case e3 => assumption
  case e4 => assumption
  case e5 => assumption
  case e6 => assumption
  case e7 => exact top_bits (by assumption) (by assumption) (by assumption) (by assumption)
  case e8 => assumption

/-- the number of the sign at a place -/
def sg (x : Str) (i : Nat) : Nat := x.cps.toList.getD i 0
abbrev Dig (c : Nat) : Prop := 48 ≤ c ∧ c ≤ 57
theorem item_sg {x : Str} {j : Int} (h0 : 0 ≤ j) (h1 : j < (x.length : Int)) : Txt.item x j = ⟨#[sg x j.toNat]⟩ := by
  have hj : j.toNat < x.cps.size := by
    have : (x.length : Int) = (x.cps.size : Int) := rfl
    omega
  unfold Txt.item sg Txt.charAt
  have e : seqIndex? j x.length = some j.toNat := seqIndex_of h0 h1
  rw [e, List.getD_eq_getElem?_getD, Array.getElem?_toList]
  rfl
theorem in_set {D : Str} {x : Str} {j : Int} (h0 : 0 ≤ j) (h1 : j < (x.length : Int)) : (!(Builtin.Str.occurrences D (Txt.item x j) 0 D.length 1).isEmpty) = decide (sg x j.toNat ∈ D.cps.toList) := by
  rw [item_sg h0 h1, StrLaws.found_one]
theorem dig_mem (c : Nat) : c ∈ (Str.ofString "0123456789").cps.toList ↔ Dig c := by
  have e : (Str.ofString "0123456789").cps.toList = [48, 49, 50, 51, 52, 53, 54, 55, 56, 57] := by decide +kernel
  rw [e]
  simp only [List.mem_cons, List.not_mem_nil, or_false, Dig]
  omega
theorem dig_no {x : Str} {j : Int} (h0 : 0 ≤ j) (h1 : j < (x.length : Int)) (h : (Builtin.Str.occurrences (Str.ofString "0123456789") (Txt.item x j) 0 (Str.ofString "0123456789").length 1).isEmpty = true) : ¬ Dig (sg x j.toNat) := by
  have e := in_set (D := Str.ofString "0123456789") h0 h1
  rw [h] at e
  rw [← dig_mem]
  exact of_decide_eq_false e.symm
theorem dig_yes {x : Str} {j : Int} (h0 : 0 ≤ j) (h1 : j < (x.length : Int)) (h : (Builtin.Str.occurrences (Str.ofString "0123456789") (Txt.item x j) 0 (Str.ofString "0123456789").length 1).isEmpty = false) : Dig (sg x j.toNat) := by
  have e := in_set (D := Str.ofString "0123456789") h0 h1
  rw [h] at e
  rw [← dig_mem]
  exact of_decide_eq_true e.symm
/-- from i up to e digits alone stand, and at e none -/
structure DigRun (x : Str) (i e : Nat) : Prop where
  ie : i ≤ e
  el : e ≤ x.length
  all : ∀ k, i ≤ k → k < e → Dig (sg x k)
  stop : e < x.length → ¬ Dig (sg x e)
theorem de_turn {x : Str} {i e : Nat} {j : Int} (D : DigRun x i e) (h1 : (i : Int) ≤ j) (h2 : j ≤ (e : Int)) (h3 : j < (x.length : Int)) (h : (Builtin.Str.occurrences (Str.ofString "0123456789") (Txt.item x j) 0 (Str.ofString "0123456789").length 1).isEmpty = false) : (i : Int) ≤ j + 1 ∧ j + 1 ≤ (e : Int) := by
  refine ⟨by omega, ?_⟩
  have hd := dig_yes (by omega) h3 h
  rcases Int.lt_or_le j e with h4 | h4
  · omega
  · have e1 : j.toNat = e := by omega
    rw [e1] at hd
    exact absurd hd (D.stop (by omega))
theorem de_end {x : Str} {i e : Nat} {j : Int} (D : DigRun x i e) (h1 : (i : Int) ≤ j) (h2 : j ≤ (e : Int)) (h3 : j < (x.length : Int)) (h : (Builtin.Str.occurrences (Str.ofString "0123456789") (Txt.item x j) 0 (Str.ofString "0123456789").length 1).isEmpty = true) : j = (e : Int) := by
  have hd := dig_no (by omega) h3 h
  rcases Int.lt_or_le j e with h4 | h4
  · exact absurd (D.all j.toNat (by omega) (by omega)) hd
  · omega
theorem de_out {x : Str} {i e : Nat} {j : Int} (D : DigRun x i e) (h2 : j ≤ (e : Int)) (h3 : ¬ j < (x.length : Int)) : j = (e : Int) := by
  have := D.el; omega

theorem digits_end_spec (w mean mg mb) (x : Str) (i e : Nat) (tx ti : Tok) (news : Led) (D : DigRun x i e) (hl : x.length ≤ 5000) :
    Spec w mean mg mb 1 116 [.str x tx, .int (i : Int) ti] news (IntR (e : Int) news) := by
  unfold Spec; k_fill; intro dp un gd cn cs a ccd cl outer A₀ base h₀ L m s Q E B F X N T hk hdp hun hret
  ((refine wpAny_call ?_; k_dflt (refine' code_def ?k1 ?k2 ?k3 ?k4 ?k5 ?kA ?kF ?kK ?k6 ?k7 ?k8 ?k9 ?kB ?_ ?c2 ?c3 ?c4 ?c5; (case kA => exact rfl); (case kF => exact rfl); (case kK => assumption); (case k1 => k_asm); (case k2 => k_asm); (case k3 => k_asm); (case k4 => k_asm); (case k5 => k_asm); (case k6 => k_is); (case k7 => k_is); (case k8 => ktr_room); (case k9 => first | exact BindsTo.of_eq rfl | exact binds_K (by k_in) rfl (by k_is) rfl rfl rfl); (case c5 => decide); (case kB => exact locs rfl); (case c2 => exact rfl); (case c3 => exact rfl); (case c4 => exact rfl); k_whole; intro g' L' h' FG' F' N' B' X' T'; (try dsimp only); (try k_fold))))
  k_with_none
  k_with "binaryOp Mod int int" => (k_dflt (k_extra "my mod"))
  k_with "binaryOp Pow int int" => (k_dflt (k_extra "my pow"))
  k_with "exec While Compare cons nil" => (k_dflt (k_extra "my while"))
  k_with "call ref" => (k_dflt (k_extra "my call"))
  k_with "eval Call Name" => ((k_here; (fail_if_success (with_reducible show wpAny _ _ (eval (PySem.Expr.Call (PySem.Expr.Name (PySem.Str.ofString "abs") _) _ _ _) _) _ _ _)); (fail_if_success (with_reducible show wpAny _ _ (eval (PySem.Expr.Call (PySem.Expr.Name (PySem.Str.ofString "len") _) _ _ _) _) _ _ _)); (fail_if_success (with_reducible show wpAny _ _ (eval (PySem.Expr.Call (PySem.Expr.Name (PySem.Str.ofString "range") _) _ _ _) _) _ _ _)); (fail_if_success (with_reducible show wpAny _ _ (eval (PySem.Expr.Call (PySem.Expr.Name (PySem.Str.ofString "max") _) _ _ _) _) _ _ _)); (fail_if_success (with_reducible show wpAny _ _ (eval (PySem.Expr.Call (PySem.Expr.Name (PySem.Str.ofString "min") _) _ _ _) _) _ _ _)); (fail_if_success (with_reducible show wpAny _ _ (eval (PySem.Expr.Call (PySem.Expr.Name (PySem.Str.ofString "int") _) _ _ _) _) _ _ _)); (fail_if_success (with_reducible show wpAny _ _ (eval (PySem.Expr.Call (PySem.Expr.Name (PySem.Str.ofString "str") _) _ _ _) _) _ _ _)); (with_reducible show wpAny _ _ (eval (PySem.Expr.Call (PySem.Expr.Name _ _) _ _ _) (envOf _ _ _ _ _)) _ _ _); refine Call_ ?_))
  k_with "execs cons" => (k_dflt (k_extra "my execs"))
  k_with "subscriptTail Name Constant ref int" => ((k_here; k_dflt (refine' item_tupleT ?t ?a ?b ?c ?d ?_; (case t => (refine' News.isTup ?tn ?tm; (case tn => k_asm); (case tm => k_mem))); (case a => decide); (case b => decide); (case c => rfl); (case d => rfl); k_whole)))
  k_with "binaryOp FloorDiv int int" => (first | k_dflt (k_extra "my div") | (with_reducible refine' floordiv_int ?xa ?_ (Or.inl (noPy ?xb ?xc)); (case xa => first | assumption | omega); (case xb => bits_by_make); (case xc => decide)))
  k_with "compareOp NotEq ref ref" => (k_dflt (refine' tup_ne ?xN ?xa ?xb ?xu ?xe ?_; (case xN => k_asm); (case xa => k_mem); (case xb => k_mem); (case xu => ktr_units); (case xe => first | with_reducible rfl | k_extra "my eq"); (((rename News _ _ _ _ => N8); (have N7 := news_drop2 N8); clear N8))))
  k_with "compareOp Eq ref ref" => (k_dflt (refine' tup_eq ?xN ?xa ?xb ?xu ?xe ?_; (case xN => k_asm); (case xa => k_mem); (case xb => k_mem); (case xu => ktr_units); (case xe => first | with_reducible rfl | k_extra "my eq"); (((rename News _ _ _ _ => N8); (have N7 := news_drop2 N8); clear N8))))
  k_with "compareOp Eq ref ref" => (k_dflt (refine' tup_eqK ?xF ?xX ?xN ?xa ?xb ?xu ?xe ?_; (case xF => k_asm); (case xX => k_asm); (case xN => k_asm); (case xa => k_is); (case xb => k_mem); (case xu => ktr_units); (case xe => first | with_reducible rfl | k_extra "my eq")))
  k_with "compareOp NotEq ref ref" => (k_dflt (refine' tup_neK ?xF ?xX ?xN ?xa ?xb ?xu ?xe ?_; (case xF => k_asm); (case xX => k_asm); (case xN => k_asm); (case xa => k_is); (case xb => k_mem); (case xu => ktr_units); (case xe => first | with_reducible rfl | k_extra "my eq")))
  k_with "subscriptTail Name Constant ref int" => ((k_here; k_dflt (refine' lst_item (vs := [_, _]) ?t ?a ?b ?c ?d ?_ ?e; (case t => k_asm); (case a => k_mem); (case b => decide); (case c => decide); (case d => exact rfl); (case e => with_unfolding_all rfl); k_whole)))
  k_with "setItem ref int" => ((k_here; k_dflt (first | ((with_reducible show wpAny _ _ (setItem (Value.ref _) (Value.int 0 _) _) _ _ _); refine' src_set0 ?t ?a ?b ?_; (case t => k_asm); (case a => k_asm); (case b => assumption); k_whole) | ((with_reducible show wpAny _ _ (setItem (Value.ref _) (Value.int 1 _) _) _ _ _); refine' src_set1 ?t ?a ?b ?_; (case t => k_asm); (case a => k_asm); (case b => assumption); k_whole)); intro h' F' N'; (try k_sweep)))
  k_with "exec While BoolOp" => (k_dflt (k_extra "my while"))
  k_with "state" => first | exact ⟨Int.le_refl _, Int.ofNat_le.mpr D.ie⟩ | exact de_turn D (by assumption) (by assumption) (by assumption) (by assumption)
  k_with "measure" => (have := de_turn D (by assumption) (by assumption) (by assumption) (by assumption); omega)
  k_with "my while" => k_while (fun (_ : List Int) j => (i : Int) ≤ j ∧ j ≤ (e : Int)) (fun _ j => ((e : Int) - j).toNat) "at"
  (repeat' (first | (k_unfold; (try dsimp only)) | (k_end; wrow_close) | walk1 | (dsimp only; walk1) | (leave1; walk_say "STEP leave1"; try dsimp only) | (k_unmd; k_unfold; (try dsimp only)) | fail "no step"))
  all_goals (((refine' ret_int (by assumption) ?e1 ?e2 ?e3 ?_; (case e1 => k_asm); (case e2 => k_asm); (case e3 => ((intro _ h9; repeat (first | exact h9 | apply List.mem_cons_of_mem)))))))
  all_goals first | exact de_end D (by assumption) (by assumption) (by assumption) (by assumption) | exact de_out D (by assumption) (by assumption)

def Spc (c : Nat) : Prop := c = 32 ∨ c = 9 ∨ c = 10 ∨ c = 13
theorem spc_mem (c : Nat) : c ∈ (Str.ofString " \t\n\r").cps.toList ↔ Spc c := by
  have e : (Str.ofString " \t\n\r").cps.toList = [32, 9, 10, 13] := by decide +kernel
  rw [e]
  simp only [List.mem_cons, List.not_mem_nil, or_false, Spc]
theorem spc_no {x : Str} {j : Int} (h0 : 0 ≤ j) (h1 : j < (x.length : Int)) (h : (Builtin.Str.occurrences (Str.ofString " \t\n\r") (Txt.item x j) 0 (Str.ofString " \t\n\r").length 1).isEmpty = true) : ¬ Spc (sg x j.toNat) := by
  have e := in_set (D := Str.ofString " \t\n\r") h0 h1
  rw [h] at e
  rw [← spc_mem]
  exact of_decide_eq_false e.symm
theorem spc_yes {x : Str} {j : Int} (h0 : 0 ≤ j) (h1 : j < (x.length : Int)) (h : (Builtin.Str.occurrences (Str.ofString " \t\n\r") (Txt.item x j) 0 (Str.ofString " \t\n\r").length 1).isEmpty = false) : Spc (sg x j.toNat) := by
  have e := in_set (D := Str.ofString " \t\n\r") h0 h1
  rw [h] at e
  rw [← spc_mem]
  exact of_decide_eq_true e.symm
/-- b blanks ahead, none at the ends of the rest -/
structure TrimRun (x : Str) (b : Nat) : Prop where
  le : b ≤ x.length
  all : ∀ k, k < b → Spc (sg x k)
  first : b < x.length → ¬ Spc (sg x b)
  last : b < x.length → ¬ Spc (sg x (x.length - 1))
theorem tr_turn {x : Str} {b : Nat} {j : Int} (D : TrimRun x b) (h1 : 0 ≤ j) (h2 : j ≤ (b : Int)) (h3 : j < (x.length : Int)) (h : (Builtin.Str.occurrences (Str.ofString " \t\n\r") (Txt.item x j) 0 (Str.ofString " \t\n\r").length 1).isEmpty = false) : 0 ≤ j + 1 ∧ j + 1 ≤ (b : Int) := by
  have hd := spc_yes h1 h3 h
  refine ⟨by omega, ?_⟩
  rcases Int.lt_or_le j b with h4 | h4
  · omega
  · have e1 : j.toNat = b := by omega
    rw [e1] at hd
    exact absurd hd (D.first (by omega))
theorem tr_begin {x : Str} {b : Nat} {j : Int} (D : TrimRun x b) (h1 : 0 ≤ j) (h2 : j ≤ (b : Int)) (h3 : j < (x.length : Int)) (h : (Builtin.Str.occurrences (Str.ofString " \t\n\r") (Txt.item x j) 0 (Str.ofString " \t\n\r").length 1).isEmpty = true) : j = (b : Int) := by
  have hd := spc_no h1 h3 h
  rcases Int.lt_or_le j b with h4 | h4
  · exact absurd (D.all j.toNat (by omega)) hd
  · omega
theorem tr_out {x : Str} {b : Nat} {j : Int} (D : TrimRun x b) (h2 : j ≤ (b : Int)) (h3 : ¬ j < (x.length : Int)) : j = (b : Int) := by
  have := D.le; omega
theorem tr_last {x : Str} {b : Nat} {i j : Int} (D : TrimRun x b) (h1 : 0 ≤ i) (h2 : i ≤ (b : Int)) (h3 : i < (x.length : Int)) (h : (Builtin.Str.occurrences (Str.ofString " \t\n\r") (Txt.item x i) 0 (Str.ofString " \t\n\r").length 1).isEmpty = true) (hj : j = (x.length : Int)) (h' : (Builtin.Str.occurrences (Str.ofString " \t\n\r") (Txt.item x (j - 1)) 0 (Str.ofString " \t\n\r").length 1).isEmpty = false) : False := by
  have e := tr_begin D h1 h2 h3 h
  subst hj
  have hd := spc_yes (x := x) (j := (x.length : Int) - 1) (by omega) (by omega) h'
  have e1 : ((x.length : Int) - 1).toNat = x.length - 1 := by omega
  rw [e1] at hd
  exact D.last (by omega) hd
theorem tr_fin {x : Str} {b : Nat} {i j : Int} (hi : i = (b : Int)) (hj : j = (x.length : Int)) : Txt.slice x (some i) (some j) = Txt.slice x (some (b : Int)) (some (x.length : Int)) := by rw [hi, hj]

theorem trimmed_spec (w mean mg mb) (x : Str) (b : Nat) (tx : Tok) (news : Led) (D : TrimRun x b) (hl : x.length ≤ 5000) :
    Spec w mean mg mb 1 123 [.str x tx] news (StrR (Txt.slice x (some (b : Int)) (some (x.length : Int))) news) := by
  unfold Spec; k_fill; intro dp un gd cn cs a ccd cl outer A₀ base h₀ L m s Q E B F X N T hk hdp hun hret
  ((refine wpAny_call ?_; k_dflt (refine' code_def ?k1 ?k2 ?k3 ?k4 ?k5 ?kA ?kF ?kK ?k6 ?k7 ?k8 ?k9 ?kB ?_ ?c2 ?c3 ?c4 ?c5; (case kA => exact rfl); (case kF => exact rfl); (case kK => assumption); (case k1 => k_asm); (case k2 => k_asm); (case k3 => k_asm); (case k4 => k_asm); (case k5 => k_asm); (case k6 => k_is); (case k7 => k_is); (case k8 => ktr_room); (case k9 => first | exact BindsTo.of_eq rfl | exact binds_K (by k_in) rfl (by k_is) rfl rfl rfl); (case c5 => decide); (case kB => exact locs rfl); (case c2 => exact rfl); (case c3 => exact rfl); (case c4 => exact rfl); k_whole; intro g' L' h' FG' F' N' B' X' T'; (try dsimp only); (try k_fold))))
  k_with_none
  k_with "binaryOp Mod int int" => (k_dflt (k_extra "my mod"))
  k_with "binaryOp Pow int int" => (k_dflt (k_extra "my pow"))
  k_with "exec While Compare cons nil" => (k_dflt (k_extra "my while"))
  k_with "call ref" => (k_dflt (k_extra "my call"))
  k_with "eval Call Name" => ((k_here; (fail_if_success (with_reducible show wpAny _ _ (eval (PySem.Expr.Call (PySem.Expr.Name (PySem.Str.ofString "abs") _) _ _ _) _) _ _ _)); (fail_if_success (with_reducible show wpAny _ _ (eval (PySem.Expr.Call (PySem.Expr.Name (PySem.Str.ofString "len") _) _ _ _) _) _ _ _)); (fail_if_success (with_reducible show wpAny _ _ (eval (PySem.Expr.Call (PySem.Expr.Name (PySem.Str.ofString "range") _) _ _ _) _) _ _ _)); (fail_if_success (with_reducible show wpAny _ _ (eval (PySem.Expr.Call (PySem.Expr.Name (PySem.Str.ofString "max") _) _ _ _) _) _ _ _)); (fail_if_success (with_reducible show wpAny _ _ (eval (PySem.Expr.Call (PySem.Expr.Name (PySem.Str.ofString "min") _) _ _ _) _) _ _ _)); (fail_if_success (with_reducible show wpAny _ _ (eval (PySem.Expr.Call (PySem.Expr.Name (PySem.Str.ofString "int") _) _ _ _) _) _ _ _)); (fail_if_success (with_reducible show wpAny _ _ (eval (PySem.Expr.Call (PySem.Expr.Name (PySem.Str.ofString "str") _) _ _ _) _) _ _ _)); (with_reducible show wpAny _ _ (eval (PySem.Expr.Call (PySem.Expr.Name _ _) _ _ _) (envOf _ _ _ _ _)) _ _ _); refine Call_ ?_))
  k_with "execs cons" => (k_dflt (k_extra "my execs"))
  k_with "subscriptTail Name Constant ref int" => ((k_here; k_dflt (refine' item_tupleT ?t ?a ?b ?c ?d ?_; (case t => (refine' News.isTup ?tn ?tm; (case tn => k_asm); (case tm => k_mem))); (case a => decide); (case b => decide); (case c => rfl); (case d => rfl); k_whole)))
  k_with "binaryOp FloorDiv int int" => (first | k_dflt (k_extra "my div") | (with_reducible refine' floordiv_int ?xa ?_ (Or.inl (noPy ?xb ?xc)); (case xa => first | assumption | omega); (case xb => bits_by_make); (case xc => decide)))
  k_with "compareOp NotEq ref ref" => (k_dflt (refine' tup_ne ?xN ?xa ?xb ?xu ?xe ?_; (case xN => k_asm); (case xa => k_mem); (case xb => k_mem); (case xu => ktr_units); (case xe => first | with_reducible rfl | k_extra "my eq"); (((rename News _ _ _ _ => N8); (have N7 := news_drop2 N8); clear N8))))
  k_with "compareOp Eq ref ref" => (k_dflt (refine' tup_eq ?xN ?xa ?xb ?xu ?xe ?_; (case xN => k_asm); (case xa => k_mem); (case xb => k_mem); (case xu => ktr_units); (case xe => first | with_reducible rfl | k_extra "my eq"); (((rename News _ _ _ _ => N8); (have N7 := news_drop2 N8); clear N8))))
  k_with "compareOp Eq ref ref" => (k_dflt (refine' tup_eqK ?xF ?xX ?xN ?xa ?xb ?xu ?xe ?_; (case xF => k_asm); (case xX => k_asm); (case xN => k_asm); (case xa => k_is); (case xb => k_mem); (case xu => ktr_units); (case xe => first | with_reducible rfl | k_extra "my eq")))
  k_with "compareOp NotEq ref ref" => (k_dflt (refine' tup_neK ?xF ?xX ?xN ?xa ?xb ?xu ?xe ?_; (case xF => k_asm); (case xX => k_asm); (case xN => k_asm); (case xa => k_is); (case xb => k_mem); (case xu => ktr_units); (case xe => first | with_reducible rfl | k_extra "my eq")))
  k_with "subscriptTail Name Constant ref int" => ((k_here; k_dflt (refine' lst_item (vs := [_, _]) ?t ?a ?b ?c ?d ?_ ?e; (case t => k_asm); (case a => k_mem); (case b => decide); (case c => decide); (case d => exact rfl); (case e => with_unfolding_all rfl); k_whole)))
  k_with "setItem ref int" => ((k_here; k_dflt (first | ((with_reducible show wpAny _ _ (setItem (Value.ref _) (Value.int 0 _) _) _ _ _); refine' src_set0 ?t ?a ?b ?_; (case t => k_asm); (case a => k_asm); (case b => assumption); k_whole) | ((with_reducible show wpAny _ _ (setItem (Value.ref _) (Value.int 1 _) _) _ _ _); refine' src_set1 ?t ?a ?b ?_; (case t => k_asm); (case a => k_asm); (case b => assumption); k_whole)); intro h' F' N'; (try k_sweep)))
  k_with "exec While BoolOp" => (k_dflt (k_extra "my while"))

  k_with "state" => first | rfl | exact ⟨Int.le_refl _, Int.natCast_nonneg _⟩ | exact tr_turn D (by assumption) (by assumption) (by assumption) (by assumption) | exact (tr_last D (by assumption) (by assumption) (by assumption) (by assumption) (by assumption) (by assumption)).elim
  k_with "measure" => first | (have := tr_turn D (by assumption) (by assumption) (by assumption) (by assumption); omega) | exact (tr_last D (by assumption) (by assumption) (by assumption) (by assumption) (by assumption) (by assumption)).elim
  k_with "my while" => first
    | ((with_reducible show wpAny _ _ (exec (Stmt.While (PySem.Expr.BoolOp _ [PySem.Expr.Compare _ [CmpOp.Lt] _ _, _] _) _ _ _) _) _ _ _); k_while (fun (_ : List Int) j => (0 : Int) ≤ j ∧ j ≤ (b : Int)) (fun _ j => ((b : Int) - j).toNat) "begin")
    | ((with_reducible show wpAny _ _ (exec (Stmt.While (PySem.Expr.BoolOp _ [PySem.Expr.Compare _ [CmpOp.Gt] _ _, _] _) _ _ _) _) _ _ _); k_while (fun (_ : List Int) j => j = (x.length : Int)) (fun _ j => j.toNat) "end")
  (repeat' (first | (k_unfold; (try dsimp only)) | (k_end; wrow_close) | walk1 | (dsimp only; walk1) | (leave1; walk_say "STEP leave1"; try dsimp only) | (k_unmd; k_unfold; (try dsimp only)) | fail "no step"))
  all_goals (((refine' ret_str (by assumption) ?e1 ?e2 ?e3 ?_; (case e1 => k_asm); (case e2 => k_asm); (case e3 => ((intro _ h9; repeat (first | exact h9 | apply List.mem_cons_of_mem)))))))
  all_goals exact tr_fin (by first | exact tr_begin D (by assumption) (by assumption) (by assumption) (by assumption) | exact tr_out D (by assumption) (by assumption)) (by first | assumption | rfl)

/-- the number that digits tell -/
def dV (cs : List Int) : Int := cs.foldl (fun a c => a * 10 + (c - 48)) 0
theorem dV_snoc (cs : List Int) (c : Int) : dV (cs ++ [c]) = dV cs * 10 + (c - 48) := by
  unfold dV; rw [List.foldl_append]; rfl
theorem find_dig {c : Nat} (h : Dig c) : Txt.find (Str.ofString "0123456789") ⟨#[c]⟩ = (c : Int) - 48 := by
  obtain ⟨h1, h2⟩ := h
  have e : c = 48 ∨ c = 49 ∨ c = 50 ∨ c = 51 ∨ c = 52 ∨ c = 53 ∨ c = 54 ∨ c = 55 ∨ c = 56 ∨ c = 57 := by omega
  rcases e with rfl | rfl | rfl | rfl | rfl | rfl | rfl | rfl | rfl | rfl <;> decide +kernel
theorem code_mem {x : Str} {pre post : List Int} {c : Nat} (h : KStt.codes x = pre ++ (c : Int) :: post) : c ∈ x.cps.toList := by
  have hm : (c : Int) ∈ KStt.codes x := by rw [h]; simp
  unfold KStt.codes at hm
  obtain ⟨d, hd, e⟩ := List.mem_map.mp hm
  have e' : d = c := by omega
  rw [← e']; exact hd
theorem wh_no {x : Str} {pre post : List Int} {c : Nat} (D : ∀ c ∈ x.cps.toList, Dig c) (h : KStt.codes x = pre ++ (c : Int) :: post)
    (h' : (Builtin.Str.occurrences (Str.ofString "0123456789") ⟨#[c]⟩ 0 (Str.ofString "0123456789").length 1).isEmpty = true) : False := by
  have e := StrLaws.found_one (Str.ofString "0123456789") c
  rw [h'] at e
  exact of_decide_eq_false e.symm ((dig_mem c).mpr (D c (code_mem h)))
theorem wh_turn {x : Str} {pre post : List Int} {c : Nat} {n : Int} (D : ∀ c ∈ x.cps.toList, Dig c) (h : KStt.codes x = pre ++ (c : Int) :: post) (hn : n = dV pre) :
    n * 10 + Txt.find (Str.ofString "0123456789") ⟨#[c]⟩ = dV (pre ++ [(c : Int)]) := by
  rw [dV_snoc, find_dig (D c (code_mem h)), hn]
theorem whole_spec (w mean mg mb) (x : Str) (tx : Tok) (news : Led) (D : ∀ c ∈ x.cps.toList, Dig c) (_hl : x.length ≤ 5000) :
    Spec w mean mg mb 1 130 [.str x tx] news (IntR (dV (KStt.codes x)) news) := by
  unfold Spec; k_fill; intro dp un gd cn cs a ccd cl outer A₀ base h₀ L m s Q E B F X N T hk hdp hun hret
  ((refine wpAny_call ?_; k_dflt (refine' code_def ?k1 ?k2 ?k3 ?k4 ?k5 ?kA ?kF ?kK ?k6 ?k7 ?k8 ?k9 ?kB ?_ ?c2 ?c3 ?c4 ?c5; (case kA => exact rfl); (case kF => exact rfl); (case kK => assumption); (case k1 => k_asm); (case k2 => k_asm); (case k3 => k_asm); (case k4 => k_asm); (case k5 => k_asm); (case k6 => k_is); (case k7 => k_is); (case k8 => ktr_room); (case k9 => first | exact BindsTo.of_eq rfl | exact binds_K (by k_in) rfl (by k_is) rfl rfl rfl); (case c5 => decide); (case kB => exact locs rfl); (case c2 => exact rfl); (case c3 => exact rfl); (case c4 => exact rfl); k_whole; intro g' L' h' FG' F' N' B' X' T'; (try dsimp only); (try k_fold))))
  k_with_none
  k_with "binaryOp Mod int int" => (k_dflt (k_extra "my mod"))
  k_with "binaryOp Pow int int" => (k_dflt (k_extra "my pow"))
  k_with "exec While Compare cons nil" => (k_dflt (k_extra "my while"))
  k_with "call ref" => (k_dflt (k_extra "my call"))
  k_with "eval Call Name" => ((k_here; (fail_if_success (with_reducible show wpAny _ _ (eval (PySem.Expr.Call (PySem.Expr.Name (PySem.Str.ofString "abs") _) _ _ _) _) _ _ _)); (fail_if_success (with_reducible show wpAny _ _ (eval (PySem.Expr.Call (PySem.Expr.Name (PySem.Str.ofString "len") _) _ _ _) _) _ _ _)); (fail_if_success (with_reducible show wpAny _ _ (eval (PySem.Expr.Call (PySem.Expr.Name (PySem.Str.ofString "range") _) _ _ _) _) _ _ _)); (fail_if_success (with_reducible show wpAny _ _ (eval (PySem.Expr.Call (PySem.Expr.Name (PySem.Str.ofString "max") _) _ _ _) _) _ _ _)); (fail_if_success (with_reducible show wpAny _ _ (eval (PySem.Expr.Call (PySem.Expr.Name (PySem.Str.ofString "min") _) _ _ _) _) _ _ _)); (fail_if_success (with_reducible show wpAny _ _ (eval (PySem.Expr.Call (PySem.Expr.Name (PySem.Str.ofString "int") _) _ _ _) _) _ _ _)); (fail_if_success (with_reducible show wpAny _ _ (eval (PySem.Expr.Call (PySem.Expr.Name (PySem.Str.ofString "str") _) _ _ _) _) _ _ _)); (with_reducible show wpAny _ _ (eval (PySem.Expr.Call (PySem.Expr.Name _ _) _ _ _) (envOf _ _ _ _ _)) _ _ _); refine Call_ ?_))
  k_with "execs cons" => (k_dflt (k_extra "my execs"))
  k_with "subscriptTail Name Constant ref int" => ((k_here; k_dflt (refine' item_tupleT ?t ?a ?b ?c ?d ?_; (case t => (refine' News.isTup ?tn ?tm; (case tn => k_asm); (case tm => k_mem))); (case a => decide); (case b => decide); (case c => rfl); (case d => rfl); k_whole)))
  k_with "binaryOp FloorDiv int int" => (first | k_dflt (k_extra "my div") | (with_reducible refine' floordiv_int ?xa ?_ (Or.inl (noPy ?xb ?xc)); (case xa => first | assumption | omega); (case xb => bits_by_make); (case xc => decide)))
  k_with "compareOp NotEq ref ref" => (k_dflt (refine' tup_ne ?xN ?xa ?xb ?xu ?xe ?_; (case xN => k_asm); (case xa => k_mem); (case xb => k_mem); (case xu => ktr_units); (case xe => first | with_reducible rfl | k_extra "my eq"); (((rename News _ _ _ _ => N8); (have N7 := news_drop2 N8); clear N8))))
  k_with "compareOp Eq ref ref" => (k_dflt (refine' tup_eq ?xN ?xa ?xb ?xu ?xe ?_; (case xN => k_asm); (case xa => k_mem); (case xb => k_mem); (case xu => ktr_units); (case xe => first | with_reducible rfl | k_extra "my eq"); (((rename News _ _ _ _ => N8); (have N7 := news_drop2 N8); clear N8))))
  k_with "compareOp Eq ref ref" => (k_dflt (refine' tup_eqK ?xF ?xX ?xN ?xa ?xb ?xu ?xe ?_; (case xF => k_asm); (case xX => k_asm); (case xN => k_asm); (case xa => k_is); (case xb => k_mem); (case xu => ktr_units); (case xe => first | with_reducible rfl | k_extra "my eq")))
  k_with "compareOp NotEq ref ref" => (k_dflt (refine' tup_neK ?xF ?xX ?xN ?xa ?xb ?xu ?xe ?_; (case xF => k_asm); (case xX => k_asm); (case xN => k_asm); (case xa => k_is); (case xb => k_mem); (case xu => ktr_units); (case xe => first | with_reducible rfl | k_extra "my eq")))
  k_with "subscriptTail Name Constant ref int" => ((k_here; k_dflt (refine' lst_item (vs := [_, _]) ?t ?a ?b ?c ?d ?_ ?e; (case t => k_asm); (case a => k_mem); (case b => decide); (case c => decide); (case d => exact rfl); (case e => with_unfolding_all rfl); k_whole)))
  k_with "setItem ref int" => ((k_here; k_dflt (first | ((with_reducible show wpAny _ _ (setItem (Value.ref _) (Value.int 0 _) _) _ _ _); refine' src_set0 ?t ?a ?b ?_; (case t => k_asm); (case a => k_asm); (case b => assumption); k_whole) | ((with_reducible show wpAny _ _ (setItem (Value.ref _) (Value.int 1 _) _) _ _ _); refine' src_set1 ?t ?a ?b ?_; (case t => k_asm); (case a => k_asm); (case b => assumption); k_whole)); intro h' F' N'; (try k_sweep)))
  k_with "exec While BoolOp" => (k_dflt (k_extra "my while"))

  k_with "pyIter str" => k_state (fun pre n => n = dV pre) "number"
  k_with "state" => first | rfl | exact wh_turn D (by assumption) (by first | assumption | rfl)
  (repeat' (first | (k_unfold; (try dsimp only)) | (k_end; wrow_close) | walk1 | (dsimp only; walk1) | (leave1; walk_say "STEP leave1"; try dsimp only) | (k_unmd; k_unfold; (try dsimp only)) | fail "no step"))
  all_goals first | (exfalso; exact wh_no D (by assumption) (by assumption)) | skip
  all_goals (((refine' ret_int (by assumption) ?e1 ?e2 ?e3 ?_; (case e1 => k_asm); (case e2 => k_asm); (case e3 => ((intro _ h9; repeat (first | exact h9 | apply List.mem_cons_of_mem)))))))
  all_goals first | assumption | rfl

open PySem.Builtin.Str in
theorem indices_clip (a b n : Nat) : strSliceIndices (some (a : Int)) (some (b : Int)) 1 n = strSliceIndices (some ((min a n : Nat) : Int)) (some ((min b n : Nat) : Int)) 1 n := by
  have h2 : (1 : Int) > 0 := by decide
  have e1 : ¬ (a : Int) < 0 := by omega
  have e2 : ¬ (b : Int) < 0 := by omega
  have e3 : ¬ ((min a n : Nat) : Int) < 0 := by omega
  have e4 : ¬ ((min b n : Nat) : Int) < 0 := by omega
  simp only [strSliceIndices, h2, e1, e2, e3, e4, if_true, if_false]
  congr 1 <;> omega
theorem slice_nat (x : Str) (a b : Nat) (hab : a ≤ b) : Txt.slice x (some (a : Int)) (some (b : Int)) = ⟨((x.cps.toList.drop a).take (b - a)).toArray⟩ := by
  have e : Txt.slice x (some (a : Int)) (some (b : Int)) = Txt.slice x (some ((min a x.length : Nat) : Int)) (some ((min b x.length : Nat) : Int)) := by
    unfold Txt.slice
    rw [indices_clip]
  have hl : x.cps.toList.length = x.length := by simp [PySem.Str.length]
  rw [e, beq_iff_eq.mp (PyProof.Rows.slice_closesL (x := x) (i := ((min a x.length : Nat) : Int)) (j := ((min b x.length : Nat) : Int)) (by omega) (by omega) (by omega))]
  congr 2
  have q1 : ((min a x.length : Nat) : Int).toNat = min a x.length := by omega
  have q2 : (((min b x.length : Nat) : Int) - ((min a x.length : Nat) : Int)).toNat = min b x.length - min a x.length := by omega
  rw [q1, q2]
  apply List.ext_getElem?
  intro k
  rw [List.getElem?_take, List.getElem?_take, List.getElem?_drop, List.getElem?_drop]
  by_cases h1 : k < b - a
  · rw [if_pos h1]
    by_cases h2 : k < min b x.length - min a x.length
    · rw [if_pos h2]
      congr 1
      omega
    · rw [if_neg h2]
      rw [List.getElem?_eq_none (by omega)]
  · rw [if_neg h1, if_neg (by omega)]
open PySem.Builtin.Str in
theorem slice_upto (x : Str) (b : Nat) : Txt.slice x none (some (b : Int)) = ⟨(x.cps.toList.take b).toArray⟩ := by
  have e : Txt.slice x none (some (b : Int)) = Txt.slice x (some ((0 : Nat) : Int)) (some (b : Int)) := by
    have q : strSliceIndices none (some (b : Int)) 1 x.length = strSliceIndices (some ((0 : Nat) : Int)) (some (b : Int)) 1 x.length := by
      have h2 : (1 : Int) > 0 := by decide
      have e1 : ¬ ((0 : Nat) : Int) < 0 := by omega
      simp only [strSliceIndices, h2, e1, if_true, if_false]
      congr 1 <;> omega
    unfold Txt.slice
    rw [q]
  rw [e, slice_nat x 0 b (Nat.zero_le _)]
  rfl
open PySem.Builtin.Str in
theorem slice_from (x : Str) (a : Nat) : Txt.slice x (some (a : Int)) none = ⟨(x.cps.toList.drop a).toArray⟩ := by
  have hl : x.cps.toList.length = x.length := by simp [PySem.Str.length]
  have e : Txt.slice x (some (a : Int)) none = Txt.slice x (some (a : Int)) (some ((max a x.length : Nat) : Int)) := by
    have q : strSliceIndices (some (a : Int)) none 1 x.length = strSliceIndices (some (a : Int)) (some ((max a x.length : Nat) : Int)) 1 x.length := by
      have h2 : (1 : Int) > 0 := by decide
      have e1 : ¬ ((max a x.length : Nat) : Int) < 0 := by omega
      simp only [strSliceIndices, h2, e1, if_true, if_false]
      congr 1 <;> omega
    unfold Txt.slice
    rw [q]
  rw [e, slice_nat x a _ (Nat.le_max_left _ _)]
  congr 2
  rw [List.take_of_length_le]
  rw [List.length_drop]
  omega
theorem len_cps (x : Str) : x.cps.toList.length = x.length := by simp [PySem.Str.length]

/-- z noughts ahead and no more -/
structure Noughts (x : Str) (z : Nat) : Prop where
  le : z ≤ x.length
  all : ∀ k, k < z → sg x k = 48
  stop : z < x.length → sg x z ≠ 48
theorem item_nought {x : Str} {j : Int} (h0 : 0 ≤ j) (h1 : j < (x.length : Int)) : (Txt.item x j == Str.ofString "0") = decide (sg x j.toNat = 48) := by
  have e : Str.ofString "0" = ⟨#[48]⟩ := by decide +kernel
  rw [item_sg h0 h1, e]
  by_cases h : sg x j.toNat = 48
  · rw [h]; decide
  · rw [decide_eq_false h]
    apply beq_false_of_ne
    intro q
    injection q with q
    have q2 := congrArg (fun a : Array Nat => a[0]?) q
    simp at q2
    exact h q2
theorem nd_turn {x : Str} {z : Nat} {j : Int} (Z : Noughts x z) (h1 : 0 ≤ j) (h2 : j ≤ (z : Int)) (h3 : j < (x.length : Int)) (h : (Txt.item x j == Str.ofString "0") = true) : 0 ≤ j + 1 ∧ j + 1 ≤ (z : Int) := by
  rw [item_nought h1 h3] at h
  have hd := of_decide_eq_true h
  refine ⟨by omega, ?_⟩
  rcases Int.lt_or_le j z with h4 | h4
  · omega
  · have e1 : j.toNat = z := by omega
    rw [e1] at hd
    exact absurd hd (Z.stop (by omega))
theorem nd_end {x : Str} {z : Nat} {j : Int} (Z : Noughts x z) (h1 : 0 ≤ j) (h2 : j ≤ (z : Int)) (h3 : j < (x.length : Int)) (h : (Txt.item x j == Str.ofString "0") = false) : j = (z : Int) := by
  rw [item_nought h1 h3] at h
  have hd := of_decide_eq_false h
  rcases Int.lt_or_le j z with h4 | h4
  · exact absurd (Z.all j.toNat (by omega)) hd
  · omega
theorem nd_out {x : Str} {z : Nat} {j : Int} (Z : Noughts x z) (h2 : j ≤ (z : Int)) (h3 : ¬ j < (x.length : Int)) : j = (z : Int) := by
  have := Z.le; omega

theorem numdig_inf (w mean mg mb) (x y : Str) (z : Nat) (tx ty : Tok) (news : Led) (Z : Noughts x z) (hx : x.length ≤ 1000) (hbig : 400 < (x.length : Int) - (z : Int)) :
    Spec w mean mg mb 5 144 [.str x tx, .str y ty] news (NanR 16 news) := by
  unfold Spec; k_fill; intro dp un gd cn cs a ccd cl outer A₀ base h₀ L m s Q E B F X N T hk hdp hun hret
  ((refine wpAny_call ?_; k_dflt (refine' code_def ?k1 ?k2 ?k3 ?k4 ?k5 ?kA ?kF ?kK ?k6 ?k7 ?k8 ?k9 ?kB ?_ ?c2 ?c3 ?c4 ?c5; (case kA => exact rfl); (case kF => exact rfl); (case kK => assumption); (case k1 => k_asm); (case k2 => k_asm); (case k3 => k_asm); (case k4 => k_asm); (case k5 => k_asm); (case k6 => k_is); (case k7 => k_is); (case k8 => ktr_room); (case k9 => first | exact BindsTo.of_eq rfl | exact binds_K (by k_in) rfl (by k_is) rfl rfl rfl); (case c5 => decide); (case kB => exact locs rfl); (case c2 => exact rfl); (case c3 => exact rfl); (case c4 => exact rfl); k_whole; intro g' L' h' FG' F' N' B' X' T'; (try dsimp only); (try k_fold))))
  k_with_none
  k_with "binaryOp Mod int int" => (k_dflt (k_extra "my mod"))
  k_with "binaryOp Pow int int" => (k_dflt (k_extra "my pow"))
  k_with "exec While Compare cons nil" => (k_dflt (k_extra "my while"))
  k_with "call ref" => (k_dflt (k_extra "my call"))
  k_with "eval Call Name" => ((k_here; (fail_if_success (with_reducible show wpAny _ _ (eval (PySem.Expr.Call (PySem.Expr.Name (PySem.Str.ofString "abs") _) _ _ _) _) _ _ _)); (fail_if_success (with_reducible show wpAny _ _ (eval (PySem.Expr.Call (PySem.Expr.Name (PySem.Str.ofString "len") _) _ _ _) _) _ _ _)); (fail_if_success (with_reducible show wpAny _ _ (eval (PySem.Expr.Call (PySem.Expr.Name (PySem.Str.ofString "range") _) _ _ _) _) _ _ _)); (fail_if_success (with_reducible show wpAny _ _ (eval (PySem.Expr.Call (PySem.Expr.Name (PySem.Str.ofString "max") _) _ _ _) _) _ _ _)); (fail_if_success (with_reducible show wpAny _ _ (eval (PySem.Expr.Call (PySem.Expr.Name (PySem.Str.ofString "min") _) _ _ _) _) _ _ _)); (fail_if_success (with_reducible show wpAny _ _ (eval (PySem.Expr.Call (PySem.Expr.Name (PySem.Str.ofString "int") _) _ _ _) _) _ _ _)); (fail_if_success (with_reducible show wpAny _ _ (eval (PySem.Expr.Call (PySem.Expr.Name (PySem.Str.ofString "str") _) _ _ _) _) _ _ _)); (with_reducible show wpAny _ _ (eval (PySem.Expr.Call (PySem.Expr.Name _ _) _ _ _) (envOf _ _ _ _ _)) _ _ _); refine Call_ ?_))
  k_with "execs cons" => (k_dflt (k_extra "my execs"))
  k_with "subscriptTail Name Constant ref int" => ((k_here; k_dflt (refine' item_tupleT ?t ?a ?b ?c ?d ?_; (case t => (refine' News.isTup ?tn ?tm; (case tn => k_asm); (case tm => k_mem))); (case a => decide); (case b => decide); (case c => rfl); (case d => rfl); k_whole)))
  k_with "binaryOp FloorDiv int int" => (first | k_dflt (k_extra "my div") | (with_reducible refine' floordiv_int ?xa ?_ (Or.inl (noPy ?xb ?xc)); (case xa => first | assumption | omega); (case xb => bits_by_make); (case xc => decide)))
  k_with "compareOp NotEq ref ref" => (k_dflt (refine' tup_ne ?xN ?xa ?xb ?xu ?xe ?_; (case xN => k_asm); (case xa => k_mem); (case xb => k_mem); (case xu => ktr_units); (case xe => first | with_reducible rfl | k_extra "my eq"); (((rename News _ _ _ _ => N8); (have N7 := news_drop2 N8); clear N8))))
  k_with "compareOp Eq ref ref" => (k_dflt (refine' tup_eq ?xN ?xa ?xb ?xu ?xe ?_; (case xN => k_asm); (case xa => k_mem); (case xb => k_mem); (case xu => ktr_units); (case xe => first | with_reducible rfl | k_extra "my eq"); (((rename News _ _ _ _ => N8); (have N7 := news_drop2 N8); clear N8))))
  k_with "compareOp Eq ref ref" => (k_dflt (refine' tup_eqK ?xF ?xX ?xN ?xa ?xb ?xu ?xe ?_; (case xF => k_asm); (case xX => k_asm); (case xN => k_asm); (case xa => k_is); (case xb => k_mem); (case xu => ktr_units); (case xe => first | with_reducible rfl | k_extra "my eq")))
  k_with "compareOp NotEq ref ref" => (k_dflt (refine' tup_neK ?xF ?xX ?xN ?xa ?xb ?xu ?xe ?_; (case xF => k_asm); (case xX => k_asm); (case xN => k_asm); (case xa => k_is); (case xb => k_mem); (case xu => ktr_units); (case xe => first | with_reducible rfl | k_extra "my eq")))
  k_with "subscriptTail Name Constant ref int" => ((k_here; k_dflt (refine' lst_item (vs := [_, _]) ?t ?a ?b ?c ?d ?_ ?e; (case t => k_asm); (case a => k_mem); (case b => decide); (case c => decide); (case d => exact rfl); (case e => with_unfolding_all rfl); k_whole)))
  k_with "setItem ref int" => ((k_here; k_dflt (first | ((with_reducible show wpAny _ _ (setItem (Value.ref _) (Value.int 0 _) _) _ _ _); refine' src_set0 ?t ?a ?b ?_; (case t => k_asm); (case a => k_asm); (case b => assumption); k_whole) | ((with_reducible show wpAny _ _ (setItem (Value.ref _) (Value.int 1 _) _) _ _ _); refine' src_set1 ?t ?a ?b ?_; (case t => k_asm); (case a => k_asm); (case b => assumption); k_whole)); intro h' F' N'; (try k_sweep)))
  k_with "exec While BoolOp" => (k_dflt (k_extra "my while"))
  k_with "state" => first | exact ⟨Int.le_refl _, Int.natCast_nonneg _⟩ | exact nd_turn Z (by assumption) (by assumption) (by first | assumption | omega) (by assumption)
  k_with "measure" => (have := nd_turn Z (by assumption) (by assumption) (by first | assumption | omega) (by assumption); omega)
  k_with "my execs" => (first | (have e9 := nd_end Z (by assumption) (by assumption) (by first | assumption | omega) (by assumption); subst e9) | (have e9 := nd_out Z (by assumption) (by assumption); subst e9))
  k_with "my while" => k_while (fun (_ : List Int) j => (0 : Int) ≤ j ∧ j ≤ (z : Int)) (fun _ j => ((z : Int) - j).toNat) "begin"
  (repeat' (first | (k_unfold; (try dsimp only)) | (k_end; wrow_close) | walk1 | (dsimp only; walk1) | (leave1; walk_say "STEP leave1"; try dsimp only) | (k_unmd; k_unfold; (try dsimp only)) | fail "no step"))
  all_goals (((refine' ret_nan (by assumption) ?e1 ?e2 ?e3; (case e1 => k_asm); (case e2 => k_asm); (case e3 => ((intro _ h9; repeat (first | exact h9 | apply List.mem_cons_of_mem)))))))

/-- a text's signs as ints -/
abbrev sgs (l : List Nat) : List Int := l.map fun (c : Nat) => (c : Int)
/-- the number of the digits ahead of and behind a point, 400 of these at the most -/
def numD (x y : Str) : Int := dV (sgs (x.cps.toList ++ y.cps.toList.take 400))
def moreD (y : Str) : Int := if 400 < y.length ∧ 53 ≤ sg y 400 then 1 else 0
theorem foldl_lin (cs : List Int) : ∀ a : Int, cs.foldl (fun a c => a * 10 + (c - 48)) a = a * 10 ^ cs.length + dV cs := by
  unfold dV
  induction cs with
  | nil => intro a; simp
  | cons c r ih =>
    intro a
    rw [List.foldl_cons, List.foldl_cons, ih, ih (0 * 10 + (c - 48)), List.length_cons, Int.pow_succ, Int.add_mul, Int.zero_mul, Int.zero_add, Int.mul_assoc, Int.mul_comm 10]
    omega
theorem dV_app (a b : List Int) : dV (a ++ b) = dV a * 10 ^ b.length + dV b := by
  have e : dV (a ++ b) = b.foldl (fun a c => a * 10 + (c - 48)) (dV a) := by unfold dV; rw [List.foldl_append]
  rw [e, foldl_lin]
theorem dV_bound : ∀ cs : List Nat, (∀ c ∈ cs, Dig c) → 0 ≤ dV (sgs cs) ∧ dV (sgs cs) < 10 ^ cs.length := by
  intro cs
  induction cs with
  | nil => intro _; decide
  | cons c r ih =>
    intro h
    have hc := h c (.head _)
    have hr := ih fun d hd => h d (.tail _ hd)
    have e : dV (sgs (c :: r)) = ((c : Int) - 48) * 10 ^ r.length + dV (sgs r) := by
      have := dV_app [(c : Int)] (sgs r)
      rw [List.length_map] at this
      have e0 : dV [(c : Int)] = (c : Int) - 48 := by unfold dV; simp
      rw [e0] at this
      exact this
    rw [e, List.length_cons, Int.pow_succ]
    obtain ⟨c1, c2⟩ := hc
    have p0 : (0 : Int) < 10 ^ r.length := Int.pow_pos (by decide)
    have q1 : 0 ≤ ((c : Int) - 48) * 10 ^ r.length := Int.mul_nonneg (by omega) (Int.le_of_lt p0)
    have q2 : ((c : Int) - 48) * 10 ^ r.length ≤ 9 * 10 ^ r.length := Int.mul_le_mul_of_nonneg_right (by omega) (Int.le_of_lt p0)
    generalize ((c : Int) - 48) * 10 ^ r.length = u at *
    generalize (10 : Int) ^ r.length = v at *
    omega
theorem dV_noughts : ∀ (cs : List Nat), (∀ c ∈ cs, c = 48) → dV (sgs cs) = 0 := by
  intro cs
  induction cs with
  | nil => intro _; rfl
  | cons c r ih =>
    intro h
    have hc := h c (.head _)
    have hr := ih fun d hd => h d (.tail _ hd)
    subst hc
    show dV ((48 : Int) :: sgs r) = 0
    exact hr
theorem dV_bits {cs : List Nat} (h : ∀ c ∈ cs, Dig c) (hl : cs.length ≤ 2000) : Builtin.Int.intBits (dV (sgs cs)) ≤ 8000 := by
  obtain ⟨h0, h1⟩ := dV_bound cs h
  refine intBits_le_iff.mpr ?_
  have e : ((dV (sgs cs)).natAbs : Int) = dV (sgs cs) := by omega
  have h2 : (dV (sgs cs)).natAbs < 10 ^ cs.length := by
    have : ((dV (sgs cs)).natAbs : Int) < ((10 ^ cs.length : Nat) : Int) := by rw [e]; simpa using h1
    exact Int.ofNat_lt.mp this
  refine Nat.lt_of_lt_of_le h2 (Nat.le_trans (Nat.pow_le_pow_right (by decide) hl) ?_)
  decide +kernel
theorem codes_is (x : Str) : KStt.codes x = sgs x.cps.toList := rfl
theorem cat_cps (x y : Str) : (x ++ y).cps.toList = x.cps.toList ++ y.cps.toList := by
  show (x.cps ++ y.cps).toList = _
  simp
theorem sg_get {x : Str} {k : Nat} (h : k < x.length) : x.cps.toList[k]? = some (sg x k) := by
  unfold sg
  rw [List.getD_eq_getElem?_getD, List.getElem?_eq_getElem (by rw [len_cps]; exact h)]
  rfl
theorem kept_cps (x y : Str) (z : Nat) : (Txt.slice x (some (z : Int)) none ++ Txt.slice y none (some 400)).cps.toList = x.cps.toList.drop z ++ y.cps.toList.take 400 := by
  rw [cat_cps, slice_from, show (400 : Int) = ((400 : Nat) : Int) from rfl, slice_upto]
theorem numD_kept {x y : Str} {z : Nat} (Z : Noughts x z) : dV (KStt.codes (Txt.slice x (some (z : Int)) none ++ Txt.slice y none (some 400))) = numD x y := by
  rw [codes_is, kept_cps]
  unfold numD
  have e : x.cps.toList ++ y.cps.toList.take 400 = x.cps.toList.take z ++ (x.cps.toList.drop z ++ y.cps.toList.take 400) := by
    rw [← List.append_assoc, List.take_append_drop]
  rw [e]
  have q : sgs (x.cps.toList.take z ++ (x.cps.toList.drop z ++ y.cps.toList.take 400)) = sgs (x.cps.toList.take z) ++ sgs (x.cps.toList.drop z ++ y.cps.toList.take 400) := List.map_append
  have h0 : dV (sgs (x.cps.toList.take z)) = 0 := by
    refine dV_noughts _ fun c hc => ?_
    obtain ⟨k, hk⟩ := List.mem_iff_getElem?.mp hc
    rw [List.getElem?_take] at hk
    split at hk
    · rename_i hkz
      have := Z.le
      rw [sg_get (by omega)] at hk
      rw [← Option.some.inj hk]
      exact Z.all k hkz
    · cases hk
  rw [q, dV_app, h0, Int.zero_mul, Int.zero_add]
theorem kept_dig {x y : Str} {z : Nat} (dx : ∀ c ∈ x.cps.toList, Dig c) (dy : ∀ c ∈ y.cps.toList, Dig c) : ∀ c ∈ (Txt.slice x (some (z : Int)) none ++ Txt.slice y none (some 400)).cps.toList, Dig c := by
  intro c hc
  rw [kept_cps] at hc
  rcases List.mem_append.mp hc with h | h
  · exact dx c (List.mem_of_mem_drop h)
  · exact dy c (List.mem_of_mem_take h)
theorem more_slice (y : Str) : (Txt.slice y (some 400) (some (400 + 1))).cps.toList = (y.cps.toList.drop 400).take 1 := by
  rw [show (400 : Int) = ((400 : Nat) : Int) from rfl, show ((400 : Nat) : Int) + 1 = ((401 : Nat) : Int) from rfl, slice_nat y 400 401 (by decide)]
theorem more_lt {y : Str} (h : (Txt.slice y (some 400) (some (400 + 1))).cps.toList < (Str.ofString "5").cps.toList) : moreD y = 0 := by
  rw [more_slice, show (Str.ofString "5").cps.toList = [53] from by decide +kernel] at h
  unfold moreD
  refine if_neg fun q => ?_
  have e : (y.cps.toList.drop 400).take 1 = [sg y 400] := by
    have hg := sg_get q.1
    have hl : 400 < y.cps.toList.length := by rw [len_cps]; exact q.1
    rw [List.drop_eq_getElem_cons hl, List.take_succ_cons, List.take_zero]
    rw [List.getElem?_eq_getElem hl] at hg
    rw [Option.some.inj hg]
  rw [e] at h
  have h2 := q.2
  rw [List.cons_lt_cons_iff] at h
  rcases h with h | ⟨_, h⟩
  · omega
  · simp at h
theorem more_ge {y : Str} (h : ¬ (Txt.slice y (some 400) (some (400 + 1))).cps.toList < (Str.ofString "5").cps.toList) : moreD y = 1 := by
  rw [more_slice, show (Str.ofString "5").cps.toList = [53] from by decide +kernel] at h
  unfold moreD
  rcases Nat.lt_or_ge 400 y.length with hl | hl
  · have e : (y.cps.toList.drop 400).take 1 = [sg y 400] := by
      have hg := sg_get hl
      have hl' : 400 < y.cps.toList.length := by rw [len_cps]; exact hl
      rw [List.drop_eq_getElem_cons hl', List.take_succ_cons, List.take_zero]
      rw [List.getElem?_eq_getElem hl'] at hg
      rw [Option.some.inj hg]
    rw [e] at h
    refine if_pos ⟨hl, ?_⟩
    rw [List.cons_lt_cons_iff] at h
    rcases Nat.lt_or_ge (sg y 400) 53 with q | q
    · exact absurd (Or.inl q) h
    · exact q
  · exfalso
    apply h
    rw [List.drop_of_length_le (by rw [len_cps]; exact hl)]
    simp

theorem kept_len (x y : Str) (z : Nat) : (Txt.slice x (some (z : Int)) none ++ Txt.slice y none (some 400)).length ≤ x.length + 400 := by
  rw [← len_cps, kept_cps, List.length_append, List.length_drop, List.length_take, len_cps]
  omega
theorem y400_len (y : Str) : (Txt.slice y none (some 400)).length = min 400 y.length := by
  rw [← len_cps, show (400 : Int) = ((400 : Nat) : Int) from rfl, slice_upto]
  show (y.cps.toList.take 400).length = _
  rw [List.length_take, len_cps]
theorem nd_endA {x : Str} {z : Nat} {j : Int} (Z : Noughts x z) (h : (Txt.item x j == Str.ofString "0") = false) (h1 : 0 ≤ j) (h2 : j ≤ (z : Int)) (h3 : j < (x.length : Int)) : j = (z : Int) := nd_end Z h1 h2 h3 h
theorem nd_outA {x : Str} {z : Nat} {j : Int} (Z : Noughts x z) (h3 : ¬ j < (x.length : Int)) (h2 : j ≤ (z : Int)) : j = (z : Int) := nd_out Z h2 h3
theorem fin_end {x y : Str} {z : Nat} {e : Int} (Z : Noughts x z) (he : moreD y = e) :
    ((numF (dV (KStt.codes (Txt.slice x (some (z : Int)) none ++ Txt.slice y none (some 400))) + e) (10 ^ (((Txt.slice y none (some 400)).length : Nat) : Int).toNat)).1,
     (numF (dV (KStt.codes (Txt.slice x (some (z : Int)) none ++ Txt.slice y none (some 400))) + e) (10 ^ (((Txt.slice y none (some 400)).length : Nat) : Int).toNat)).2) = numF (numD x y + moreD y) (10 ^ min 400 y.length) := by
  rw [numD_kept Z, he, y400_len, Int.toNat_natCast]
theorem numdig_fin (w mean mg mb) (x y : Str) (z : Nat) (tx ty : Tok) (news : Led) (Z : Noughts x z) (hx : x.length ≤ 1000) (hy : y.length ≤ 1000) (dx : ∀ c ∈ x.cps.toList, Dig c) (dy : ∀ c ∈ y.cps.toList, Dig c)
    (hbig : ¬ 400 < (x.length : Int) - (z : Int)) :
    Spec w mean mg mb 5 144 [.str x tx, .str y ty] news (TupR (numF (numD x y + moreD y) (10 ^ min 400 y.length)) news) := by
  have kd := kept_dig (z := z) dx dy
  have kl : (Txt.slice x (some (z : Int)) none ++ Txt.slice y none (some 400)).length ≤ 5000 := Nat.le_trans (kept_len x y z) (by omega)
  have yl := y400_len y
  have kb : Builtin.Int.intBits (dV (KStt.codes (Txt.slice x (some (z : Int)) none ++ Txt.slice y none (some 400)))) ≤ 8000 := dV_bits kd (by rw [len_cps]; have := kept_len x y z; omega)
  have kb1 : Builtin.Int.intBits (dV (KStt.codes (Txt.slice x (some (z : Int)) none ++ Txt.slice y none (some 400))) + 1) ≤ 30000 := Nat.le_trans (bits_add kb (show Builtin.Int.intBits 1 ≤ 1 by decide)) (by decide)
  have kb0 : Builtin.Int.intBits (dV (KStt.codes (Txt.slice x (some (z : Int)) none ++ Txt.slice y none (some 400))) + 0) ≤ 30000 := Nat.le_trans (bits_add kb (show Builtin.Int.intBits 0 ≤ 1 by decide)) (by decide)
  have pp : (0 : Int) < 10 ^ (((Txt.slice y none (some 400)).length : Nat) : Int).toNat := Int.pow_pos (by decide)
  have pb : Builtin.Int.intBits ((10 : Int) ^ (((Txt.slice y none (some 400)).length : Nat) : Int).toNat) ≤ 8000 := pow_bits (c := 10) (n := 400) (by decide) (by decide) (by omega) (by decide +kernel)
  have pn : (((Txt.slice y none (some 400)).length : Nat) : Int) ≤ 1000000 := by omega
  unfold Spec; k_fill; intro dp un gd cn cs a ccd cl outer A₀ base h₀ L m s Q E B F X N T hk hdp hun hret
  ((refine wpAny_call ?_; k_dflt (refine' code_def ?k1 ?k2 ?k3 ?k4 ?k5 ?kA ?kF ?kK ?k6 ?k7 ?k8 ?k9 ?kB ?_ ?c2 ?c3 ?c4 ?c5; (case kA => exact rfl); (case kF => exact rfl); (case kK => assumption); (case k1 => k_asm); (case k2 => k_asm); (case k3 => k_asm); (case k4 => k_asm); (case k5 => k_asm); (case k6 => k_is); (case k7 => k_is); (case k8 => ktr_room); (case k9 => first | exact BindsTo.of_eq rfl | exact binds_K (by k_in) rfl (by k_is) rfl rfl rfl); (case c5 => decide); (case kB => exact locs rfl); (case c2 => exact rfl); (case c3 => exact rfl); (case c4 => exact rfl); k_whole; intro g' L' h' FG' F' N' B' X' T'; (try dsimp only); (try k_fold))))
  k_with_none
  k_with "binaryOp Mod int int" => (k_dflt (k_extra "my mod"))
  k_with "binaryOp Pow int int" => (k_dflt (k_extra "my pow"))
  k_with "exec While Compare cons nil" => (k_dflt (k_extra "my while"))
  k_with "call ref" => (k_dflt (k_extra "my call"))
  k_with "eval Call Name" => ((k_here; (fail_if_success (with_reducible show wpAny _ _ (eval (PySem.Expr.Call (PySem.Expr.Name (PySem.Str.ofString "abs") _) _ _ _) _) _ _ _)); (fail_if_success (with_reducible show wpAny _ _ (eval (PySem.Expr.Call (PySem.Expr.Name (PySem.Str.ofString "len") _) _ _ _) _) _ _ _)); (fail_if_success (with_reducible show wpAny _ _ (eval (PySem.Expr.Call (PySem.Expr.Name (PySem.Str.ofString "range") _) _ _ _) _) _ _ _)); (fail_if_success (with_reducible show wpAny _ _ (eval (PySem.Expr.Call (PySem.Expr.Name (PySem.Str.ofString "max") _) _ _ _) _) _ _ _)); (fail_if_success (with_reducible show wpAny _ _ (eval (PySem.Expr.Call (PySem.Expr.Name (PySem.Str.ofString "min") _) _ _ _) _) _ _ _)); (fail_if_success (with_reducible show wpAny _ _ (eval (PySem.Expr.Call (PySem.Expr.Name (PySem.Str.ofString "int") _) _ _ _) _) _ _ _)); (fail_if_success (with_reducible show wpAny _ _ (eval (PySem.Expr.Call (PySem.Expr.Name (PySem.Str.ofString "str") _) _ _ _) _) _ _ _)); (with_reducible show wpAny _ _ (eval (PySem.Expr.Call (PySem.Expr.Name _ _) _ _ _) (envOf _ _ _ _ _)) _ _ _); refine Call_ ?_))
  k_with "execs cons" => (k_dflt (k_extra "my execs"))
  k_with "subscriptTail Name Constant ref int" => ((k_here; k_dflt (refine' item_tupleT ?t ?a ?b ?c ?d ?_; (case t => (refine' News.isTup ?tn ?tm; (case tn => k_asm); (case tm => k_mem))); (case a => decide); (case b => decide); (case c => rfl); (case d => rfl); k_whole)))
  k_with "binaryOp FloorDiv int int" => (first | k_dflt (k_extra "my div") | (with_reducible refine' floordiv_int ?xa ?_ (Or.inl (noPy ?xb ?xc)); (case xa => first | assumption | omega); (case xb => bits_by_make); (case xc => decide)))
  k_with "compareOp NotEq ref ref" => (k_dflt (refine' tup_ne ?xN ?xa ?xb ?xu ?xe ?_; (case xN => k_asm); (case xa => k_mem); (case xb => k_mem); (case xu => ktr_units); (case xe => first | with_reducible rfl | k_extra "my eq"); (((rename News _ _ _ _ => N8); (have N7 := news_drop2 N8); clear N8))))
  k_with "compareOp Eq ref ref" => (k_dflt (refine' tup_eq ?xN ?xa ?xb ?xu ?xe ?_; (case xN => k_asm); (case xa => k_mem); (case xb => k_mem); (case xu => ktr_units); (case xe => first | with_reducible rfl | k_extra "my eq"); (((rename News _ _ _ _ => N8); (have N7 := news_drop2 N8); clear N8))))
  k_with "compareOp Eq ref ref" => (k_dflt (refine' tup_eqK ?xF ?xX ?xN ?xa ?xb ?xu ?xe ?_; (case xF => k_asm); (case xX => k_asm); (case xN => k_asm); (case xa => k_is); (case xb => k_mem); (case xu => ktr_units); (case xe => first | with_reducible rfl | k_extra "my eq")))
  k_with "compareOp NotEq ref ref" => (k_dflt (refine' tup_neK ?xF ?xX ?xN ?xa ?xb ?xu ?xe ?_; (case xF => k_asm); (case xX => k_asm); (case xN => k_asm); (case xa => k_is); (case xb => k_mem); (case xu => ktr_units); (case xe => first | with_reducible rfl | k_extra "my eq")))
  k_with "subscriptTail Name Constant ref int" => ((k_here; k_dflt (refine' lst_item (vs := [_, _]) ?t ?a ?b ?c ?d ?_ ?e; (case t => k_asm); (case a => k_mem); (case b => decide); (case c => decide); (case d => exact rfl); (case e => with_unfolding_all rfl); k_whole)))
  k_with "setItem ref int" => ((k_here; k_dflt (first | ((with_reducible show wpAny _ _ (setItem (Value.ref _) (Value.int 0 _) _) _ _ _); refine' src_set0 ?t ?a ?b ?_; (case t => k_asm); (case a => k_asm); (case b => assumption); k_whole) | ((with_reducible show wpAny _ _ (setItem (Value.ref _) (Value.int 1 _) _) _ _ _); refine' src_set1 ?t ?a ?b ?_; (case t => k_asm); (case a => k_asm); (case b => assumption); k_whole)); intro h' F' N'; (try k_sweep)))
  k_with "exec While BoolOp" => (k_dflt (k_extra "my while"))
  k_with "state" => first | exact ⟨Int.le_refl _, Int.natCast_nonneg _⟩ | exact nd_turn Z (by assumption) (by assumption) (by first | assumption | omega) (by assumption)
  k_with "measure" => (have := nd_turn Z (by assumption) (by assumption) (by first | assumption | omega) (by assumption); omega)
  k_with "my execs" => (first | (have e9 := nd_endA Z (by with_reducible assumption) (by assumption) (by assumption) (by first | assumption | omega); subst e9) | (have e9 := nd_outA Z (by with_reducible assumption) (by assumption); subst e9))
  k_with "my while" => k_while (fun (_ : List Int) j => (0 : Int) ≤ j ∧ j ≤ (z : Int)) (fun _ j => ((z : Int) - j).toNat) "begin"
  k_with "my pow" => refine pow_int_small (Int.natCast_nonneg _) pn (by decide) ?_
  k_with "my call" => first
    | ((with_reducible show wpAny _ _ (call (Value.ref 130) _) _ _ _); ((rename News _ _ _ _ => N8); (refine' Spec.useInt (whole_spec _ _ _ _ _ _ _ kd kl) ?k1 ?k2 ?k3 N8 ?k5 ?kK ?kd ?ku ?_; (case k1 => k_asm); (case k2 => k_asm); (case k3 => k_asm); (case k5 => k_asm); (case kK => first | exact rfl | assumption); (case kd => ktr_room); (case ku => ktr_units); intro u9 h9 tk9 F9 N9; (try dsimp only); (try k_sweep); (try k_unmd); (try k_fold))))
    | ((with_reducible show wpAny _ _ (call (Value.ref 39) _) _ _ _); ((rename News _ _ _ _ => N8); (refine' Spec.useTup (number_of_spec _ _ _ _ _ _ _ _ pp (by with_reducible assumption) pb _) ?k1 ?k2 ?k3 N8 ?k5 ?kK ?kd ?ku ?_; (case k1 => k_asm); (case k2 => k_asm); (case k3 => k_asm); (case k5 => k_asm); (case kK => first | exact rfl | assumption); (case kd => ktr_room); (case ku => ktr_units); intro q9 t9 u9 h9 tk9 F9 N9 l9; (try dsimp only [AllLt] at l9); (try dsimp only); (try k_sweep); (try k_unmd); (try k_fold))))
  (repeat' (first | (k_unfold; (try dsimp only)) | (k_end; wrow_close) | walk1 | (dsimp only; walk1) | (leave1; walk_say "STEP leave1"; try dsimp only) | (k_unmd; k_unfold; (try dsimp only)) | fail "no step"))
  all_goals (((refine' ret_tup (by assumption) ?e1 ?e2 ?e3 ?e4 ?e5 ?_; (case e1 => k_asm); (case e2 => k_asm); (case e3 => ((intro _ h9; repeat (first | exact h9 | apply List.mem_cons_of_mem)))); (case e4 => k_mem); (case e5 => (first | assumption | exact lt_sub1 (by assumption) | exact lt_sub2 (by assumption) | exact lt_sub3 (by assumption) | exact ktn_ltOf (by assumption) | exact ktn_ltOf (And.right (by assumption)) | exact ktn_ltOf (And.right (And.right (by assumption))) | exact ktn_ltOf (And.right (And.right (And.right (by assumption)))) | exact ktn_ltOf (And.right (And.right (And.right (And.right (by assumption))))))))))
  all_goals first | exact fin_end Z (more_lt (by assumption)) | exact fin_end Z (more_ge (by assumption))

/-- an answer: a tuple of two ints, new or a constant of the top -/
def ValR (w : World) (p : Int × Int) (news : Led) (r : Value) (n' : Led) : Prop := (∃ q t u, r = .ref q ∧ (q, tup p.1 p.2 t u) :: news = n') ∨ (∃ k t u, r = .ref k ∧ (hd.heap_39 w.params).lookup k = some (tup p.1 p.2 t u) ∧ news = n')
theorem ret_valN {w : World} {h₀ h' : Heap} {L : Addr} {m : Str → Option Value} {news nn : Led} {s : Shared} {Q : Value → Shared → Prop} {p : Int × Int} {x' y' : Int} {q : Addr} {t u : Tok} {tk' : Nat}
    (hret : ∀ r news' h' tk', Fr h₀ L h' m → News h₀ L h' news' → ValR w p news r news' → Q r { s with heap := h', toks := tk' })
    (F : Fr h₀ L h' m) (N : News h₀ L h' nn) (hs : ∀ p ∈ news, p ∈ nn) (hq : (q, tup x' y' t u) ∈ nn) (e : (x', y') = p) : Q (.ref q) { s with heap := h', toks := tk' } := by
  subst e
  refine hret _ ((q, tup x' y' t u) :: news) _ _ F (fun p hp => ?_) (.inl ⟨q, t, u, rfl, rfl⟩)
  rcases List.mem_cons.mp hp with rfl | hp
  · exact N _ hq
  · exact N p (hs p hp)
theorem ret_valK {w : World} {h₀ h' : Heap} {L k : Addr} {m : Str → Option Value} {news nn : Led} {s : Shared} {Q : Value → Shared → Prop} {p : Int × Int} {x' y' : Int} {t u : Tok} {tk' : Nat}
    (hret : ∀ r news' h' tk', Fr h₀ L h' m → News h₀ L h' news' → ValR w p news r news' → Q r { s with heap := h', toks := tk' })
    (F : Fr h₀ L h' m) (N : News h₀ L h' nn) (hs : ∀ p ∈ news, p ∈ nn) (hk : (hd.heap_39 w.params).lookup k = some (tup x' y' t u)) (e : (x', y') = p) : Q (.ref k) { s with heap := h', toks := tk' } := by
  subst e
  exact hret _ news _ _ F (fun p hp => N p (hs p hp)) (.inr ⟨k, t, u, rfl, hk, rfl⟩)

theorem nan_val {w : World} {mean : ExcName → Option Value} {mg mb : Str → Option Value} {d : Nat} {f : Addr} {vs : List Value} {news : Led} {k : Addr} {p : Int × Int} {t u : Tok} (hk : (hd.heap_39 w.params).lookup k = some (tup p.1 p.2 t u))
    (S : Spec w mean mg mb d f vs news (NanR k news)) : Spec w mean mg mb d f vs news (ValR w p news) := by
  unfold Spec at *
  intro dp un gd cn cs a ccd cl outer A₀ base h₀ L m s Q E B F X N T hk' hdp hun hret
  exact S dp un gd cn cs a ccd cl outer A₀ base h₀ L m s Q E B F X N T hk' hdp hun fun r n' h' tk' F' N' hp => hret r n' h' tk' F' N' (.inr ⟨k, t, u, hp.1, hk, hp.2⟩)
theorem tup_val {w : World} {mean : ExcName → Option Value} {mg mb : Str → Option Value} {d : Nat} {f : Addr} {vs : List Value} {news : Led} {p : Int × Int}
    (S : Spec w mean mg mb d f vs news (TupR p news)) : Spec w mean mg mb d f vs news (ValR w p news) := by
  unfold Spec at *
  intro dp un gd cn cs a ccd cl outer A₀ base h₀ L m s Q E B F X N T hk' hdp hun hret
  refine S dp un gd cn cs a ccd cl outer A₀ base h₀ L m s Q E B F X N T hk' hdp hun fun r n' h' tk' F' N' hp => hret r n' h' tk' F' N' ?_
  obtain ⟨q, t, u, hr, hn, _⟩ := hp
  exact .inl ⟨q, t, u, hr, hn⟩
theorem inf_look (P : Params) : ∃ t u, (hd.heap_39 P).lookup 16 = some (tup 1 0 t u) := ⟨_, _, rfl⟩
theorem nan_look (P : Params) : ∃ t u, (hd.heap_39 P).lookup 15 = some (tup 0 0 t u) := ⟨_, _, rfl⟩

theorem negated_specK (w mean mg mb) (x y : Int) (k : Addr) (t u : Tok) (news : Led) (ha : (hd.heap_39 w.params).lookup k = some (tup x y t u)) : Spec w mean mg mb 1 53 [.ref k] news (TupR (-x, y) news) := by
  unfold Spec; k_fill; intro dp un gd cn cs a ccd cl outer A₀ base h₀ L m s Q E B F X N T₀ hk hdp hun hret
  ((refine wpAny_call ?_; k_dflt (refine' code_def ?k1 ?k2 ?k3 ?k4 ?k5 ?kA ?kF ?kK ?k6 ?k7 ?k8 ?k9 ?kB ?_ ?c2 ?c3 ?c4 ?c5; (case kA => exact rfl); (case kF => exact rfl); (case kK => assumption); (case k1 => k_asm); (case k2 => k_asm); (case k3 => k_asm); (case k4 => k_asm); (case k5 => k_asm); (case k6 => k_is); (case k7 => k_is); (case k8 => ktr_room); (case k9 => first | exact BindsTo.of_eq rfl | exact binds_K (by k_in) rfl (by k_is) rfl rfl rfl); (case c5 => decide); (case kB => exact locs rfl); (case c2 => exact rfl); (case c3 => exact rfl); (case c4 => exact rfl); k_whole; intro g' L' h' FG' F' N' B' X' T'; (try dsimp only); (try k_fold))))
  k_with_none
  k_with "binaryOp Mod int int" => (k_dflt (k_extra "my mod"))
  k_with "binaryOp Pow int int" => (k_dflt (k_extra "my pow"))
  k_with "exec While Compare cons nil" => (k_dflt (k_extra "my while"))
  k_with "call ref" => (k_dflt (k_extra "my call"))
  k_with "eval Call Name" => ((k_here; (fail_if_success (with_reducible show wpAny _ _ (eval (PySem.Expr.Call (PySem.Expr.Name (PySem.Str.ofString "abs") _) _ _ _) _) _ _ _)); (fail_if_success (with_reducible show wpAny _ _ (eval (PySem.Expr.Call (PySem.Expr.Name (PySem.Str.ofString "len") _) _ _ _) _) _ _ _)); (fail_if_success (with_reducible show wpAny _ _ (eval (PySem.Expr.Call (PySem.Expr.Name (PySem.Str.ofString "range") _) _ _ _) _) _ _ _)); (fail_if_success (with_reducible show wpAny _ _ (eval (PySem.Expr.Call (PySem.Expr.Name (PySem.Str.ofString "max") _) _ _ _) _) _ _ _)); (fail_if_success (with_reducible show wpAny _ _ (eval (PySem.Expr.Call (PySem.Expr.Name (PySem.Str.ofString "min") _) _ _ _) _) _ _ _)); (fail_if_success (with_reducible show wpAny _ _ (eval (PySem.Expr.Call (PySem.Expr.Name (PySem.Str.ofString "int") _) _ _ _) _) _ _ _)); (fail_if_success (with_reducible show wpAny _ _ (eval (PySem.Expr.Call (PySem.Expr.Name (PySem.Str.ofString "str") _) _ _ _) _) _ _ _)); (with_reducible show wpAny _ _ (eval (PySem.Expr.Call (PySem.Expr.Name _ _) _ _ _) (envOf _ _ _ _ _)) _ _ _); refine Call_ ?_))
  k_with "execs cons" => (k_dflt (k_extra "my execs"))
  k_with "subscriptTail Name Constant ref int" => ((k_here; k_dflt (refine' item_tupleT ?t ?a ?b ?c ?d ?_; (case t => (refine' News.isTup ?tn ?tm; (case tn => k_asm); (case tm => k_mem))); (case a => decide); (case b => decide); (case c => rfl); (case d => rfl); k_whole)))
  k_with "binaryOp FloorDiv int int" => (first | k_dflt (k_extra "my div") | (with_reducible refine' floordiv_int ?xa ?_ (Or.inl (noPy ?xb ?xc)); (case xa => first | assumption | omega); (case xb => bits_by_make); (case xc => decide)))
  k_with "compareOp NotEq ref ref" => (k_dflt (refine' tup_ne ?xN ?xa ?xb ?xu ?xe ?_; (case xN => k_asm); (case xa => k_mem); (case xb => k_mem); (case xu => ktr_units); (case xe => first | with_reducible rfl | k_extra "my eq"); (((rename News _ _ _ _ => N8); (have N7 := news_drop2 N8); clear N8))))
  k_with "compareOp Eq ref ref" => (k_dflt (refine' tup_eq ?xN ?xa ?xb ?xu ?xe ?_; (case xN => k_asm); (case xa => k_mem); (case xb => k_mem); (case xu => ktr_units); (case xe => first | with_reducible rfl | k_extra "my eq"); (((rename News _ _ _ _ => N8); (have N7 := news_drop2 N8); clear N8))))
  k_with "compareOp Eq ref ref" => (k_dflt (refine' tup_eqK ?xF ?xX ?xN ?xa ?xb ?xu ?xe ?_; (case xF => k_asm); (case xX => k_asm); (case xN => k_asm); (case xa => k_is); (case xb => k_mem); (case xu => ktr_units); (case xe => first | with_reducible rfl | k_extra "my eq")))
  k_with "compareOp NotEq ref ref" => (k_dflt (refine' tup_neK ?xF ?xX ?xN ?xa ?xb ?xu ?xe ?_; (case xF => k_asm); (case xX => k_asm); (case xN => k_asm); (case xa => k_is); (case xb => k_mem); (case xu => ktr_units); (case xe => first | with_reducible rfl | k_extra "my eq")))
  k_with "subscriptTail Name Constant ref int" => ((k_here; k_dflt (refine' lst_item (vs := [_, _]) ?t ?a ?b ?c ?d ?_ ?e; (case t => k_asm); (case a => k_mem); (case b => decide); (case c => decide); (case d => exact rfl); (case e => with_unfolding_all rfl); k_whole)))
  k_with "setItem ref int" => ((k_here; k_dflt (first | ((with_reducible show wpAny _ _ (setItem (Value.ref _) (Value.int 0 _) _) _ _ _); refine' src_set0 ?t ?a ?b ?_; (case t => k_asm); (case a => k_asm); (case b => assumption); k_whole) | ((with_reducible show wpAny _ _ (setItem (Value.ref _) (Value.int 1 _) _) _ _ _); refine' src_set1 ?t ?a ?b ?_; (case t => k_asm); (case a => k_asm); (case b => assumption); k_whole)); intro h' F' N'; (try k_sweep)))
  k_with "exec While BoolOp" => (k_dflt (k_extra "my while"))
  k_with "subscriptTail" => (refine' topTup_K ?F ?X ha ?a ?b ?c ?d ?_; (case F => k_asm); (case X => k_asm); (case a => decide); (case b => decide); (case c => rfl); (case d => rfl))
  (repeat' (first | (k_unfold; (try dsimp only)) | (k_end; wrow_close) | walk1 | (dsimp only; walk1) | (leave1; walk_say "STEP leave1"; try dsimp only) | (k_unmd; k_unfold; (try dsimp only)) | fail "no step"))
  all_goals (((refine' ret_tup (by assumption) ?e1 ?e2 ?e3 ?e4 ?e5 ?_; (case e1 => k_asm); (case e2 => k_asm); (case e3 => ((intro _ h9; repeat (first | exact h9 | apply List.mem_cons_of_mem)))); (case e4 => k_mem); (case e5 => (first | assumption | exact lt_sub1 (by assumption) | exact lt_sub2 (by assumption) | exact lt_sub3 (by assumption) | exact ktn_ltOf (by assumption) | exact ktn_ltOf (And.right (by assumption)) | exact ktn_ltOf (And.right (And.right (by assumption))) | exact ktn_ltOf (And.right (And.right (And.right (by assumption)))) | exact ktn_ltOf (And.right (And.right (And.right (And.right (by assumption))))))))))
  all_goals rfl


theorem read_01 (w mean mg mb) (x T : Str) (tx : Tok) (news : Led) (e : Nat) (p : Int × Int) (hl : T.length ≤ 3000)
    (tr : ∀ tx, Spec w mean mg mb 1 123 [.str x tx] news (StrR T news))
    (hs : (Txt.slice T none (some 1) == Str.ofString "-") = false)
    (D1 : DigRun T 0 e)
    (hp : (Txt.slice T (some (e : Int)) (some ((e : Int) + 1)) == Str.ofString ".") = true)
    (D2 : DigRun T (e + 1) T.length)
    (hlt : ¬ (T.length : Int) < (T.length : Int))
    (hne : ((Txt.slice T (some 0) (some (e : Int))) ++ (Txt.slice T (some ((e : Int) + 1)) (some (T.length : Int))) == Str.ofString "") = false)
    (nd : ∀ n t1 t2, Spec w mean mg mb 5 144 [.str (Txt.slice T (some 0) (some (e : Int))) t1, .str (Txt.slice T (some ((e : Int) + 1)) (some (T.length : Int))) t2] n (ValR w p n)) :
    Spec w mean mg mb 7 137 [.str x tx] news (ValR w p news) := by
  unfold Spec; k_fill; intro dp un gd cn cs a ccd cl outer A₀ base h₀ L m s Q E B F X N T₀ hk hdp hun hret
  ((refine wpAny_call ?_; k_dflt (refine' code_def ?k1 ?k2 ?k3 ?k4 ?k5 ?kA ?kF ?kK ?k6 ?k7 ?k8 ?k9 ?kB ?_ ?c2 ?c3 ?c4 ?c5; (case kA => exact rfl); (case kF => exact rfl); (case kK => assumption); (case k1 => k_asm); (case k2 => k_asm); (case k3 => k_asm); (case k4 => k_asm); (case k5 => k_asm); (case k6 => k_is); (case k7 => k_is); (case k8 => ktr_room); (case k9 => first | exact BindsTo.of_eq rfl | exact binds_K (by k_in) rfl (by k_is) rfl rfl rfl); (case c5 => decide); (case kB => exact locs rfl); (case c2 => exact rfl); (case c3 => exact rfl); (case c4 => exact rfl); k_whole; intro g' L' h' FG' F' N' B' X' T'; (try dsimp only); (try k_fold))))
  k_with_none
  k_with "binaryOp Mod int int" => (k_dflt (k_extra "my mod"))
  k_with "binaryOp Pow int int" => (k_dflt (k_extra "my pow"))
  k_with "exec While Compare cons nil" => (k_dflt (k_extra "my while"))
  k_with "call ref" => (k_dflt (k_extra "my call"))
  k_with "eval Call Name" => ((k_here; (fail_if_success (with_reducible show wpAny _ _ (eval (PySem.Expr.Call (PySem.Expr.Name (PySem.Str.ofString "abs") _) _ _ _) _) _ _ _)); (fail_if_success (with_reducible show wpAny _ _ (eval (PySem.Expr.Call (PySem.Expr.Name (PySem.Str.ofString "len") _) _ _ _) _) _ _ _)); (fail_if_success (with_reducible show wpAny _ _ (eval (PySem.Expr.Call (PySem.Expr.Name (PySem.Str.ofString "range") _) _ _ _) _) _ _ _)); (fail_if_success (with_reducible show wpAny _ _ (eval (PySem.Expr.Call (PySem.Expr.Name (PySem.Str.ofString "max") _) _ _ _) _) _ _ _)); (fail_if_success (with_reducible show wpAny _ _ (eval (PySem.Expr.Call (PySem.Expr.Name (PySem.Str.ofString "min") _) _ _ _) _) _ _ _)); (fail_if_success (with_reducible show wpAny _ _ (eval (PySem.Expr.Call (PySem.Expr.Name (PySem.Str.ofString "int") _) _ _ _) _) _ _ _)); (fail_if_success (with_reducible show wpAny _ _ (eval (PySem.Expr.Call (PySem.Expr.Name (PySem.Str.ofString "str") _) _ _ _) _) _ _ _)); (with_reducible show wpAny _ _ (eval (PySem.Expr.Call (PySem.Expr.Name _ _) _ _ _) (envOf _ _ _ _ _)) _ _ _); refine Call_ ?_))
  k_with "execs cons" => (k_dflt (k_extra "my execs"))
  k_with "subscriptTail Name Constant ref int" => ((k_here; k_dflt (refine' item_tupleT ?t ?a ?b ?c ?d ?_; (case t => (refine' News.isTup ?tn ?tm; (case tn => k_asm); (case tm => k_mem))); (case a => decide); (case b => decide); (case c => rfl); (case d => rfl); k_whole)))
  k_with "binaryOp FloorDiv int int" => (first | k_dflt (k_extra "my div") | (with_reducible refine' floordiv_int ?xa ?_ (Or.inl (noPy ?xb ?xc)); (case xa => first | assumption | omega); (case xb => bits_by_make); (case xc => decide)))
  k_with "compareOp NotEq ref ref" => (k_dflt (refine' tup_ne ?xN ?xa ?xb ?xu ?xe ?_; (case xN => k_asm); (case xa => k_mem); (case xb => k_mem); (case xu => ktr_units); (case xe => first | with_reducible rfl | k_extra "my eq"); (((rename News _ _ _ _ => N8); (have N7 := news_drop2 N8); clear N8))))
  k_with "compareOp Eq ref ref" => (k_dflt (refine' tup_eq ?xN ?xa ?xb ?xu ?xe ?_; (case xN => k_asm); (case xa => k_mem); (case xb => k_mem); (case xu => ktr_units); (case xe => first | with_reducible rfl | k_extra "my eq"); (((rename News _ _ _ _ => N8); (have N7 := news_drop2 N8); clear N8))))
  k_with "compareOp Eq ref ref" => (k_dflt (refine' tup_eqK ?xF ?xX ?xN ?xa ?xb ?xu ?xe ?_; (case xF => k_asm); (case xX => k_asm); (case xN => k_asm); (case xa => k_is); (case xb => k_mem); (case xu => ktr_units); (case xe => first | with_reducible rfl | k_extra "my eq")))
  k_with "compareOp NotEq ref ref" => (k_dflt (refine' tup_neK ?xF ?xX ?xN ?xa ?xb ?xu ?xe ?_; (case xF => k_asm); (case xX => k_asm); (case xN => k_asm); (case xa => k_is); (case xb => k_mem); (case xu => ktr_units); (case xe => first | with_reducible rfl | k_extra "my eq")))
  k_with "subscriptTail Name Constant ref int" => ((k_here; k_dflt (refine' lst_item (vs := [_, _]) ?t ?a ?b ?c ?d ?_ ?e; (case t => k_asm); (case a => k_mem); (case b => decide); (case c => decide); (case d => exact rfl); (case e => with_unfolding_all rfl); k_whole)))
  k_with "setItem ref int" => ((k_here; k_dflt (first | ((with_reducible show wpAny _ _ (setItem (Value.ref _) (Value.int 0 _) _) _ _ _); refine' src_set0 ?t ?a ?b ?_; (case t => k_asm); (case a => k_asm); (case b => assumption); k_whole) | ((with_reducible show wpAny _ _ (setItem (Value.ref _) (Value.int 1 _) _) _ _ _); refine' src_set1 ?t ?a ?b ?_; (case t => k_asm); (case a => k_asm); (case b => assumption); k_whole)); intro h' F' N'; (try k_sweep)))
  k_with "exec While BoolOp" => (k_dflt (k_extra "my while"))
  k_with "my call" => first
    | ((with_reducible show wpAny _ _ (call (Value.ref 123) _) _ _ _); ((rename News _ _ _ _ => N8); (refine' Spec.useStr (tr _) ?k1 ?k2 ?k3 N8 ?k5 ?kK ?kd ?ku ?_; (case k1 => k_asm); (case k2 => k_asm); (case k3 => k_asm); (case k5 => k_asm); (case kK => first | exact rfl | assumption); (case kd => ktr_room); (case ku => ktr_units); intro u9 h9 tk9 F9 N9; (try dsimp only); (try k_sweep); (try k_unmd); (try k_fold))))
    | ((with_reducible show wpAny _ _ (call (Value.ref 116) [_, Value.int 0 _]) _ _ _); ((rename News _ _ _ _ => N8); (refine' Spec.useInt (digits_end_spec _ _ _ _ T 0 e _ _ _ D1 (Nat.le_trans hl (by decide))) ?k1 ?k2 ?k3 N8 ?k5 ?kK ?kd ?ku ?_; (case k1 => k_asm); (case k2 => k_asm); (case k3 => k_asm); (case k5 => k_asm); (case kK => first | exact rfl | assumption); (case kd => ktr_room); (case ku => ktr_units); intro u9 h9 tk9 F9 N9; (try dsimp only); (try k_sweep); (try k_unmd); (try k_fold))))
    | ((with_reducible show wpAny _ _ (call (Value.ref 116) _) _ _ _); ((rename News _ _ _ _ => N8); (refine' Spec.useInt (digits_end_spec _ _ _ _ T (e + 1) T.length _ _ _ D2 (Nat.le_trans hl (by decide))) ?k1 ?k2 ?k3 N8 ?k5 ?kK ?kd ?ku ?_; (case k1 => k_asm); (case k2 => k_asm); (case k3 => k_asm); (case k5 => k_asm); (case kK => first | exact rfl | assumption); (case kd => ktr_room); (case ku => ktr_units); intro u9 h9 tk9 F9 N9; (try dsimp only); (try k_sweep); (try k_unmd); (try k_fold))))
    | ((with_reducible show wpAny _ _ (call (Value.ref 144) _) _ _ _); ((rename News _ _ _ _ => N8); refine' Spec.use (nd _ _ _) ?k1 ?k2 ?k3 N8 ?k5 ?kK ?kd ?ku ?_; (case k1 => k_asm); (case k2 => k_asm); (case k3 => k_asm); (case k5 => k_asm); (case kK => first | exact rfl | assumption); (case kd => ktr_room); (case ku => ktr_units); intro r9 n9 h9 tk9 F9 N9 hp9; (rcases hp9 with ⟨q9, t9, u9, hr9, hn9⟩ | ⟨k9, t9, u9, hr9, hk9, hn9⟩) <;> (subst hr9; subst hn9; (try dsimp only); (try k_sweep); (try k_unmd); (try k_fold))))
    | ((with_reducible show wpAny _ _ (call (Value.ref 53) _) _ _ _); ((rename News _ _ _ _ => N8); (refine' Spec.useTup (negated_spec _ _ _ _ _ _ _ _ _ _ (by k_mem)) ?k1 ?k2 ?k3 N8 ?k5 ?kK ?kd ?ku ?_; (case k1 => k_asm); (case k2 => k_asm); (case k3 => k_asm); (case k5 => k_asm); (case kK => first | exact rfl | assumption); (case kd => ktr_room); (case ku => ktr_units); intro q9 t9 u9 h9 tk9 F9 N9 l9; (try dsimp only [AllLt] at l9); (try dsimp only); (try k_sweep); (try k_unmd); (try k_fold))))
    | ((with_reducible show wpAny _ _ (call (Value.ref 53) _) _ _ _); ((rename News _ _ _ _ => N8); (refine' Spec.useTup (negated_specK _ _ _ _ _ _ _ _ _ _ (by assumption)) ?k1 ?k2 ?k3 N8 ?k5 ?kK ?kd ?ku ?_; (case k1 => k_asm); (case k2 => k_asm); (case k3 => k_asm); (case k5 => k_asm); (case kK => first | exact rfl | assumption); (case kd => ktr_room); (case ku => ktr_units); intro q9 t9 u9 h9 tk9 F9 N9 l9; (try dsimp only [AllLt] at l9); (try dsimp only); (try k_sweep); (try k_unmd); (try k_fold))))
  (repeat' (first | (k_unfold; (try dsimp only)) | (k_end; wrow_close) | walk1 | (dsimp only; walk1) | (leave1; walk_say "STEP leave1"; try dsimp only) | (k_unmd; k_unfold; (try dsimp only)) | fail "no step"))
  all_goals ((first | (refine' ret_valN (by assumption) ?e1 ?e2 ?e3 ?e4 ?_; (case e1 => k_asm); (case e2 => k_asm); (case e3 => ((intro _ h9; repeat (first | exact h9 | apply List.mem_cons_of_mem)))); (case e4 => k_mem)) | (refine' ret_valK (by assumption) ?e1 ?e2 ?e3 ?e4 ?_; (case e1 => k_asm); (case e2 => k_asm); (case e3 => ((intro _ h9; repeat (first | exact h9 | apply List.mem_cons_of_mem)))); (case e4 => first | assumption | k_is))))
  all_goals rfl

theorem read_00 (w mean mg mb) (x T : Str) (tx : Tok) (news : Led) (e : Nat) (p : Int × Int) (hl : T.length ≤ 3000)
    (tr : ∀ tx, Spec w mean mg mb 1 123 [.str x tx] news (StrR T news))
    (hs : (Txt.slice T none (some 1) == Str.ofString "-") = false)
    (D1 : DigRun T 0 e)
    (hp : (Txt.slice T (some (e : Int)) (some ((e : Int) + 1)) == Str.ofString ".") = false)
    (hlt : ¬ (e : Int) < (T.length : Int))
    (hne : ((Txt.slice T (some 0) (some (e : Int))) ++ (Str.ofString "") == Str.ofString "") = false)
    (nd : ∀ n t1 t2, Spec w mean mg mb 5 144 [.str (Txt.slice T (some 0) (some (e : Int))) t1, .str (Str.ofString "") t2] n (ValR w p n)) :
    Spec w mean mg mb 7 137 [.str x tx] news (ValR w p news) := by
  unfold Spec; k_fill; intro dp un gd cn cs a ccd cl outer A₀ base h₀ L m s Q E B F X N T₀ hk hdp hun hret
  ((refine wpAny_call ?_; k_dflt (refine' code_def ?k1 ?k2 ?k3 ?k4 ?k5 ?kA ?kF ?kK ?k6 ?k7 ?k8 ?k9 ?kB ?_ ?c2 ?c3 ?c4 ?c5; (case kA => exact rfl); (case kF => exact rfl); (case kK => assumption); (case k1 => k_asm); (case k2 => k_asm); (case k3 => k_asm); (case k4 => k_asm); (case k5 => k_asm); (case k6 => k_is); (case k7 => k_is); (case k8 => ktr_room); (case k9 => first | exact BindsTo.of_eq rfl | exact binds_K (by k_in) rfl (by k_is) rfl rfl rfl); (case c5 => decide); (case kB => exact locs rfl); (case c2 => exact rfl); (case c3 => exact rfl); (case c4 => exact rfl); k_whole; intro g' L' h' FG' F' N' B' X' T'; (try dsimp only); (try k_fold))))
  k_with_none
  k_with "binaryOp Mod int int" => (k_dflt (k_extra "my mod"))
  k_with "binaryOp Pow int int" => (k_dflt (k_extra "my pow"))
  k_with "exec While Compare cons nil" => (k_dflt (k_extra "my while"))
  k_with "call ref" => (k_dflt (k_extra "my call"))
  k_with "eval Call Name" => ((k_here; (fail_if_success (with_reducible show wpAny _ _ (eval (PySem.Expr.Call (PySem.Expr.Name (PySem.Str.ofString "abs") _) _ _ _) _) _ _ _)); (fail_if_success (with_reducible show wpAny _ _ (eval (PySem.Expr.Call (PySem.Expr.Name (PySem.Str.ofString "len") _) _ _ _) _) _ _ _)); (fail_if_success (with_reducible show wpAny _ _ (eval (PySem.Expr.Call (PySem.Expr.Name (PySem.Str.ofString "range") _) _ _ _) _) _ _ _)); (fail_if_success (with_reducible show wpAny _ _ (eval (PySem.Expr.Call (PySem.Expr.Name (PySem.Str.ofString "max") _) _ _ _) _) _ _ _)); (fail_if_success (with_reducible show wpAny _ _ (eval (PySem.Expr.Call (PySem.Expr.Name (PySem.Str.ofString "min") _) _ _ _) _) _ _ _)); (fail_if_success (with_reducible show wpAny _ _ (eval (PySem.Expr.Call (PySem.Expr.Name (PySem.Str.ofString "int") _) _ _ _) _) _ _ _)); (fail_if_success (with_reducible show wpAny _ _ (eval (PySem.Expr.Call (PySem.Expr.Name (PySem.Str.ofString "str") _) _ _ _) _) _ _ _)); (with_reducible show wpAny _ _ (eval (PySem.Expr.Call (PySem.Expr.Name _ _) _ _ _) (envOf _ _ _ _ _)) _ _ _); refine Call_ ?_))
  k_with "execs cons" => (k_dflt (k_extra "my execs"))
  k_with "subscriptTail Name Constant ref int" => ((k_here; k_dflt (refine' item_tupleT ?t ?a ?b ?c ?d ?_; (case t => (refine' News.isTup ?tn ?tm; (case tn => k_asm); (case tm => k_mem))); (case a => decide); (case b => decide); (case c => rfl); (case d => rfl); k_whole)))
  k_with "binaryOp FloorDiv int int" => (first | k_dflt (k_extra "my div") | (with_reducible refine' floordiv_int ?xa ?_ (Or.inl (noPy ?xb ?xc)); (case xa => first | assumption | omega); (case xb => bits_by_make); (case xc => decide)))
  k_with "compareOp NotEq ref ref" => (k_dflt (refine' tup_ne ?xN ?xa ?xb ?xu ?xe ?_; (case xN => k_asm); (case xa => k_mem); (case xb => k_mem); (case xu => ktr_units); (case xe => first | with_reducible rfl | k_extra "my eq"); (((rename News _ _ _ _ => N8); (have N7 := news_drop2 N8); clear N8))))
  k_with "compareOp Eq ref ref" => (k_dflt (refine' tup_eq ?xN ?xa ?xb ?xu ?xe ?_; (case xN => k_asm); (case xa => k_mem); (case xb => k_mem); (case xu => ktr_units); (case xe => first | with_reducible rfl | k_extra "my eq"); (((rename News _ _ _ _ => N8); (have N7 := news_drop2 N8); clear N8))))
  k_with "compareOp Eq ref ref" => (k_dflt (refine' tup_eqK ?xF ?xX ?xN ?xa ?xb ?xu ?xe ?_; (case xF => k_asm); (case xX => k_asm); (case xN => k_asm); (case xa => k_is); (case xb => k_mem); (case xu => ktr_units); (case xe => first | with_reducible rfl | k_extra "my eq")))
  k_with "compareOp NotEq ref ref" => (k_dflt (refine' tup_neK ?xF ?xX ?xN ?xa ?xb ?xu ?xe ?_; (case xF => k_asm); (case xX => k_asm); (case xN => k_asm); (case xa => k_is); (case xb => k_mem); (case xu => ktr_units); (case xe => first | with_reducible rfl | k_extra "my eq")))
  k_with "subscriptTail Name Constant ref int" => ((k_here; k_dflt (refine' lst_item (vs := [_, _]) ?t ?a ?b ?c ?d ?_ ?e; (case t => k_asm); (case a => k_mem); (case b => decide); (case c => decide); (case d => exact rfl); (case e => with_unfolding_all rfl); k_whole)))
  k_with "setItem ref int" => ((k_here; k_dflt (first | ((with_reducible show wpAny _ _ (setItem (Value.ref _) (Value.int 0 _) _) _ _ _); refine' src_set0 ?t ?a ?b ?_; (case t => k_asm); (case a => k_asm); (case b => assumption); k_whole) | ((with_reducible show wpAny _ _ (setItem (Value.ref _) (Value.int 1 _) _) _ _ _); refine' src_set1 ?t ?a ?b ?_; (case t => k_asm); (case a => k_asm); (case b => assumption); k_whole)); intro h' F' N'; (try k_sweep)))
  k_with "exec While BoolOp" => (k_dflt (k_extra "my while"))
  k_with "my call" => first
    | ((with_reducible show wpAny _ _ (call (Value.ref 123) _) _ _ _); ((rename News _ _ _ _ => N8); (refine' Spec.useStr (tr _) ?k1 ?k2 ?k3 N8 ?k5 ?kK ?kd ?ku ?_; (case k1 => k_asm); (case k2 => k_asm); (case k3 => k_asm); (case k5 => k_asm); (case kK => first | exact rfl | assumption); (case kd => ktr_room); (case ku => ktr_units); intro u9 h9 tk9 F9 N9; (try dsimp only); (try k_sweep); (try k_unmd); (try k_fold))))
    | ((with_reducible show wpAny _ _ (call (Value.ref 116) [_, Value.int 0 _]) _ _ _); ((rename News _ _ _ _ => N8); (refine' Spec.useInt (digits_end_spec _ _ _ _ T 0 e _ _ _ D1 (Nat.le_trans hl (by decide))) ?k1 ?k2 ?k3 N8 ?k5 ?kK ?kd ?ku ?_; (case k1 => k_asm); (case k2 => k_asm); (case k3 => k_asm); (case k5 => k_asm); (case kK => first | exact rfl | assumption); (case kd => ktr_room); (case ku => ktr_units); intro u9 h9 tk9 F9 N9; (try dsimp only); (try k_sweep); (try k_unmd); (try k_fold))))
    | ((with_reducible show wpAny _ _ (call (Value.ref 144) _) _ _ _); ((rename News _ _ _ _ => N8); refine' Spec.use (nd _ _ _) ?k1 ?k2 ?k3 N8 ?k5 ?kK ?kd ?ku ?_; (case k1 => k_asm); (case k2 => k_asm); (case k3 => k_asm); (case k5 => k_asm); (case kK => first | exact rfl | assumption); (case kd => ktr_room); (case ku => ktr_units); intro r9 n9 h9 tk9 F9 N9 hp9; (rcases hp9 with ⟨q9, t9, u9, hr9, hn9⟩ | ⟨k9, t9, u9, hr9, hk9, hn9⟩) <;> (subst hr9; subst hn9; (try dsimp only); (try k_sweep); (try k_unmd); (try k_fold))))
    | ((with_reducible show wpAny _ _ (call (Value.ref 53) _) _ _ _); ((rename News _ _ _ _ => N8); (refine' Spec.useTup (negated_spec _ _ _ _ _ _ _ _ _ _ (by k_mem)) ?k1 ?k2 ?k3 N8 ?k5 ?kK ?kd ?ku ?_; (case k1 => k_asm); (case k2 => k_asm); (case k3 => k_asm); (case k5 => k_asm); (case kK => first | exact rfl | assumption); (case kd => ktr_room); (case ku => ktr_units); intro q9 t9 u9 h9 tk9 F9 N9 l9; (try dsimp only [AllLt] at l9); (try dsimp only); (try k_sweep); (try k_unmd); (try k_fold))))
    | ((with_reducible show wpAny _ _ (call (Value.ref 53) _) _ _ _); ((rename News _ _ _ _ => N8); (refine' Spec.useTup (negated_specK _ _ _ _ _ _ _ _ _ _ (by assumption)) ?k1 ?k2 ?k3 N8 ?k5 ?kK ?kd ?ku ?_; (case k1 => k_asm); (case k2 => k_asm); (case k3 => k_asm); (case k5 => k_asm); (case kK => first | exact rfl | assumption); (case kd => ktr_room); (case ku => ktr_units); intro q9 t9 u9 h9 tk9 F9 N9 l9; (try dsimp only [AllLt] at l9); (try dsimp only); (try k_sweep); (try k_unmd); (try k_fold))))
  (repeat' (first | (k_unfold; (try dsimp only)) | (k_end; wrow_close) | walk1 | (dsimp only; walk1) | (leave1; walk_say "STEP leave1"; try dsimp only) | (k_unmd; k_unfold; (try dsimp only)) | fail "no step"))
  all_goals ((first | (refine' ret_valN (by assumption) ?e1 ?e2 ?e3 ?e4 ?_; (case e1 => k_asm); (case e2 => k_asm); (case e3 => ((intro _ h9; repeat (first | exact h9 | apply List.mem_cons_of_mem)))); (case e4 => k_mem)) | (refine' ret_valK (by assumption) ?e1 ?e2 ?e3 ?e4 ?_; (case e1 => k_asm); (case e2 => k_asm); (case e3 => ((intro _ h9; repeat (first | exact h9 | apply List.mem_cons_of_mem)))); (case e4 => first | assumption | k_is))))
  all_goals rfl

theorem read_11 (w mean mg mb) (x T : Str) (tx : Tok) (news : Led) (e : Nat) (p : Int × Int) (hl : T.length ≤ 3000)
    (tr : ∀ tx, Spec w mean mg mb 1 123 [.str x tx] news (StrR T news))
    (hs : (Txt.slice T none (some 1) == Str.ofString "-") = true)
    (D1 : DigRun T 1 e)
    (hp : (Txt.slice T (some (e : Int)) (some ((e : Int) + 1)) == Str.ofString ".") = true)
    (D2 : DigRun T (e + 1) T.length)
    (hlt : ¬ (T.length : Int) < (T.length : Int))
    (hne : ((Txt.slice T (some 1) (some (e : Int))) ++ (Txt.slice T (some ((e : Int) + 1)) (some (T.length : Int))) == Str.ofString "") = false)
    (nd : ∀ n t1 t2, Spec w mean mg mb 5 144 [.str (Txt.slice T (some 1) (some (e : Int))) t1, .str (Txt.slice T (some ((e : Int) + 1)) (some (T.length : Int))) t2] n (ValR w p n)) :
    Spec w mean mg mb 7 137 [.str x tx] news (ValR w (-p.1, p.2) news) := by
  unfold Spec; k_fill; intro dp un gd cn cs a ccd cl outer A₀ base h₀ L m s Q E B F X N T₀ hk hdp hun hret
  ((refine wpAny_call ?_; k_dflt (refine' code_def ?k1 ?k2 ?k3 ?k4 ?k5 ?kA ?kF ?kK ?k6 ?k7 ?k8 ?k9 ?kB ?_ ?c2 ?c3 ?c4 ?c5; (case kA => exact rfl); (case kF => exact rfl); (case kK => assumption); (case k1 => k_asm); (case k2 => k_asm); (case k3 => k_asm); (case k4 => k_asm); (case k5 => k_asm); (case k6 => k_is); (case k7 => k_is); (case k8 => ktr_room); (case k9 => first | exact BindsTo.of_eq rfl | exact binds_K (by k_in) rfl (by k_is) rfl rfl rfl); (case c5 => decide); (case kB => exact locs rfl); (case c2 => exact rfl); (case c3 => exact rfl); (case c4 => exact rfl); k_whole; intro g' L' h' FG' F' N' B' X' T'; (try dsimp only); (try k_fold))))
  k_with_none
  k_with "binaryOp Mod int int" => (k_dflt (k_extra "my mod"))
  k_with "binaryOp Pow int int" => (k_dflt (k_extra "my pow"))
  k_with "exec While Compare cons nil" => (k_dflt (k_extra "my while"))
  k_with "call ref" => (k_dflt (k_extra "my call"))
  k_with "eval Call Name" => ((k_here; (fail_if_success (with_reducible show wpAny _ _ (eval (PySem.Expr.Call (PySem.Expr.Name (PySem.Str.ofString "abs") _) _ _ _) _) _ _ _)); (fail_if_success (with_reducible show wpAny _ _ (eval (PySem.Expr.Call (PySem.Expr.Name (PySem.Str.ofString "len") _) _ _ _) _) _ _ _)); (fail_if_success (with_reducible show wpAny _ _ (eval (PySem.Expr.Call (PySem.Expr.Name (PySem.Str.ofString "range") _) _ _ _) _) _ _ _)); (fail_if_success (with_reducible show wpAny _ _ (eval (PySem.Expr.Call (PySem.Expr.Name (PySem.Str.ofString "max") _) _ _ _) _) _ _ _)); (fail_if_success (with_reducible show wpAny _ _ (eval (PySem.Expr.Call (PySem.Expr.Name (PySem.Str.ofString "min") _) _ _ _) _) _ _ _)); (fail_if_success (with_reducible show wpAny _ _ (eval (PySem.Expr.Call (PySem.Expr.Name (PySem.Str.ofString "int") _) _ _ _) _) _ _ _)); (fail_if_success (with_reducible show wpAny _ _ (eval (PySem.Expr.Call (PySem.Expr.Name (PySem.Str.ofString "str") _) _ _ _) _) _ _ _)); (with_reducible show wpAny _ _ (eval (PySem.Expr.Call (PySem.Expr.Name _ _) _ _ _) (envOf _ _ _ _ _)) _ _ _); refine Call_ ?_))
  k_with "execs cons" => (k_dflt (k_extra "my execs"))
  k_with "subscriptTail Name Constant ref int" => ((k_here; k_dflt (refine' item_tupleT ?t ?a ?b ?c ?d ?_; (case t => (refine' News.isTup ?tn ?tm; (case tn => k_asm); (case tm => k_mem))); (case a => decide); (case b => decide); (case c => rfl); (case d => rfl); k_whole)))
  k_with "binaryOp FloorDiv int int" => (first | k_dflt (k_extra "my div") | (with_reducible refine' floordiv_int ?xa ?_ (Or.inl (noPy ?xb ?xc)); (case xa => first | assumption | omega); (case xb => bits_by_make); (case xc => decide)))
  k_with "compareOp NotEq ref ref" => (k_dflt (refine' tup_ne ?xN ?xa ?xb ?xu ?xe ?_; (case xN => k_asm); (case xa => k_mem); (case xb => k_mem); (case xu => ktr_units); (case xe => first | with_reducible rfl | k_extra "my eq"); (((rename News _ _ _ _ => N8); (have N7 := news_drop2 N8); clear N8))))
  k_with "compareOp Eq ref ref" => (k_dflt (refine' tup_eq ?xN ?xa ?xb ?xu ?xe ?_; (case xN => k_asm); (case xa => k_mem); (case xb => k_mem); (case xu => ktr_units); (case xe => first | with_reducible rfl | k_extra "my eq"); (((rename News _ _ _ _ => N8); (have N7 := news_drop2 N8); clear N8))))
  k_with "compareOp Eq ref ref" => (k_dflt (refine' tup_eqK ?xF ?xX ?xN ?xa ?xb ?xu ?xe ?_; (case xF => k_asm); (case xX => k_asm); (case xN => k_asm); (case xa => k_is); (case xb => k_mem); (case xu => ktr_units); (case xe => first | with_reducible rfl | k_extra "my eq")))
  k_with "compareOp NotEq ref ref" => (k_dflt (refine' tup_neK ?xF ?xX ?xN ?xa ?xb ?xu ?xe ?_; (case xF => k_asm); (case xX => k_asm); (case xN => k_asm); (case xa => k_is); (case xb => k_mem); (case xu => ktr_units); (case xe => first | with_reducible rfl | k_extra "my eq")))
  k_with "subscriptTail Name Constant ref int" => ((k_here; k_dflt (refine' lst_item (vs := [_, _]) ?t ?a ?b ?c ?d ?_ ?e; (case t => k_asm); (case a => k_mem); (case b => decide); (case c => decide); (case d => exact rfl); (case e => with_unfolding_all rfl); k_whole)))
  k_with "setItem ref int" => ((k_here; k_dflt (first | ((with_reducible show wpAny _ _ (setItem (Value.ref _) (Value.int 0 _) _) _ _ _); refine' src_set0 ?t ?a ?b ?_; (case t => k_asm); (case a => k_asm); (case b => assumption); k_whole) | ((with_reducible show wpAny _ _ (setItem (Value.ref _) (Value.int 1 _) _) _ _ _); refine' src_set1 ?t ?a ?b ?_; (case t => k_asm); (case a => k_asm); (case b => assumption); k_whole)); intro h' F' N'; (try k_sweep)))
  k_with "exec While BoolOp" => (k_dflt (k_extra "my while"))
  k_with "my call" => first
    | ((with_reducible show wpAny _ _ (call (Value.ref 123) _) _ _ _); ((rename News _ _ _ _ => N8); (refine' Spec.useStr (tr _) ?k1 ?k2 ?k3 N8 ?k5 ?kK ?kd ?ku ?_; (case k1 => k_asm); (case k2 => k_asm); (case k3 => k_asm); (case k5 => k_asm); (case kK => first | exact rfl | assumption); (case kd => ktr_room); (case ku => ktr_units); intro u9 h9 tk9 F9 N9; (try dsimp only); (try k_sweep); (try k_unmd); (try k_fold))))
    | ((with_reducible show wpAny _ _ (call (Value.ref 116) [_, Value.int 1 _]) _ _ _); ((rename News _ _ _ _ => N8); (refine' Spec.useInt (digits_end_spec _ _ _ _ T 1 e _ _ _ D1 (Nat.le_trans hl (by decide))) ?k1 ?k2 ?k3 N8 ?k5 ?kK ?kd ?ku ?_; (case k1 => k_asm); (case k2 => k_asm); (case k3 => k_asm); (case k5 => k_asm); (case kK => first | exact rfl | assumption); (case kd => ktr_room); (case ku => ktr_units); intro u9 h9 tk9 F9 N9; (try dsimp only); (try k_sweep); (try k_unmd); (try k_fold))))
    | ((with_reducible show wpAny _ _ (call (Value.ref 116) _) _ _ _); ((rename News _ _ _ _ => N8); (refine' Spec.useInt (digits_end_spec _ _ _ _ T (e + 1) T.length _ _ _ D2 (Nat.le_trans hl (by decide))) ?k1 ?k2 ?k3 N8 ?k5 ?kK ?kd ?ku ?_; (case k1 => k_asm); (case k2 => k_asm); (case k3 => k_asm); (case k5 => k_asm); (case kK => first | exact rfl | assumption); (case kd => ktr_room); (case ku => ktr_units); intro u9 h9 tk9 F9 N9; (try dsimp only); (try k_sweep); (try k_unmd); (try k_fold))))
    | ((with_reducible show wpAny _ _ (call (Value.ref 144) _) _ _ _); ((rename News _ _ _ _ => N8); refine' Spec.use (nd _ _ _) ?k1 ?k2 ?k3 N8 ?k5 ?kK ?kd ?ku ?_; (case k1 => k_asm); (case k2 => k_asm); (case k3 => k_asm); (case k5 => k_asm); (case kK => first | exact rfl | assumption); (case kd => ktr_room); (case ku => ktr_units); intro r9 n9 h9 tk9 F9 N9 hp9; (rcases hp9 with ⟨q9, t9, u9, hr9, hn9⟩ | ⟨k9, t9, u9, hr9, hk9, hn9⟩) <;> (subst hr9; subst hn9; (try dsimp only); (try k_sweep); (try k_unmd); (try k_fold))))
    | ((with_reducible show wpAny _ _ (call (Value.ref 53) _) _ _ _); ((rename News _ _ _ _ => N8); (refine' Spec.useTup (negated_spec _ _ _ _ _ _ _ _ _ _ (by k_mem)) ?k1 ?k2 ?k3 N8 ?k5 ?kK ?kd ?ku ?_; (case k1 => k_asm); (case k2 => k_asm); (case k3 => k_asm); (case k5 => k_asm); (case kK => first | exact rfl | assumption); (case kd => ktr_room); (case ku => ktr_units); intro q9 t9 u9 h9 tk9 F9 N9 l9; (try dsimp only [AllLt] at l9); (try dsimp only); (try k_sweep); (try k_unmd); (try k_fold))))
    | ((with_reducible show wpAny _ _ (call (Value.ref 53) _) _ _ _); ((rename News _ _ _ _ => N8); (refine' Spec.useTup (negated_specK _ _ _ _ _ _ _ _ _ _ (by assumption)) ?k1 ?k2 ?k3 N8 ?k5 ?kK ?kd ?ku ?_; (case k1 => k_asm); (case k2 => k_asm); (case k3 => k_asm); (case k5 => k_asm); (case kK => first | exact rfl | assumption); (case kd => ktr_room); (case ku => ktr_units); intro q9 t9 u9 h9 tk9 F9 N9 l9; (try dsimp only [AllLt] at l9); (try dsimp only); (try k_sweep); (try k_unmd); (try k_fold))))
  (repeat' (first | (k_unfold; (try dsimp only)) | (k_end; wrow_close) | walk1 | (dsimp only; walk1) | (leave1; walk_say "STEP leave1"; try dsimp only) | (k_unmd; k_unfold; (try dsimp only)) | fail "no step"))
  all_goals ((first | (refine' ret_valN (by assumption) ?e1 ?e2 ?e3 ?e4 ?_; (case e1 => k_asm); (case e2 => k_asm); (case e3 => ((intro _ h9; repeat (first | exact h9 | apply List.mem_cons_of_mem)))); (case e4 => k_mem)) | (refine' ret_valK (by assumption) ?e1 ?e2 ?e3 ?e4 ?_; (case e1 => k_asm); (case e2 => k_asm); (case e3 => ((intro _ h9; repeat (first | exact h9 | apply List.mem_cons_of_mem)))); (case e4 => first | assumption | k_is))))
  all_goals rfl

theorem read_10 (w mean mg mb) (x T : Str) (tx : Tok) (news : Led) (e : Nat) (p : Int × Int) (hl : T.length ≤ 3000)
    (tr : ∀ tx, Spec w mean mg mb 1 123 [.str x tx] news (StrR T news))
    (hs : (Txt.slice T none (some 1) == Str.ofString "-") = true)
    (D1 : DigRun T 1 e)
    (hp : (Txt.slice T (some (e : Int)) (some ((e : Int) + 1)) == Str.ofString ".") = false)
    (hlt : ¬ (e : Int) < (T.length : Int))
    (hne : ((Txt.slice T (some 1) (some (e : Int))) ++ (Str.ofString "") == Str.ofString "") = false)
    (nd : ∀ n t1 t2, Spec w mean mg mb 5 144 [.str (Txt.slice T (some 1) (some (e : Int))) t1, .str (Str.ofString "") t2] n (ValR w p n)) :
    Spec w mean mg mb 7 137 [.str x tx] news (ValR w (-p.1, p.2) news) := by
  unfold Spec; k_fill; intro dp un gd cn cs a ccd cl outer A₀ base h₀ L m s Q E B F X N T₀ hk hdp hun hret
  ((refine wpAny_call ?_; k_dflt (refine' code_def ?k1 ?k2 ?k3 ?k4 ?k5 ?kA ?kF ?kK ?k6 ?k7 ?k8 ?k9 ?kB ?_ ?c2 ?c3 ?c4 ?c5; (case kA => exact rfl); (case kF => exact rfl); (case kK => assumption); (case k1 => k_asm); (case k2 => k_asm); (case k3 => k_asm); (case k4 => k_asm); (case k5 => k_asm); (case k6 => k_is); (case k7 => k_is); (case k8 => ktr_room); (case k9 => first | exact BindsTo.of_eq rfl | exact binds_K (by k_in) rfl (by k_is) rfl rfl rfl); (case c5 => decide); (case kB => exact locs rfl); (case c2 => exact rfl); (case c3 => exact rfl); (case c4 => exact rfl); k_whole; intro g' L' h' FG' F' N' B' X' T'; (try dsimp only); (try k_fold))))
  k_with_none
  k_with "binaryOp Mod int int" => (k_dflt (k_extra "my mod"))
  k_with "binaryOp Pow int int" => (k_dflt (k_extra "my pow"))
  k_with "exec While Compare cons nil" => (k_dflt (k_extra "my while"))
  k_with "call ref" => (k_dflt (k_extra "my call"))
  k_with "eval Call Name" => ((k_here; (fail_if_success (with_reducible show wpAny _ _ (eval (PySem.Expr.Call (PySem.Expr.Name (PySem.Str.ofString "abs") _) _ _ _) _) _ _ _)); (fail_if_success (with_reducible show wpAny _ _ (eval (PySem.Expr.Call (PySem.Expr.Name (PySem.Str.ofString "len") _) _ _ _) _) _ _ _)); (fail_if_success (with_reducible show wpAny _ _ (eval (PySem.Expr.Call (PySem.Expr.Name (PySem.Str.ofString "range") _) _ _ _) _) _ _ _)); (fail_if_success (with_reducible show wpAny _ _ (eval (PySem.Expr.Call (PySem.Expr.Name (PySem.Str.ofString "max") _) _ _ _) _) _ _ _)); (fail_if_success (with_reducible show wpAny _ _ (eval (PySem.Expr.Call (PySem.Expr.Name (PySem.Str.ofString "min") _) _ _ _) _) _ _ _)); (fail_if_success (with_reducible show wpAny _ _ (eval (PySem.Expr.Call (PySem.Expr.Name (PySem.Str.ofString "int") _) _ _ _) _) _ _ _)); (fail_if_success (with_reducible show wpAny _ _ (eval (PySem.Expr.Call (PySem.Expr.Name (PySem.Str.ofString "str") _) _ _ _) _) _ _ _)); (with_reducible show wpAny _ _ (eval (PySem.Expr.Call (PySem.Expr.Name _ _) _ _ _) (envOf _ _ _ _ _)) _ _ _); refine Call_ ?_))
  k_with "execs cons" => (k_dflt (k_extra "my execs"))
  k_with "subscriptTail Name Constant ref int" => ((k_here; k_dflt (refine' item_tupleT ?t ?a ?b ?c ?d ?_; (case t => (refine' News.isTup ?tn ?tm; (case tn => k_asm); (case tm => k_mem))); (case a => decide); (case b => decide); (case c => rfl); (case d => rfl); k_whole)))
  k_with "binaryOp FloorDiv int int" => (first | k_dflt (k_extra "my div") | (with_reducible refine' floordiv_int ?xa ?_ (Or.inl (noPy ?xb ?xc)); (case xa => first | assumption | omega); (case xb => bits_by_make); (case xc => decide)))
  k_with "compareOp NotEq ref ref" => (k_dflt (refine' tup_ne ?xN ?xa ?xb ?xu ?xe ?_; (case xN => k_asm); (case xa => k_mem); (case xb => k_mem); (case xu => ktr_units); (case xe => first | with_reducible rfl | k_extra "my eq"); (((rename News _ _ _ _ => N8); (have N7 := news_drop2 N8); clear N8))))
  k_with "compareOp Eq ref ref" => (k_dflt (refine' tup_eq ?xN ?xa ?xb ?xu ?xe ?_; (case xN => k_asm); (case xa => k_mem); (case xb => k_mem); (case xu => ktr_units); (case xe => first | with_reducible rfl | k_extra "my eq"); (((rename News _ _ _ _ => N8); (have N7 := news_drop2 N8); clear N8))))
  k_with "compareOp Eq ref ref" => (k_dflt (refine' tup_eqK ?xF ?xX ?xN ?xa ?xb ?xu ?xe ?_; (case xF => k_asm); (case xX => k_asm); (case xN => k_asm); (case xa => k_is); (case xb => k_mem); (case xu => ktr_units); (case xe => first | with_reducible rfl | k_extra "my eq")))
  k_with "compareOp NotEq ref ref" => (k_dflt (refine' tup_neK ?xF ?xX ?xN ?xa ?xb ?xu ?xe ?_; (case xF => k_asm); (case xX => k_asm); (case xN => k_asm); (case xa => k_is); (case xb => k_mem); (case xu => ktr_units); (case xe => first | with_reducible rfl | k_extra "my eq")))
  k_with "subscriptTail Name Constant ref int" => ((k_here; k_dflt (refine' lst_item (vs := [_, _]) ?t ?a ?b ?c ?d ?_ ?e; (case t => k_asm); (case a => k_mem); (case b => decide); (case c => decide); (case d => exact rfl); (case e => with_unfolding_all rfl); k_whole)))
  k_with "setItem ref int" => ((k_here; k_dflt (first | ((with_reducible show wpAny _ _ (setItem (Value.ref _) (Value.int 0 _) _) _ _ _); refine' src_set0 ?t ?a ?b ?_; (case t => k_asm); (case a => k_asm); (case b => assumption); k_whole) | ((with_reducible show wpAny _ _ (setItem (Value.ref _) (Value.int 1 _) _) _ _ _); refine' src_set1 ?t ?a ?b ?_; (case t => k_asm); (case a => k_asm); (case b => assumption); k_whole)); intro h' F' N'; (try k_sweep)))
  k_with "exec While BoolOp" => (k_dflt (k_extra "my while"))
  k_with "my call" => first
    | ((with_reducible show wpAny _ _ (call (Value.ref 123) _) _ _ _); ((rename News _ _ _ _ => N8); (refine' Spec.useStr (tr _) ?k1 ?k2 ?k3 N8 ?k5 ?kK ?kd ?ku ?_; (case k1 => k_asm); (case k2 => k_asm); (case k3 => k_asm); (case k5 => k_asm); (case kK => first | exact rfl | assumption); (case kd => ktr_room); (case ku => ktr_units); intro u9 h9 tk9 F9 N9; (try dsimp only); (try k_sweep); (try k_unmd); (try k_fold))))
    | ((with_reducible show wpAny _ _ (call (Value.ref 116) [_, Value.int 1 _]) _ _ _); ((rename News _ _ _ _ => N8); (refine' Spec.useInt (digits_end_spec _ _ _ _ T 1 e _ _ _ D1 (Nat.le_trans hl (by decide))) ?k1 ?k2 ?k3 N8 ?k5 ?kK ?kd ?ku ?_; (case k1 => k_asm); (case k2 => k_asm); (case k3 => k_asm); (case k5 => k_asm); (case kK => first | exact rfl | assumption); (case kd => ktr_room); (case ku => ktr_units); intro u9 h9 tk9 F9 N9; (try dsimp only); (try k_sweep); (try k_unmd); (try k_fold))))
    | ((with_reducible show wpAny _ _ (call (Value.ref 144) _) _ _ _); ((rename News _ _ _ _ => N8); refine' Spec.use (nd _ _ _) ?k1 ?k2 ?k3 N8 ?k5 ?kK ?kd ?ku ?_; (case k1 => k_asm); (case k2 => k_asm); (case k3 => k_asm); (case k5 => k_asm); (case kK => first | exact rfl | assumption); (case kd => ktr_room); (case ku => ktr_units); intro r9 n9 h9 tk9 F9 N9 hp9; (rcases hp9 with ⟨q9, t9, u9, hr9, hn9⟩ | ⟨k9, t9, u9, hr9, hk9, hn9⟩) <;> (subst hr9; subst hn9; (try dsimp only); (try k_sweep); (try k_unmd); (try k_fold))))
    | ((with_reducible show wpAny _ _ (call (Value.ref 53) _) _ _ _); ((rename News _ _ _ _ => N8); (refine' Spec.useTup (negated_spec _ _ _ _ _ _ _ _ _ _ (by k_mem)) ?k1 ?k2 ?k3 N8 ?k5 ?kK ?kd ?ku ?_; (case k1 => k_asm); (case k2 => k_asm); (case k3 => k_asm); (case k5 => k_asm); (case kK => first | exact rfl | assumption); (case kd => ktr_room); (case ku => ktr_units); intro q9 t9 u9 h9 tk9 F9 N9 l9; (try dsimp only [AllLt] at l9); (try dsimp only); (try k_sweep); (try k_unmd); (try k_fold))))
    | ((with_reducible show wpAny _ _ (call (Value.ref 53) _) _ _ _); ((rename News _ _ _ _ => N8); (refine' Spec.useTup (negated_specK _ _ _ _ _ _ _ _ _ _ (by assumption)) ?k1 ?k2 ?k3 N8 ?k5 ?kK ?kd ?ku ?_; (case k1 => k_asm); (case k2 => k_asm); (case k3 => k_asm); (case k5 => k_asm); (case kK => first | exact rfl | assumption); (case kd => ktr_room); (case ku => ktr_units); intro q9 t9 u9 h9 tk9 F9 N9 l9; (try dsimp only [AllLt] at l9); (try dsimp only); (try k_sweep); (try k_unmd); (try k_fold))))
  (repeat' (first | (k_unfold; (try dsimp only)) | (k_end; wrow_close) | walk1 | (dsimp only; walk1) | (leave1; walk_say "STEP leave1"; try dsimp only) | (k_unmd; k_unfold; (try dsimp only)) | fail "no step"))
  all_goals ((first | (refine' ret_valN (by assumption) ?e1 ?e2 ?e3 ?e4 ?_; (case e1 => k_asm); (case e2 => k_asm); (case e3 => ((intro _ h9; repeat (first | exact h9 | apply List.mem_cons_of_mem)))); (case e4 => k_mem)) | (refine' ret_valK (by assumption) ?e1 ?e2 ?e3 ?e4 ?_; (case e1 => k_asm); (case e2 => k_asm); (case e3 => ((intro _ h9; repeat (first | exact h9 | apply List.mem_cons_of_mem)))); (case e4 => first | assumption | k_is))))
  all_goals rfl

theorem noughts_list : ∀ l : List Nat, ∃ z, z ≤ l.length ∧ (∀ k, k < z → l.getD k 0 = 48) ∧ (z < l.length → l.getD z 0 ≠ 48)
  | [] => ⟨0, Nat.le_refl _, fun _ h => absurd h (Nat.not_lt_zero _), fun h => absurd h (Nat.lt_irrefl _)⟩
  | c :: r => by
    by_cases hc : c = 48
    · obtain ⟨z, h1, h2, h3⟩ := noughts_list r
      refine ⟨z + 1, Nat.succ_le_succ h1, fun k hk => ?_, fun h => h3 (Nat.lt_of_succ_lt_succ h)⟩
      cases k with
      | zero => exact hc
      | succ k => exact h2 k (Nat.lt_of_succ_lt_succ hk)
    · exact ⟨0, Nat.zero_le _, fun _ h => absurd h (Nat.not_lt_zero _), fun _ => hc⟩
theorem noughts_ex (x : Str) : ∃ z, Noughts x z := by
  obtain ⟨z, h1, h2, h3⟩ := noughts_list x.cps.toList
  rw [len_cps] at h1 h3
  exact ⟨z, h1, h2, h3⟩
/-- what a text's figures tell -/
def readV (W Y : Str) : Int × Int := numF (numD W Y + moreD Y) (10 ^ min 400 Y.length)
theorem moreD_nn (y : Str) : 0 ≤ moreD y := by unfold moreD; split <;> decide
theorem MM_is : MM = 10 ^ 400 := by decide +kernel
theorem readV_inf {x y : Str} {z : Nat} (Z : Noughts x z) (dx : ∀ c ∈ x.cps.toList, Dig c) (dy : ∀ c ∈ y.cps.toList, Dig c) (h : 400 < (x.length : Int) - (z : Int)) : readV x y = (1, 0) := by
  have hz : z < x.length := by omega
  have hzl : z < x.cps.toList.length := by rw [len_cps]; exact hz
  have hd : x.cps.toList.drop z = sg x z :: x.cps.toList.drop (z + 1) := by
    have hg := sg_get hz
    rw [List.getElem?_eq_getElem hzl] at hg
    rw [List.drop_eq_getElem_cons hzl, Option.some.inj hg]
  have hn : numD x y = dV (sgs (sg x z :: (x.cps.toList.drop (z + 1) ++ y.cps.toList.take 400))) := by
    rw [← numD_kept Z, codes_is, kept_cps, hd]
    rfl
  have hr : ∀ c ∈ x.cps.toList.drop (z + 1) ++ y.cps.toList.take 400, Dig c := by
    intro c hc
    rcases List.mem_append.mp hc with h | h
    · exact dx c (List.mem_of_mem_drop h)
    · exact dy c (List.mem_of_mem_take h)
  have hb := dV_bound _ hr
  have hl : (x.cps.toList.drop (z + 1) ++ y.cps.toList.take 400).length = (x.length - (z + 1)) + min 400 y.length := by
    rw [List.length_append, List.length_drop, List.length_take, len_cps, len_cps]
  have hs1 : Dig (sg x z) := dx _ (List.mem_of_getElem? (sg_get hz))
  have hs2 := Z.stop hz
  have hge : (10 : Int) ^ ((x.length - (z + 1)) + min 400 y.length) ≤ numD x y := by
    rw [hn]
    have e : dV (sgs (sg x z :: (x.cps.toList.drop (z + 1) ++ y.cps.toList.take 400))) = ((sg x z : Int) - 48) * 10 ^ (x.cps.toList.drop (z + 1) ++ y.cps.toList.take 400).length + dV (sgs (x.cps.toList.drop (z + 1) ++ y.cps.toList.take 400)) := by
      have := dV_app [(sg x z : Int)] (sgs (x.cps.toList.drop (z + 1) ++ y.cps.toList.take 400))
      rw [List.length_map] at this
      have e0 : dV [(sg x z : Int)] = (sg x z : Int) - 48 := by unfold dV; simp
      rw [e0] at this
      exact this
    rw [e, hl]
    have p0 : (0 : Int) < 10 ^ ((x.length - (z + 1)) + min 400 y.length) := Int.pow_pos (by decide)
    have h1 : (1 : Int) * 10 ^ ((x.length - (z + 1)) + min 400 y.length) ≤ ((sg x z : Int) - 48) * 10 ^ ((x.length - (z + 1)) + min 400 y.length) := Int.mul_le_mul_of_nonneg_right (by unfold Dig at hs1; omega) (Int.le_of_lt p0)
    rw [Int.one_mul] at h1
    have := hb.1
    omega
  have hM : MM * 10 ^ min 400 y.length ≤ 10 ^ ((x.length - (z + 1)) + min 400 y.length) := by
    rw [MM_is, Int.pow_add]
    refine Int.mul_le_mul_of_nonneg_right ?_ (Int.le_of_lt (Int.pow_pos (by decide)))
    have hk : x.length - (z + 1) = 400 + (x.length - (z + 1) - 400) := by omega
    rw [hk, Int.pow_add]
    have p1 : (1 : Int) ≤ 10 ^ (x.length - (z + 1) - 400) := by
      have : (0 : Int) < 10 ^ (x.length - (z + 1) - 400) := Int.pow_pos (by decide)
      omega
    have p2 : (0 : Int) ≤ 10 ^ 400 := Int.le_of_lt (Int.pow_pos (by decide))
    have := Int.mul_le_mul_of_nonneg_left p1 p2
    rw [Int.mul_one] at this
    exact this
  have hpos : (0 : Int) < numD x y := Int.lt_of_lt_of_le (Int.pow_pos (by decide)) hge
  have hm := moreD_nn y
  have hbig : MM * 10 ^ min 400 y.length ≤ mag (numD x y + moreD y) := by
    unfold mag
    rw [if_neg (by omega)]
    omega
  unfold readV
  rw [numF_big hbig]
  unfold sgn
  rw [if_pos (by omega)]
theorem numdig_spec (w mean mg mb) (x y : Str) (tx ty : Tok) (news : Led) (hx : x.length ≤ 1000) (hy : y.length ≤ 1000) (dx : ∀ c ∈ x.cps.toList, Dig c) (dy : ∀ c ∈ y.cps.toList, Dig c) :
    Spec w mean mg mb 5 144 [.str x tx, .str y ty] news (ValR w (readV x y) news) := by
  obtain ⟨z, Z⟩ := noughts_ex x
  by_cases h : 400 < (x.length : Int) - (z : Int)
  · obtain ⟨t, u, hk⟩ := inf_look w.params
    refine nan_val (p := readV x y) (t := t) (u := u) ?_ (numdig_inf w mean mg mb x y z tx ty news Z hx h)
    rw [readV_inf Z dx dy h]
    exact hk
  · exact tup_val (numdig_fin w mean mg mb x y z tx ty news Z hx hy dx dy h)

theorem read_n0 (w mean mg mb) (x T : Str) (tx : Tok) (news : Led) (e : Nat) (hl : T.length ≤ 3000)
    (tr : ∀ tx, Spec w mean mg mb 1 123 [.str x tx] news (StrR T news))
    (hs : (Txt.slice T none (some 1) == Str.ofString "-") = false)
    (D1 : DigRun T 0 e)
    (hp : (Txt.slice T (some (e : Int)) (some ((e : Int) + 1)) == Str.ofString ".") = false)
    (hlt : ¬ (e : Int) < (T.length : Int))
    (hne : (Txt.slice T (some 0) (some (e : Int)) ++ Str.ofString "" == Str.ofString "") = true) :
    Spec w mean mg mb 7 137 [.str x tx] news (NanR 15 news) := by
  unfold Spec; k_fill; intro dp un gd cn cs a ccd cl outer A₀ base h₀ L m s Q E B F X N T₀ hk hdp hun hret
  ((refine wpAny_call ?_; k_dflt (refine' code_def ?k1 ?k2 ?k3 ?k4 ?k5 ?kA ?kF ?kK ?k6 ?k7 ?k8 ?k9 ?kB ?_ ?c2 ?c3 ?c4 ?c5; (case kA => exact rfl); (case kF => exact rfl); (case kK => assumption); (case k1 => k_asm); (case k2 => k_asm); (case k3 => k_asm); (case k4 => k_asm); (case k5 => k_asm); (case k6 => k_is); (case k7 => k_is); (case k8 => ktr_room); (case k9 => first | exact BindsTo.of_eq rfl | exact binds_K (by k_in) rfl (by k_is) rfl rfl rfl); (case c5 => decide); (case kB => exact locs rfl); (case c2 => exact rfl); (case c3 => exact rfl); (case c4 => exact rfl); k_whole; intro g' L' h' FG' F' N' B' X' T'; (try dsimp only); (try k_fold))))
  k_with_none
  k_with "binaryOp Mod int int" => (k_dflt (k_extra "my mod"))
  k_with "binaryOp Pow int int" => (k_dflt (k_extra "my pow"))
  k_with "exec While Compare cons nil" => (k_dflt (k_extra "my while"))
  k_with "call ref" => (k_dflt (k_extra "my call"))
  k_with "eval Call Name" => ((k_here; (fail_if_success (with_reducible show wpAny _ _ (eval (PySem.Expr.Call (PySem.Expr.Name (PySem.Str.ofString "abs") _) _ _ _) _) _ _ _)); (fail_if_success (with_reducible show wpAny _ _ (eval (PySem.Expr.Call (PySem.Expr.Name (PySem.Str.ofString "len") _) _ _ _) _) _ _ _)); (fail_if_success (with_reducible show wpAny _ _ (eval (PySem.Expr.Call (PySem.Expr.Name (PySem.Str.ofString "range") _) _ _ _) _) _ _ _)); (fail_if_success (with_reducible show wpAny _ _ (eval (PySem.Expr.Call (PySem.Expr.Name (PySem.Str.ofString "max") _) _ _ _) _) _ _ _)); (fail_if_success (with_reducible show wpAny _ _ (eval (PySem.Expr.Call (PySem.Expr.Name (PySem.Str.ofString "min") _) _ _ _) _) _ _ _)); (fail_if_success (with_reducible show wpAny _ _ (eval (PySem.Expr.Call (PySem.Expr.Name (PySem.Str.ofString "int") _) _ _ _) _) _ _ _)); (fail_if_success (with_reducible show wpAny _ _ (eval (PySem.Expr.Call (PySem.Expr.Name (PySem.Str.ofString "str") _) _ _ _) _) _ _ _)); (with_reducible show wpAny _ _ (eval (PySem.Expr.Call (PySem.Expr.Name _ _) _ _ _) (envOf _ _ _ _ _)) _ _ _); refine Call_ ?_))
  k_with "execs cons" => (k_dflt (k_extra "my execs"))
  k_with "subscriptTail Name Constant ref int" => ((k_here; k_dflt (refine' item_tupleT ?t ?a ?b ?c ?d ?_; (case t => (refine' News.isTup ?tn ?tm; (case tn => k_asm); (case tm => k_mem))); (case a => decide); (case b => decide); (case c => rfl); (case d => rfl); k_whole)))
  k_with "binaryOp FloorDiv int int" => (first | k_dflt (k_extra "my div") | (with_reducible refine' floordiv_int ?xa ?_ (Or.inl (noPy ?xb ?xc)); (case xa => first | assumption | omega); (case xb => bits_by_make); (case xc => decide)))
  k_with "compareOp NotEq ref ref" => (k_dflt (refine' tup_ne ?xN ?xa ?xb ?xu ?xe ?_; (case xN => k_asm); (case xa => k_mem); (case xb => k_mem); (case xu => ktr_units); (case xe => first | with_reducible rfl | k_extra "my eq"); (((rename News _ _ _ _ => N8); (have N7 := news_drop2 N8); clear N8))))
  k_with "compareOp Eq ref ref" => (k_dflt (refine' tup_eq ?xN ?xa ?xb ?xu ?xe ?_; (case xN => k_asm); (case xa => k_mem); (case xb => k_mem); (case xu => ktr_units); (case xe => first | with_reducible rfl | k_extra "my eq"); (((rename News _ _ _ _ => N8); (have N7 := news_drop2 N8); clear N8))))
  k_with "compareOp Eq ref ref" => (k_dflt (refine' tup_eqK ?xF ?xX ?xN ?xa ?xb ?xu ?xe ?_; (case xF => k_asm); (case xX => k_asm); (case xN => k_asm); (case xa => k_is); (case xb => k_mem); (case xu => ktr_units); (case xe => first | with_reducible rfl | k_extra "my eq")))
  k_with "compareOp NotEq ref ref" => (k_dflt (refine' tup_neK ?xF ?xX ?xN ?xa ?xb ?xu ?xe ?_; (case xF => k_asm); (case xX => k_asm); (case xN => k_asm); (case xa => k_is); (case xb => k_mem); (case xu => ktr_units); (case xe => first | with_reducible rfl | k_extra "my eq")))
  k_with "subscriptTail Name Constant ref int" => ((k_here; k_dflt (refine' lst_item (vs := [_, _]) ?t ?a ?b ?c ?d ?_ ?e; (case t => k_asm); (case a => k_mem); (case b => decide); (case c => decide); (case d => exact rfl); (case e => with_unfolding_all rfl); k_whole)))
  k_with "setItem ref int" => ((k_here; k_dflt (first | ((with_reducible show wpAny _ _ (setItem (Value.ref _) (Value.int 0 _) _) _ _ _); refine' src_set0 ?t ?a ?b ?_; (case t => k_asm); (case a => k_asm); (case b => assumption); k_whole) | ((with_reducible show wpAny _ _ (setItem (Value.ref _) (Value.int 1 _) _) _ _ _); refine' src_set1 ?t ?a ?b ?_; (case t => k_asm); (case a => k_asm); (case b => assumption); k_whole)); intro h' F' N'; (try k_sweep)))
  k_with "exec While BoolOp" => (k_dflt (k_extra "my while"))
  k_with "my call" => first
    | ((with_reducible show wpAny _ _ (call (Value.ref 123) _) _ _ _); ((rename News _ _ _ _ => N8); (refine' Spec.useStr (tr _) ?k1 ?k2 ?k3 N8 ?k5 ?kK ?kd ?ku ?_; (case k1 => k_asm); (case k2 => k_asm); (case k3 => k_asm); (case k5 => k_asm); (case kK => first | exact rfl | assumption); (case kd => ktr_room); (case ku => ktr_units); intro u9 h9 tk9 F9 N9; (try dsimp only); (try k_sweep); (try k_unmd); (try k_fold))))
    | ((with_reducible show wpAny _ _ (call (Value.ref 116) [_, Value.int 0 _]) _ _ _); ((rename News _ _ _ _ => N8); (refine' Spec.useInt (digits_end_spec _ _ _ _ T 0 e _ _ _ D1 (Nat.le_trans hl (by decide))) ?k1 ?k2 ?k3 N8 ?k5 ?kK ?kd ?ku ?_; (case k1 => k_asm); (case k2 => k_asm); (case k3 => k_asm); (case k5 => k_asm); (case kK => first | exact rfl | assumption); (case kd => ktr_room); (case ku => ktr_units); intro u9 h9 tk9 F9 N9; (try dsimp only); (try k_sweep); (try k_unmd); (try k_fold))))
  (repeat' (first | (k_unfold; (try dsimp only)) | (k_end; wrow_close) | walk1 | (dsimp only; walk1) | (leave1; walk_say "STEP leave1"; try dsimp only) | (k_unmd; k_unfold; (try dsimp only)) | fail "no step"))
  all_goals (((refine' ret_nan (by assumption) ?e1 ?e2 ?e3; (case e1 => k_asm); (case e2 => k_asm); (case e3 => ((intro _ h9; repeat (first | exact h9 | apply List.mem_cons_of_mem)))))))
theorem read_n1 (w mean mg mb) (x T : Str) (tx : Tok) (news : Led) (e : Nat) (hl : T.length ≤ 3000)
    (tr : ∀ tx, Spec w mean mg mb 1 123 [.str x tx] news (StrR T news))
    (hs : (Txt.slice T none (some 1) == Str.ofString "-") = true)
    (D1 : DigRun T 1 e)
    (hp : (Txt.slice T (some (e : Int)) (some ((e : Int) + 1)) == Str.ofString ".") = false)
    (hlt : ¬ (e : Int) < (T.length : Int))
    (hne : (Txt.slice T (some 1) (some (e : Int)) ++ Str.ofString "" == Str.ofString "") = true) :
    Spec w mean mg mb 7 137 [.str x tx] news (NanR 15 news) := by
  unfold Spec; k_fill; intro dp un gd cn cs a ccd cl outer A₀ base h₀ L m s Q E B F X N T₀ hk hdp hun hret
  ((refine wpAny_call ?_; k_dflt (refine' code_def ?k1 ?k2 ?k3 ?k4 ?k5 ?kA ?kF ?kK ?k6 ?k7 ?k8 ?k9 ?kB ?_ ?c2 ?c3 ?c4 ?c5; (case kA => exact rfl); (case kF => exact rfl); (case kK => assumption); (case k1 => k_asm); (case k2 => k_asm); (case k3 => k_asm); (case k4 => k_asm); (case k5 => k_asm); (case k6 => k_is); (case k7 => k_is); (case k8 => ktr_room); (case k9 => first | exact BindsTo.of_eq rfl | exact binds_K (by k_in) rfl (by k_is) rfl rfl rfl); (case c5 => decide); (case kB => exact locs rfl); (case c2 => exact rfl); (case c3 => exact rfl); (case c4 => exact rfl); k_whole; intro g' L' h' FG' F' N' B' X' T'; (try dsimp only); (try k_fold))))
  k_with_none
  k_with "binaryOp Mod int int" => (k_dflt (k_extra "my mod"))
  k_with "binaryOp Pow int int" => (k_dflt (k_extra "my pow"))
  k_with "exec While Compare cons nil" => (k_dflt (k_extra "my while"))
  k_with "call ref" => (k_dflt (k_extra "my call"))
  k_with "eval Call Name" => ((k_here; (fail_if_success (with_reducible show wpAny _ _ (eval (PySem.Expr.Call (PySem.Expr.Name (PySem.Str.ofString "abs") _) _ _ _) _) _ _ _)); (fail_if_success (with_reducible show wpAny _ _ (eval (PySem.Expr.Call (PySem.Expr.Name (PySem.Str.ofString "len") _) _ _ _) _) _ _ _)); (fail_if_success (with_reducible show wpAny _ _ (eval (PySem.Expr.Call (PySem.Expr.Name (PySem.Str.ofString "range") _) _ _ _) _) _ _ _)); (fail_if_success (with_reducible show wpAny _ _ (eval (PySem.Expr.Call (PySem.Expr.Name (PySem.Str.ofString "max") _) _ _ _) _) _ _ _)); (fail_if_success (with_reducible show wpAny _ _ (eval (PySem.Expr.Call (PySem.Expr.Name (PySem.Str.ofString "min") _) _ _ _) _) _ _ _)); (fail_if_success (with_reducible show wpAny _ _ (eval (PySem.Expr.Call (PySem.Expr.Name (PySem.Str.ofString "int") _) _ _ _) _) _ _ _)); (fail_if_success (with_reducible show wpAny _ _ (eval (PySem.Expr.Call (PySem.Expr.Name (PySem.Str.ofString "str") _) _ _ _) _) _ _ _)); (with_reducible show wpAny _ _ (eval (PySem.Expr.Call (PySem.Expr.Name _ _) _ _ _) (envOf _ _ _ _ _)) _ _ _); refine Call_ ?_))
  k_with "execs cons" => (k_dflt (k_extra "my execs"))
  k_with "subscriptTail Name Constant ref int" => ((k_here; k_dflt (refine' item_tupleT ?t ?a ?b ?c ?d ?_; (case t => (refine' News.isTup ?tn ?tm; (case tn => k_asm); (case tm => k_mem))); (case a => decide); (case b => decide); (case c => rfl); (case d => rfl); k_whole)))
  k_with "binaryOp FloorDiv int int" => (first | k_dflt (k_extra "my div") | (with_reducible refine' floordiv_int ?xa ?_ (Or.inl (noPy ?xb ?xc)); (case xa => first | assumption | omega); (case xb => bits_by_make); (case xc => decide)))
  k_with "compareOp NotEq ref ref" => (k_dflt (refine' tup_ne ?xN ?xa ?xb ?xu ?xe ?_; (case xN => k_asm); (case xa => k_mem); (case xb => k_mem); (case xu => ktr_units); (case xe => first | with_reducible rfl | k_extra "my eq"); (((rename News _ _ _ _ => N8); (have N7 := news_drop2 N8); clear N8))))
  k_with "compareOp Eq ref ref" => (k_dflt (refine' tup_eq ?xN ?xa ?xb ?xu ?xe ?_; (case xN => k_asm); (case xa => k_mem); (case xb => k_mem); (case xu => ktr_units); (case xe => first | with_reducible rfl | k_extra "my eq"); (((rename News _ _ _ _ => N8); (have N7 := news_drop2 N8); clear N8))))
  k_with "compareOp Eq ref ref" => (k_dflt (refine' tup_eqK ?xF ?xX ?xN ?xa ?xb ?xu ?xe ?_; (case xF => k_asm); (case xX => k_asm); (case xN => k_asm); (case xa => k_is); (case xb => k_mem); (case xu => ktr_units); (case xe => first | with_reducible rfl | k_extra "my eq")))
  k_with "compareOp NotEq ref ref" => (k_dflt (refine' tup_neK ?xF ?xX ?xN ?xa ?xb ?xu ?xe ?_; (case xF => k_asm); (case xX => k_asm); (case xN => k_asm); (case xa => k_is); (case xb => k_mem); (case xu => ktr_units); (case xe => first | with_reducible rfl | k_extra "my eq")))
  k_with "subscriptTail Name Constant ref int" => ((k_here; k_dflt (refine' lst_item (vs := [_, _]) ?t ?a ?b ?c ?d ?_ ?e; (case t => k_asm); (case a => k_mem); (case b => decide); (case c => decide); (case d => exact rfl); (case e => with_unfolding_all rfl); k_whole)))
  k_with "setItem ref int" => ((k_here; k_dflt (first | ((with_reducible show wpAny _ _ (setItem (Value.ref _) (Value.int 0 _) _) _ _ _); refine' src_set0 ?t ?a ?b ?_; (case t => k_asm); (case a => k_asm); (case b => assumption); k_whole) | ((with_reducible show wpAny _ _ (setItem (Value.ref _) (Value.int 1 _) _) _ _ _); refine' src_set1 ?t ?a ?b ?_; (case t => k_asm); (case a => k_asm); (case b => assumption); k_whole)); intro h' F' N'; (try k_sweep)))
  k_with "exec While BoolOp" => (k_dflt (k_extra "my while"))
  k_with "my call" => first
    | ((with_reducible show wpAny _ _ (call (Value.ref 123) _) _ _ _); ((rename News _ _ _ _ => N8); (refine' Spec.useStr (tr _) ?k1 ?k2 ?k3 N8 ?k5 ?kK ?kd ?ku ?_; (case k1 => k_asm); (case k2 => k_asm); (case k3 => k_asm); (case k5 => k_asm); (case kK => first | exact rfl | assumption); (case kd => ktr_room); (case ku => ktr_units); intro u9 h9 tk9 F9 N9; (try dsimp only); (try k_sweep); (try k_unmd); (try k_fold))))
    | ((with_reducible show wpAny _ _ (call (Value.ref 116) [_, Value.int 1 _]) _ _ _); ((rename News _ _ _ _ => N8); (refine' Spec.useInt (digits_end_spec _ _ _ _ T 1 e _ _ _ D1 (Nat.le_trans hl (by decide))) ?k1 ?k2 ?k3 N8 ?k5 ?kK ?kd ?ku ?_; (case k1 => k_asm); (case k2 => k_asm); (case k3 => k_asm); (case k5 => k_asm); (case kK => first | exact rfl | assumption); (case kd => ktr_room); (case ku => ktr_units); intro u9 h9 tk9 F9 N9; (try dsimp only); (try k_sweep); (try k_unmd); (try k_fold))))
  (repeat' (first | (k_unfold; (try dsimp only)) | (k_end; wrow_close) | walk1 | (dsimp only; walk1) | (leave1; walk_say "STEP leave1"; try dsimp only) | (k_unmd; k_unfold; (try dsimp only)) | fail "no step"))
  all_goals (((refine' ret_nan (by assumption) ?e1 ?e2 ?e3; (case e1 => k_asm); (case e2 => k_asm); (case e3 => ((intro _ h9; repeat (first | exact h9 | apply List.mem_cons_of_mem)))))))

theorem str_eta (x : Str) : (⟨x.cps.toList.toArray⟩ : Str) = x := rfl
theorem str_of_list {l : List Nat} {x : Str} (h : l = x.cps.toList) : (⟨l.toArray⟩ : Str) = x := by rw [h]
theorem mk_cps (l : List Nat) : (⟨l.toArray⟩ : Str).cps.toList = l := rfl
theorem mk_len (l : List Nat) : (⟨l.toArray⟩ : Str).length = l.length := by simp [PySem.Str.length]
theorem sg_mk (l : List Nat) (k : Nat) : sg ⟨l.toArray⟩ k = l.getD k 0 := rfl
theorem beq_list {l : List Nat} {s : Str} {r : List Nat} (hs : s = ⟨r.toArray⟩) : ((⟨l.toArray⟩ : Str) == s) = decide (l = r) := by
  subst hs
  by_cases h : l = r
  · subst h; rw [decide_eq_true rfl]; exact beq_self_eq_true _
  · rw [decide_eq_false h]
    refine beq_false_of_ne fun q => h ?_
    have := congrArg (fun s : Str => s.cps.toList) q
    exact this
theorem minus_is : Str.ofString "-" = ⟨([45] : List Nat).toArray⟩ := by decide +kernel
theorem point_is : Str.ofString "." = ⟨([46] : List Nat).toArray⟩ := by decide +kernel
theorem empty_is : Str.ofString "" = ⟨([] : List Nat).toArray⟩ := by decide +kernel
theorem trim_of {x : Str} {b : Nat} (hb : b ≤ x.length) (h1 : ∀ k, k < b → Spc (sg x k)) (h2 : ∀ c ∈ x.cps.toList.drop b, ¬ Spc c) : TrimRun x b := by
  have at' : ∀ k, b ≤ k → k < x.length → ¬ Spc (sg x k) := by
    intro k hk hl
    refine h2 _ (List.mem_of_getElem? (i := k - b) ?_)
    rw [List.getElem?_drop, show b + (k - b) = k by omega]
    exact sg_get hl
  exact ⟨hb, h1, fun h => at' b (Nat.le_refl _) h, fun h => at' _ (by omega) (by omega)⟩
theorem trim_T {x : Str} {b : Nat} (hb : b ≤ x.length) : Txt.slice x (some (b : Int)) (some (x.length : Int)) = ⟨(x.cps.toList.drop b).toArray⟩ := by
  rw [slice_nat x b _ hb]
  congr 2
  rw [List.take_of_length_le]
  rw [List.length_drop, len_cps]
  exact Nat.le_refl _
/-- sign, figures, rest -/
structure Parts (T : Str) (A B C : List Nat) : Prop where
  is : T.cps.toList = A ++ (B ++ C)
theorem Parts.len {T : Str} {A B C : List Nat} (P : Parts T A B C) : T.length = A.length + B.length + C.length := by
  rw [← len_cps, P.is, List.length_append, List.length_append]; omega
theorem Parts.sgB {T : Str} {A B C : List Nat} (P : Parts T A B C) {k : Nat} (h1 : A.length ≤ k) (h2 : k < A.length + B.length) : sg T k ∈ B := by
  have e : T.cps.toList[k]? = some (sg T k) := sg_get (by rw [P.len]; omega)
  rw [P.is, List.getElem?_append_right h1, List.getElem?_append_left (by omega)] at e
  exact List.mem_of_getElem? e
theorem Parts.run {T : Str} {A B C : List Nat} (P : Parts T A B C) (hB : ∀ c ∈ B, Dig c) (hC : ∀ c, C.head? = some c → ¬ Dig c) : DigRun T A.length (A.length + B.length) := by
  refine ⟨by omega, by rw [P.len]; omega, fun k h1 h2 => hB _ (P.sgB h1 h2), fun h => ?_⟩
  have e : T.cps.toList[A.length + B.length]? = some (sg T (A.length + B.length)) := sg_get h
  rw [P.is, List.getElem?_append_right (by omega), List.getElem?_append_right (by omega)] at e
  refine hC _ ?_
  rw [List.head?_eq_getElem?]
  rw [show A.length + B.length - A.length - B.length = 0 by omega] at e
  exact e
theorem Parts.sliceB {T : Str} {A B C : List Nat} (P : Parts T A B C) : Txt.slice T (some (A.length : Int)) (some ((A.length + B.length : Nat) : Int)) = ⟨B.toArray⟩ := by
  rw [slice_nat T _ _ (by omega), P.is, List.drop_left, show A.length + B.length - A.length = B.length by omega, List.take_left]
theorem Parts.slice1 {T : Str} {A B C : List Nat} (P : Parts T A B C) : Txt.slice T (some ((A.length + B.length : Nat) : Int)) (some (((A.length + B.length : Nat) : Int) + 1)) = ⟨(C.take 1).toArray⟩ := by
  rw [show ((A.length + B.length : Nat) : Int) + 1 = ((A.length + B.length + 1 : Nat) : Int) by omega, slice_nat T _ _ (by omega), P.is, ← List.append_assoc, ← List.length_append, List.drop_left]
  congr 3
  omega
theorem Parts.first {T : Str} {A B C : List Nat} (P : Parts T A B C) : Txt.slice T none (some 1) = ⟨((A ++ (B ++ C)).take 1).toArray⟩ := by
  rw [show (1 : Int) = ((1 : Nat) : Int) from rfl, slice_upto, P.is]
theorem Parts.sliceY {T : Str} {A B : List Nat} {c : Nat} {Y : List Nat} (P : Parts T A B (c :: Y)) : Txt.slice T (some (((A.length + B.length : Nat) : Int) + 1)) (some (T.length : Int)) = ⟨Y.toArray⟩ := by
  have hl := P.len
  rw [List.length_cons] at hl
  rw [show ((A.length + B.length : Nat) : Int) + 1 = ((A.length + B.length + 1 : Nat) : Int) by omega, slice_nat T _ _ (by omega)]
  congr 2
  have e : T.cps.toList = (A ++ B ++ [c]) ++ Y := by rw [P.is]; simp
  have l : (A ++ B ++ [c]).length = A.length + B.length + 1 := by simp; omega
  rw [e, ← l, List.drop_left, List.take_of_length_le]
  omega
theorem Parts.runY {T : Str} {A B : List Nat} {c : Nat} {Y : List Nat} (P : Parts T A B (c :: Y)) (hY : ∀ d ∈ Y, Dig d) : DigRun T (A.length + B.length + 1) T.length := by
  have hl := P.len
  rw [List.length_cons] at hl
  refine ⟨by omega, Nat.le_refl _, fun k h1 h2 => ?_, fun h => absurd h (Nat.lt_irrefl _)⟩
  have e : T.cps.toList[k]? = some (sg T k) := sg_get h2
  have e2 : T.cps.toList = (A ++ B ++ [c]) ++ Y := by rw [P.is]; simp
  have l : (A ++ B ++ [c]).length = A.length + B.length + 1 := by simp; omega
  rw [e2, List.getElem?_append_right (by omega)] at e
  exact hY _ (List.mem_of_getElem? e)

def readF (neg : Bool) (W Y : Str) : Int × Int := if neg then (-(readV W Y).1, (readV W Y).2) else readV W Y
theorem dig_nospc {c : Nat} (h : Dig c) : ¬ Spc c := by unfold Dig at h; unfold Spc; omega
theorem dig_nominus {c : Nat} (h : Dig c) : c ≠ 45 := by unfold Dig at h; omega
theorem rest_nospc {W Y : List Nat} {pt : List Nat} (dW : ∀ c ∈ W, Dig c) (dY : ∀ c ∈ Y, Dig c) (hp : ∀ c ∈ pt, c = 46) : ∀ c ∈ W ++ (pt ++ Y), ¬ Spc c ∧ c ≠ 45 := by
  intro c hc
  rcases List.mem_append.mp hc with h | h
  · exact ⟨dig_nospc (dW c h), dig_nominus (dW c h)⟩
  · rcases List.mem_append.mp h with h | h
    · rw [hp c h]; exact ⟨by unfold Spc; omega, by omega⟩
    · exact ⟨dig_nospc (dY c h), dig_nominus (dY c h)⟩
theorem tr_of (w mean mg mb) {x : Str} {b : Nat} (D : TrimRun x b) (hl : x.length ≤ 5000) (news : Led) : ∀ tx, Spec w mean mg mb 1 123 [.str x tx] news (StrR ⟨(x.cps.toList.drop b).toArray⟩ news) := by
  intro tx
  have h := trimmed_spec w mean mg mb x b tx news D hl
  rw [trim_T D.le] at h
  exact h
theorem cat_ne {x y : Str} (h : 0 < x.length + y.length) : (x ++ y == Str.ofString "") = false := by
  rw [empty_is]
  refine beq_false_of_ne fun q => ?_
  have e := congrArg (fun s : Str => s.cps.toList.length) q
  have e2 : (x ++ y).cps.toList.length = 0 := e
  rw [cat_cps, List.length_append, len_cps, len_cps] at e2
  omega
theorem pt_yes {T : Str} {A B : List Nat} {Y : List Nat} (P : Parts T A B (46 :: Y)) : (Txt.slice T (some ((A.length + B.length : Nat) : Int)) (some (((A.length + B.length : Nat) : Int) + 1)) == Str.ofString ".") = true := by
  rw [P.slice1, beq_list point_is]
  rfl
theorem pt_no {T : Str} {A B : List Nat} (P : Parts T A B []) : (Txt.slice T (some ((A.length + B.length : Nat) : Int)) (some (((A.length + B.length : Nat) : Int) + 1)) == Str.ofString ".") = false := by
  rw [P.slice1, beq_list point_is]
  rfl
theorem sign_yes {T : Str} {B C : List Nat} (P : Parts T [45] B C) : (Txt.slice T none (some 1) == Str.ofString "-") = true := by
  rw [P.first, beq_list minus_is]
  rfl
theorem sign_no {T : Str} {B C : List Nat} (P : Parts T [] B C) (h : ∀ c ∈ B ++ C, c ≠ 45) : (Txt.slice T none (some 1) == Str.ofString "-") = false := by
  rw [P.first, beq_list minus_is, List.nil_append]
  cases hl : B ++ C with
  | nil => rfl
  | cons c r =>
    have := h c (by rw [hl]; exact .head _)
    simp [this]
theorem len_zero {Y : Str} (h : Y.length = 0) : Y = Str.ofString "" := by
  rw [empty_is, ← str_eta Y]
  have e : Y.cps.toList = [] := List.length_eq_zero_iff.mp (by rw [len_cps]; exact h)
  rw [e]

theorem pt_yes' {T : Str} {A B : List Nat} {Y : List Nat} {e : Nat} (P : Parts T A B (46 :: Y)) (he : e = A.length + B.length) : (Txt.slice T (some (e : Int)) (some ((e : Int) + 1)) == Str.ofString ".") = true := by subst he; exact pt_yes P
theorem pt_no' {T : Str} {A B : List Nat} {e : Nat} (P : Parts T A B []) (he : e = A.length + B.length) : (Txt.slice T (some (e : Int)) (some ((e : Int) + 1)) == Str.ofString ".") = false := by subst he; exact pt_no P
theorem run' {T : Str} {A B C : List Nat} {i e : Nat} (P : Parts T A B C) (hB : ∀ c ∈ B, Dig c) (hC : ∀ c, C.head? = some c → ¬ Dig c) (hi : i = A.length) (he : e = A.length + B.length) : DigRun T i e := by subst hi; subst he; exact P.run hB hC
theorem runY' {T : Str} {A B : List Nat} {c : Nat} {Y : List Nat} {e : Nat} (P : Parts T A B (c :: Y)) (hY : ∀ d ∈ Y, Dig d) (he : e = A.length + B.length) : DigRun T (e + 1) T.length := by subst he; exact P.runY hY
theorem sliceB' {T W : Str} {A C : List Nat} {i : Int} {e : Nat} (P : Parts T A W.cps.toList C) (hi : i = (A.length : Int)) (he : e = A.length + W.cps.toList.length) : Txt.slice T (some i) (some (e : Int)) = W := by subst hi; subst he; exact P.sliceB.trans (str_eta W)
theorem sliceY' {T Y : Str} {A B : List Nat} {c : Nat} {e : Nat} (P : Parts T A B (c :: Y.cps.toList)) (he : e = A.length + B.length) : Txt.slice T (some ((e : Int) + 1)) (some (T.length : Int)) = Y := by subst he; exact P.sliceY.trans (str_eta Y)

theorem read_spec (w mean mg mb) (x W Y : Str) (neg : Bool) (tx : Tok) (news : Led) (dW : ∀ c ∈ W.cps.toList, Dig c) (dY : ∀ c ∈ Y.cps.toList, Dig c) (hW : W.length ≤ 1000) (hY : Y.length ≤ 1000) (hne : 0 < W.length + Y.length)
    (hx : x.cps.toList = (if neg then [32, 45] else []) ++ (W.cps.toList ++ ((if Y.length = 0 then [] else [46]) ++ Y.cps.toList))) :
    Spec w mean mg mb 7 137 [.str x tx] news (ValR w (readF neg W Y) news) := by
  by_cases hy : Y.length = 0
  · rw [if_pos hy, List.nil_append] at hx
    have hye := len_zero hy
    have hyl : Y.cps.toList = [] := List.length_eq_zero_iff.mp (by rw [len_cps]; exact hy)
    rw [hyl, List.append_nil] at hx
    have hr : ∀ c ∈ W.cps.toList ++ ([] : List Nat), ¬ Spc c ∧ c ≠ 45 := rest_nospc (pt := []) (Y := []) dW (fun c h => (nomatch h)) (fun c h => (nomatch h))
    rw [List.append_nil] at hr
    have nd : ∀ n t1 t2, Spec w mean mg mb 5 144 [.str W t1, .str (Str.ofString "") t2] n (ValR w (readV W Y) n) := fun n t1 t2 => by
      rw [hye] at dY hY ⊢
      exact numdig_spec w mean mg mb W (Str.ofString "") t1 t2 n hW hY dW dY
    cases neg with
    | true =>
      have D : TrimRun x 1 := trim_of (by have hq := congrArg List.length hx; simp only [if_true, if_false, List.length_append, List.length_cons, List.length_nil, len_cps, Bool.false_eq_true] at hq; omega) (fun k hk => by
        have e : k = 0 := by omega
        subst e
        unfold sg; rw [hx]; exact Or.inl rfl) (fun c hc => by
        rw [hx] at hc
        rcases List.mem_cons.mp hc with rfl | hc
        · unfold Spc; omega
        · exact (hr c hc).1)
      have xl : x.length ≤ 2000 := by have hq := congrArg List.length hx; simp only [if_true, if_false, List.length_append, List.length_cons, List.length_nil, len_cps, Bool.false_eq_true] at hq; omega
      obtain ⟨e, he⟩ : ∃ e, e = 1 + W.cps.toList.length := ⟨_, rfl⟩
      have P : Parts (⟨(x.cps.toList.drop 1).toArray⟩ : Str) [45] W.cps.toList [] := ⟨by show x.cps.toList.drop 1 = _; rw [hx]; simp⟩
      have s1 : Txt.slice (⟨(x.cps.toList.drop 1).toArray⟩ : Str) (some 1) (some (e : Int)) = W := sliceB' P (by simp [he]) (by simp [he])
      rw [show readF true W Y = (-(readV W Y).1, (readV W Y).2) from if_pos rfl]
      refine read_10 w mean mg mb x _ tx news e (readV W Y) ?_ (tr_of w mean mg mb D (by omega) news) (sign_yes P) (run' P dW (fun c h => (nomatch h)) (by simp [he]) (by simp [he])) (pt_no' P (by simp [he])) ?_ ?_ ?_
      · rw [mk_len, List.length_drop, len_cps]; omega
      · rw [P.len]; simp only [List.length_cons, List.length_nil]; omega
      · rw [s1]; exact cat_ne (by omega)
      · intro n t1 t2
        rw [s1]
        exact nd n t1 t2
    | false =>
      have D : TrimRun x 0 := trim_of (Nat.zero_le _) (fun k hk => absurd hk (Nat.not_lt_zero _)) (fun c hc => by
        rw [hx] at hc
        exact (hr c hc).1)
      have xl : x.length ≤ 2000 := by have hq := congrArg List.length hx; simp only [if_true, if_false, List.length_append, List.length_cons, List.length_nil, len_cps, Bool.false_eq_true] at hq; omega
      obtain ⟨e, he⟩ : ∃ e, e = 0 + W.cps.toList.length := ⟨_, rfl⟩
      have P : Parts (⟨(x.cps.toList.drop 0).toArray⟩ : Str) [] W.cps.toList [] := ⟨by show x.cps.toList.drop 0 = _; rw [hx]; simp⟩
      have s1 : Txt.slice (⟨(x.cps.toList.drop 0).toArray⟩ : Str) (some 0) (some (e : Int)) = W := sliceB' P (by simp [he]) (by simp [he])
      rw [show readF false W Y = readV W Y from if_neg Bool.false_ne_true]
      refine read_00 w mean mg mb x _ tx news e (readV W Y) ?_ (tr_of w mean mg mb D (by omega) news) (sign_no P (by rw [List.append_nil]; exact fun c h => (hr c h).2)) (run' P dW (fun c h => (nomatch h)) (by simp [he]) (by simp [he])) (pt_no' P (by simp [he])) ?_ ?_ ?_
      · rw [mk_len, List.length_drop, len_cps]; omega
      · rw [P.len]; simp only [List.length_cons, List.length_nil]; omega
      · rw [s1]; exact cat_ne (by omega)
      · intro n t1 t2
        rw [s1]
        exact nd n t1 t2
  · rw [if_neg hy] at hx
    have hr : ∀ c ∈ W.cps.toList ++ ([46] ++ Y.cps.toList), ¬ Spc c ∧ c ≠ 45 := rest_nospc dW dY (fun c h => List.mem_singleton.mp h)
    have nd : ∀ n t1 t2, Spec w mean mg mb 5 144 [.str W t1, .str Y t2] n (ValR w (readV W Y) n) := fun n t1 t2 => numdig_spec w mean mg mb W Y t1 t2 n hW hY dW dY
    have nodig : ∀ c, (46 :: Y.cps.toList).head? = some c → ¬ Dig c := fun c h => by
      have e : c = 46 := (Option.some.inj h).symm
      rw [e]; unfold Dig; omega
    cases neg with
    | true =>
      have D : TrimRun x 1 := trim_of (by have hq := congrArg List.length hx; simp only [if_true, if_false, List.length_append, List.length_cons, List.length_nil, len_cps, Bool.false_eq_true] at hq; omega) (fun k hk => by
        have e : k = 0 := by omega
        subst e
        unfold sg; rw [hx]; exact Or.inl rfl) (fun c hc => by
        rw [hx] at hc
        rcases List.mem_cons.mp hc with rfl | hc
        · unfold Spc; omega
        · exact (hr c hc).1)
      have xl : x.length ≤ 2100 := by have hq := congrArg List.length hx; simp only [if_true, if_false, List.length_append, List.length_cons, List.length_nil, len_cps, Bool.false_eq_true] at hq; omega
      obtain ⟨e, he⟩ : ∃ e, e = 1 + W.cps.toList.length := ⟨_, rfl⟩
      have P : Parts (⟨(x.cps.toList.drop 1).toArray⟩ : Str) [45] W.cps.toList (46 :: Y.cps.toList) := ⟨by show x.cps.toList.drop 1 = _; rw [hx]; simp⟩
      have s1 : Txt.slice (⟨(x.cps.toList.drop 1).toArray⟩ : Str) (some 1) (some (e : Int)) = W := sliceB' P (by simp [he]) (by simp [he])
      have s2 : Txt.slice (⟨(x.cps.toList.drop 1).toArray⟩ : Str) (some ((e : Int) + 1)) (some ((⟨(x.cps.toList.drop 1).toArray⟩ : Str).length : Int)) = Y := sliceY' P (by simp [he])
      rw [show readF true W Y = (-(readV W Y).1, (readV W Y).2) from if_pos rfl]
      refine read_11 w mean mg mb x _ tx news e (readV W Y) ?_ (tr_of w mean mg mb D (by omega) news) (sign_yes P) (run' P dW nodig (by simp [he]) (by simp [he])) (pt_yes' P (by simp [he])) (runY' P dY (by simp [he])) (Int.lt_irrefl _) ?_ ?_
      · rw [mk_len, List.length_drop, len_cps]; omega
      · rw [s1, s2]; exact cat_ne (by omega)
      · intro n t1 t2
        rw [s1, s2]
        exact nd n t1 t2
    | false =>
      have D : TrimRun x 0 := trim_of (Nat.zero_le _) (fun k hk => absurd hk (Nat.not_lt_zero _)) (fun c hc => by
        rw [hx] at hc
        exact (hr c hc).1)
      have xl : x.length ≤ 2100 := by have hq := congrArg List.length hx; simp only [if_true, if_false, List.length_append, List.length_cons, List.length_nil, len_cps, Bool.false_eq_true] at hq; omega
      obtain ⟨e, he⟩ : ∃ e, e = 0 + W.cps.toList.length := ⟨_, rfl⟩
      have P : Parts (⟨(x.cps.toList.drop 0).toArray⟩ : Str) [] W.cps.toList (46 :: Y.cps.toList) := ⟨by show x.cps.toList.drop 0 = _; rw [hx]; simp⟩
      have s1 : Txt.slice (⟨(x.cps.toList.drop 0).toArray⟩ : Str) (some 0) (some (e : Int)) = W := sliceB' P (by simp [he]) (by simp [he])
      have s2 : Txt.slice (⟨(x.cps.toList.drop 0).toArray⟩ : Str) (some ((e : Int) + 1)) (some ((⟨(x.cps.toList.drop 0).toArray⟩ : Str).length : Int)) = Y := sliceY' P (by simp [he])
      rw [show readF false W Y = readV W Y from if_neg Bool.false_ne_true]
      refine read_01 w mean mg mb x _ tx news e (readV W Y) ?_ (tr_of w mean mg mb D (by omega) news) (sign_no P (fun c h => (hr c h).2)) (run' P dW nodig (by simp [he]) (by simp [he])) (pt_yes' P (by simp [he])) (runY' P dY (by simp [he])) (Int.lt_irrefl _) ?_ ?_
      · rw [mk_len, List.length_drop, len_cps]; omega
      · rw [s1, s2]; exact cat_ne (by omega)
      · intro n t1 t2
        rw [s1, s2]
        exact nd n t1 t2

theorem reck_spec (w mean mg mb) (x y x' y' : Int) (qa qb : Addr) (t u t' u' : Tok) (news : Led) (ha : (qa, tup x y t u) ∈ news) (hb : (qb, tup x' y' t' u') ∈ news) (hy : 0 < y) (hy' : 0 < y')
    (b1 : Builtin.Int.intBits x ≤ 4000) (b2 : Builtin.Int.intBits y ≤ 1400) (b3 : Builtin.Int.intBits x' ≤ 4000) (b4 : Builtin.Int.intBits y' ≤ 1400) :
    Spec w mean mg mb 8 215 [.ref qa, .ref qb] news (BoolR true news) := by
  rcases Int.lt_trichotomy x' 0 with h | h | h
  · exact reck_specN w mean mg mb x y x' y' qa qb t u t' u' news ha hb hy hy' h b1 b2 b3 b4
  · exact reck_spec0 w mean mg mb x y x' y' qa qb t u t' u' news ha hb hy hy' h b1 b2 b3 b4
  · exact reck_specP w mean mg mb x y x' y' qa qb t u t' u' news ha hb hy hy' h b1 b2 b3 b4
theorem quot_lt {t b : Int} (hb : 0 < b) (h : ¬ MM * b ≤ mag t) (h1 : b.fdiv (Int.gcd t b) = 1) : Builtin.Int.intBits (t.fdiv (Int.gcd t b)) ≤ 1400 := by
  have hg : 0 < (Int.gcd t b : Int) := by have := Int.gcd_pos_of_ne_zero_right t (show b ≠ 0 by omega); omega
  have e1 := Int.mul_fdiv_cancel_of_dvd (Int.gcd_dvd_right t b)
  have e2 := Int.mul_fdiv_cancel_of_dvd (Int.gcd_dvd_left t b)
  rw [h1, Int.mul_one] at e1
  generalize (Int.gcd t b : Int) = g at *
  subst e1
  generalize t.fdiv g = z at *
  subst e2
  refine intBits_le_of_natAbs ?_ MM_bits
  have hm : mag (g * z) < MM * g := Int.not_le.mp h
  have hm2 : mag (g * z) = g * mag z := by
    unfold mag
    by_cases hz : z < 0
    · rw [if_pos hz, if_pos (Int.mul_neg_of_pos_of_neg hg hz), Int.mul_neg]
    · rw [if_neg hz, if_neg (Int.not_lt.mpr (Int.mul_nonneg (Int.le_of_lt hg) (Int.not_lt.mp hz)))]
  rw [hm2, Int.mul_comm MM] at hm
  have h3 := Int.lt_of_mul_lt_mul_left hm (Int.le_of_lt hg)
  have h4 := MM_pos
  unfold mag at h3
  split at h3 <;> omega
theorem numF_whole {x y : Int} (hy : 0 < y) (h : (numF x y).2 = 1) : Builtin.Int.intBits (numF x y).1 ≤ 1400 := by
  by_cases h1 : MM * y ≤ mag x
  · rw [numF_big h1] at h; cases h
  · by_cases h2 : y.fdiv (Int.gcd x y) ≤ MM
    · rw [numF_sml h1 h2] at h ⊢; exact quot_lt hy h1 h
    · rw [numF_near h1 h2] at h ⊢
      by_cases h3 : MM * MM ≤ mag (near x y)
      · rw [num1_big h3] at h; cases h
      · rw [num1_sml h3] at h ⊢; exact quot_lt MM_pos h3 h
/-- a number built: p over q is what x over y is told as -/
structure NF (x y p q : Int) : Prop where
  is : numF x y = (p, q)
  q0 : 0 ≤ q
  b1 : Builtin.Int.intBits p ≤ 4000
  b2 : Builtin.Int.intBits q ≤ 1400
  b3 : q = 1 → Builtin.Int.intBits p ≤ 1400
theorem NF.mk' {x y : Int} (h : TB x y) : NF x y (numF x y).1 (numF x y).2 :=
  ⟨rfl, (numF_den x h.2.1).1, Nat.le_trans (numF_bits1 (n := 1500) h.1 (Nat.le_trans h.2.2 (by decide)) (by decide)) (by decide), numF_bits2 x h.2.1, numF_whole h.2.1⟩
theorem NF.pos {x y p q : Int} (h : NF x y p q) (hq : q ≠ 0) : 0 < q := by have := h.q0; omega
def NumR (x y : Int) (news : Led) (r : Value) (n' : Led) : Prop := ∃ p q, NF x y p q ∧ TupR (p, q) news r n'
theorem Spec.useNum {w : World} {mean : ExcName → Option Value} {mg mb : Str → Option Value} {d : Nat} {f : Addr} {vs : List Value} {news : Led} {x y : Int} {n1 : Led} (S : Spec w mean mg mb d f vs news (NumR x y n1))
    {dp un : Nat} {gd : Option (List Code)} {cn : Str} {cs : Scope} {a : Addr} {ccd : Value} {cl : List (Str × Addr)} {outer : List Env} {A₀ : Around} {base h₀ : Heap} {L : Addr} {m : Str → Option Value} {s : Shared} {Q E : Value → Shared → Prop}
    (B : Below A₀ base outer h₀) (F : Fr h₀ L s.heap m) (X : (hd.heap_39 w.params).In h₀) (N : News h₀ L s.heap news) (T : Top hd.view_39 Loo mean mg mb h₀) (hk : cs.kind = .function)
    (hd : dp + d < recursionLimit) (hu : un + 8 * d + 1000 < cLine)
    (ret : ∀ p r (q : Addr) t u (h' : Heap) (tk' : Nat), Fr h₀ L h' m → News h₀ L h' ((q, ({ cls := .type "tuple", data := .seq #[.int p t, .int r u] } : Obj)) :: n1) → NF x y p r → AllLt q n1 → Q (.ref q) { s with heap := h', toks := tk' }) :
    wpAny (model PySem.Challenge.rw_sy0045_01.row.prog w) (ktrTop dp un gd cn cs L a ccd cl outer) (call (.ref f) vs) Q E s :=
  S.use B F X N T hk hd hu fun _ _ h' tk' F' N' hp => by
    obtain ⟨p, r, hn, q, t, u, rfl, rfl, l⟩ := hp
    exact ret p r q t u h' tk' F' N' hn (allLt_of l)
theorem num_TB (w mean mg mb) {x y : Int} (h : TB x y) (tx ty : Tok) (news : Led) : Spec w mean mg mb 4 39 [.int x tx, .int y ty] news (NumR x y news) := by
  intro dp un gd cn cs a ccd cl outer A₀ base h₀ L m s Q E B F X N T hk hdp hun hret
  exact number_of_spec w mean mg mb x y tx ty h.2.1 (Nat.le_trans h.1 (by decide)) (Nat.le_trans h.2.2 (by decide)) news dp un gd cn cs a ccd cl outer A₀ base h₀ L m s Q E B F X N T hk hdp hun
    fun r n' h' tk' F' N' hp => hret r n' h' tk' F' N' ⟨_, _, NF.mk' h, hp⟩
theorem num_NF (w mean mg mb) {x y p q : Int} (hT : TB x y) (h : NF x y p q) (tx ty : Tok) (news : Led) : Spec w mean mg mb 4 39 [.int (-x) tx, .int (-y) ty] news (TupR (p, q) news) := by
  rw [← h.is]
  have e := number_of_specN w mean mg mb (-x) (-y) tx ty (by have := hT.2.1; omega) (by rw [Int.neg_neg]; exact Nat.le_trans hT.1 (by decide)) (by rw [Int.neg_neg]; exact Nat.le_trans hT.2.2 (by decide)) news
  rw [Int.neg_neg, Int.neg_neg] at e
  exact e
theorem due_NF (w mean mg mb) {x y p q : Int} (hT : TB x y) (h : NF x y p q) (tx ty : Tok) (news : Led) : Spec w mean mg mb 3 194 [.int x tx, .int y ty] news (TupR (p, q) news) := by
  rw [← h.is]
  exact due_spec w mean mg mb x y tx ty hT.2.1 (Nat.le_trans hT.1 (by decide)) (Nat.le_trans hT.2.2 (by decide)) news
theorem wholes_NF (w mean mg mb) {x y p q : Int} (qa : Addr) (t u : Tok) (news : Led) (ha : (qa, tup p q t u) ∈ news) (h : NF x y p q) (hq : q ≠ 0) : Spec w mean mg mb 7 208 [.ref qa] news (BoolR true news) :=
  wholes_spec w mean mg mb p q qa t u news ha (h.pos hq) h.b1 h.b2
theorem write_NF (w mean mg mb) {x y p q : Int} (qa : Addr) (t u : Tok) (news : Led) (ha : (qa, tup p q t u) ∈ news) (h : NF x y p q) (hq : q = 1) : Spec w mean mg mb 2 152 [.ref qa] news (StrR (Str.ofString (toString p)) news) := by
  have b := h.b3 hq
  subst hq
  exact write_spec w mean mg mb p qa t u news ha b
theorem reck_NF (w mean mg mb) {x y p q x' y' p' q' : Int} (qa qb : Addr) (t u t' u' : Tok) (news : Led) (ha : (qa, tup p q t u) ∈ news) (hb : (qb, tup p' q' t' u') ∈ news) (h : NF x y p q) (h' : NF x' y' p' q') (hq : q ≠ 0) (hq' : q' ≠ 0) :
    Spec w mean mg mb 8 215 [.ref qa, .ref qb] news (BoolR true news) :=
  reck_spec w mean mg mb p q p' q' qa qb t u t' u' news ha hb (h.pos hq) (h'.pos hq') h.b1 h.b2 h'.b1 h'.b2
section
variable {prog : Program} {w : World} {A : Around} {E : Value → Shared → Prop} {s : Shared} {Q : Value → Shared → Prop} {h₀ : Heap} {L a b p1 p2 r1 r2 : Addr} {news : Led} {x y x' y' : Int} {t1 u1 t2 u2 t3 u3 t4 u4 : Tok}
theorem lst2_reads (N : News h₀ L s.heap news) (ha : (a, LCg.lst [.ref p1, .ref p2]) ∈ news) (h1 : (p1, tup x y t1 u1) ∈ news) (h2 : (p2, tup x' y' t2 u2) ∈ news) : ∃ as, Reads s.heap (.ref a) (.list [.tuple [.int x, .int y], .tuple [.int x', .int y']]) as := by
  obtain ⟨as1, e1⟩ := tup_reads N h1
  obtain ⟨as2, e2⟩ := tup_reads N h2
  exact ⟨_, reads_list_at (News.get N ha) rfl rfl (ReadsAll.cons e1 (ReadsAll.cons e2 ReadsAll.nil))⟩
theorem lst2_ne (N : News h₀ L s.heap news) (ha : (a, LCg.lst [.ref p1, .ref p2]) ∈ news) (hb : (b, LCg.lst [.ref r1, .ref r2]) ∈ news) (h1 : (p1, tup x y t1 u1) ∈ news) (h2 : (p2, tup x' y' t2 u2) ∈ news) (h3 : (r1, tup x y t3 u3) ∈ news) (h4 : (r2, tup x' y' t4 u4) ∈ news)
    (hu : A.units + 64 < cLine) (h : Q (.bool false) s) : wpAny (model prog w) A (compareOp .NotEq (.ref a) (.ref b)) Q E s := by
  obtain ⟨as, ra⟩ := lst2_reads N ha h1 h2
  obtain ⟨bs, rb⟩ := lst2_reads N hb h3 h4
  refine ne_dataH ra rb rfl rfl hu ?_
  have e : PyData.eqv (.list [.tuple [.int x, .int y], .tuple [.int x', .int y']]) (.list [.tuple [.int x, .int y], .tuple [.int x', .int y']]) = true := PySem.SeqAt.eqv_refl _ rfl
  rw [e]
  exact h
end
theorem news_drop3 {h₀ h : Heap} {L : Addr} {p q r : Addr × Obj} {l : Led} (N : News h₀ L h (p :: q :: r :: l)) : News h₀ L h l := fun e he => N e (.tail _ (.tail _ (.tail _ he)))
local macro_rules | `(tactic| walk_at "x mem") => `(tactic| with_reducible first | exact List.mem_cons_self | (refine List.mem_cons_of_mem _ ?_; walk_at "x mem"))
section
variable {prog : Program} {w : World} {A : Around} {E : Value → Shared → Prop} {s : Shared} {Q : Value → Shared → Prop} {h₀ : Heap} {L a : Addr} {news : Led} {x y : Int} {t u k : Tok}
theorem tup_it0 {value slice : PySem.Expr} (N : News h₀ L s.heap news) (ha : (a, tup x y t u) ∈ news) (h : Q (.int x t) s)
    (hs : subscripted slice false (.ref a) (.int 0 k) = operate [.ref a, .int 0 k] (getItem (.ref a) (.int 0 k)) := by with_unfolding_all rfl) :
    wpAny (model prog w) A (subscriptTail value slice (.ref a) (.int 0 k)) Q E s := item_tupleT (News.isTup N ha) (by decide) (by decide) rfl rfl h hs
theorem tup_it1 {value slice : PySem.Expr} (N : News h₀ L s.heap news) (ha : (a, tup x y t u) ∈ news) (h : Q (.int y u) s)
    (hs : subscripted slice false (.ref a) (.int 1 k) = operate [.ref a, .int 1 k] (getItem (.ref a) (.int 1 k)) := by with_unfolding_all rfl) :
    wpAny (model prog w) A (subscriptTail value slice (.ref a) (.int 1 k)) Q E s := item_tupleT (News.isTup N ha) (by decide) (by decide) rfl rfl h hs
end
section
variable {prog : Program} {w : World} {A : Around} {E : Value → Shared → Prop} {s : Shared} {Q : Value → Shared → Prop} {h₀ : Heap} {L a : Addr} {news : Led} {v0 v1 : Value} {k : Tok}
theorem lst_it0 {value slice : PySem.Expr} (N : News h₀ L s.heap news) (ha : (a, LCg.lst [v0, v1]) ∈ news) (h : Q v0 s)
    (hs : subscripted slice false (.ref a) (.int 0 k) = operate [.ref a, .int 0 k] (getItem (.ref a) (.int 0 k)) := by with_unfolding_all rfl) :
    wpAny (model prog w) A (subscriptTail value slice (.ref a) (.int 0 k)) Q E s := lst_item N ha (by decide) (by decide) rfl h hs
theorem lst_it1 {value slice : PySem.Expr} (N : News h₀ L s.heap news) (ha : (a, LCg.lst [v0, v1]) ∈ news) (h : Q v1 s)
    (hs : subscripted slice false (.ref a) (.int 1 k) = operate [.ref a, .int 1 k] (getItem (.ref a) (.int 1 k)) := by with_unfolding_all rfl) :
    wpAny (model prog w) A (subscriptTail value slice (.ref a) (.int 1 k)) Q E s := lst_item N ha (by decide) (by decide) rfl h hs
end
theorem log_NF {x y p q : Int} (h : NF x y p q) (hq : q = 1) : p.natAbs.log2 < 1920 := by
  have b1 := h.b3 hq
  by_cases h0 : p.natAbs = 0
  · rw [h0]; decide +kernel
  · have e := (Nat.log2_lt h0).mpr (intBits_le_iff.mp b1)
    omega
theorem ret_bsrc {h₀ h' : Heap} {L src : Addr} {m : Str → Option Value} {rest nn : Led} {s : Shared} {Q : Value → Shared → Prop} {b n : Int} {tb tn : Tok} {k tk' : Nat} {y : Bool}
    (hret : ∀ r news' h' tk', Fr h₀ L h' m → News h₀ L h' news' → (r = .bool true ∧ SrcAt src rest news') → Q r { s with heap := h', toks := tk' })
    (F : Fr h₀ L h' m) (N : News h₀ L h' nn) (hs : ∀ p ∈ (src, srcO b n tb tn k) :: rest, p ∈ nn) (hb : 0 ≤ b) (hn : 0 ≤ n) (hn' : n < 2147483647) (e : y = true) : Q (.bool y) { s with heap := h', toks := tk' } := by
  subst e
  exact hret _ _ _ _ F (fun p hp => N p (hs p hp)) ⟨rfl, b, n, tb, tn, k, hb, hn, hn', rfl⟩
section
variable {prog : Program} {w : World} {A : Around} {E : Value → Shared → Prop} {s : Shared} {Q : Value → Shared → Prop} {x : Str} {t u : Tok}
theorem ne_same (h : Q (.bool false) s) : wpAny (model prog w) A (compareOp .NotEq (.str x t) (.str x u)) Q E s :=
  PySem.P.ne_str (by rw [bne_self_eq_false]; exact h)
end
local macro_rules | `(tactic| walk_at "x sublist") => `(tactic| first | exact List.forall_mem_nil _ | (refine List.forall_mem_cons.mpr ⟨by walk_at "x mem", ?_⟩; walk_at "x sublist"))
section
variable {prog : Program} {w : World} {A : Around} {E : Value → Shared → Prop} {s : Shared} {Q : Value → Shared → Prop} {h₀ : Heap} {L o : Addr} {news : Led} {v0 v1 : Value}
theorem lst_len0 (N : News h₀ L s.heap news) (hm : (o, LCg.lst []) ∈ news) (h : Q (.int 0 (s.toks + 1)) { s with toks := s.toks + 1 + 1 }) : wpAny (model prog w) A (call (.builtin "len") [.ref o]) Q E s := lst_len (vs := []) N hm (by decide) h
theorem lst_len1 (N : News h₀ L s.heap news) (hm : (o, LCg.lst [v0]) ∈ news) (h : Q (.int 1 (s.toks + 1)) { s with toks := s.toks + 1 + 1 }) : wpAny (model prog w) A (call (.builtin "len") [.ref o]) Q E s := lst_len (vs := [v0]) N hm (Nat.le_of_ble_eq_true rfl) h
theorem lst_len2 (N : News h₀ L s.heap news) (hm : (o, LCg.lst [v0, v1]) ∈ news) (h : Q (.int 2 (s.toks + 1)) { s with toks := s.toks + 1 + 1 }) : wpAny (model prog w) A (call (.builtin "len") [.ref o]) Q E s := lst_len (vs := [v0, v1]) N hm (Nat.le_of_ble_eq_true rfl) h
end
theorem cut_next {M : Model} {A : Around} {E : Value → Shared → Prop} {s : Shared} {tree : Sem Flow} {g : Heap} {L : Addr} {led : Led} {m : Str → Option Value} {q : Flow → Shared → Prop} (_F : Fr g L s.heap m) (_N : News g L s.heap led)
    (w : ∀ q' : Flow → Shared → Prop, (∀ h' tk', Fr g L h' m → News g L h' led → q' .next { s with heap := h', toks := tk' }) → wpAny M A tree q' E s)
    (c : ∀ h' tk', Fr g L h' m → News g L h' led → q .next { s with heap := h', toks := tk' }) : wpAny M A tree q E s := w q c
theorem news_of {h₀ h : Heap} {L : Addr} {all l : Led} (N : News h₀ L h all) (sub : ∀ p ∈ l, p ∈ all) : News h₀ L h l := fun p hp => N p (sub p hp)

theorem news_front5 {h₀ h : Heap} {L : Addr} {a b c d e : Addr × Obj} {r : Led} (N : News h₀ L h (a :: b :: c :: d :: e :: r)) : News h₀ L h (e :: a :: b :: c :: d :: r) := fun x hx => N x (by
  simp only [List.mem_cons] at hx ⊢
  rcases hx with h | h | h | h | h | h <;> simp [h])
theorem news_front4 {h₀ h : Heap} {L : Addr} {a b c d : Addr × Obj} {r : Led} (N : News h₀ L h (a :: b :: c :: d :: r)) : News h₀ L h (d :: a :: b :: c :: r) := fun x hx => N x (by
  simp only [List.mem_cons] at hx ⊢
  rcases hx with h | h | h | h | h <;> simp [h])
local macro_rules | `(tactic| lcg_off) => `(tactic| first | (simp only [LCg.Off3, and_true]; with_reducible assumption) | exact True.intro | (refine And.intro ⟨by k_ne, by k_ne, by k_ne⟩ ?_; lcg_off))
theorem numbers_spec (w mean mg mb) (src I0 : Addr) (oI : Obj) (b n : Int) (t u : Tok) (k : Nat) (f : Bool) (hI : @LT.lt Nat _ I0 src) (hb : 0 ≤ b) (hn : 0 ≤ n) (hn' : n < 2147483647) :
    Spec w mean mg mb 12 220 [.ref src, .bool f] [(src, srcO b n t u k), (I0, oI)] (fun r n' => r = .bool true ∧ SrcAt src [(I0, oI)] n') := by
  unfold Spec; k_fill; intro dp un gd cn cs a ccd cl outer A₀ base h₀ L m s Q E B F X N T hk hdp hun hret
  ((refine wpAny_call ?_; k_dflt (refine' code_defC ?k1 ?k2 ?k3 ?k4 ?k5 ?kA ?kF ?kK ?k6 ?k7 ?k8 ?k9 ?kB ?kD ?_ ?c2 ?c3 ?c4; (case kA => exact rfl); (case kF => exact rfl); (case kK => assumption); (case k1 => k_asm); (case k2 => k_asm); (case k3 => k_asm); (case k4 => k_asm); (case k5 => k_asm); (case k6 => k_is); (case k7 => k_is); (case k8 => ktr_room); (case k9 => first | exact BindsTo.of_eq rfl | exact binds_K (by k_in) rfl (by k_is) rfl rfl rfl); (case kB => exact rfl); (case kD => decide +kernel); (case c2 => exact rfl); (case c3 => exact rfl); (case c4 => exact rfl); k_whole; intro g' L' h' tk' cells' FG' F' N' Y' B' X' T' l1; (try k_lt l1); k_cells Y'; (try simp only [List.cons_append, List.nil_append] at N'); (try dsimp only); (try k_fold))))
  k_with_none
  k_with "binaryOp Mod int int" => (k_dflt (k_extra "my mod"))
  k_with "binaryOp Pow int int" => (k_dflt (k_extra "my pow"))
  k_with "exec While Compare cons nil" => (k_dflt (k_extra "my while"))
  k_with "call ref" => (k_dflt (k_extra "my call"))
  k_with "eval Call Name" => ((k_here; (fail_if_success (with_reducible show wpAny _ _ (eval (PySem.Expr.Call (PySem.Expr.Name (PySem.Str.ofString "abs") _) _ _ _) _) _ _ _)); (fail_if_success (with_reducible show wpAny _ _ (eval (PySem.Expr.Call (PySem.Expr.Name (PySem.Str.ofString "len") _) _ _ _) _) _ _ _)); (fail_if_success (with_reducible show wpAny _ _ (eval (PySem.Expr.Call (PySem.Expr.Name (PySem.Str.ofString "range") _) _ _ _) _) _ _ _)); (fail_if_success (with_reducible show wpAny _ _ (eval (PySem.Expr.Call (PySem.Expr.Name (PySem.Str.ofString "max") _) _ _ _) _) _ _ _)); (fail_if_success (with_reducible show wpAny _ _ (eval (PySem.Expr.Call (PySem.Expr.Name (PySem.Str.ofString "min") _) _ _ _) _) _ _ _)); (fail_if_success (with_reducible show wpAny _ _ (eval (PySem.Expr.Call (PySem.Expr.Name (PySem.Str.ofString "int") _) _ _ _) _) _ _ _)); (fail_if_success (with_reducible show wpAny _ _ (eval (PySem.Expr.Call (PySem.Expr.Name (PySem.Str.ofString "str") _) _ _ _) _) _ _ _)); (with_reducible show wpAny _ _ (eval (PySem.Expr.Call (PySem.Expr.Name _ _) _ _ _) (envOf _ _ _ _ _)) _ _ _); refine Call_ ?_))
  k_with "execs cons" => (k_dflt (k_extra "my execs"))
  k_with "subscriptTail Name Constant ref int" => ((k_here; k_dflt (refine' item_tupleT ?t ?a ?b ?c ?d ?_; (case t => (refine' News.isTup ?tn ?tm; (case tn => k_asm); (case tm => k_mem))); (case a => decide); (case b => decide); (case c => rfl); (case d => rfl); k_whole)))
  k_with "binaryOp FloorDiv int int" => (first | k_dflt (k_extra "my div") | (with_reducible refine' floordiv_int ?xa ?_ (Or.inl (noPy ?xb ?xc)); (case xa => first | assumption | omega); (case xb => bits_by_make); (case xc => decide)))
  k_with "compareOp NotEq ref ref" => (k_dflt (refine' tup_ne ?xN ?xa ?xb ?xu ?xe ?_; (case xN => k_asm); (case xa => k_mem); (case xb => k_mem); (case xu => ktr_units); (case xe => first | with_reducible rfl | k_extra "my eq"); (((rename News _ _ _ _ => N8); (have N7 := news_drop2 N8); clear N8))))
  k_with "compareOp Eq ref ref" => (k_dflt (refine' tup_eq ?xN ?xa ?xb ?xu ?xe ?_; (case xN => k_asm); (case xa => k_mem); (case xb => k_mem); (case xu => ktr_units); (case xe => first | with_reducible rfl | k_extra "my eq"); (((rename News _ _ _ _ => N8); (have N7 := news_drop2 N8); clear N8))))
  k_with "compareOp Eq ref ref" => (k_dflt (refine' tup_eqK ?xF ?xX ?xN ?xa ?xb ?xu ?xe ?_; (case xF => k_asm); (case xX => k_asm); (case xN => k_asm); (case xa => k_is); (case xb => k_mem); (case xu => ktr_units); (case xe => first | with_reducible rfl | k_extra "my eq")))
  k_with "compareOp NotEq ref ref" => (k_dflt (refine' tup_neK ?xF ?xX ?xN ?xa ?xb ?xu ?xe ?_; (case xF => k_asm); (case xX => k_asm); (case xN => k_asm); (case xa => k_is); (case xb => k_mem); (case xu => ktr_units); (case xe => first | with_reducible rfl | k_extra "my eq")))
  k_with "subscriptTail Name Constant ref int" => ((k_here; k_dflt (refine' lst_item (vs := [_, _]) ?t ?a ?b ?c ?d ?_ ?e; (case t => k_asm); (case a => k_mem); (case b => decide); (case c => decide); (case d => exact rfl); (case e => with_unfolding_all rfl); k_whole)))
  k_with "setItem ref int" => ((k_here; k_dflt (first | ((with_reducible show wpAny _ _ (setItem (Value.ref _) (Value.int 0 _) _) _ _ _); refine' src_set0 ?t ?a ?b ?_; (case t => k_asm); (case a => k_asm); (case b => assumption); k_whole) | ((with_reducible show wpAny _ _ (setItem (Value.ref _) (Value.int 1 _) _) _ _ _); refine' src_set1 ?t ?a ?b ?_; (case t => k_asm); (case a => k_asm); (case b => assumption); k_whole)); intro h' F' N'; (try k_sweep)))
  k_with "exec While BoolOp" => (k_dflt (k_extra "my while"))
  k_with "subscriptTail Name Constant ref int" => ((k_here; with_reducible first | (refine' tup_it0 ?t ?a ?_ ?e; (case t => k_asm); (case a => walk_at "x mem"); (case e => with_unfolding_all rfl)) | (refine' tup_it1 ?t ?a ?_ ?e; (case t => k_asm); (case a => walk_at "x mem"); (case e => with_unfolding_all rfl)) | (refine' lst_it0 ?t ?a ?_ ?e; (case t => k_asm); (case a => walk_at "x mem"); (case e => with_unfolding_all rfl)) | (refine' lst_it1 ?t ?a ?_ ?e; (case t => k_asm); (case a => walk_at "x mem"); (case e => with_unfolding_all rfl))))
  k_with "compareOp NotEq ref ref" => (k_dflt (refine' lst2_ne ?xN ?xa ?xb ?h1 ?h2 ?h3 ?h4 ?xu ?_; (case xN => k_asm); (case xa => walk_at "x mem"); (case xb => walk_at "x mem"); (case h1 => walk_at "x mem"); (case h2 => walk_at "x mem"); (case h3 => walk_at "x mem"); (case h4 => walk_at "x mem"); (case xu => ktr_units); (((rename News _ _ _ _ => N8); (have N7 := news_drop3 N8); clear N8))))
  k_with "call type:str cons nil" => (k_dflt (k_extra "my str"))
  k_with "call builtin:len cons nil" => (k_dflt (k_extra "my len"))
  k_with "compareOp NotEq str str" => (with_reducible (refine ne_same ?_))
  k_with "exec For Name Name cons nil" => ((k_here; (rename Fr _ _ _ _ => lF'); (with_unfolding_all refine' For_invVF lF' ?k1 ?k2 ?_; (case k1 => exact rfl); (case k2 => exact rfl); k_whole)))
  k_with "exec Assign cons ListComp" => ((k_here; (with_reducible show wpAny _ _ (exec (Stmt.Assign _ (PySem.Expr.ListComp _ [⟨PySem.Expr.Name _ _, _, [], _⟩] _ _) _) _) _ _ _); k_dflt (refine LCg.Assign_ListComp_U (F₀ := by k_asm) (by rfl) (by with_unfolding_all rfl) (by rfl) (by decide) (by rfl) (by decide) (by rfl) (by rfl) (by rfl) ?_); k_dflt lcg_toSrc))
  k_with "CompSrc" => ((k_here; k_dflt (refine LCg.CompSrc.range (by rfl) (by k_asm) (by k_asm) (by assumption) (by first | decide | rfl) (by first | rfl | decide) (by first | size_fits | exact Nat.le_of_ble_eq_true rfl) ?_; intro g'; lcg_lit)))
  k_with "my call" => first
    | ((with_reducible show wpAny _ _ (call (Value.ref 201) _) _ _ _); (rename News _ _ _ _ => N5); (first | (have N4 : News _ _ _ ((src, srcO _ _ _ _ _) :: _) := news_front5 N5) | (have N4 : News _ _ _ ((src, srcO _ _ _ _ _) :: _) := news_front4 N5)); clear N5; ((rename News _ _ _ _ => N8); (refine' Spec.useFrac (fraction_spec _ _ _ _ _ _ _ _ _ _ _ (by k_all) (by assumption) (by assumption) (by assumption)) ?k1 ?k2 ?k3 N8 ?k5 ?kK ?kd ?ku ?_; (case k1 => k_asm); (case k2 => k_asm); (case k3 => k_asm); (case k5 => k_asm); (case kK => first | exact rfl | assumption); (case kd => ktr_room); (case ku => ktr_units); intro q9 x9 y9 t9 u9 b9 m9 t8 u8 k8 h9 tk9 F9 N9 hT9 hq9 hl9 hb9 hm9 hm8; (try dsimp only [AllLt] at hl9); (try dsimp only); (try k_sweep); (try k_unmd); (try k_fold))))
    | ((with_reducible show wpAny _ _ (call (Value.ref 39) [Value.int (-_) _, _]) _ _ _); ((rename News _ _ _ _ => N8); (refine' Spec.useTup (num_NF _ _ _ _ (by with_reducible assumption) (by with_reducible assumption) _ _ _) ?k1 ?k2 ?k3 N8 ?k5 ?kK ?kd ?ku ?_; (case k1 => k_asm); (case k2 => k_asm); (case k3 => k_asm); (case k5 => k_asm); (case kK => first | exact rfl | assumption); (case kd => ktr_room); (case ku => ktr_units); intro q9 t9 u9 h9 tk9 F9 N9 l9; (try dsimp only [AllLt] at l9); (try dsimp only); (try k_sweep); (try k_unmd); (try k_fold))))
    | ((with_reducible show wpAny _ _ (call (Value.ref 39) _) _ _ _); ((rename News _ _ _ _ => N8); (refine' Spec.useNum (num_TB _ _ _ _ (by with_reducible assumption) _ _ _) ?k1 ?k2 ?k3 N8 ?k5 ?kK ?kd ?ku ?_; (case k1 => k_asm); (case k2 => k_asm); (case k3 => k_asm); (case k5 => k_asm); (case kK => first | exact rfl | assumption); (case kd => ktr_room); (case ku => ktr_units); intro p9 q8 q9 t9 u9 h9 tk9 F9 N9 hn8 l9; (try dsimp only [AllLt] at l9); (try dsimp only); (try k_sweep); (try k_unmd); (try k_fold))))
    | ((with_reducible show wpAny _ _ (call (Value.ref 194) _) _ _ _); ((rename News _ _ _ _ => N8); (refine' Spec.useTup (due_NF _ _ _ _ (by with_reducible assumption) (by with_reducible assumption) _ _ _) ?k1 ?k2 ?k3 N8 ?k5 ?kK ?kd ?ku ?_; (case k1 => k_asm); (case k2 => k_asm); (case k3 => k_asm); (case k5 => k_asm); (case kK => first | exact rfl | assumption); (case kd => ktr_room); (case ku => ktr_units); intro q9 t9 u9 h9 tk9 F9 N9 l9; (try dsimp only [AllLt] at l9); (try dsimp only); (try k_sweep); (try k_unmd); (try k_fold))))
    | ((with_reducible show wpAny _ _ (call (Value.ref 208) _) _ _ _); ((rename News _ _ _ _ => N8); (refine' Spec.useBool (wholes_NF _ _ _ _ _ _ _ _ (by walk_at "x mem") (by with_reducible assumption) (by with_reducible assumption)) ?k1 ?k2 ?k3 N8 ?k5 ?kK ?kd ?ku ?_; (case k1 => k_asm); (case k2 => k_asm); (case k3 => k_asm); (case k5 => k_asm); (case kK => first | exact rfl | assumption); (case kd => ktr_room); (case ku => ktr_units); intro h9 tk9 F9 N9; (try dsimp only); (try k_sweep); (try k_unmd); (try k_fold))))
    | ((with_reducible show wpAny _ _ (call (Value.ref 152) _) _ _ _); ((rename News _ _ _ _ => N8); (refine' Spec.useStr (write_NF _ _ _ _ _ _ _ _ (by walk_at "x mem") (by with_reducible assumption) (by with_reducible assumption)) ?k1 ?k2 ?k3 N8 ?k5 ?kK ?kd ?ku ?_; (case k1 => k_asm); (case k2 => k_asm); (case k3 => k_asm); (case k5 => k_asm); (case kK => first | exact rfl | assumption); (case kd => ktr_room); (case ku => ktr_units); intro u9 h9 tk9 F9 N9; (try dsimp only); (try k_sweep); (try k_unmd); (try k_fold))))
    | ((with_reducible show wpAny _ _ (call (Value.ref 215) _) _ _ _); ((rename News _ _ _ _ => N8); (refine' Spec.useBool (reck_NF _ _ _ _ _ _ _ _ _ _ _ (by walk_at "x mem") (by walk_at "x mem") (by with_reducible assumption) (by with_reducible assumption) (by with_reducible assumption) (by with_reducible assumption)) ?k1 ?k2 ?k3 N8 ?k5 ?kK ?kd ?ku ?_; (case k1 => k_asm); (case k2 => k_asm); (case k3 => k_asm); (case k5 => k_asm); (case kK => first | exact rfl | assumption); (case kd => ktr_room); (case ku => ktr_units); intro h9 tk9 F9 N9; (try dsimp only); (try k_sweep); (try k_unmd); (try k_fold))))
  k_with "my len" => first | (refine' lst_len2 ?xN ?xm ?_; (case xN => k_asm); (case xm => walk_at "x mem")) | (refine' lst_len1 ?xN ?xm ?_; (case xN => k_asm); (case xm => walk_at "x mem")) | (refine' lst_len0 ?xN ?xm ?_; (case xN => k_asm); (case xm => walk_at "x mem"))
  k_with "my execs" => ((with_reducible show wpAny _ _ (execs (Stmt.If (PySem.Expr.BoolOp _ _ _) _ _ _ :: _) _) _ _ _); (with_reducible refine wpAny_execs_cons ?_); (try dsimp only); (rename Fr _ _ _ _ => F5); (rename News _ _ _ _ => N5); refine cut_next F5 N5 ?w ?_; (case w => (intro q1 hq1; (repeat' (first | (k_unfold; (try dsimp only)) | (k_end; wrow_close) | walk1 | (dsimp only; walk1) | (leave1; walk_say "STEP leave1"; try dsimp only) | (k_unmd; k_unfold; (try dsimp only)) | fail "no step")); (all_goals (refine hq1 _ _ ?f ?n; (case f => k_asm); (case n => exact news_of (by k_asm) (by walk_at "x sublist")))))); clear F5 N5; intro h5 tk5 F5 N5; (try dsimp only); (try k_sweep))
  k_with "my str" => refine P.str_of_int (log_NF (by with_reducible assumption) (by with_reducible assumption)) ?_
  (repeat' (first | (k_unfold; (try dsimp only)) | (k_end; wrow_close) | walk1 | (dsimp only; walk1) | (leave1; walk_say "STEP leave1"; try dsimp only) | (k_unmd; k_unfold; (try dsimp only)) | fail "no step"))
  all_goals (((refine' ret_bsrc (by assumption) ?e1 ?e2 ?e3 ?e4 ?e5 ?e6 ?_; (case e1 => k_asm); (case e2 => k_asm); (case e3 => walk_at "x sublist"); (case e4 => assumption); (case e5 => assumption); (case e6 => assumption))))
  all_goals first | (with_reducible rfl) | (rename f = false => hf9; subst hf9; rfl) | decide

theorem emp_cps : (Str.ofString "").cps.toList = [] := by decide +kernel
theorem emp_cat : (Str.ofString "" ++ Str.ofString "" == Str.ofString "") = true := by decide +kernel
theorem read_emp0 (w mean mg mb) (x : Str) (tx : Tok) (news : Led) (hx : x.cps.toList = []) : Spec w mean mg mb 7 137 [.str x tx] news (NanR 15 news) := by
  have hl : x.length = 0 := by rw [← len_cps, hx]; rfl
  have D : TrimRun x 0 := trim_of (Nat.zero_le _) (fun k hk => absurd hk (Nat.not_lt_zero _)) (fun c hc => by rw [hx] at hc; exact nomatch hc)
  have P : Parts (⟨(x.cps.toList.drop 0).toArray⟩ : Str) [] (Str.ofString "").cps.toList [] := ⟨by show x.cps.toList.drop 0 = _; rw [hx, emp_cps]; rfl⟩
  have s1 : Txt.slice (⟨(x.cps.toList.drop 0).toArray⟩ : Str) (some 0) (some ((0 : Nat) : Int)) = Str.ofString "" := sliceB' P rfl (by rw [emp_cps]; rfl)
  have tl : (⟨(x.cps.toList.drop 0).toArray⟩ : Str).length = 0 := by rw [mk_len, List.length_drop, len_cps, hl]
  refine read_n0 w mean mg mb x _ tx news 0 ?_ (tr_of w mean mg mb D (by omega) news) (sign_no P (by rw [emp_cps]; exact fun c h => nomatch h)) (run' P (by rw [emp_cps]; exact fun c h => nomatch h) (fun c h => (nomatch h)) rfl (by rw [emp_cps]; rfl)) (pt_no' P (by rw [emp_cps]; rfl)) ?_ ?_
  · rw [tl]; decide
  · rw [tl]; decide
  · rw [s1]; exact emp_cat
theorem read_emp1 (w mean mg mb) (x : Str) (tx : Tok) (news : Led) (hx : x.cps.toList = [32, 45]) : Spec w mean mg mb 7 137 [.str x tx] news (NanR 15 news) := by
  have hl : x.length = 2 := by rw [← len_cps, hx]; rfl
  have D : TrimRun x 1 := trim_of (by omega) (fun k hk => by
    have e : k = 0 := by omega
    subst e
    unfold sg; rw [hx]; exact Or.inl rfl) (fun c hc => by
    rw [hx] at hc
    have e : c = 45 := List.mem_singleton.mp hc
    rw [e]; unfold Spc; omega)
  have P : Parts (⟨(x.cps.toList.drop 1).toArray⟩ : Str) [45] (Str.ofString "").cps.toList [] := ⟨by show x.cps.toList.drop 1 = _; rw [hx, emp_cps]; rfl⟩
  have s1 : Txt.slice (⟨(x.cps.toList.drop 1).toArray⟩ : Str) (some 1) (some ((1 : Nat) : Int)) = Str.ofString "" := sliceB' P rfl (by rw [emp_cps]; rfl)
  have tl : (⟨(x.cps.toList.drop 1).toArray⟩ : Str).length = 1 := by rw [mk_len, List.length_drop, len_cps, hl]
  refine read_n1 w mean mg mb x _ tx news 1 ?_ (tr_of w mean mg mb D (by omega) news) (sign_yes P) (run' P (by rw [emp_cps]; exact fun c h => nomatch h) (fun c h => (nomatch h)) rfl (by rw [emp_cps]; rfl)) (pt_no' P (by rw [emp_cps]; rfl)) ?_ ?_
  · rw [tl]; decide
  · rw [tl]; decide
  · rw [s1]; exact emp_cat
/-- what read_number tells of a minus or none, figures W, figures Y behind a point -/
def readG (neg : Bool) (W Y : Str) : Int × Int := if W.length + Y.length = 0 then (0, 0) else readF neg W Y
theorem read_any (w mean mg mb) (x W Y : Str) (neg : Bool) (tx : Tok) (news : Led) (dW : ∀ c ∈ W.cps.toList, Dig c) (dY : ∀ c ∈ Y.cps.toList, Dig c) (hW : W.length ≤ 1000) (hY : Y.length ≤ 1000)
    (hx : x.cps.toList = (if neg then [32, 45] else []) ++ (W.cps.toList ++ ((if Y.length = 0 then [] else [46]) ++ Y.cps.toList))) :
    Spec w mean mg mb 7 137 [.str x tx] news (ValR w (readG neg W Y) news) := by
  by_cases h : W.length + Y.length = 0
  · have h1 : W.cps.toList = [] := List.length_eq_zero_iff.mp (by rw [len_cps]; omega)
    have h2 : Y.cps.toList = [] := List.length_eq_zero_iff.mp (by rw [len_cps]; omega)
    have h3 : Y.length = 0 := by omega
    rw [h1, h2, if_pos h3] at hx
    obtain ⟨t, u, hk⟩ := nan_look w.params
    have e : readG neg W Y = (0, 0) := if_pos h
    rw [e]
    refine nan_val (p := (0, 0)) (t := t) (u := u) hk ?_
    cases neg with
    | true => exact read_emp1 w mean mg mb x tx news hx
    | false => exact read_emp0 w mean mg mb x tx news hx
  · have e : readG neg W Y = readF neg W Y := if_neg h
    rw [e]
    exact read_spec w mean mg mb x W Y neg tx news dW dY hW hY (by omega) hx

theorem max_digits {M : Model} {A : Around} {E : Value → Shared → Prop} {s : Shared} {Q : Nat → Shared → Prop} (hn : s.heap.NoDigits) (h : Q 4300 s) : wpAny M A Builtin.intMaxStrDigits Q E s := by
  obtain ⟨mc, hns, hnone⟩ := hn
  unfold Builtin.intMaxStrDigits
  refine wpAny_bind (wpAny_nsGet hns ?_)
  rw [hnone]
  exact wpAny_pure h
theorem wp_long {M : Model} {A : Around} {E : Value → Shared → Prop} {s : Shared} {Q : Value → Shared → Prop} {v : Value} {text : List Nat} {n : Int} (hn : s.heap.NoDigits)
    (hs : ¬ (text.takeWhile (· != 0)).length ≤ 640) (hr : (int_private% "readNumeral") 4300 10 (text.takeWhile (· != 0)) = (int_private% "Numeral.value") n)
    (ha : ((text.takeWhile (· != 0)).length == text.length) = true) (h : Q (.int n s.toks) { s with toks := s.toks + 1 }) :
    wpAny M A ((int_private% "intFromText") v text 10) Q E s := by
  obtain ⟨hp, g, d, tk, os⟩ := s
  repeat (any_goals (first
    | assumption
    | (with_reducible refine wpAny_ite_false (decide_eq_false hs) ?_)
    | (with_reducible refine wpAny_ite_true (decide_eq_true ha) ?_)
    | (with_reducible refine max_digits hn ?_)
    | wp_step))
  all_goals (try rw [hr])
  all_goals (try dsimp only)
  repeat (any_goals (first
    | assumption
    | (with_reducible refine wpAny_ite_true (decide_eq_true ha) ?_)
    | wp_step))
/-- int of a text: the word for its call -/
def textS (n : Int) : Around → (Result → Shared → Prop) → Shared → Prop := fun _ R s => s.heap.NoDigits ∧ R (.ok (.ret (.int n s.toks))) { s with toks := s.toks + 1 }
set_option maxHeartbeats 4000000 in
theorem meets_long {x : PySem.Str} {u : Tok} {n : Int} (hs : ¬ (numSeenOf x).length ≤ 640) (hr : (int_private% "readNumeral") 4300 10 (numSeenOf x) = (int_private% "Numeral.value") n)
    (ha : ((numSeenOf x).length == (numTextOf x).length) = true) : Meets (Builtin.«int.__new__» ⟨[.type "int", .str x u], []⟩) (textS n) := by
  intro prog w A R s hq
  obtain ⟨hn, hq⟩ := hq
  refine wpAny_mono (Q := fun fin s' => ∃ v, fin = .done (.ret v) ∧ R (.ok (.ret v)) s') ?_ (fun fin s' h' => by obtain ⟨v, rfl, hv⟩ := h'; exact hv) (fun _ _ y => y)
  obtain ⟨hp, g, d, tk, os⟩ := s
  have f1 := F.conv_sub_int
  have f2 := F.madeHere_int
  have f3 := KIN.str_int
  have f4 := KIN.str_idx
  have f5 := KIN.str_trunc
  have f6 : typeOf (.str x u) = pure (.type "str") := rfl
  have hk := KIN.Hid.mk (And.intro hs (And.intro hr ha))
  clear hs hr ha
  repeat (any_goals (first
    | assumption
    | ((with_reducible show wpAny _ _ ((int_private% "intFromText") _ _ _) _ _ _); refine wp_long hn hk.out.1 hk.out.2.1 hk.out.2.2 ?_)
    | wp_step))
  all_goals first | exact ⟨_, rfl, hq⟩ | skip
section
open PySem.NumText
variable {prog : Program} {w : World} {A : Around} {E : Value → Shared → Prop} {s : Shared} {Q : Value → Shared → Prop} {x : PySem.Str} {t : Tok} {n : Int}
theorem seen_digits (hd : AllDigits x.cps.toList) : (numSeenOf x).length = x.length := by
  rw [(numText_signs fun c hc => Or.inr (hd c hc)).2]; exact len_cps x
theorem call_digits (hn : s.heap.NoDigits) (hd : AllDigits x.cps.toList) (hne : x.cps.toList ≠ []) (hl : x.length ≤ 4300) (h : Q (.int ((digitsVal x.cps.toList : Nat) : Int) s.toks) { s with toks := s.toks + 1 }) :
    wpAny (model prog w) A (call (.type "int") [.str x t]) Q E s := by
  have hv := intText_digits hd hne hl
  by_cases hs : (numSeenOf x).length ≤ 640
  · exact KIN.call_text hv (by rw [← seen_digits hd]; exact hs) h
  · rcases read4300 x (Nat.le_trans hl (by rw [sizeLine_eq]; decide)) with ⟨m, h1, h2, h3⟩ | ⟨h1, _⟩
    · rw [hv] at h1
      injection h1 with h1
      subst h1
      exact call_int_1 (meets_long hs h3 h2) (show textS _ _ _ _ from ⟨hn, rfl, h⟩)
    · rw [hv] at h1; cases h1
theorem dV_digits : ∀ (l : List Nat) (a : Nat), (∀ c ∈ l, Dig c) → ((l.foldl (fun acc c => acc * 10 + (c - 48)) a : Nat) : Int) = (sgs l).foldl (fun a c => a * 10 + (c - 48)) (a : Int)
  | [], _, _ => rfl
  | c :: l, a, h => by
    have hc := h c List.mem_cons_self
    have e : ((a * 10 + (c - 48) : Nat) : Int) = (a : Int) * 10 + ((c : Int) - 48) := by unfold Dig at hc; omega
    have ih := dV_digits l (a * 10 + (c - 48)) (fun d hd => h d (List.mem_cons_of_mem _ hd))
    rw [e] at ih
    exact ih
theorem dV_val {l : List Nat} (h : ∀ c ∈ l, Dig c) : ((digitsVal l : Nat) : Int) = dV (sgs l) := dV_digits l 0 h
theorem call_int_dig (hn : s.heap.NoDigits) (hd : ∀ c ∈ x.cps.toList, Dig c) (hne : x.cps.toList ≠ []) (hl : x.length ≤ 4300) (h : Q (.int (dV (sgs x.cps.toList)) s.toks) { s with toks := s.toks + 1 }) :
    wpAny (model prog w) A (call (.type "int") [.str x t]) Q E s := call_digits hn hd hne hl (by rw [dV_val hd]; exact h)
end

/-- a text of digits alone, of k signs at the most -/
def DigT (k : Nat) (x : Str) : Prop := x.length ≤ k ∧ ∀ c ∈ x.cps.toList, Dig c
theorem DigT.len {k : Nat} {x : Str} (h : DigT k x) : x.length ≤ k := h.1
theorem DigT.mono {k l : Nat} {x : Str} (h : DigT k x) (hk : k ≤ l) : DigT l x := ⟨Nat.le_trans h.1 hk, h.2⟩
theorem cat_len (x y : Str) : (x ++ y).length = x.length + y.length := by
  rw [← len_cps, cat_cps, List.length_append, len_cps, len_cps]
theorem DigT.cat {a b : Nat} {x y : Str} (hx : DigT a x) (hy : DigT b y) : DigT (a + b) (x ++ y) := by
  refine ⟨by rw [cat_len]; exact Nat.add_le_add hx.1 hy.1, fun c hc => ?_⟩
  rw [cat_cps] at hc
  rcases List.mem_append.mp hc with h | h
  · exact hx.2 c h
  · exact hy.2 c h
theorem foldl_cat (A : Array Nat) : ∀ (k : Nat) (acc : Array Nat), ((List.replicate k A).foldl (· ++ ·) acc).toList = acc.toList ++ (List.replicate k A.toList).flatten
  | 0, acc => by simp
  | k + 1, acc => by
    rw [List.replicate_succ, List.foldl_cons, foldl_cat A k, List.replicate_succ, List.flatten_cons, Array.toList_append, List.append_assoc]
theorem DigT.mul {a m : Nat} {x : Str} {n : Int} (hx : DigT a x) (h0 : 0 ≤ n) (h1 : n ≤ (m : Int)) : DigT (a * m) (Txt.mul x n) := by
  unfold Txt.mul
  by_cases q1 : n < 1
  · rw [if_pos q1]; exact ⟨Nat.zero_le _, fun c hc => nomatch hc⟩
  · rw [if_neg q1]
    have hm : 1 ≤ m := by omega
    by_cases q2 : (n == 1 || x.length == 0) = true
    · rw [if_pos q2]; exact hx.mono (Nat.le_mul_of_pos_right a hm)
    · rw [if_neg q2]
      have e : ((⟨(List.replicate n.toNat x.cps).foldl (· ++ ·) #[]⟩ : Str)).cps.toList = (List.replicate n.toNat x.cps.toList).flatten := by
        show ((List.replicate n.toNat x.cps).foldl (· ++ ·) #[]).toList = _
        rw [foldl_cat]; rfl
      refine ⟨?_, fun c hc => ?_⟩
      · rw [← len_cps, e, List.length_flatten, List.map_replicate, List.sum_replicate_nat, len_cps, Nat.mul_comm]
        exact Nat.mul_le_mul hx.1 (by omega)
      · rw [e] at hc
        obtain ⟨l, hl, hc⟩ := List.mem_flatten.mp hc
        rw [List.eq_of_mem_replicate hl] at hc
        exact hx.2 c hc
theorem DigT.emp (k : Nat) : DigT k (Str.ofString "") := ⟨by rw [← len_cps, emp_cps]; exact Nat.zero_le k, fun c hc => by rw [emp_cps] at hc; exact nomatch hc⟩
theorem DigT.num {d : Int} (h0 : 0 ≤ d) (h1 : d < 10) : DigT 1 (Str.ofString (toString d)) := by
  have e : d = 0 ∨ d = 1 ∨ d = 2 ∨ d = 3 ∨ d = 4 ∨ d = 5 ∨ d = 6 ∨ d = 7 ∨ d = 8 ∨ d = 9 := by omega
  unfold DigT
  rcases e with rfl | rfl | rfl | rfl | rfl | rfl | rfl | rfl | rfl | rfl <;> decide +kernel
theorem join_zero : Txt.join (Str.ofString "") [] = Str.ofString "" := by decide +kernel
theorem DigT.join : ∀ (ts : List Str), (∀ t ∈ ts, DigT 1 t) → DigT ts.length (Str.join (Str.ofString "") ts)
  | [], _ => ⟨Nat.le_refl 0, fun c hc => nomatch hc⟩
  | [x], h => h x List.mem_cons_self
  | x :: y :: r, h => by
    rw [join_cons_cons]
    have h1 := ((h x List.mem_cons_self).cat (DigT.emp 0)).cat (DigT.join (y :: r) fun t ht => h t (List.mem_cons_of_mem _ ht))
    exact h1.mono (by simp only [List.length_cons]; omega)
section
variable {prog : Program} {w : World} {A : Around} {E : Value → Shared → Prop} {s : Shared} {Q : Value → Shared → Prop} {h₀ : Heap} {L D : Addr} {news : Led} {x y : Str} {t u : Tok} {d n : Int} {a b m : Nat} {vs : List Value} {ys : List Str}
theorem str_dig (h0 : 0 ≤ d) (h1 : d < 10) (h : ∀ z tk, DigT 1 z → Q (.str z s.toks) { s with toks := tk }) : wpAny (model prog w) A (call (.type "str") [.int d t]) Q E s :=
  P.str_of_int (by have e : d.natAbs < 2 ^ 4 := by omega
                   by_cases q : d.natAbs = 0
                   · rw [q]; decide +kernel
                   · have := (Nat.log2_lt q).mpr e; omega) (h _ _ (DigT.num h0 h1))
theorem mul_dig (hx : DigT a x) (h0 : 0 ≤ n) (h1 : n ≤ (m : Int)) (ha : a ≤ 1) (hm : m ≤ 1000) (h : ∀ z t' k, DigT m z → Q (.str z t') { s with toks := k }) : wpAny (model prog w) A (binaryOp .Mult (.str x t) (.int n u)) Q E s :=
  SB.mul (mulOk_of 1 1000 (Nat.le_trans hx.1 ha) (by omega) (by omega) (by decide) (by decide)) fun t' k => h _ t' k ((hx.mul h0 h1).mono (Nat.le_trans (Nat.mul_le_mul_right m ha) (by omega)))
theorem add_dig (hx : DigT a x) (hy : DigT b y) (hab : a + b ≤ 5000) (h : ∀ z t' k, DigT (a + b) z → Q (.str z t') { s with toks := k }) : wpAny (model prog w) A (binaryOp .Add (.str x t) (.str y u)) Q E s :=
  PyProof.Rows.add_str (fun t' k => h _ t' k (hx.cat hy)) (by rw [sizeLine_eq]; have := hx.1; have := hy.1; omega)
theorem add_len (hx : x.length ≤ a) (hy : y.length ≤ b) (hab : a + b ≤ 5000) (h : ∀ t' k, (x ++ y).length ≤ a + b → Q (.str (x ++ y) t') { s with toks := k }) : wpAny (model prog w) A (binaryOp .Add (.str x t) (.str y u)) Q E s :=
  PyProof.Rows.add_str (fun t' k => h t' k (by rw [cat_len]; omega)) (by rw [sizeLine_eq]; omega)
theorem len_emp : (Str.ofString "").length ≤ 0 := by decide +kernel
theorem len_neg : (Str.ofString " -").length ≤ 2 := by decide +kernel
theorem len_pt : (Str.ofString ".").length ≤ 1 := by decide +kernel
theorem len_nought : (Str.ofString "0").length ≤ 1 := by decide +kernel
theorem join_dig (N : News h₀ L s.heap news) (hm : (D, LCg.lst vs) ∈ news) (hi : StrsAre vs ys) (hy : ∀ t ∈ ys, DigT 1 t) (hl : ys.length ≤ 3) (h : ∀ z t' k, DigT 3 z → Q (.str z t') { s with toks := k }) :
    wpAny (model prog w) A (call (.builtin "str.join") [.str (Str.ofString "") t, .ref D]) Q E s := by
  have hsum : (ys.map (·.length)).sum ≤ ys.length := by
    clear hl h hi
    induction ys with
    | nil => exact Nat.le_refl _
    | cons z r ih =>
      have h1 := (hy z List.mem_cons_self).1
      have h2 := ih fun t ht => hy t (List.mem_cons_of_mem _ ht)
      simp only [List.map_cons, List.sum_cons, List.length_cons]
      omega
  refine join_listW (ys := ys) ⟨_, News.get N hm, rfl, _, rfl⟩ hi (by decide) (by omega) fun t' k => h _ t' k ?_
  rw [beq_iff_eq.mp (join_plain_closes (Str.ofString "") ys)]
  exact (DigT.join ys hy).mono hl
theorem join_dig0 (N : News h₀ L s.heap news) (hm : (D, LCg.lst []) ∈ news) (h : ∀ z t' k, DigT 3 z → Q (.str z t') { s with toks := k }) :
    wpAny (model prog w) A (call (.builtin "str.join") [.str (Str.ofString "") t, .ref D]) Q E s := join_dig N hm .nil (fun _ h => nomatch h) (by decide) h
theorem join_dig1 {z1 : Str} {t1 : Tok} (N : News h₀ L s.heap news) (hm : (D, LCg.lst [.str z1 t1]) ∈ news) (h1 : DigT 1 z1) (h : ∀ z t' k, DigT 3 z → Q (.str z t') { s with toks := k }) :
    wpAny (model prog w) A (call (.builtin "str.join") [.str (Str.ofString "") t, .ref D]) Q E s := join_dig N hm (.cons _ _ .nil) (List.forall_mem_cons.mpr ⟨h1, fun _ h => nomatch h⟩) (Nat.le_of_ble_eq_true rfl) h
theorem join_dig3 {z1 z2 z3 : Str} {t1 t2 t3 : Tok} (N : News h₀ L s.heap news) (hm : (D, LCg.lst [.str z1 t1, .str z2 t2, .str z3 t3]) ∈ news) (h1 : DigT 1 z1) (h2 : DigT 1 z2) (h3 : DigT 1 z3) (h : ∀ z t' k, DigT 3 z → Q (.str z t') { s with toks := k }) :
    wpAny (model prog w) A (call (.builtin "str.join") [.str (Str.ofString "") t, .ref D]) Q E s := join_dig N hm (.cons _ _ (.cons _ _ (.cons _ _ .nil))) (List.forall_mem_cons.mpr ⟨h1, List.forall_mem_cons.mpr ⟨h2, List.forall_mem_cons.mpr ⟨h3, fun _ h => nomatch h⟩⟩⟩) (Nat.le_of_ble_eq_true rfl) h
end
/-- a text of digits drawn; the source is turned -/
def TxtR (k : Nat) (src : Addr) (rest : Led) (v : Value) (n' : Led) : Prop := (∃ x t, v = .str x t ∧ DigT k x) ∧ SrcAt src rest n'
theorem cut_stmt {M : Model} {A : Around} {E : Value → Shared → Prop} {s : Shared} {tree : Sem Flow} {g : Heap} {L : Addr} {m : Str → Option Value} {q : Flow → Shared → Prop} (y : Str) (R : Value → Led → Prop) (_F : Fr g L s.heap m)
    (w : ∀ q' : Flow → Shared → Prop, (∀ v h' tk' news', R v news' → Fr g L h' (fun z => if z = y then some v else m z) → News g L h' news' → q' .next { s with heap := h', toks := tk' }) → wpAny M A tree q' E s)
    (c : ∀ v h' tk' news', R v news' → Fr g L h' (fun z => if z = y then some v else m z) → News g L h' news' → q .next { s with heap := h', toks := tk' }) : wpAny M A tree q E s := w q c
theorem cut_text {M : Model} {A : Around} {E : Value → Shared → Prop} {s : Shared} {tree : Sem Flow} {g : Heap} {L src : Addr} {so : Obj} {rest : Led} {m : Str → Option Value} {q : Flow → Shared → Prop} (k : Nat) (y : Str) (F : Fr g L s.heap m) (_N : News g L s.heap ((src, so) :: rest))
    (w : ∀ q' : Flow → Shared → Prop, (∀ v h' tk' news', TxtR k src rest v news' → Fr g L h' (fun z => if z = y then some v else m z) → News g L h' news' → q' .next { s with heap := h', toks := tk' }) → wpAny M A tree q' E s)
    (c : ∀ v h' tk' news', TxtR k src rest v news' → Fr g L h' (fun z => if z = y then some v else m z) → News g L h' news' → q .next { s with heap := h', toks := tk' }) : wpAny M A tree q E s := cut_stmt y _ F w c
theorem text_back {s : Shared} {g h' : Heap} {L src : Addr} {rest nn : Led} {m : Str → Option Value} {q : Flow → Shared → Prop} {k kk tk' : Nat} {y x : Str} {b n : Int} {tb tn t : Tok}
    (hq : ∀ v h' tk' news', TxtR k src rest v news' → Fr g L h' (fun z => if z = y then some v else m z) → News g L h' news' → q .next { s with heap := h', toks := tk' })
    (F : Fr g L h' (fun z => if z = y then some (.str x t) else m z)) (N : News g L h' nn) (hs : ∀ p ∈ (src, srcO b n tb tn kk) :: rest, p ∈ nn) (hx : DigT k x) (hb : 0 ≤ b) (hn : 0 ≤ n) (hn' : n < 2147483647) : q .next { s with heap := h', toks := tk' } :=
  hq _ _ _ _ ⟨⟨x, t, rfl, hx⟩, b, n, tb, tn, kk, hb, hn, hn', rfl⟩ F fun p hp => N p (hs p hp)
def BlR (src : Addr) (rest : Led) (v : Value) (n' : Led) : Prop := (∃ β, v = .bool β) ∧ SrcAt src rest n'
theorem cut_bool {M : Model} {A : Around} {E : Value → Shared → Prop} {s : Shared} {tree : Sem Flow} {g : Heap} {L src : Addr} {so : Obj} {rest : Led} {m : Str → Option Value} {q : Flow → Shared → Prop} (y : Str) (F : Fr g L s.heap m) (_N : News g L s.heap ((src, so) :: rest))
    (w : ∀ q' : Flow → Shared → Prop, (∀ v h' tk' news', BlR src rest v news' → Fr g L h' (fun z => if z = y then some v else m z) → News g L h' news' → q' .next { s with heap := h', toks := tk' }) → wpAny M A tree q' E s)
    (c : ∀ v h' tk' news', BlR src rest v news' → Fr g L h' (fun z => if z = y then some v else m z) → News g L h' news' → q .next { s with heap := h', toks := tk' }) : wpAny M A tree q E s := cut_stmt y _ F w c
theorem bool_back {s : Shared} {g h' : Heap} {L src : Addr} {rest nn : Led} {m : Str → Option Value} {q : Flow → Shared → Prop} {kk tk' : Nat} {y : Str} {β : Bool} {b n : Int} {tb tn : Tok}
    (hq : ∀ v h' tk' news', BlR src rest v news' → Fr g L h' (fun z => if z = y then some v else m z) → News g L h' news' → q .next { s with heap := h', toks := tk' })
    (F : Fr g L h' (fun z => if z = y then some (.bool β) else m z)) (N : News g L h' nn) (hs : ∀ p ∈ (src, srcO b n tb tn kk) :: rest, p ∈ nn) (hb : 0 ≤ b) (hn : 0 ≤ n) (hn' : n < 2147483647) : q .next { s with heap := h', toks := tk' } :=
  hq _ _ _ _ ⟨⟨β, rfl⟩, b, n, tb, tn, kk, hb, hn, hn', rfl⟩ F fun p hp => N p (hs p hp)
/-- the text that the law reads: a minus or none, figures, a point where figures stand behind it -/
theorem told_cps (β : Bool) (W Y : Str) : (((((if β then Str.ofString " -" else Str.ofString "") ++ W) ++ (if Y.length = 0 then Str.ofString "" else Str.ofString ".")) ++ Y)).cps.toList
    = (if β then [32, 45] else []) ++ (W.cps.toList ++ ((if Y.length = 0 then [] else [46]) ++ Y.cps.toList)) := by
  have e1 : (Str.ofString " -").cps.toList = [32, 45] := by decide +kernel
  have e2 : (Str.ofString ".").cps.toList = [46] := by decide +kernel
  rw [cat_cps, cat_cps, cat_cps]
  cases β <;> by_cases h : Y.length = 0 <;> simp [h, e1, e2, emp_cps]
theorem told_of {β : Bool} {W Y A B : Str} (hA : A = if β then Str.ofString " -" else Str.ofString "") (hB : B = if Y.length = 0 then Str.ofString "" else Str.ofString ".") :
    (((A ++ W) ++ B) ++ Y).cps.toList = (if β then [32, 45] else []) ++ (W.cps.toList ++ ((if Y.length = 0 then [] else [46]) ++ Y.cps.toList)) := by
  subst hA; subst hB; exact told_cps β W Y
theorem emp_len {x : Str} : ((x == Str.ofString "") = true) ↔ x.length = 0 := by
  constructor
  · intro h
    have e : x = Str.ofString "" := beq_iff_eq.mp h
    rw [e, ← len_cps, emp_cps]; rfl
  · intro h
    rw [len_zero h]; exact beq_self_eq_true _
theorem cut_val {ww : World} {M : Model} {A : Around} {E : Value → Shared → Prop} {s : Shared} {tree : Sem Flow} {g : Heap} {L : Addr} {led : Led} {m : Str → Option Value} {q : Flow → Shared → Prop} (p : Int × Int) (y : Str) (F : Fr g L s.heap m) (_N : News g L s.heap led)
    (w : ∀ q' : Flow → Shared → Prop, (∀ v h' tk' news', ValR ww p led v news' → Fr g L h' (fun z => if z = y then some v else m z) → News g L h' news' → q' .next { s with heap := h', toks := tk' }) → wpAny M A tree q' E s)
    (c : ∀ v h' tk' news', ValR ww p led v news' → Fr g L h' (fun z => if z = y then some v else m z) → News g L h' news' → q .next { s with heap := h', toks := tk' }) : wpAny M A tree q E s := cut_stmt y _ F w c
theorem ne_len {x : Str} (h : (x != Str.ofString "") = true) : ¬ x.length = 0 := fun q => by
  rw [len_zero q, bne_self_eq_false] at h; exact Bool.false_ne_true h
theorem eq_len {x : Str} (h : (x != Str.ofString "") = false) : x.length = 0 := emp_len.mp (by
  cases q : (x == Str.ofString "") with
  | true => rfl
  | false => rw [bne, q] at h; exact absurd h (by decide))
theorem cut_int {M : Model} {A : Around} {E : Value → Shared → Prop} {s : Shared} {tree : Sem Flow} {g : Heap} {L : Addr} {led : Led} {m : Str → Option Value} {q : Flow → Shared → Prop} (x : Int) (y : Str) (F : Fr g L s.heap m) (_N : News g L s.heap led)
    (w : ∀ q' : Flow → Shared → Prop, (∀ v h' tk' news', IntR x led v news' → Fr g L h' (fun z => if z = y then some v else m z) → News g L h' news' → q' .next { s with heap := h', toks := tk' }) → wpAny M A tree q' E s)
    (c : ∀ v h' tk' news', IntR x led v news' → Fr g L h' (fun z => if z = y then some v else m z) → News g L h' news' → q .next { s with heap := h', toks := tk' }) : wpAny M A tree q E s := cut_stmt y _ F w c
theorem int_back {s : Shared} {g h' : Heap} {L : Addr} {led nn : Led} {m : Str → Option Value} {q : Flow → Shared → Prop} {tk' : Nat} {y : Str} {x z : Int} {t : Tok}
    (hq : ∀ v h' tk' news', IntR x led v news' → Fr g L h' (fun z => if z = y then some v else m z) → News g L h' news' → q .next { s with heap := h', toks := tk' })
    (F : Fr g L h' (fun a => if a = y then some (.int z t) else m a)) (N : News g L h' nn) (hs : ∀ p ∈ led, p ∈ nn) (e : z = x) : q .next { s with heap := h', toks := tk' } := by
  subst e
  exact hq _ _ _ _ ⟨⟨t, rfl⟩, rfl⟩ F fun p hp => N p (hs p hp)
theorem nought_cps : (Str.ofString "0").cps.toList = [48] := by decide +kernel
theorem kept_is (Y : Str) : (Txt.slice Y none (some 400)).cps.toList = Y.cps.toList.take 400 := by
  rw [show (400 : Int) = ((400 : Nat) : Int) from rfl, slice_upto]
theorem top_cps (W Y : Str) : ((Str.ofString "0" ++ W) ++ Txt.slice Y none (some 400)).cps.toList = 48 :: (W.cps.toList ++ Y.cps.toList.take 400) := by
  rw [cat_cps, cat_cps, nought_cps, kept_is]; rfl
theorem top_dig {W Y : Str} (dW : ∀ c ∈ W.cps.toList, Dig c) (dY : ∀ c ∈ Y.cps.toList, Dig c) : ∀ c ∈ ((Str.ofString "0" ++ W) ++ Txt.slice Y none (some 400)).cps.toList, Dig c := by
  intro c hc
  rw [top_cps] at hc
  rcases List.mem_cons.mp hc with h | h
  · rw [h]; unfold Dig; omega
  · rcases List.mem_append.mp h with h | h
    · exact dW c h
    · exact dY c (List.mem_of_mem_take h)
theorem top_ne {W Y : Str} : ((Str.ofString "0" ++ W) ++ Txt.slice Y none (some 400)).cps.toList ≠ [] := by
  rw [top_cps]; exact List.cons_ne_nil _ _
theorem top_len {W Y : Str} (hW : W.length ≤ 904) : ((Str.ofString "0" ++ W) ++ Txt.slice Y none (some 400)).length ≤ 4300 := by
  rw [← len_cps, top_cps, List.length_cons, List.length_append, List.length_take, len_cps]
  omega
theorem top_val (W Y : Str) : dV (sgs ((Str.ofString "0" ++ W) ++ Txt.slice Y none (some 400)).cps.toList) = numD W Y := by
  rw [top_cps]; rfl
theorem more_any {Y : Str} (dY : ∀ c ∈ Y.cps.toList, Dig c) : [Str.ofString "5", Str.ofString "6", Str.ofString "7", Str.ofString "8", Str.ofString "9"].any (· == Txt.slice Y (some 400) (some 401)) = decide (400 < Y.length ∧ 53 ≤ sg Y 400) := by
  have e : Txt.slice Y (some 400) (some 401) = ⟨((Y.cps.toList.drop 400).take 1).toArray⟩ := by
    rw [show (400 : Int) = ((400 : Nat) : Int) from rfl, show (401 : Int) = ((401 : Nat) : Int) from rfl, slice_nat Y 400 401 (by decide)]
  have s5 : Str.ofString "5" = ⟨([53] : List Nat).toArray⟩ := by decide +kernel
  have s6 : Str.ofString "6" = ⟨([54] : List Nat).toArray⟩ := by decide +kernel
  have s7 : Str.ofString "7" = ⟨([55] : List Nat).toArray⟩ := by decide +kernel
  have s8 : Str.ofString "8" = ⟨([56] : List Nat).toArray⟩ := by decide +kernel
  have s9 : Str.ofString "9" = ⟨([57] : List Nat).toArray⟩ := by decide +kernel
  rw [e, s5, s6, s7, s8, s9]
  simp only [List.any_cons, List.any_nil, Bool.or_false, beq_list rfl]
  by_cases h : 400 < Y.length
  · have hl : 400 < Y.cps.toList.length := by rw [len_cps]; exact h
    have hg := sg_get h
    rw [List.getElem?_eq_getElem hl] at hg
    rw [List.drop_eq_getElem_cons hl, Option.some.inj hg]
    have hd : Dig (sg Y 400) := dY _ (List.mem_of_getElem? (sg_get h))
    unfold Dig at hd
    generalize sg Y 400 = c at hd ⊢
    have e5 : (List.take 1 (c :: List.drop (400 + 1) Y.cps.toList)) = [c] := rfl
    rw [e5]
    simp only [List.cons.injEq, and_true]
    rw [← Bool.decide_or, ← Bool.decide_or, ← Bool.decide_or, ← Bool.decide_or]
    refine decide_eq_decide.mpr ⟨fun q => ⟨h, by omega⟩, fun q => by have := q.2; omega⟩
  · have e0 : (Y.cps.toList.drop 400).take 1 = [] := by
      rw [List.drop_eq_nil_of_le (by rw [len_cps]; omega)]; rfl
    have er : decide (400 < Y.length ∧ 53 ≤ sg Y 400) = false := decide_eq_false (fun q => h q.1)
    rw [e0, er]
    rfl
theorem more_val {Y : Str} (dY : ∀ c ∈ Y.cps.toList, Dig c) : (if [Str.ofString "5", Str.ofString "6", Str.ofString "7", Str.ofString "8", Str.ofString "9"].any (· == Txt.slice Y (some 400) (some 401)) = true then (1 : Int) else 0) = moreD Y := by
  rw [more_any dY]
  unfold moreD
  by_cases h : 400 < Y.length ∧ 53 ≤ sg Y 400
  · rw [if_pos h, decide_eq_true h]; rfl
  · rw [if_neg h, decide_eq_false h]; rfl
theorem due_text (w mean mg mb) (W Y : Str) (dW : ∀ c ∈ W.cps.toList, Dig c) (dY : ∀ c ∈ Y.cps.toList, Dig c) (hW : W.length ≤ 904) (tt tb : Tok) (news : Led) :
    Spec w mean mg mb 3 194 [.int (dV (sgs ((Str.ofString "0" ++ W) ++ Txt.slice Y none (some 400)).cps.toList) + (if [Str.ofString "5", Str.ofString "6", Str.ofString "7", Str.ofString "8", Str.ofString "9"].any (· == Txt.slice Y (some 400) (some 401)) = true then (1 : Int) else 0)) tt,
      .int ((10 : Int) ^ (((Txt.slice Y none (some 400)).length : Nat) : Int).toNat) tb] news (TupR (readV W Y) news) := by
  rw [top_val, more_val dY]
  have e : (((Txt.slice Y none (some 400)).length : Nat) : Int).toNat = min 400 Y.length := by
    rw [Int.toNat_natCast, ← len_cps, kept_is, List.length_take, len_cps]
  rw [e]
  have hd : ∀ c ∈ W.cps.toList ++ Y.cps.toList.take 400, Dig c := fun c hc => by
    rcases List.mem_append.mp hc with h | h
    · exact dW c h
    · exact dY c (List.mem_of_mem_take h)
  have b1 : Builtin.Int.intBits (numD W Y) ≤ 8000 := dV_bits hd (by rw [List.length_append, List.length_take, len_cps]; omega)
  have b2 : Builtin.Int.intBits (moreD Y) ≤ 1 := by unfold moreD; split <;> decide
  have b3 : Builtin.Int.intBits ((10 : Int) ^ min 400 Y.length) ≤ 1400 := pow_bits (c := 10) (n := 400) (by decide) (by decide) (Nat.min_le_left _ _) (by decide +kernel)
  exact due_spec w mean mg mb _ _ tt tb (Int.pow_pos (by decide)) (Nat.le_trans (bits_add b1 b2) (by decide)) (Nat.le_trans b3 (by decide)) news
theorem cat_emp {W Y : Str} : (W ++ Y == Str.ofString "") = true ↔ W.length + Y.length = 0 := by rw [emp_len, cat_len]
theorem readG_emp {β : Bool} {W Y : Str} {p1 p2 : Int} (hp : readG β W Y = (p1, p2)) (h : (W ++ Y == Str.ofString "") = true) : (p1, p2) = ((0 : Int), (0 : Int)) := by
  rw [← hp]; exact if_pos (cat_emp.mp h)
theorem readG_due {β : Bool} {W Y : Str} {p1 p2 : Int} (hp : readG β W Y = (p1, p2)) (h : (W ++ Y == Str.ofString "") = false) : (p1, p2) = readF β W Y := by
  rw [← hp]
  refine if_neg fun q => ?_
  rw [cat_emp.mpr q] at h
  exact absurd h (by decide)
theorem readG_dueT {β : Bool} {W Y : Str} {p1 p2 : Int} (hp : readG β W Y = (p1, p2)) (h : (W ++ Y == Str.ofString "") = false) (hβ : β = true) : (p1, p2) = (-(readV W Y).1, (readV W Y).2) := by
  subst hβ; exact readG_due hp h
theorem readG_dueF {β : Bool} {W Y : Str} {p1 p2 : Int} (hp : readG β W Y = (p1, p2)) (h : (W ++ Y == Str.ofString "") = false) (hβ : β = false) : (p1, p2) = ((readV W Y).1, (readV W Y).2) := by
  subst hβ; exact readG_due hp h

def N013 (x : Int) : Prop := x = 0 ∨ x = 1 ∨ x = 3
def DigI (x : Int) : Prop := 0 ≤ x ∧ x < 10
def CntI (m : Nat) (x : Int) : Prop := 0 ≤ x ∧ x ≤ (m : Int)
theorem text_spec (w mean mg mb) (src I0 : Addr) (oI : Obj) (b n : Int) (t u : Tok) (k : Nat) (hI : @LT.lt Nat _ I0 src) (hb : 0 ≤ b) (hn : 0 ≤ n) (hn' : n < 2147483647) :
    Spec w mean mg mb 12 225 [.ref src] [(src, srcO b n t u k), (I0, oI)] (fun r n' => r = .bool true ∧ SrcAt src [(I0, oI)] n') := by
  unfold Spec; k_fill; intro dp un gd cn cs a ccd cl outer A₀ base h₀ L m s Q E B F X N T hk hdp hun hret
  ((refine wpAny_call ?_; k_dflt (refine' code_defC ?k1 ?k2 ?k3 ?k4 ?k5 ?kA ?kF ?kK ?k6 ?k7 ?k8 ?k9 ?kB ?kD ?_ ?c2 ?c3 ?c4; (case kA => exact rfl); (case kF => exact rfl); (case kK => assumption); (case k1 => k_asm); (case k2 => k_asm); (case k3 => k_asm); (case k4 => k_asm); (case k5 => k_asm); (case k6 => k_is); (case k7 => k_is); (case k8 => ktr_room); (case k9 => first | exact BindsTo.of_eq rfl | exact binds_K (by k_in) rfl (by k_is) rfl rfl rfl); (case kB => exact rfl); (case kD => decide +kernel); (case c2 => exact rfl); (case c3 => exact rfl); (case c4 => exact rfl); k_whole; intro g' L' h' tk' cells' FG' F' N' Y' B' X' T' l1; (try k_lt l1); k_cells Y'; (try simp only [List.cons_append, List.nil_append] at N'); (try dsimp only); (try k_fold))))
  k_with_none
  k_with "binaryOp Mod int int" => (k_dflt (k_extra "my mod"))
  k_with "binaryOp Pow int int" => (k_dflt (k_extra "my pow"))
  k_with "exec While Compare cons nil" => (k_dflt (k_extra "my while"))
  k_with "call ref" => (k_dflt (k_extra "my call"))
  k_with "eval Call Name" => ((k_here; (fail_if_success (with_reducible show wpAny _ _ (eval (PySem.Expr.Call (PySem.Expr.Name (PySem.Str.ofString "abs") _) _ _ _) _) _ _ _)); (fail_if_success (with_reducible show wpAny _ _ (eval (PySem.Expr.Call (PySem.Expr.Name (PySem.Str.ofString "len") _) _ _ _) _) _ _ _)); (fail_if_success (with_reducible show wpAny _ _ (eval (PySem.Expr.Call (PySem.Expr.Name (PySem.Str.ofString "range") _) _ _ _) _) _ _ _)); (fail_if_success (with_reducible show wpAny _ _ (eval (PySem.Expr.Call (PySem.Expr.Name (PySem.Str.ofString "max") _) _ _ _) _) _ _ _)); (fail_if_success (with_reducible show wpAny _ _ (eval (PySem.Expr.Call (PySem.Expr.Name (PySem.Str.ofString "min") _) _ _ _) _) _ _ _)); (fail_if_success (with_reducible show wpAny _ _ (eval (PySem.Expr.Call (PySem.Expr.Name (PySem.Str.ofString "int") _) _ _ _) _) _ _ _)); (fail_if_success (with_reducible show wpAny _ _ (eval (PySem.Expr.Call (PySem.Expr.Name (PySem.Str.ofString "str") _) _ _ _) _) _ _ _)); (with_reducible show wpAny _ _ (eval (PySem.Expr.Call (PySem.Expr.Name _ _) _ _ _) (envOf _ _ _ _ _)) _ _ _); refine Call_ ?_))
  k_with "execs cons" => (k_dflt (k_extra "my execs"))
  k_with "subscriptTail Name Constant ref int" => ((k_here; k_dflt (refine' item_tupleT ?t ?a ?b ?c ?d ?_; (case t => (refine' News.isTup ?tn ?tm; (case tn => k_asm); (case tm => k_mem))); (case a => decide); (case b => decide); (case c => rfl); (case d => rfl); k_whole)))
  k_with "binaryOp FloorDiv int int" => (first | k_dflt (k_extra "my div") | (with_reducible refine' floordiv_int ?xa ?_ (Or.inl (noPy ?xb ?xc)); (case xa => first | assumption | omega); (case xb => bits_by_make); (case xc => decide)))
  k_with "compareOp NotEq ref ref" => (k_dflt (refine' tup_ne ?xN ?xa ?xb ?xu ?xe ?_; (case xN => k_asm); (case xa => k_mem); (case xb => k_mem); (case xu => ktr_units); (case xe => first | with_reducible rfl | k_extra "my eq"); (((rename News _ _ _ _ => N8); (have N7 := news_drop2 N8); clear N8))))
  k_with "compareOp Eq ref ref" => (k_dflt (refine' tup_eq ?xN ?xa ?xb ?xu ?xe ?_; (case xN => k_asm); (case xa => k_mem); (case xb => k_mem); (case xu => ktr_units); (case xe => first | with_reducible rfl | k_extra "my eq"); (((rename News _ _ _ _ => N8); (have N7 := news_drop2 N8); clear N8))))
  k_with "compareOp Eq ref ref" => (k_dflt (refine' tup_eqK ?xF ?xX ?xN ?xa ?xb ?xu ?xe ?_; (case xF => k_asm); (case xX => k_asm); (case xN => k_asm); (case xa => k_is); (case xb => k_mem); (case xu => ktr_units); (case xe => first | with_reducible rfl | k_extra "my eq")))
  k_with "compareOp NotEq ref ref" => (k_dflt (refine' tup_neK ?xF ?xX ?xN ?xa ?xb ?xu ?xe ?_; (case xF => k_asm); (case xX => k_asm); (case xN => k_asm); (case xa => k_is); (case xb => k_mem); (case xu => ktr_units); (case xe => first | with_reducible rfl | k_extra "my eq")))
  k_with "subscriptTail Name Constant ref int" => ((k_here; k_dflt (refine' lst_item (vs := [_, _]) ?t ?a ?b ?c ?d ?_ ?e; (case t => k_asm); (case a => k_mem); (case b => decide); (case c => decide); (case d => exact rfl); (case e => with_unfolding_all rfl); k_whole)))
  k_with "setItem ref int" => ((k_here; k_dflt (first | ((with_reducible show wpAny _ _ (setItem (Value.ref _) (Value.int 0 _) _) _ _ _); refine' src_set0 ?t ?a ?b ?_; (case t => k_asm); (case a => k_asm); (case b => assumption); k_whole) | ((with_reducible show wpAny _ _ (setItem (Value.ref _) (Value.int 1 _) _) _ _ _); refine' src_set1 ?t ?a ?b ?_; (case t => k_asm); (case a => k_asm); (case b => assumption); k_whole)); intro h' F' N'; (try k_sweep)))
  k_with "exec While BoolOp" => (k_dflt (k_extra "my while"))
  k_with "subscriptTail Name Constant ref int" => ((k_here; with_reducible first | (refine' tup_it0 ?t ?a ?_ ?e; (case t => k_asm); (case a => walk_at "x mem"); (case e => with_unfolding_all rfl)) | (refine' tup_it1 ?t ?a ?_ ?e; (case t => k_asm); (case a => walk_at "x mem"); (case e => with_unfolding_all rfl)) | (refine' lst_it0 ?t ?a ?_ ?e; (case t => k_asm); (case a => walk_at "x mem"); (case e => with_unfolding_all rfl)) | (refine' lst_it1 ?t ?a ?_ ?e; (case t => k_asm); (case a => walk_at "x mem"); (case e => with_unfolding_all rfl))))
  k_with "compareOp NotEq ref ref" => (k_dflt (refine' lst2_ne ?xN ?xa ?xb ?h1 ?h2 ?h3 ?h4 ?xu ?_; (case xN => k_asm); (case xa => walk_at "x mem"); (case xb => walk_at "x mem"); (case h1 => walk_at "x mem"); (case h2 => walk_at "x mem"); (case h3 => walk_at "x mem"); (case h4 => walk_at "x mem"); (case xu => ktr_units); (((rename News _ _ _ _ => N8); (have N7 := news_drop3 N8); clear N8))))
  k_with "call type:str cons nil" => (k_dflt (k_extra "my str"))
  k_with "call builtin:len cons nil" => (k_dflt (k_extra "my len"))
  k_with "compareOp NotEq str str" => (with_reducible (refine ne_same ?_))
  k_with "exec For Name Name cons nil" => ((k_here; (rename Fr _ _ _ _ => lF'); (with_unfolding_all refine' For_invVF lF' ?k1 ?k2 ?_; (case k1 => exact rfl); (case k2 => exact rfl); k_whole)))
  k_with "exec Assign cons ListComp" => ((k_here; (with_reducible show wpAny _ _ (exec (Stmt.Assign _ (PySem.Expr.ListComp _ [⟨PySem.Expr.Name _ _, _, [], _⟩] _ _) _) _) _ _ _); k_dflt (refine LCg.Assign_ListComp_U (F₀ := by k_asm) (by rfl) (by with_unfolding_all rfl) (by rfl) (by decide) (by rfl) (by decide) (by rfl) (by rfl) (by rfl) ?_); k_dflt lcg_toSrc))
  k_with "CompSrc" => ((k_here; k_dflt (refine LCg.CompSrc.range (by rfl) (by k_asm) (by k_asm) (by assumption) (by first | decide | rfl) (by first | rfl | decide) (by first | size_fits | exact Nat.le_of_ble_eq_true rfl) ?_; intro g'; lcg_lit)))
  k_with "call type:int cons nil" => (k_dflt (k_extra "my int"))
  k_with "call builtin:str.join" => (k_dflt (k_extra "my join"))
  k_with "binaryOp Mult str int" => (k_dflt (k_extra "my mul"))
  k_with "binaryOp Add str str" => (k_dflt (k_extra "my add"))
  k_with "compareOp Eq ref ref" => (k_dflt (first | (refine' tup_eq ?xN ?xa ?xb ?xu ?xe ?_; (case xN => k_asm); (case xa => walk_at "x mem"); (case xb => walk_at "x mem"); (case xu => ktr_units); (case xe => k_extra "my eq")) | (refine' tup_eqK ?xF ?xX ?xN ?xa ?xb ?xu ?xe ?_; (case xF => k_asm); (case xX => k_asm); (case xN => k_asm); (case xa => assumption); (case xb => walk_at "x mem"); (case xu => ktr_units); (case xe => k_extra "my eq"))))
  k_with "my call" => first
    | ((with_reducible show wpAny _ _ (call (Value.ref 173) _) _ _ _); ((rename News _ _ _ _ => N8); (refine' Spec.useTake (take_spec _ _ _ _ _ _ _ _ _ _ _ _ _ (by k_all) (by assumption) (by assumption) (by assumption) (by decide) (by decide)) ?k1 ?k2 ?k3 N8 ?k5 ?kK ?kd ?ku ?_; (case k1 => k_asm); (case k2 => k_asm); (case k3 => k_asm); (case k5 => k_asm); (case kK => first | exact rfl | assumption); (case kd => ktr_room); (case ku => ktr_units); intro v9 t9 b9 m9 t8 u8 k8 h9 tk9 F9 N9 hv9 hw9 hb9 hm9 hm8; (try dsimp only); (try k_sweep); (try k_unmd); (try k_fold))))
    | ((with_reducible show wpAny _ _ (call (Value.ref 173) _) _ _ _); (rename News _ _ _ _ => N5); (first | (have N4 : News _ _ _ ((src, srcO _ _ _ _ _) :: _) := news_front4 N5)); clear N5; ((rename News _ _ _ _ => N8); (refine' Spec.useTake (take_spec _ _ _ _ _ _ _ _ _ _ _ _ _ (by k_all) (by assumption) (by assumption) (by assumption) (by decide) (by decide)) ?k1 ?k2 ?k3 N8 ?k5 ?kK ?kd ?ku ?_; (case k1 => k_asm); (case k2 => k_asm); (case k3 => k_asm); (case k5 => k_asm); (case kK => first | exact rfl | assumption); (case kd => ktr_room); (case ku => ktr_units); intro v9 t9 b9 m9 t8 u8 k8 h9 tk9 F9 N9 hv9 hw9 hb9 hm9 hm8; (try dsimp only); (try k_sweep); (try k_unmd); (try k_fold))))
    | ((with_reducible show wpAny _ _ (call (Value.ref 180) _) _ _ _); first | (((rename News _ _ _ _ => N8); refine' Spec.useTwoI (one_spec _ _ _ _ (IntP N013) _ _ _ _ _ _ _ _ _ _ ?r1 ?r2 ?r3 ?r4 ?r5 ?r6 ?r7 ?r8) ?k1 ?k2 ?k3 N8 ?k5 ?kK ?kd ?ku ?_; (case r5 => exact List.Mem.head _); (case r6 => (repeat' (first | exact List.forall_mem_nil _ | refine List.forall_mem_cons.mpr ⟨⟨_, _, rfl, ?_⟩, ?_⟩)) <;> k_extra "my item"); (case r1 => k_all); (case r2 => assumption); (case r3 => assumption); (case r4 => assumption); (case r7 => exact Nat.succ_pos _); (case r8 => exact Nat.le_of_ble_eq_true rfl); (case k1 => k_asm); (case k2 => k_asm); (case k3 => k_asm); (case k5 => k_asm); (case kK => first | exact rfl | assumption); (case kd => ktr_room); (case ku => ktr_units); intro x9 t9 b9 m9 t8 u8 k8 h9 tk9 F9 N9 hx9 hb9 hm9 hm8; (try dsimp only); (try k_sweep); (try k_unmd); (try k_fold)); (rename N013 _ => hx8; rcases hx8 with hx8 | hx8 | hx8 <;> subst hx8)) | ((rename News _ _ _ _ => N8); refine' Spec.useTwoI (one_spec _ _ _ _ (IntP DigI) _ _ _ _ _ _ _ _ _ _ ?r1 ?r2 ?r3 ?r4 ?r5 ?r6 ?r7 ?r8) ?k1 ?k2 ?k3 N8 ?k5 ?kK ?kd ?ku ?_; (case r5 => exact List.Mem.head _); (case r6 => (repeat' (first | exact List.forall_mem_nil _ | refine List.forall_mem_cons.mpr ⟨⟨_, _, rfl, ?_⟩, ?_⟩)) <;> k_extra "my item"); (case r1 => k_all); (case r2 => assumption); (case r3 => assumption); (case r4 => assumption); (case r7 => exact Nat.succ_pos _); (case r8 => exact Nat.le_of_ble_eq_true rfl); (case k1 => k_asm); (case k2 => k_asm); (case k3 => k_asm); (case k5 => k_asm); (case kK => first | exact rfl | assumption); (case kd => ktr_room); (case ku => ktr_units); intro x9 t9 b9 m9 t8 u8 k8 h9 tk9 F9 N9 hx9 hb9 hm9 hm8; (try dsimp only); (try k_sweep); (try k_unmd); (try k_fold)) | ((rename News _ _ _ _ => N8); refine' Spec.useTwoI (one_spec _ _ _ _ (IntP (CntI 401)) _ _ _ _ _ _ _ _ _ _ ?r1 ?r2 ?r3 ?r4 ?r5 ?r6 ?r7 ?r8) ?k1 ?k2 ?k3 N8 ?k5 ?kK ?kd ?ku ?_; (case r5 => exact List.Mem.head _); (case r6 => (repeat' (first | exact List.forall_mem_nil _ | refine List.forall_mem_cons.mpr ⟨⟨_, _, rfl, ?_⟩, ?_⟩)) <;> k_extra "my item"); (case r1 => k_all); (case r2 => assumption); (case r3 => assumption); (case r4 => assumption); (case r7 => exact Nat.succ_pos _); (case r8 => exact Nat.le_of_ble_eq_true rfl); (case k1 => k_asm); (case k2 => k_asm); (case k3 => k_asm); (case k5 => k_asm); (case kK => first | exact rfl | assumption); (case kd => ktr_room); (case ku => ktr_units); intro x9 t9 b9 m9 t8 u8 k8 h9 tk9 F9 N9 hx9 hb9 hm9 hm8; (try dsimp only); (try k_sweep); (try k_unmd); (try k_fold)) | ((rename News _ _ _ _ => N8); refine' Spec.useTwoI (one_spec _ _ _ _ (IntP (CntI 500)) _ _ _ _ _ _ _ _ _ _ ?r1 ?r2 ?r3 ?r4 ?r5 ?r6 ?r7 ?r8) ?k1 ?k2 ?k3 N8 ?k5 ?kK ?kd ?ku ?_; (case r5 => exact List.Mem.head _); (case r6 => (repeat' (first | exact List.forall_mem_nil _ | refine List.forall_mem_cons.mpr ⟨⟨_, _, rfl, ?_⟩, ?_⟩)) <;> k_extra "my item"); (case r1 => k_all); (case r2 => assumption); (case r3 => assumption); (case r4 => assumption); (case r7 => exact Nat.succ_pos _); (case r8 => exact Nat.le_of_ble_eq_true rfl); (case k1 => k_asm); (case k2 => k_asm); (case k3 => k_asm); (case k5 => k_asm); (case kK => first | exact rfl | assumption); (case kd => ktr_room); (case ku => ktr_units); intro x9 t9 b9 m9 t8 u8 k8 h9 tk9 F9 N9 hx9 hb9 hm9 hm8; (try dsimp only); (try k_sweep); (try k_unmd); (try k_fold)) | ((rename News _ _ _ _ => N8); refine' Spec.useTwoS (one_spec _ _ _ _ (StrP (DigT 1)) _ _ _ _ _ _ _ _ _ _ ?r1 ?r2 ?r3 ?r4 ?r5 ?r6 ?r7 ?r8) ?k1 ?k2 ?k3 N8 ?k5 ?kK ?kd ?ku ?_; (case r5 => exact List.Mem.head _); (case r6 => (repeat' (first | exact List.forall_mem_nil _ | refine List.forall_mem_cons.mpr ⟨⟨_, _, rfl, ?_⟩, ?_⟩)) <;> k_extra "my item"); (case r1 => k_all); (case r2 => assumption); (case r3 => assumption); (case r4 => assumption); (case r7 => exact Nat.succ_pos _); (case r8 => exact Nat.le_of_ble_eq_true rfl); (case k1 => k_asm); (case k2 => k_asm); (case k3 => k_asm); (case k5 => k_asm); (case kK => first | exact rfl | assumption); (case kd => ktr_room); (case ku => ktr_units); intro x9 t9 b9 m9 t8 u8 k8 h9 tk9 F9 N9 hx9 hb9 hm9 hm8; (try dsimp only); (try k_sweep); (try k_unmd); (try k_fold)) | ((rename News _ _ _ _ => N8); refine' Spec.useTwoS (one_spec _ _ _ _ (StrP (DigT 2)) _ _ _ _ _ _ _ _ _ _ ?r1 ?r2 ?r3 ?r4 ?r5 ?r6 ?r7 ?r8) ?k1 ?k2 ?k3 N8 ?k5 ?kK ?kd ?ku ?_; (case r5 => exact List.Mem.head _); (case r6 => (repeat' (first | exact List.forall_mem_nil _ | refine List.forall_mem_cons.mpr ⟨⟨_, _, rfl, ?_⟩, ?_⟩)) <;> k_extra "my item"); (case r1 => k_all); (case r2 => assumption); (case r3 => assumption); (case r4 => assumption); (case r7 => exact Nat.succ_pos _); (case r8 => exact Nat.le_of_ble_eq_true rfl); (case k1 => k_asm); (case k2 => k_asm); (case k3 => k_asm); (case k5 => k_asm); (case kK => first | exact rfl | assumption); (case kd => ktr_room); (case ku => ktr_units); intro x9 t9 b9 m9 t8 u8 k8 h9 tk9 F9 N9 hx9 hb9 hm9 hm8; (try dsimp only); (try k_sweep); (try k_unmd); (try k_fold)))
  k_with "my item" => first
    | (unfold N013; decide)
    | (unfold DigI; decide)
    | exact ⟨by with_reducible assumption, by with_reducible assumption⟩
    | (unfold CntI; decide)
    | (unfold DigT; decide +kernel)
  k_with "my str" => (refine str_dig (And.left (by with_reducible assumption : DigI _)) (And.right (by with_reducible assumption : DigI _)) ?_; intro z9 t9 hz9; try dsimp only)
  k_with "my join" => first
    | (refine' join_dig0 ?xN ?xm ?_; (case xN => k_asm); (case xm => walk_at "x mem"); intro z9 t9 k9 hz9; try dsimp only)
    | (refine' join_dig1 ?xN ?xm ?x1 ?_; (case xN => k_asm); (case xm => walk_at "x mem"); (case x1 => with_reducible assumption); intro z9 t9 k9 hz9; try dsimp only)
    | (refine' join_dig3 ?xN ?xm ?x1 ?x2 ?x3 ?_; (case xN => k_asm); (case xm => walk_at "x mem"); (case x1 => with_reducible assumption); (case x2 => with_reducible assumption); (case x3 => with_reducible assumption); intro z9 t9 k9 hz9; try dsimp only)
  k_with "my mul" => first
    | (refine mul_dig (by with_reducible assumption) (And.left (by with_reducible assumption : CntI 401 _)) (And.right (by with_reducible assumption : CntI 401 _)) (by decide) (by decide) ?_; intro z9 t9 k9 hz9; try dsimp only)
    | (refine mul_dig (a := 1) (by unfold DigT; decide +kernel) (And.left (by with_reducible assumption : CntI 500 _)) (And.right (by with_reducible assumption : CntI 500 _)) (by decide) (by decide) ?_; intro z9 t9 k9 hz9; try dsimp only)
  k_with "my add" => first
    | (refine add_dig (by with_reducible assumption) (by with_reducible assumption) (by decide) ?_; intro z9 t9 k9 hz9; try dsimp only)
    | (refine add_len (by (with_reducible first | assumption | exact DigT.len (by assumption) | exact len_emp | exact len_neg | exact len_pt | exact len_nought)) (by (with_reducible first | assumption | exact DigT.len (by assumption) | exact len_emp | exact len_neg | exact len_pt | exact len_nought)) (by decide) ?_; intro t9 k9 hz9; try dsimp only)
  (rename News _ _ _ _ => N5); (have N4 : News _ _ _ ((src, srcO _ _ _ _ _) :: _) := news_swap N5); clear N5
  (with_reducible refine wpAny_execs_cons ?_); try dsimp only
  rename Fr _ _ _ _ => F5
  refine cut_text 3 (Str.ofString "ahead") F5 N4 ?w ?c
  case w =>
    intro q1 hq1
    clear hret
    (repeat' (first | (k_unfold; (try dsimp only)) | (k_end; wrow_close) | walk1 | (dsimp only; walk1) | (leave1; walk_say "STEP leave1"; try dsimp only) | (k_unmd; k_unfold; (try dsimp only)) | fail "no step"))
    all_goals (((refine' text_back (by assumption) ?e1 ?e2 ?e3 ?e4 ?e5 ?e6 ?e7; (case e1 => k_asm); (case e2 => k_asm); (case e3 => walk_at "x sublist"); (case e4 => first | with_reducible assumption | exact DigT.mono (by with_reducible assumption) (by decide)); (case e5 => with_reducible assumption); (case e6 => with_reducible assumption); (case e7 => with_reducible assumption))))
  case c =>
    intro v h5 tk5 n5 hR F5 N5
    obtain ⟨⟨ahead, ta, hv5, ha5⟩, b5, m5, t5, u5, k5, hb5, hm5, hm6, hn5⟩ := hR
    subst hv5; subst hn5
    dsimp only
    (with_reducible refine wpAny_execs_cons ?_); try dsimp only
    refine cut_text 904 (Str.ofString "whole") F5 N5 ?w ?c
    case w =>
      intro q1 hq1
      clear hret
      (repeat' (first | (k_unfold; (try dsimp only)) | (k_end; wrow_close) | walk1 | (dsimp only; walk1) | (leave1; walk_say "STEP leave1"; try dsimp only) | (k_unmd; k_unfold; (try dsimp only)) | fail "no step"))
      all_goals (((refine' text_back (by assumption) ?e1 ?e2 ?e3 ?e4 ?e5 ?e6 ?e7; (case e1 => k_asm); (case e2 => k_asm); (case e3 => walk_at "x sublist"); (case e4 => first | with_reducible assumption | exact DigT.mono (by with_reducible assumption) (by decide)); (case e5 => with_reducible assumption); (case e6 => with_reducible assumption); (case e7 => with_reducible assumption))))
    case c =>
      clear F5
      intro v h5 tk5 n5 hR F5 N5
      obtain ⟨⟨whole, tw, hv5, hw5⟩, b6, m7, t6, u6, k6, hb6, hm7, hm8, hn5⟩ := hR
      subst hv5; subst hn5
      dsimp only
      (with_reducible refine wpAny_execs_cons ?_); try dsimp only
      refine cut_text 403 (Str.ofString "behind") F5 N5 ?w ?c
      case w =>
        intro q1 hq1
        clear hret
        (repeat' (first | (k_unfold; (try dsimp only)) | (k_end; wrow_close) | walk1 | (dsimp only; walk1) | (leave1; walk_say "STEP leave1"; try dsimp only) | (k_unmd; k_unfold; (try dsimp only)) | fail "no step"))
        all_goals (((refine' text_back (by assumption) ?e1 ?e2 ?e3 ?e4 ?e5 ?e6 ?e7; (case e1 => k_asm); (case e2 => k_asm); (case e3 => walk_at "x sublist"); (case e4 => first | with_reducible assumption | exact DigT.mono (by with_reducible assumption) (by decide)); (case e5 => with_reducible assumption); (case e6 => with_reducible assumption); (case e7 => with_reducible assumption))))
      case c =>
        clear F5
        intro v h5 tk5 n5 hR F5 N5
        obtain ⟨⟨behind, tb, hv5, hh5⟩, b8, m8, t8, u8, k8, hb8, hm8, hm9, hn5⟩ := hR
        subst hv5; subst hn5
        dsimp only
        (with_reducible refine wpAny_execs_cons ?_); try dsimp only
        refine cut_bool (Str.ofString "is_below") F5 N5 ?w ?c
        case w =>
          intro q1 hq1
          clear hret
          (repeat' (first | (k_unfold; (try dsimp only)) | (k_end; wrow_close) | walk1 | (dsimp only; walk1) | (leave1; walk_say "STEP leave1"; try dsimp only) | (k_unmd; k_unfold; (try dsimp only)) | fail "no step"))
          all_goals (((refine' bool_back (by assumption) ?e1 ?e2 ?e3 ?e5 ?e6 ?e7; (case e1 => k_asm); (case e2 => k_asm); (case e3 => walk_at "x sublist"); (case e5 => with_reducible assumption); (case e6 => with_reducible assumption); (case e7 => with_reducible assumption))))
        case c =>
          clear F5
          intro v h5 tk5 n5 hR F5 N5
          obtain ⟨⟨β, hv5⟩, b10, m10, t10, u10, k10, hb10, hm10, hm11, hn5⟩ := hR
          subst hv5; subst hn5
          dsimp only
          (with_reducible refine wpAny_execs_cons ?_); try dsimp only
          refine cut_val (ww := w) (readG β whole behind) (Str.ofString "found") F5 N5 ?w ?c
          case w =>
            intro q1 hq1
            clear hret
            k_with "my call" => ((with_reducible show wpAny _ _ (call (Value.ref 137) _) _ _ _); first
              | (((rename News _ _ _ _ => N8); refine' Spec.use (read_any _ _ _ _ _ whole behind false _ _ hw5.2 hh5.2 (Nat.le_trans hw5.1 (by decide)) (Nat.le_trans hh5.1 (by decide)) (told_of (A := Str.ofString "") (B := Str.ofString "") rfl (if_pos (eq_len (by with_reducible assumption))).symm)) ?k1 ?k2 ?k3 N8 ?k5 ?kK ?kd ?ku ?_; (case k1 => k_asm); (case k2 => k_asm); (case k3 => k_asm); (case k5 => k_asm); (case kK => first | exact rfl | assumption); (case kd => ktr_room); (case ku => ktr_units); intro r9 n9 h9 tk9 F9 N9 hp9; (try dsimp only); (try k_sweep); (try k_unmd); (try k_fold)))
              | (((rename News _ _ _ _ => N8); refine' Spec.use (read_any _ _ _ _ _ whole behind false _ _ hw5.2 hh5.2 (Nat.le_trans hw5.1 (by decide)) (Nat.le_trans hh5.1 (by decide)) (told_of (A := Str.ofString "") (B := Str.ofString ".") rfl (if_neg (ne_len (by with_reducible assumption))).symm)) ?k1 ?k2 ?k3 N8 ?k5 ?kK ?kd ?ku ?_; (case k1 => k_asm); (case k2 => k_asm); (case k3 => k_asm); (case k5 => k_asm); (case kK => first | exact rfl | assumption); (case kd => ktr_room); (case ku => ktr_units); intro r9 n9 h9 tk9 F9 N9 hp9; (try dsimp only); (try k_sweep); (try k_unmd); (try k_fold)))
              | (((rename News _ _ _ _ => N8); refine' Spec.use (read_any _ _ _ _ _ whole behind true _ _ hw5.2 hh5.2 (Nat.le_trans hw5.1 (by decide)) (Nat.le_trans hh5.1 (by decide)) (told_of (A := Str.ofString " -") (B := Str.ofString "") rfl (if_pos (eq_len (by with_reducible assumption))).symm)) ?k1 ?k2 ?k3 N8 ?k5 ?kK ?kd ?ku ?_; (case k1 => k_asm); (case k2 => k_asm); (case k3 => k_asm); (case k5 => k_asm); (case kK => first | exact rfl | assumption); (case kd => ktr_room); (case ku => ktr_units); intro r9 n9 h9 tk9 F9 N9 hp9; (try dsimp only); (try k_sweep); (try k_unmd); (try k_fold)))
              | (((rename News _ _ _ _ => N8); refine' Spec.use (read_any _ _ _ _ _ whole behind true _ _ hw5.2 hh5.2 (Nat.le_trans hw5.1 (by decide)) (Nat.le_trans hh5.1 (by decide)) (told_of (A := Str.ofString " -") (B := Str.ofString ".") rfl (if_neg (ne_len (by with_reducible assumption))).symm)) ?k1 ?k2 ?k3 N8 ?k5 ?kK ?kd ?ku ?_; (case k1 => k_asm); (case k2 => k_asm); (case k3 => k_asm); (case k5 => k_asm); (case kK => first | exact rfl | assumption); (case kd => ktr_room); (case ku => ktr_units); intro r9 n9 h9 tk9 F9 N9 hp9; (try dsimp only); (try k_sweep); (try k_unmd); (try k_fold))))
            cases β
            all_goals (repeat' (first | (k_unfold; (try dsimp only)) | (k_end; wrow_close) | walk1 | (dsimp only; walk1) | (leave1; walk_say "STEP leave1"; try dsimp only) | (k_unmd; k_unfold; (try dsimp only)) | fail "no step"))
            all_goals (refine hq1 _ _ _ _ (by with_reducible assumption) (by k_asm) (by k_asm))
          case c =>
            clear F5 N5
            intro v h5 tk5 n5 hR F5 N5
            obtain ⟨p1, p2, hp⟩ : ∃ p1 p2, readG β whole behind = (p1, p2) := ⟨_, _, rfl⟩
            rw [hp] at hR
            rcases hR with ⟨qf, tf, uf, hv5, hn5⟩ | ⟨kf, tf, uf, hv5, hkf, hn5⟩
            all_goals
              subst hv5; subst hn5
              have hbl : behind.length ≤ 403 := hh5.1
              have hwl : whole.length ≤ 904 := hw5.1
              dsimp only
              k_with "my add" => (refine add_len (by (with_reducible first | assumption | exact DigT.len (by assumption) | exact len_emp | exact len_neg | exact len_pt | exact len_nought)) (by (with_reducible first | assumption | exact DigT.len (by assumption) | exact len_emp | exact len_neg | exact len_pt | exact len_nought)) (by decide) ?_; intro t9 k9 hz9; try dsimp only)
              k_with "my call" => ((with_reducible show wpAny _ _ (call (Value.ref 194) _) _ _ _); ((rename News _ _ _ _ => N8); (refine' Spec.useTup (due_text _ _ _ _ whole behind hw5.2 hh5.2 hw5.1 _ _ _) ?k1 ?k2 ?k3 N8 ?k5 ?kK ?kd ?ku ?_; (case k1 => k_asm); (case k2 => k_asm); (case k3 => k_asm); (case k5 => k_asm); (case kK => first | exact rfl | assumption); (case kd => ktr_room); (case ku => ktr_units); intro q9 t9 u9 h9 tk9 F9 N9 l9; (try dsimp only [AllLt] at l9); (try dsimp only); (try k_sweep); (try k_unmd); (try k_fold))))
              k_with "my eq" => first | exact readG_emp hp (by with_reducible assumption) | exact readG_dueT hp (by with_reducible assumption) (by with_reducible assumption) | exact readG_dueF hp (by with_reducible assumption) (by with_reducible assumption)
              k_with "my int" => ((rename Fr _ _ _ _ => F9); refine call_int_dig (Heap.NoDigits.keeps (Top.nodigits (by assumption)) (Fr.keep F9)) (top_dig hw5.2 hh5.2) top_ne (top_len hw5.1) ?_; try dsimp only)
              (with_reducible refine wpAny_execs_cons ?_); try dsimp only
              (repeat' (first | (k_unfold; (try dsimp only)) | (k_end; wrow_close) | walk1 | (dsimp only; walk1) | (leave1; walk_say "STEP leave1"; try dsimp only) | (k_unmd; k_unfold; (try dsimp only)) | fail "no step"))
              all_goals (((refine' ret_bsrc (by assumption) ?e1 ?e2 ?e3 ?e4 ?e5 ?e6 ?_; (case e1 => k_asm); (case e2 => k_asm); (case e3 => walk_at "x sublist"); (case e4 => assumption); (case e5 => assumption); (case e6 => assumption))))
              all_goals rfl

theorem Spec.useSrc {w : World} {mean : ExcName → Option Value} {mg mb : Str → Option Value} {d : Nat} {f : Addr} {vs : List Value} {news : Led} {b0 : Bool} {src : Addr} {rest : Led} (S : Spec w mean mg mb d f vs news (fun r n' => r = .bool b0 ∧ SrcAt src rest n'))
    {dp un : Nat} {gd : Option (List Code)} {cn : Str} {cs : Scope} {a : Addr} {ccd : Value} {cl : List (Str × Addr)} {outer : List Env} {A₀ : Around} {base h₀ : Heap} {L : Addr} {m : Str → Option Value} {s : Shared} {Q E : Value → Shared → Prop}
    (B : Below A₀ base outer h₀) (F : Fr h₀ L s.heap m) (X : (hd.heap_39 w.params).In h₀) (N : News h₀ L s.heap news) (T : Top hd.view_39 Loo mean mg mb h₀) (hk : cs.kind = .function)
    (hd : dp + d < recursionLimit) (hu : un + 8 * d + 1000 < cLine)
    (ret : ∀ b c t8 u8 k8 (h' : Heap) (tk' : Nat), Fr h₀ L h' m → News h₀ L h' ((src, srcO b c t8 u8 k8) :: rest) → 0 ≤ b → 0 ≤ c → c < 2147483647 → Q (.bool b0) { s with heap := h', toks := tk' }) :
    wpAny (model PySem.Challenge.rw_sy0045_01.row.prog w) (ktrTop dp un gd cn cs L a ccd cl outer) (call (.ref f) vs) Q E s :=
  S.use B F X N T hk hd hu fun _ _ h' tk' F' N' hp => by
    obtain ⟨rfl, b, c, t8, u8, k8, hb, hc, hc', rfl⟩ := hp
    exact ret b c t8 u8 k8 h' tk' F' N' hb hc hc'
/-- as Spec, where a list of the caller's ground is read -/
noncomputable def SpecL (w : World) (mean : ExcName → Option Value) (mg mb : Str → Option Value) (d : Nat) (f : Addr) (vs : List Value) (news : Led) (Post : Value → Led → Prop) (lst : Addr) (items : Array Value) : Prop :=
  ∀ (dp un : Nat) (gd : Option (List Code)) (cn : Str) (cs : Scope) (a : Addr) (ccd : Value) (cl : List (Str × Addr)) (outer : List Env) (A₀ : Around) (base h₀ : Heap) (L : Addr) (m : Str → Option Value) (s : Shared) (Q E : Value → Shared → Prop),
    base.IsList lst items → Below A₀ base outer h₀ → Fr h₀ L s.heap m → (hd.heap_39 w.params).In h₀ → News h₀ L s.heap news → Top hd.view_39 Loo mean mg mb h₀ → cs.kind = .function →
    dp + d < recursionLimit → un + 8 * d + 1000 < cLine →
    (∀ r news' h' tk', Fr h₀ L h' m → News h₀ L h' news' → Post r news' → Q r { s with heap := h', toks := tk' }) →
    wpAny (model PySem.Challenge.rw_sy0045_01.row.prog w) (ktrTop dp un gd cn cs L a ccd cl outer) (call (.ref f) vs) Q E s
/-- a new source, upon the ledger -/
def PoolR (news : Led) (r : Value) (n' : Led) : Prop := ∃ src b n t u k, r = .ref src ∧ 0 ≤ b ∧ 0 ≤ n ∧ n < 2147483647 ∧ (src, srcO b n t u k) :: news = n' ∧ ∀ p ∈ news, p.1 < src
theorem ret_pool {h₀ h' : Heap} {L l : Addr} {m : Str → Option Value} {news : Led} {s : Shared} {Q : Value → Shared → Prop} {b n : Int} {t u : Tok} {k tk' : Nat}
    (hret : ∀ r news' h' tk', Fr h₀ L h' m → News h₀ L h' news' → PoolR news r news' → Q r { s with heap := h', toks := tk' })
    (F : Fr h₀ L h' m) (N : News h₀ L h' ((l, srcO b n t u k) :: news)) (hl : ∀ p ∈ news, p.1 < l) (hb : 0 ≤ b) (hn : 0 ≤ n) (hn' : n < 2147483647) : Q (.ref l) { s with heap := h', toks := tk' } :=
  hret _ _ _ _ F N ⟨l, b, n, t, u, k, rfl, hb, hn, hn', rfl, hl⟩
theorem pool_spec0 (w mean mg mb) (ns : List Int) (vs : List Value) (hI : IntsAre vs ns) (hlen : ns.length ≤ 63) (ax : Addr) (tk : Tok) (news : Led) :
    SpecL w mean mg mb 1 166 [.ref ax, .int 0 tk] news (PoolR news) ax vs.toArray := by
  unfold SpecL; k_fill; intro dp un gd cn cs a ccd cl outer A₀ base h₀ L m s Q E hL B F X N T hk hdp hun hret
  ((refine wpAny_call ?_; k_dflt (refine' code_def ?k1 ?k2 ?k3 ?k4 ?k5 ?kA ?kF ?kK ?k6 ?k7 ?k8 ?k9 ?kB ?_ ?c2 ?c3 ?c4 ?c5; (case kA => exact rfl); (case kF => exact rfl); (case kK => assumption); (case k1 => k_asm); (case k2 => k_asm); (case k3 => k_asm); (case k4 => k_asm); (case k5 => k_asm); (case k6 => k_is); (case k7 => k_is); (case k8 => ktr_room); (case k9 => first | exact BindsTo.of_eq rfl | exact binds_K (by k_in) rfl (by k_is) rfl rfl rfl); (case c5 => decide); (case kB => exact locs rfl); (case c2 => exact rfl); (case c3 => exact rfl); (case c4 => exact rfl); k_whole; intro g' L' h' FG' F' N' B' X' T'; (try dsimp only); (try k_fold))))
  k_with_none
  k_with "binaryOp Mod int int" => (k_dflt (k_extra "my mod"))
  k_with "binaryOp Pow int int" => (k_dflt (k_extra "my pow"))
  k_with "exec While Compare cons nil" => (k_dflt (k_extra "my while"))
  k_with "call ref" => (k_dflt (k_extra "my call"))
  k_with "eval Call Name" => ((k_here; (fail_if_success (with_reducible show wpAny _ _ (eval (PySem.Expr.Call (PySem.Expr.Name (PySem.Str.ofString "abs") _) _ _ _) _) _ _ _)); (fail_if_success (with_reducible show wpAny _ _ (eval (PySem.Expr.Call (PySem.Expr.Name (PySem.Str.ofString "len") _) _ _ _) _) _ _ _)); (fail_if_success (with_reducible show wpAny _ _ (eval (PySem.Expr.Call (PySem.Expr.Name (PySem.Str.ofString "range") _) _ _ _) _) _ _ _)); (fail_if_success (with_reducible show wpAny _ _ (eval (PySem.Expr.Call (PySem.Expr.Name (PySem.Str.ofString "max") _) _ _ _) _) _ _ _)); (fail_if_success (with_reducible show wpAny _ _ (eval (PySem.Expr.Call (PySem.Expr.Name (PySem.Str.ofString "min") _) _ _ _) _) _ _ _)); (fail_if_success (with_reducible show wpAny _ _ (eval (PySem.Expr.Call (PySem.Expr.Name (PySem.Str.ofString "int") _) _ _ _) _) _ _ _)); (fail_if_success (with_reducible show wpAny _ _ (eval (PySem.Expr.Call (PySem.Expr.Name (PySem.Str.ofString "str") _) _ _ _) _) _ _ _)); (with_reducible show wpAny _ _ (eval (PySem.Expr.Call (PySem.Expr.Name _ _) _ _ _) (envOf _ _ _ _ _)) _ _ _); refine Call_ ?_))
  k_with "execs cons" => (k_dflt (k_extra "my execs"))
  k_with "subscriptTail Name Constant ref int" => ((k_here; k_dflt (refine' item_tupleT ?t ?a ?b ?c ?d ?_; (case t => (refine' News.isTup ?tn ?tm; (case tn => k_asm); (case tm => k_mem))); (case a => decide); (case b => decide); (case c => rfl); (case d => rfl); k_whole)))
  k_with "binaryOp FloorDiv int int" => (first | k_dflt (k_extra "my div") | (with_reducible refine' floordiv_int ?xa ?_ (Or.inl (noPy ?xb ?xc)); (case xa => first | assumption | omega); (case xb => bits_by_make); (case xc => decide)))
  k_with "compareOp NotEq ref ref" => (k_dflt (refine' tup_ne ?xN ?xa ?xb ?xu ?xe ?_; (case xN => k_asm); (case xa => k_mem); (case xb => k_mem); (case xu => ktr_units); (case xe => first | with_reducible rfl | k_extra "my eq"); (((rename News _ _ _ _ => N8); (have N7 := news_drop2 N8); clear N8))))
  k_with "compareOp Eq ref ref" => (k_dflt (refine' tup_eq ?xN ?xa ?xb ?xu ?xe ?_; (case xN => k_asm); (case xa => k_mem); (case xb => k_mem); (case xu => ktr_units); (case xe => first | with_reducible rfl | k_extra "my eq"); (((rename News _ _ _ _ => N8); (have N7 := news_drop2 N8); clear N8))))
  k_with "compareOp Eq ref ref" => (k_dflt (refine' tup_eqK ?xF ?xX ?xN ?xa ?xb ?xu ?xe ?_; (case xF => k_asm); (case xX => k_asm); (case xN => k_asm); (case xa => k_is); (case xb => k_mem); (case xu => ktr_units); (case xe => first | with_reducible rfl | k_extra "my eq")))
  k_with "compareOp NotEq ref ref" => (k_dflt (refine' tup_neK ?xF ?xX ?xN ?xa ?xb ?xu ?xe ?_; (case xF => k_asm); (case xX => k_asm); (case xN => k_asm); (case xa => k_is); (case xb => k_mem); (case xu => ktr_units); (case xe => first | with_reducible rfl | k_extra "my eq")))
  k_with "subscriptTail Name Constant ref int" => ((k_here; k_dflt (refine' lst_item (vs := [_, _]) ?t ?a ?b ?c ?d ?_ ?e; (case t => k_asm); (case a => k_mem); (case b => decide); (case c => decide); (case d => exact rfl); (case e => with_unfolding_all rfl); k_whole)))
  k_with "setItem ref int" => ((k_here; k_dflt (first | ((with_reducible show wpAny _ _ (setItem (Value.ref _) (Value.int 0 _) _) _ _ _); refine' src_set0 ?t ?a ?b ?_; (case t => k_asm); (case a => k_asm); (case b => assumption); k_whole) | ((with_reducible show wpAny _ _ (setItem (Value.ref _) (Value.int 1 _) _) _ _ _); refine' src_set1 ?t ?a ?b ?_; (case t => k_asm); (case a => k_asm); (case b => assumption); k_whole)); intro h' F' N'; (try k_sweep)))
  k_with "exec While BoolOp" => (k_dflt (k_extra "my while"))
  k_with "subscriptTail Name Constant ref int" => ((k_here; with_reducible first | (refine' tup_it0 ?t ?a ?_ ?e; (case t => k_asm); (case a => walk_at "x mem"); (case e => with_unfolding_all rfl)) | (refine' tup_it1 ?t ?a ?_ ?e; (case t => k_asm); (case a => walk_at "x mem"); (case e => with_unfolding_all rfl)) | (refine' lst_it0 ?t ?a ?_ ?e; (case t => k_asm); (case a => walk_at "x mem"); (case e => with_unfolding_all rfl)) | (refine' lst_it1 ?t ?a ?_ ?e; (case t => k_asm); (case a => walk_at "x mem"); (case e => with_unfolding_all rfl))))
  k_with "compareOp NotEq ref ref" => (k_dflt (refine' lst2_ne ?xN ?xa ?xb ?h1 ?h2 ?h3 ?h4 ?xu ?_; (case xN => k_asm); (case xa => walk_at "x mem"); (case xb => walk_at "x mem"); (case h1 => walk_at "x mem"); (case h2 => walk_at "x mem"); (case h3 => walk_at "x mem"); (case h4 => walk_at "x mem"); (case xu => ktr_units); (((rename News _ _ _ _ => N8); (have N7 := news_drop3 N8); clear N8))))
  k_with "call type:str cons nil" => (k_dflt (k_extra "my str"))
  k_with "call builtin:len cons nil" => (k_dflt (k_extra "my len"))
  k_with "compareOp NotEq str str" => (with_reducible (refine ne_same ?_))
  k_with "exec For Name Name cons nil" => ((k_here; (rename Fr _ _ _ _ => lF'); (with_unfolding_all refine' For_invVF lF' ?k1 ?k2 ?_; (case k1 => exact rfl); (case k2 => exact rfl); k_whole)))
  k_with "exec Assign cons ListComp" => ((k_here; (with_reducible show wpAny _ _ (exec (Stmt.Assign _ (PySem.Expr.ListComp _ [⟨PySem.Expr.Name _ _, _, [], _⟩] _ _) _) _) _ _ _); k_dflt (refine LCg.Assign_ListComp_U (F₀ := by k_asm) (by rfl) (by with_unfolding_all rfl) (by rfl) (by decide) (by rfl) (by decide) (by rfl) (by rfl) (by rfl) ?_); k_dflt lcg_toSrc))
  k_with "CompSrc" => ((k_here; k_dflt (refine LCg.CompSrc.range (by rfl) (by k_asm) (by k_asm) (by assumption) (by first | decide | rfl) (by first | rfl | decide) (by first | size_fits | exact Nat.le_of_ble_eq_true rfl) ?_; intro g'; lcg_lit)))
  k_with "call type:int cons nil" => (k_dflt (k_extra "my int"))
  k_with "call builtin:str.join" => (k_dflt (k_extra "my join"))
  k_with "binaryOp Mult str int" => (k_dflt (k_extra "my mul"))
  k_with "binaryOp Add str str" => (k_dflt (k_extra "my add"))
  k_with "compareOp Eq ref ref" => (k_dflt (first | (refine' tup_eq ?xN ?xa ?xb ?xu ?xe ?_; (case xN => k_asm); (case xa => walk_at "x mem"); (case xb => walk_at "x mem"); (case xu => ktr_units); (case xe => k_extra "my eq")) | (refine' tup_eqK ?xF ?xX ?xN ?xa ?xb ?xu ?xe ?_; (case xF => k_asm); (case xX => k_asm); (case xN => k_asm); (case xa => assumption); (case xb => walk_at "x mem"); (case xu => ktr_units); (case xe => k_extra "my eq"))))
  rename Below _ _ _ _ => B9
  have hL9 := stays_list (Below.stays B9) hL
  (repeat' (first | (k_unfold; (try dsimp only)) | (k_end; wrow_close) | walk1 | (dsimp only; walk1) | (leave1; walk_say "STEP leave1"; try dsimp only) | (k_unmd; k_unfold; (try dsimp only)) | fail "no step"))
  all_goals (((refine' ret_pool (by assumption) ?e1 ?e2 ?e3 ?e4 ?e5 ?e6; (case e1 => k_asm); (case e2 => k_asm); (case e3 => assumption); (case e4 => first | decide | (split <;> omega)); (case e5 => exact Int.fmod_nonneg_of_pos _ (by decide)); (case e6 => exact Int.fmod_lt_of_pos _ (by decide)))))
theorem pool_spec1 (w mean mg mb) (ns : List Int) (vs : List Value) (hI : IntsAre vs ns) (hlen : ns.length ≤ 63) (ax : Addr) (tk : Tok) (news : Led) :
    SpecL w mean mg mb 1 166 [.ref ax, .int 1 tk] news (PoolR news) ax vs.toArray := by
  unfold SpecL; k_fill; intro dp un gd cn cs a ccd cl outer A₀ base h₀ L m s Q E hL B F X N T hk hdp hun hret
  ((refine wpAny_call ?_; k_dflt (refine' code_def ?k1 ?k2 ?k3 ?k4 ?k5 ?kA ?kF ?kK ?k6 ?k7 ?k8 ?k9 ?kB ?_ ?c2 ?c3 ?c4 ?c5; (case kA => exact rfl); (case kF => exact rfl); (case kK => assumption); (case k1 => k_asm); (case k2 => k_asm); (case k3 => k_asm); (case k4 => k_asm); (case k5 => k_asm); (case k6 => k_is); (case k7 => k_is); (case k8 => ktr_room); (case k9 => first | exact BindsTo.of_eq rfl | exact binds_K (by k_in) rfl (by k_is) rfl rfl rfl); (case c5 => decide); (case kB => exact locs rfl); (case c2 => exact rfl); (case c3 => exact rfl); (case c4 => exact rfl); k_whole; intro g' L' h' FG' F' N' B' X' T'; (try dsimp only); (try k_fold))))
  k_with_none
  k_with "binaryOp Mod int int" => (k_dflt (k_extra "my mod"))
  k_with "binaryOp Pow int int" => (k_dflt (k_extra "my pow"))
  k_with "exec While Compare cons nil" => (k_dflt (k_extra "my while"))
  k_with "call ref" => (k_dflt (k_extra "my call"))
  k_with "eval Call Name" => ((k_here; (fail_if_success (with_reducible show wpAny _ _ (eval (PySem.Expr.Call (PySem.Expr.Name (PySem.Str.ofString "abs") _) _ _ _) _) _ _ _)); (fail_if_success (with_reducible show wpAny _ _ (eval (PySem.Expr.Call (PySem.Expr.Name (PySem.Str.ofString "len") _) _ _ _) _) _ _ _)); (fail_if_success (with_reducible show wpAny _ _ (eval (PySem.Expr.Call (PySem.Expr.Name (PySem.Str.ofString "range") _) _ _ _) _) _ _ _)); (fail_if_success (with_reducible show wpAny _ _ (eval (PySem.Expr.Call (PySem.Expr.Name (PySem.Str.ofString "max") _) _ _ _) _) _ _ _)); (fail_if_success (with_reducible show wpAny _ _ (eval (PySem.Expr.Call (PySem.Expr.Name (PySem.Str.ofString "min") _) _ _ _) _) _ _ _)); (fail_if_success (with_reducible show wpAny _ _ (eval (PySem.Expr.Call (PySem.Expr.Name (PySem.Str.ofString "int") _) _ _ _) _) _ _ _)); (fail_if_success (with_reducible show wpAny _ _ (eval (PySem.Expr.Call (PySem.Expr.Name (PySem.Str.ofString "str") _) _ _ _) _) _ _ _)); (with_reducible show wpAny _ _ (eval (PySem.Expr.Call (PySem.Expr.Name _ _) _ _ _) (envOf _ _ _ _ _)) _ _ _); refine Call_ ?_))
  k_with "execs cons" => (k_dflt (k_extra "my execs"))
  k_with "subscriptTail Name Constant ref int" => ((k_here; k_dflt (refine' item_tupleT ?t ?a ?b ?c ?d ?_; (case t => (refine' News.isTup ?tn ?tm; (case tn => k_asm); (case tm => k_mem))); (case a => decide); (case b => decide); (case c => rfl); (case d => rfl); k_whole)))
  k_with "binaryOp FloorDiv int int" => (first | k_dflt (k_extra "my div") | (with_reducible refine' floordiv_int ?xa ?_ (Or.inl (noPy ?xb ?xc)); (case xa => first | assumption | omega); (case xb => bits_by_make); (case xc => decide)))
  k_with "compareOp NotEq ref ref" => (k_dflt (refine' tup_ne ?xN ?xa ?xb ?xu ?xe ?_; (case xN => k_asm); (case xa => k_mem); (case xb => k_mem); (case xu => ktr_units); (case xe => first | with_reducible rfl | k_extra "my eq"); (((rename News _ _ _ _ => N8); (have N7 := news_drop2 N8); clear N8))))
  k_with "compareOp Eq ref ref" => (k_dflt (refine' tup_eq ?xN ?xa ?xb ?xu ?xe ?_; (case xN => k_asm); (case xa => k_mem); (case xb => k_mem); (case xu => ktr_units); (case xe => first | with_reducible rfl | k_extra "my eq"); (((rename News _ _ _ _ => N8); (have N7 := news_drop2 N8); clear N8))))
  k_with "compareOp Eq ref ref" => (k_dflt (refine' tup_eqK ?xF ?xX ?xN ?xa ?xb ?xu ?xe ?_; (case xF => k_asm); (case xX => k_asm); (case xN => k_asm); (case xa => k_is); (case xb => k_mem); (case xu => ktr_units); (case xe => first | with_reducible rfl | k_extra "my eq")))
  k_with "compareOp NotEq ref ref" => (k_dflt (refine' tup_neK ?xF ?xX ?xN ?xa ?xb ?xu ?xe ?_; (case xF => k_asm); (case xX => k_asm); (case xN => k_asm); (case xa => k_is); (case xb => k_mem); (case xu => ktr_units); (case xe => first | with_reducible rfl | k_extra "my eq")))
  k_with "subscriptTail Name Constant ref int" => ((k_here; k_dflt (refine' lst_item (vs := [_, _]) ?t ?a ?b ?c ?d ?_ ?e; (case t => k_asm); (case a => k_mem); (case b => decide); (case c => decide); (case d => exact rfl); (case e => with_unfolding_all rfl); k_whole)))
  k_with "setItem ref int" => ((k_here; k_dflt (first | ((with_reducible show wpAny _ _ (setItem (Value.ref _) (Value.int 0 _) _) _ _ _); refine' src_set0 ?t ?a ?b ?_; (case t => k_asm); (case a => k_asm); (case b => assumption); k_whole) | ((with_reducible show wpAny _ _ (setItem (Value.ref _) (Value.int 1 _) _) _ _ _); refine' src_set1 ?t ?a ?b ?_; (case t => k_asm); (case a => k_asm); (case b => assumption); k_whole)); intro h' F' N'; (try k_sweep)))
  k_with "exec While BoolOp" => (k_dflt (k_extra "my while"))
  k_with "subscriptTail Name Constant ref int" => ((k_here; with_reducible first | (refine' tup_it0 ?t ?a ?_ ?e; (case t => k_asm); (case a => walk_at "x mem"); (case e => with_unfolding_all rfl)) | (refine' tup_it1 ?t ?a ?_ ?e; (case t => k_asm); (case a => walk_at "x mem"); (case e => with_unfolding_all rfl)) | (refine' lst_it0 ?t ?a ?_ ?e; (case t => k_asm); (case a => walk_at "x mem"); (case e => with_unfolding_all rfl)) | (refine' lst_it1 ?t ?a ?_ ?e; (case t => k_asm); (case a => walk_at "x mem"); (case e => with_unfolding_all rfl))))
  k_with "compareOp NotEq ref ref" => (k_dflt (refine' lst2_ne ?xN ?xa ?xb ?h1 ?h2 ?h3 ?h4 ?xu ?_; (case xN => k_asm); (case xa => walk_at "x mem"); (case xb => walk_at "x mem"); (case h1 => walk_at "x mem"); (case h2 => walk_at "x mem"); (case h3 => walk_at "x mem"); (case h4 => walk_at "x mem"); (case xu => ktr_units); (((rename News _ _ _ _ => N8); (have N7 := news_drop3 N8); clear N8))))
  k_with "call type:str cons nil" => (k_dflt (k_extra "my str"))
  k_with "call builtin:len cons nil" => (k_dflt (k_extra "my len"))
  k_with "compareOp NotEq str str" => (with_reducible (refine ne_same ?_))
  k_with "exec For Name Name cons nil" => ((k_here; (rename Fr _ _ _ _ => lF'); (with_unfolding_all refine' For_invVF lF' ?k1 ?k2 ?_; (case k1 => exact rfl); (case k2 => exact rfl); k_whole)))
  k_with "exec Assign cons ListComp" => ((k_here; (with_reducible show wpAny _ _ (exec (Stmt.Assign _ (PySem.Expr.ListComp _ [⟨PySem.Expr.Name _ _, _, [], _⟩] _ _) _) _) _ _ _); k_dflt (refine LCg.Assign_ListComp_U (F₀ := by k_asm) (by rfl) (by with_unfolding_all rfl) (by rfl) (by decide) (by rfl) (by decide) (by rfl) (by rfl) (by rfl) ?_); k_dflt lcg_toSrc))
  k_with "CompSrc" => ((k_here; k_dflt (refine LCg.CompSrc.range (by rfl) (by k_asm) (by k_asm) (by assumption) (by first | decide | rfl) (by first | rfl | decide) (by first | size_fits | exact Nat.le_of_ble_eq_true rfl) ?_; intro g'; lcg_lit)))
  k_with "call type:int cons nil" => (k_dflt (k_extra "my int"))
  k_with "call builtin:str.join" => (k_dflt (k_extra "my join"))
  k_with "binaryOp Mult str int" => (k_dflt (k_extra "my mul"))
  k_with "binaryOp Add str str" => (k_dflt (k_extra "my add"))
  k_with "compareOp Eq ref ref" => (k_dflt (first | (refine' tup_eq ?xN ?xa ?xb ?xu ?xe ?_; (case xN => k_asm); (case xa => walk_at "x mem"); (case xb => walk_at "x mem"); (case xu => ktr_units); (case xe => k_extra "my eq")) | (refine' tup_eqK ?xF ?xX ?xN ?xa ?xb ?xu ?xe ?_; (case xF => k_asm); (case xX => k_asm); (case xN => k_asm); (case xa => assumption); (case xb => walk_at "x mem"); (case xu => ktr_units); (case xe => k_extra "my eq"))))
  rename Below _ _ _ _ => B9
  have hL9 := stays_list (Below.stays B9) hL
  (repeat' (first | (k_unfold; (try dsimp only)) | (k_end; wrow_close) | walk1 | (dsimp only; walk1) | (leave1; walk_say "STEP leave1"; try dsimp only) | (k_unmd; k_unfold; (try dsimp only)) | fail "no step"))
  all_goals (((refine' ret_pool (by assumption) ?e1 ?e2 ?e3 ?e4 ?e5 ?e6; (case e1 => k_asm); (case e2 => k_asm); (case e3 => assumption); (case e4 => first | decide | (split <;> omega)); (case e5 => exact Int.fmod_nonneg_of_pos _ (by decide)); (case e6 => exact Int.fmod_lt_of_pos _ (by decide)))))
theorem SpecL.use {w : World} {mean : ExcName → Option Value} {mg mb : Str → Option Value} {d : Nat} {f : Addr} {vs : List Value} {news : Led} {Post : Value → Led → Prop} {lst : Addr} {items : Array Value} (S : SpecL w mean mg mb d f vs news Post lst items)
    {dp un : Nat} {gd : Option (List Code)} {cn : Str} {cs : Scope} {a : Addr} {ccd : Value} {cl : List (Str × Addr)} {outer : List Env} {A₀ : Around} {base h₀ : Heap} {L : Addr} {m : Str → Option Value} {s : Shared} {Q E : Value → Shared → Prop}
    (hL : base.IsList lst items) (B : Below A₀ base outer h₀) (F : Fr h₀ L s.heap m) (X : (hd.heap_39 w.params).In h₀) (N : News h₀ L s.heap news) (T : Top hd.view_39 Loo mean mg mb h₀) (hk : cs.kind = .function)
    (hd : dp + d < recursionLimit) (hu : un + 8 * d + 1000 < cLine)
    (ret : ∀ r news' h' tk', Fr h₀ L h' m → News h₀ L h' news' → Post r news' → Q r { s with heap := h', toks := tk' }) :
    wpAny (model PySem.Challenge.rw_sy0045_01.row.prog w) (ktrTop dp un gd cn cs L a ccd cl outer) (call (.ref f) vs) Q E s :=
  S _ _ _ _ _ _ _ _ _ _ _ _ _ _ _ _ _ hL B F X N T hk hd hu ret

theorem num1_as (w mean mg mb) {t p q : Int} (e : numF t 1 = (p, q)) (tt : Tok) (news : Led) : Spec w mean mg mb 4 39 [.int t tt] news (TupR (p, q) news) := by
  rw [← e]; exact number_of_specD w mean mg mb t tt news
theorem num_as (w mean mg mb) {t b p q : Int} (e : numF t b = (p, q)) (hb : 0 < b) (ht : Builtin.Int.intBits t ≤ 30000) (hbb : Builtin.Int.intBits b ≤ 8000) (tt tb : Tok) (news : Led) : Spec w mean mg mb 4 39 [.int t tt, .int b tb] news (TupR (p, q) news) := by
  rw [← e]; exact number_of_spec w mean mg mb t b tt tb hb ht hbb news
section
variable {prog : Program} {w : World} {A : Around} {E : Value → Shared → Prop} {s : Shared} {Q : Value → Shared → Prop} {h₀ : Heap} {L a b p1 p2 p3 r1 r2 r3 : Addr} {news : Led} {x y x' y' x'' y'' : Int} {t1 u1 t2 u2 t3 u3 t4 u4 t5 u5 t6 u6 : Tok} {k1 k2 : Nat}
theorem lst3_reads (N : News h₀ L s.heap news) (ha : (a, ({ cls := .type "list", data := .seq #[.ref p1, .ref p2, .ref p3] k1 } : Obj)) ∈ news) (h1 : (p1, tup x y t1 u1) ∈ news) (h2 : (p2, tup x' y' t2 u2) ∈ news) (h3 : (p3, tup x'' y'' t3 u3) ∈ news) :
    ∃ as, Reads s.heap (.ref a) (.list [.tuple [.int x, .int y], .tuple [.int x', .int y'], .tuple [.int x'', .int y'']]) as := by
  obtain ⟨as1, e1⟩ := tup_reads N h1
  obtain ⟨as2, e2⟩ := tup_reads N h2
  obtain ⟨as3, e3⟩ := tup_reads N h3
  exact ⟨_, reads_list_at (News.get N ha) rfl rfl (ReadsAll.cons e1 (ReadsAll.cons e2 (ReadsAll.cons e3 ReadsAll.nil)))⟩
theorem lst3_ne (N : News h₀ L s.heap news) (ha : (a, ({ cls := .type "list", data := .seq #[.ref p1, .ref p2, .ref p3] k1 } : Obj)) ∈ news) (hb : (b, ({ cls := .type "list", data := .seq #[.ref r1, .ref r2, .ref r3] k2 } : Obj)) ∈ news)
    (h1 : (p1, tup x y t1 u1) ∈ news) (h2 : (p2, tup x' y' t2 u2) ∈ news) (h3 : (p3, tup x'' y'' t3 u3) ∈ news) (h4 : (r1, tup x y t4 u4) ∈ news) (h5 : (r2, tup x' y' t5 u5) ∈ news) (h6 : (r3, tup x'' y'' t6 u6) ∈ news)
    (hu : A.units + 64 < cLine) (h : Q (.bool false) s) : wpAny (model prog w) A (compareOp .NotEq (.ref a) (.ref b)) Q E s := by
  obtain ⟨as, ra⟩ := lst3_reads N ha h1 h2 h3
  obtain ⟨bs, rb⟩ := lst3_reads N hb h4 h5 h6
  refine ne_dataH ra rb rfl rfl hu ?_
  have e : PyData.eqv (.list [.tuple [.int x, .int y], .tuple [.int x', .int y'], .tuple [.int x'', .int y'']]) (.list [.tuple [.int x, .int y], .tuple [.int x', .int y'], .tuple [.int x'', .int y'']]) = true := PySem.SeqAt.eqv_refl _ rfl
  rw [e]
  exact h
end
abbrev TT : Int := 100000000000000000000000000000000000000000000000000000000000000000000000000000000000000000000000000000000000000000000000000000000000000000000000000000000000000000000000000000000000000000000000000000000
theorem TT_pow : (10 : Int) ^ (200 : Int).toNat = TT := by decide +kernel
theorem mul_cps1 (c : Nat) (x : Str) (hx : x.cps.toList = [c]) : (Txt.mul x 400).cps.toList = List.replicate 400 c := by
  have hl : x.length = 1 := by rw [← len_cps, hx]; rfl
  have e : Txt.mul x 400 = ⟨(List.replicate (400 : Int).toNat x.cps).foldl (· ++ ·) #[]⟩ := by
    unfold Txt.mul
    rw [if_neg (by decide), if_neg (by rw [hl]; decide)]
  rw [e]
  show ((List.replicate (400 : Int).toNat x.cps).foldl (· ++ ·) #[]).toList = _
  rw [foldl_cat, hx]
  show [] ++ (List.replicate 400 [c]).flatten = _
  rw [List.nil_append, List.flatten_replicate_singleton]
theorem dig_9 : DigT 1 (Str.ofString "9") := by unfold DigT; decide +kernel
theorem dig_0 : DigT 1 (Str.ofString "0") := by unfold DigT; decide +kernel
theorem dig_1 : DigT 1 (Str.ofString "1") := by unfold DigT; decide +kernel
theorem dig_nines : DigT 400 (Txt.mul (Str.ofString "9") 400) := dig_9.mul (m := 400) (by decide) (by decide)
theorem dig_zeros : DigT 400 (Txt.mul (Str.ofString "0") 400) := dig_0.mul (m := 400) (by decide) (by decide)
theorem read_plain (w mean mg mb) (x : Str) (p : Int × Int) (tx : Tok) (news : Led) (hx : DigT 401 x) (hp : readG false x (Str.ofString "") = p) : Spec w mean mg mb 7 137 [.str x tx] news (ValR w p news) := by
  rw [← hp]
  refine read_any w mean mg mb x x (Str.ofString "") false tx news hx.2 (fun c hc => by rw [emp_cps] at hc; exact nomatch hc) (Nat.le_trans hx.1 (by decide)) (by decide +kernel) ?_
  have h0 : (Str.ofString "").length = 0 := by decide +kernel
  rw [emp_cps, if_pos h0]
  simp
theorem readG_plain {x : Str} {l : List Nat} {v p q : Int} (hl : x.cps.toList = l) (h1 : l ≠ []) (hv : dV (sgs l) = v) (hn : numF v 1 = (p, q)) : readG false x (Str.ofString "") = (p, q) := by
  have h0 : (Str.ofString "").length = 0 := by decide +kernel
  have hx : x.length ≠ 0 := fun e => h1 (by rw [← hl]; exact List.length_eq_zero_iff.mp (by rw [len_cps]; exact e))
  have e1 : readG false x (Str.ofString "") = readV x (Str.ofString "") := if_neg (by omega)
  have e2 : moreD (Str.ofString "") = 0 := if_neg (fun h => by omega)
  rw [e1]
  unfold readV
  rw [e2, h0]
  have e3 : numD x (Str.ofString "") = v := by
    unfold numD
    rw [emp_cps, hl, ← hv]
    congr 2
    exact List.append_nil l
  rw [e3, Int.add_zero]
  exact hn
theorem read_nines (w mean mg mb) (tx : Tok) (news : Led) : Spec w mean mg mb 7 137 [.str (Txt.mul (Str.ofString "9") 400) tx] news (ValR w (MM - 1, 1) news) :=
  read_plain w mean mg mb _ _ tx news (dig_nines.mono (by decide)) (readG_plain (v := MM - 1) (mul_cps1 57 _ (by decide +kernel)) (by decide) (by decide +kernel) (by decide +kernel))
theorem read_tens (w mean mg mb) (tx : Tok) (news : Led) : Spec w mean mg mb 7 137 [.str (Str.ofString "1" ++ Txt.mul (Str.ofString "0") 400) tx] news (ValR w (1, 0) news) :=
  read_plain w mean mg mb _ _ tx news (dig_1.cat dig_zeros) (readG_plain (v := MM) (l := 49 :: List.replicate 400 48) (by rw [cat_cps, mul_cps1 48 _ (by decide +kernel)]; congr 1) (List.cons_ne_nil _ _) (by decide +kernel) (by decide +kernel))
theorem mod_as (w mean mg mb) {x y x' y' p q : Int} (e : modF x y x' y' = (p, q)) (qa qb : Addr) (t u t' u' : Tok) (news : Led) (ha : (qa, tup x y t u) ∈ news) (hb : (qb, tup x' y' t' u') ∈ news) (hy : 0 < y) (hy' : 0 < y') (hx : x' ≠ 0)
    (b1 : Builtin.Int.intBits x ≤ 4000) (b2 : Builtin.Int.intBits y ≤ 1400) (b3 : Builtin.Int.intBits x' ≤ 4000) (b4 : Builtin.Int.intBits y' ≤ 1400) : Spec w mean mg mb 5 88 [.ref qa, .ref qb] news (TupR (p, q) news) := by
  rw [← e]; exact modulo_spec w mean mg mb x y x' y' qa qb t u t' u' news ha hb hy hy' hx b1 b2 b3 b4
theorem times_as (w mean mg mb) {x y x' y' p q : Int} (e : numF (x * x') (y * y') = (p, q)) (qa qb : Addr) (t u t' u' : Tok) (news : Led) (ha : (qa, tup x y t u) ∈ news) (hb : (qb, tup x' y' t' u') ∈ news) (hy : 0 < y) (hy' : 0 < y')
    (b1 : Builtin.Int.intBits x ≤ 4000) (b2 : Builtin.Int.intBits y ≤ 1400) (b3 : Builtin.Int.intBits x' ≤ 4000) (b4 : Builtin.Int.intBits y' ≤ 1400) : Spec w mean mg mb 5 74 [.ref qa, .ref qb] news (TupR (p, q) news) := by
  rw [← e]; exact times_spec w mean mg mb x y x' y' qa qb t u t' u' news ha hb hy hy' b1 b2 b3 b4
section
variable {prog : Program} {w : World} {A : Around} {E : Value → Shared → Prop} {s : Shared} {Q : Value → Shared → Prop} {h₀ : Heap} {L : Addr} {m : Str → Option Value} {news : Led} {a b : Int} {t u : Tok}
theorem min_is (c : Int) (e : (if b < a then b else a) = c) (hh : A.handled = none) (F : Fr h₀ L s.heap m) (N : News h₀ L s.heap news) (h : ∀ h' tk v, Fr h₀ L h' m → News h₀ L h' news → Q (.int c v) { s with heap := h', toks := tk }) :
    wpAny (model prog w) A (call (.builtin "min") [.int a t, .int b u]) Q E s := by
  refine PySem.Flt.min_two_split (k := decide (b < a)) hh (.int a t) (.int b u) rfl F N (fun q h' tk F' N' => ?_) (fun q h' tk F' N' => ?_)
  · rw [if_pos (of_decide_eq_true q)] at e; subst e; exact h h' tk u F' N'
  · rw [if_neg (of_decide_eq_false q)] at e; subst e; exact h h' tk t F' N'
theorem max_is (c : Int) (e : (if a < b then b else a) = c) (hh : A.handled = none) (F : Fr h₀ L s.heap m) (N : News h₀ L s.heap news) (h : ∀ h' tk v, Fr h₀ L h' m → News h₀ L h' news → Q (.int c v) { s with heap := h', toks := tk }) :
    wpAny (model prog w) A (call (.builtin "max") [.int a t, .int b u]) Q E s := by
  refine PySem.Flt.max_two_split (k := decide (a < b)) hh (.int a t) (.int b u) rfl F N (fun q h' tk F' N' => ?_) (fun q h' tk F' N' => ?_)
  · rw [if_pos (of_decide_eq_true q)] at e; subst e; exact h h' tk u F' N'
  · rw [if_neg (of_decide_eq_false q)] at e; subst e; exact h h' tk t F' N'
end
theorem cut_any {M : Model} {A : Around} {E : Value → Shared → Prop} {s : Shared} {tree : Sem Flow} {g : Heap} {L : Addr} {m : Str → Option Value} {q : Flow → Shared → Prop} (_F : Fr g L s.heap m)
    (w : ∀ q' : Flow → Shared → Prop, (∀ h' tk' m' news', Fr g L h' m' → News g L h' news' → q' .next { s with heap := h', toks := tk' }) → wpAny M A tree q' E s)
    (c : ∀ h' tk' m' news', Fr g L h' m' → News g L h' news' → q .next { s with heap := h', toks := tk' }) : wpAny M A tree q E s := w q c
theorem len_script {prog : Program} {w : World} {A : Around} {E : Value → Shared → Prop} {s : Shared} {Q : Value → Shared → Prop} {h₀ : Heap} {L o : Addr} {m : Str → Option Value} {vs : List Value} {ns : List Int} (c : Int) (e : (ns.length : Int) = c)
    (hl : h₀.IsList o vs.toArray) (hI : IntsAre vs ns) (F : Fr h₀ L s.heap m) (hc : ns.length ≤ 63) (h : Q (.int c (s.toks + 1)) { s with toks := s.toks + 1 + 1 }) : wpAny (model prog w) A (call (.builtin "len") [.ref o]) Q E s := by
  subst e
  have q : vs.length = ns.length := by have := hI.length; omega
  exact len_list (items := vs.toArray) (let ⟨ob, e1, r⟩ := hl; ⟨ob, F.keep _ _ e1, r⟩) (by rw [List.size_toArray]; omega) (by rw [List.size_toArray, q]; exact h)
theorem pool_k (w mean mg mb) (ns : List Int) (vs : List Value) (hI : IntsAre vs ns) (hlen : (ns.length : Int) ≤ ((63 : Nat) : Int)) (ax : Addr) (k : Int) (hk : k = 0 ∨ k = 1) (tk : Tok) (news : Led) : SpecL w mean mg mb 1 166 [.ref ax, .int k tk] news (PoolR news) ax vs.toArray := by
  rcases hk with rfl | rfl
  · exact pool_spec0 w mean mg mb ns vs hI (by omega) ax tk news
  · exact pool_spec1 w mean mg mb ns vs hI (by omega) ax tk news
theorem news_two {h₀ h : Heap} {L : Addr} {a b c : Addr × Obj} {r : Led} (N : News h₀ L h (a :: b :: c :: r)) : News h₀ L h [a, b] := fun p hp => N p (by
  simp only [List.mem_cons, List.not_mem_nil, or_false] at hp ⊢
  rcases hp with h | h <;> simp [h])
theorem len_cases {vs : List Value} {ns : List Int} (_h : IntsAre vs ns) : ns.length = 0 ∨ ns.length = 1 ∨ 2 ≤ ns.length := by omega
local macro_rules | `(tactic| k_qdec) => `(tactic| decide +kernel)
theorem law_holds : PySem.Challenge.rw_sy0045_01.Holds := by
  refine hd ?_
  k_go0
  try (rename Ground _ _ _ _ _ _ _ _ _ => x9; clear x9)
  try (rename LooseAre _ _ _ => x9; clear x9)
  try (rename Glob _ _ _ _ _ _ => x9; clear x9)
  try (rename Tables _ _ _ _ => x9; clear x9)
  try (rename TopE _ _ _ _ => x9; clear x9)
  try (rename TopW _ _ _ => x9; clear x9)
  try (rename BMod _ _ _ _ _ => x9; clear x9)
  try (rename Heap.CodeRec _ _ _ => x9; clear x9)
  try (rename Dflts _ _ _ => x9; clear x9)
  try (rename Flt.MathXP _ _ _ => x9; clear x9)
  all_goals (try k_fold)
  k_with_none
  k_with "binaryOp Mod int int" => (k_dflt (k_extra "my mod"))
  k_with "binaryOp Pow int int" => (k_dflt (k_extra "my pow"))
  k_with "exec While Compare cons nil" => (k_dflt (k_extra "my while"))
  k_with "call ref" => (k_dflt (k_extra "my call"))
  k_with "eval Call Name" => ((k_here; (fail_if_success (with_reducible show wpAny _ _ (eval (PySem.Expr.Call (PySem.Expr.Name (PySem.Str.ofString "abs") _) _ _ _) _) _ _ _)); (fail_if_success (with_reducible show wpAny _ _ (eval (PySem.Expr.Call (PySem.Expr.Name (PySem.Str.ofString "len") _) _ _ _) _) _ _ _)); (fail_if_success (with_reducible show wpAny _ _ (eval (PySem.Expr.Call (PySem.Expr.Name (PySem.Str.ofString "range") _) _ _ _) _) _ _ _)); (fail_if_success (with_reducible show wpAny _ _ (eval (PySem.Expr.Call (PySem.Expr.Name (PySem.Str.ofString "max") _) _ _ _) _) _ _ _)); (fail_if_success (with_reducible show wpAny _ _ (eval (PySem.Expr.Call (PySem.Expr.Name (PySem.Str.ofString "min") _) _ _ _) _) _ _ _)); (fail_if_success (with_reducible show wpAny _ _ (eval (PySem.Expr.Call (PySem.Expr.Name (PySem.Str.ofString "int") _) _ _ _) _) _ _ _)); (fail_if_success (with_reducible show wpAny _ _ (eval (PySem.Expr.Call (PySem.Expr.Name (PySem.Str.ofString "str") _) _ _ _) _) _ _ _)); (with_reducible show wpAny _ _ (eval (PySem.Expr.Call (PySem.Expr.Name _ _) _ _ _) (envOf _ _ _ _ _)) _ _ _); refine Call_ ?_))
  k_with "execs cons" => (k_dflt (k_extra "my execs"))
  k_with "subscriptTail Name Constant ref int" => ((k_here; k_dflt (refine' item_tupleT ?t ?a ?b ?c ?d ?_; (case t => (refine' News.isTup ?tn ?tm; (case tn => k_asm); (case tm => k_mem))); (case a => decide); (case b => decide); (case c => rfl); (case d => rfl); k_whole)))
  k_with "binaryOp FloorDiv int int" => (first | k_dflt (k_extra "my div") | (with_reducible refine' floordiv_int ?xa ?_ (Or.inl (noPy ?xb ?xc)); (case xa => first | assumption | omega); (case xb => bits_by_make); (case xc => decide)))
  k_with "compareOp NotEq ref ref" => (k_dflt (refine' tup_ne ?xN ?xa ?xb ?xu ?xe ?_; (case xN => k_asm); (case xa => k_mem); (case xb => k_mem); (case xu => ktr_units); (case xe => first | with_reducible rfl | k_extra "my eq"); (((rename News _ _ _ _ => N8); (have N7 := news_drop2 N8); clear N8))))
  k_with "compareOp Eq ref ref" => (k_dflt (refine' tup_eq ?xN ?xa ?xb ?xu ?xe ?_; (case xN => k_asm); (case xa => k_mem); (case xb => k_mem); (case xu => ktr_units); (case xe => first | with_reducible rfl | k_extra "my eq"); (((rename News _ _ _ _ => N8); (have N7 := news_drop2 N8); clear N8))))
  k_with "compareOp Eq ref ref" => (k_dflt (refine' tup_eqK ?xF ?xX ?xN ?xa ?xb ?xu ?xe ?_; (case xF => k_asm); (case xX => k_asm); (case xN => k_asm); (case xa => k_is); (case xb => k_mem); (case xu => ktr_units); (case xe => first | with_reducible rfl | k_extra "my eq")))
  k_with "compareOp NotEq ref ref" => (k_dflt (refine' tup_neK ?xF ?xX ?xN ?xa ?xb ?xu ?xe ?_; (case xF => k_asm); (case xX => k_asm); (case xN => k_asm); (case xa => k_is); (case xb => k_mem); (case xu => ktr_units); (case xe => first | with_reducible rfl | k_extra "my eq")))
  k_with "subscriptTail Name Constant ref int" => ((k_here; k_dflt (refine' lst_item (vs := [_, _]) ?t ?a ?b ?c ?d ?_ ?e; (case t => k_asm); (case a => k_mem); (case b => decide); (case c => decide); (case d => exact rfl); (case e => with_unfolding_all rfl); k_whole)))
  k_with "setItem ref int" => ((k_here; k_dflt (first | ((with_reducible show wpAny _ _ (setItem (Value.ref _) (Value.int 0 _) _) _ _ _); refine' src_set0 ?t ?a ?b ?_; (case t => k_asm); (case a => k_asm); (case b => assumption); k_whole) | ((with_reducible show wpAny _ _ (setItem (Value.ref _) (Value.int 1 _) _) _ _ _); refine' src_set1 ?t ?a ?b ?_; (case t => k_asm); (case a => k_asm); (case b => assumption); k_whole)); intro h' F' N'; (try k_sweep)))
  k_with "exec While BoolOp" => (k_dflt (k_extra "my while"))
  k_with "subscriptTail Name Constant ref int" => ((k_here; with_reducible first | (refine' tup_it0 ?t ?a ?_ ?e; (case t => k_asm); (case a => walk_at "x mem"); (case e => with_unfolding_all rfl)) | (refine' tup_it1 ?t ?a ?_ ?e; (case t => k_asm); (case a => walk_at "x mem"); (case e => with_unfolding_all rfl)) | (refine' lst_it0 ?t ?a ?_ ?e; (case t => k_asm); (case a => walk_at "x mem"); (case e => with_unfolding_all rfl)) | (refine' lst_it1 ?t ?a ?_ ?e; (case t => k_asm); (case a => walk_at "x mem"); (case e => with_unfolding_all rfl))))
  k_with "compareOp NotEq ref ref" => (k_dflt (refine' lst2_ne ?xN ?xa ?xb ?h1 ?h2 ?h3 ?h4 ?xu ?_; (case xN => k_asm); (case xa => walk_at "x mem"); (case xb => walk_at "x mem"); (case h1 => walk_at "x mem"); (case h2 => walk_at "x mem"); (case h3 => walk_at "x mem"); (case h4 => walk_at "x mem"); (case xu => ktr_units); (((rename News _ _ _ _ => N8); (have N7 := news_drop3 N8); clear N8))))
  k_with "call type:str cons nil" => (k_dflt (k_extra "my str"))
  k_with "call builtin:len cons nil" => (k_dflt (k_extra "my len"))
  k_with "compareOp NotEq str str" => (with_reducible (refine ne_same ?_))
  k_with "exec For Name Name cons nil" => ((k_here; (rename Fr _ _ _ _ => lF'); (with_unfolding_all refine' For_invVF lF' ?k1 ?k2 ?_; (case k1 => exact rfl); (case k2 => exact rfl); k_whole)))
  k_with "exec Assign cons ListComp" => ((k_here; (with_reducible show wpAny _ _ (exec (Stmt.Assign _ (PySem.Expr.ListComp _ [⟨PySem.Expr.Name _ _, _, [], _⟩] _ _) _) _) _ _ _); k_dflt (refine LCg.Assign_ListComp_U (F₀ := by k_asm) (by rfl) (by with_unfolding_all rfl) (by rfl) (by decide) (by rfl) (by decide) (by rfl) (by rfl) (by rfl) ?_); k_dflt lcg_toSrc))
  k_with "CompSrc" => ((k_here; k_dflt (refine LCg.CompSrc.range (by rfl) (by k_asm) (by k_asm) (by assumption) (by first | decide | rfl) (by first | rfl | decide) (by first | size_fits | exact Nat.le_of_ble_eq_true rfl) ?_; intro g'; lcg_lit)))
  k_with "call type:int cons nil" => (k_dflt (k_extra "my int"))
  k_with "call builtin:str.join" => (k_dflt (k_extra "my join"))
  k_with "binaryOp Mult str int" => (k_dflt (k_extra "my mul"))
  k_with "binaryOp Add str str" => (k_dflt (k_extra "my add"))
  k_with "compareOp Eq ref ref" => (k_dflt (first | (refine' tup_eq ?xN ?xa ?xb ?xu ?xe ?_; (case xN => k_asm); (case xa => walk_at "x mem"); (case xb => walk_at "x mem"); (case xu => ktr_units); (case xe => k_extra "my eq")) | (refine' tup_eqK ?xF ?xX ?xN ?xa ?xb ?xu ?xe ?_; (case xF => k_asm); (case xX => k_asm); (case xN => k_asm); (case xa => assumption); (case xb => walk_at "x mem"); (case xu => ktr_units); (case xe => k_extra "my eq"))))
  k_with "compareOp NotEq ref ref" => (k_dflt (k_extra "my ne"))
  k_with "call builtin:min cons nil" => (k_dflt (k_extra "my min"))
  k_with "call builtin:max cons nil" => (k_dflt (k_extra "my max"))
  k_with "exec For Name Call cons nil" => ((k_here; (rename Fr _ _ _ _ => lF'); (with_unfolding_all refine' For_invVF lF' ?k1 ?k2 ?_; (case k1 => exact rfl); (case k2 => exact rfl); k_whole)))
  k_with "pyIter ref" => (((with_reducible show wpAny _ _ (pyIter (Value.ref _)) (fun it s₂ => LoopAtV _ _ _ _ _ _ _ _ _ it s₂) _ _); k_rangeUnr))
  k_with "my call" => first
    | ((with_reducible show wpAny _ _ (call (Value.ref 159) _) _ _ _); ((rename News _ _ _ _ => N8); (refine' Spec.useInt (most_spec _ _ _ _ _) ?k1 ?k2 ?k3 N8 ?k5 ?kK ?kd ?ku ?_; (case k1 => k_asm); (case k2 => k_asm); (case k3 => k_asm); (case k5 => k_asm); (case kK => first | exact rfl | assumption); (case kd => ktr_room); (case ku => ktr_units); intro u9 h9 tk9 F9 N9; (try dsimp only); (try k_sweep); (try k_unmd); (try k_fold))))
    | ((with_reducible show wpAny _ _ (call (Value.ref 39) [_]) _ _ _); first | ((rename News _ _ _ _ => N8); (refine' Spec.useTup (num1_as _ _ _ _ (p := MM - 1) (q := 1) (by decide +kernel) _ _) ?k1 ?k2 ?k3 N8 ?k5 ?kK ?kd ?ku ?_; (case k1 => k_asm); (case k2 => k_asm); (case k3 => k_asm); (case k5 => k_asm); (case kK => first | exact rfl | assumption); (case kd => ktr_room); (case ku => ktr_units); intro q9 t9 u9 h9 tk9 F9 N9 l9; (try dsimp only [AllLt] at l9); (try dsimp only); (try k_sweep); (try k_unmd); (try k_fold))) | ((rename News _ _ _ _ => N8); (refine' Spec.useTup (num1_as _ _ _ _ (p := 1) (q := 0) (by decide +kernel) _ _) ?k1 ?k2 ?k3 N8 ?k5 ?kK ?kd ?ku ?_; (case k1 => k_asm); (case k2 => k_asm); (case k3 => k_asm); (case k5 => k_asm); (case kK => first | exact rfl | assumption); (case kd => ktr_room); (case ku => ktr_units); intro q9 t9 u9 h9 tk9 F9 N9 l9; (try dsimp only [AllLt] at l9); (try dsimp only); (try k_sweep); (try k_unmd); (try k_fold))))
    | ((with_reducible show wpAny _ _ (call (Value.ref 39) [_, _]) _ _ _); first | ((rename News _ _ _ _ => N8); (refine' Spec.useTup (num_as _ _ _ _ (p := -1) (q := 0) (by decide +kernel) (by decide +kernel) (by decide +kernel) (by decide +kernel) _ _ _) ?k1 ?k2 ?k3 N8 ?k5 ?kK ?kd ?ku ?_; (case k1 => k_asm); (case k2 => k_asm); (case k3 => k_asm); (case k5 => k_asm); (case kK => first | exact rfl | assumption); (case kd => ktr_room); (case ku => ktr_units); intro q9 t9 u9 h9 tk9 F9 N9 l9; (try dsimp only [AllLt] at l9); (try dsimp only); (try k_sweep); (try k_unmd); (try k_fold))) | ((rename News _ _ _ _ => N8); (refine' Spec.useTup (num_as _ _ _ _ (p := 1) (q := MM) (by decide +kernel) (by decide +kernel) (by decide +kernel) (by decide +kernel) _ _ _) ?k1 ?k2 ?k3 N8 ?k5 ?kK ?kd ?ku ?_; (case k1 => k_asm); (case k2 => k_asm); (case k3 => k_asm); (case k5 => k_asm); (case kK => first | exact rfl | assumption); (case kd => ktr_room); (case ku => ktr_units); intro q9 t9 u9 h9 tk9 F9 N9 l9; (try dsimp only [AllLt] at l9); (try dsimp only); (try k_sweep); (try k_unmd); (try k_fold))) | ((rename News _ _ _ _ => N8); (refine' Spec.useTup (num_as _ _ _ _ (p := 0) (q := 1) (by decide +kernel) (by decide +kernel) (by decide +kernel) (by decide +kernel) _ _ _) ?k1 ?k2 ?k3 N8 ?k5 ?kK ?kd ?ku ?_; (case k1 => k_asm); (case k2 => k_asm); (case k3 => k_asm); (case k5 => k_asm); (case kK => first | exact rfl | assumption); (case kd => ktr_room); (case ku => ktr_units); intro q9 t9 u9 h9 tk9 F9 N9 l9; (try dsimp only [AllLt] at l9); (try dsimp only); (try k_sweep); (try k_unmd); (try k_fold))))
    | ((with_reducible show wpAny _ _ (call (Value.ref 137) [Value.str (_ ++ _) _]) _ _ _); ((rename News _ _ _ _ => N8); refine' Spec.use (read_tens _ _ _ _ _ _) ?k1 ?k2 ?k3 N8 ?k5 ?kK ?kd ?ku ?_; (case k1 => k_asm); (case k2 => k_asm); (case k3 => k_asm); (case k5 => k_asm); (case kK => first | exact rfl | assumption); (case kd => ktr_room); (case ku => ktr_units); intro r9 n9 h9 tk9 F9 N9 hp9; (rcases hp9 with ⟨q9, t9, u9, hr9, hn9⟩ | ⟨k9, t9, u9, hr9, hk9, hn9⟩) <;> (subst hr9; subst hn9; (try dsimp only); (try k_sweep); (try k_unmd); (try k_fold))))
    | ((with_reducible show wpAny _ _ (call (Value.ref 137) [Value.str (Txt.mul _ _) _]) _ _ _); ((rename News _ _ _ _ => N8); refine' Spec.use (read_nines _ _ _ _ _ _) ?k1 ?k2 ?k3 N8 ?k5 ?kK ?kd ?ku ?_; (case k1 => k_asm); (case k2 => k_asm); (case k3 => k_asm); (case k5 => k_asm); (case kK => first | exact rfl | assumption); (case kd => ktr_room); (case ku => ktr_units); intro r9 n9 h9 tk9 F9 N9 hp9; (rcases hp9 with ⟨q9, t9, u9, hr9, hn9⟩ | ⟨k9, t9, u9, hr9, hk9, hn9⟩) <;> (subst hr9; subst hn9; (try dsimp only); (try k_sweep); (try k_unmd); (try k_fold))))
    | ((with_reducible show wpAny _ _ (call (Value.ref 88) _) _ _ _); ((rename News _ _ _ _ => N8); (refine' Spec.useTup (mod_as _ _ _ _ (x := MM - 1) (y := 1) (x' := 1) (y' := MM) (p := 0) (q := 1) (by decide +kernel) _ _ _ _ _ _ _ (by k_mem) (by k_mem) (by decide) (by decide +kernel) (by decide) (by decide +kernel) (by decide +kernel) (by decide +kernel) (by decide +kernel)) ?k1 ?k2 ?k3 N8 ?k5 ?kK ?kd ?ku ?_; (case k1 => k_asm); (case k2 => k_asm); (case k3 => k_asm); (case k5 => k_asm); (case kK => first | exact rfl | assumption); (case kd => ktr_room); (case ku => ktr_units); intro q9 t9 u9 h9 tk9 F9 N9 l9; (try dsimp only [AllLt] at l9); (try dsimp only); (try k_sweep); (try k_unmd); (try k_fold))))
    | ((with_reducible show wpAny _ _ (call (Value.ref 74) _) _ _ _); ((rename News _ _ _ _ => N8); (refine' Spec.useTup (times_as _ _ _ _ (x := TT) (y := 1) (x' := TT) (y' := 1) (p := 1) (q := 0) (by decide +kernel) _ _ _ _ _ _ _ (by k_mem) (by k_mem) (by decide) (by decide) (by decide +kernel) (by decide +kernel) (by decide +kernel) (by decide +kernel)) ?k1 ?k2 ?k3 N8 ?k5 ?kK ?kd ?ku ?_; (case k1 => k_asm); (case k2 => k_asm); (case k3 => k_asm); (case k5 => k_asm); (case kK => first | exact rfl | assumption); (case kd => ktr_room); (case ku => ktr_units); intro q9 t9 u9 h9 tk9 F9 N9 l9; (try dsimp only [AllLt] at l9); (try dsimp only); (try k_sweep); (try k_unmd); (try k_fold))))
    | ((with_reducible show wpAny _ _ (call (Value.ref 53) _) _ _ _); ((rename News _ _ _ _ => N8); (refine' Spec.useTup (negated_spec _ _ _ _ _ _ _ _ _ _ (by walk_at "x mem")) ?k1 ?k2 ?k3 N8 ?k5 ?kK ?kd ?ku ?_; (case k1 => k_asm); (case k2 => k_asm); (case k3 => k_asm); (case k5 => k_asm); (case kK => first | exact rfl | assumption); (case kd => ktr_room); (case ku => ktr_units); intro q9 t9 u9 h9 tk9 F9 N9 l9; (try dsimp only [AllLt] at l9); (try dsimp only); (try k_sweep); (try k_unmd); (try k_fold))))
  k_with "my pow" => (refine pow_as TT_pow (by decide) (by decide) (by decide) ?_)
  k_with "my mul" => (refine SB.mul (mulOk_of 1 1000 (by decide +kernel) (by decide) (by decide) (by decide) (by decide)) ?_; intro t9 k9; try dsimp only)
  k_with "my add" => (refine add_len dig_1.1 dig_zeros.1 (by decide) ?_; intro t9 k9 hz9; try dsimp only)
  k_with "my ne" => first
    | (refine' tup_ne ?xN ?xa ?xb ?xu ?xe ?_; (case xN => k_asm); (case xa => walk_at "x mem"); (case xb => walk_at "x mem"); (case xu => ktr_units); (case xe => first | with_reducible rfl | rfl))
    | (refine' tup_neK ?xF ?xX ?xN ?xa ?xb ?xu ?xe ?_; (case xF => k_asm); (case xX => k_asm); (case xN => k_asm); (case xa => assumption); (case xb => walk_at "x mem"); (case xu => ktr_units); (case xe => first | with_reducible rfl | rfl))
    | (refine' lst3_ne ?xN ?xa ?xb ?h1 ?h2 ?h3 ?h4 ?h5 ?h6 ?xu ?_; (case xN => k_asm); (case xa => k_mem); (case xb => k_mem); (case h1 => walk_at "x mem"); (case h2 => walk_at "x mem"); (case h3 => walk_at "x mem"); (case h4 => k_mem); (case h5 => k_mem); (case h6 => k_mem); (case xu => ktr_units))
  (with_reducible refine wpAny_execs_cons ?_); try dsimp only
  (rename Fr _ _ _ _ => F5); (rename News _ _ _ _ => N5)
  refine cut_next F5 N5 ?w ?c
  case w =>
    intro q1 hq1
    (repeat' (first | (k_unfold; (try dsimp only)) | (k_end; wrow_close) | walk1 | (dsimp only; walk1) | (leave1; walk_say "STEP leave1"; try dsimp only) | (k_unmd; k_unfold; (try dsimp only)) | fail "no step"))
    all_goals (refine hq1 _ _ ?f ?n; (case f => k_asm); (case n => exact news_of (by k_asm) (by walk_at "x sublist")))
  case c =>
    clear F5 N5
    intro h5 tk5 F5 N5
    dsimp only
    (with_reducible refine wpAny_execs_cons ?_); try dsimp only
    refine cut_next F5 N5 ?w ?c
    case w =>
      intro q1 hq1
      (repeat' (first | (k_unfold; (try dsimp only)) | (k_end; wrow_close) | walk1 | (dsimp only; walk1) | (leave1; walk_say "STEP leave1"; try dsimp only) | (k_unmd; k_unfold; (try dsimp only)) | fail "no step"))
      all_goals (refine hq1 _ _ ?f ?n; (case f => k_asm); (case n => exact news_of (by k_asm) (by walk_at "x sublist")))
    case c =>
      clear F5 N5
      intro h5 tk5 F5 N5
      dsimp only
      (with_reducible refine wpAny_execs_cons ?_); try dsimp only
      refine cut_next F5 N5 ?w ?c
      case w =>
        intro q1 hq1
        (repeat' (first | (k_unfold; (try dsimp only)) | (k_end; wrow_close) | walk1 | (dsimp only; walk1) | (leave1; walk_say "STEP leave1"; try dsimp only) | (k_unmd; k_unfold; (try dsimp only)) | fail "no step"))
        all_goals (refine hq1 _ _ ?f ?n; (case f => k_asm); (case n => exact news_of (by k_asm) (by walk_at "x sublist")))
      case c =>
        clear F5 N5
        intro h5 tk5 F5 N5
        dsimp only
        (with_reducible refine wpAny_execs_cons ?_); try dsimp only
        refine cut_next F5 N5 ?w ?c
        case w =>
          intro q1 hq1
          (repeat' (first | (k_unfold; (try dsimp only)) | (k_end; wrow_close) | walk1 | (dsimp only; walk1) | (leave1; walk_say "STEP leave1"; try dsimp only) | (k_unmd; k_unfold; (try dsimp only)) | fail "no step"))
          all_goals (refine hq1 _ _ ?f ?n; (case f => k_asm); (case n => exact news_of (by k_asm) (by walk_at "x sublist")))
        case c =>
          clear F5 N5
          intro h5 tk5 F5 N5
          dsimp only
          rename IntsAre _ _ => hI9
          rename (¬ (_ : Int) < _) => hc9
          have hlen9 := Int.not_lt.mp hc9
          k_with "my call" => first
            | ((with_reducible show wpAny _ _ (call (Value.ref 166) _) _ _ _); ((rename News _ _ _ _ => N8); refine' SpecL.use (pool_k _ _ _ _ _ _ hI9 hlen9 _ _ (by omega) _ _) ?kL ?k1 ?k2 ?k3 N8 ?k5 ?kK ?kd ?ku ?_; (case kL => assumption); (case k1 => k_asm); (case k2 => k_asm); (case k3 => k_asm); (case k5 => k_asm); (case kK => first | exact rfl | assumption); (case kd => ktr_room); (case ku => ktr_units); intro r9 n9 h9 tk9 F9 N9 hp9; (obtain ⟨q9, b9, m9, t8, u8, k8, hr9, hb9, hm9, hm8, hn9, l9⟩ := hp9; subst hr9; subst hn9); (try dsimp only); (try k_lt l9); (try k_sweep); (try k_unmd); (try k_fold)))
            | ((with_reducible show wpAny _ _ (call (Value.ref 220) _) _ _ _); (rename News _ _ _ _ => N5); (have N4 := news_two N5); clear N5; ((rename News _ _ _ _ => N8); (refine' Spec.useSrc (numbers_spec _ _ _ _ _ _ _ _ _ _ _ _ _ (by first | with_reducible assumption | exact And.left (by with_reducible assumption)) (by with_reducible assumption) (by with_reducible assumption) (by with_reducible assumption)) ?k1 ?k2 ?k3 N8 ?k5 ?kK ?kd ?ku ?_; (case k1 => k_asm); (case k2 => k_asm); (case k3 => k_asm); (case k5 => k_asm); (case kK => first | exact rfl | assumption); (case kd => ktr_room); (case ku => ktr_units); intro b9 m9 t8 u8 k8 h9 tk9 F9 N9 hb9 hm9 hm8; (try dsimp only); (try k_sweep); (try k_unmd); (try k_fold))))
            | ((with_reducible show wpAny _ _ (call (Value.ref 220) _) _ _ _); ((rename News _ _ _ _ => N8); (refine' Spec.useSrc (numbers_spec _ _ _ _ _ _ _ _ _ _ _ _ _ (by first | with_reducible assumption | exact And.left (by with_reducible assumption)) (by with_reducible assumption) (by with_reducible assumption) (by with_reducible assumption)) ?k1 ?k2 ?k3 N8 ?k5 ?kK ?kd ?ku ?_; (case k1 => k_asm); (case k2 => k_asm); (case k3 => k_asm); (case k5 => k_asm); (case kK => first | exact rfl | assumption); (case kd => ktr_room); (case ku => ktr_units); intro b9 m9 t8 u8 k8 h9 tk9 F9 N9 hb9 hm9 hm8; (try dsimp only); (try k_sweep); (try k_unmd); (try k_fold))))
            | ((with_reducible show wpAny _ _ (call (Value.ref 225) _) _ _ _); ((rename News _ _ _ _ => N8); (refine' Spec.useSrc (text_spec _ _ _ _ _ _ _ _ _ _ _ _ (by first | with_reducible assumption | exact And.left (by with_reducible assumption)) (by with_reducible assumption) (by with_reducible assumption) (by with_reducible assumption)) ?k1 ?k2 ?k3 N8 ?k5 ?kK ?kd ?ku ?_; (case k1 => k_asm); (case k2 => k_asm); (case k3 => k_asm); (case k5 => k_asm); (case kK => first | exact rfl | assumption); (case kd => ktr_room); (case ku => ktr_units); intro b9 m9 t8 u8 k8 h9 tk9 F9 N9 hb9 hm9 hm8; (try dsimp only); (try k_sweep); (try k_unmd); (try k_fold))))
          k_with "my len" => first
            | (refine' len_script 0 ?xe ?xl hI9 ?xF ?xc ?_; (case xe => omega); (case xl => with_reducible assumption); (case xF => k_asm); (case xc => omega); try dsimp only)
            | (refine' len_script 1 ?xe ?xl hI9 ?xF ?xc ?_; (case xe => omega); (case xl => with_reducible assumption); (case xF => k_asm); (case xc => omega); try dsimp only)
            | (refine' len_script _ rfl ?xl hI9 ?xF ?xc ?_; (case xl => with_reducible assumption); (case xF => k_asm); (case xc => omega); try dsimp only)
          k_with "my min" => first
            | (refine' min_is 0 ?xe ?xh ?xF ?xN ?_; (case xe => split <;> omega); (case xh => rfl); (case xF => k_asm); (case xN => k_asm); intro h' tk' v' F' N'; try k_sweep)
            | (refine' min_is 1 ?xe ?xh ?xF ?xN ?_; (case xe => split <;> omega); (case xh => rfl); (case xF => k_asm); (case xN => k_asm); intro h' tk' v' F' N'; try k_sweep)
            | (refine' min_is 2 ?xe ?xh ?xF ?xN ?_; (case xe => split <;> omega); (case xh => rfl); (case xF => k_asm); (case xN => k_asm); intro h' tk' v' F' N'; try k_sweep)
          k_with "my max" => first
            | (refine' max_is 1 ?xe ?xh ?xF ?xN ?_; (case xe => decide); (case xh => rfl); (case xF => k_asm); (case xN => k_asm); intro h' tk' v' F' N'; try k_sweep)
            | (refine' max_is 2 ?xe ?xh ?xF ?xN ?_; (case xe => decide); (case xh => rfl); (case xF => k_asm); (case xN => k_asm); intro h' tk' v' F' N'; try k_sweep)
          (with_reducible refine wpAny_execs_cons ?_); try dsimp only
          refine cut_any F5 ?w ?c
          case w =>
            intro q1 hq1
            try (rename Dflts _ _ _ => x9; clear x9)
            try (rename Glob _ _ _ _ _ => x9; clear x9)
            try (rename Glob _ _ _ _ => x9; clear x9)
            try (rename FHook.says _ _ _ => x9; clear x9)
            try (rename ReadsAll _ _ _ _ => x9; clear x9)
            try (rename Well _ _ _ _ => x9; clear x9)
            try (rename Reads _ _ _ _ => x9; clear x9)
            try (rename ReadsAllW _ _ _ _ _ _ => x9; clear x9)
            rcases len_cases hI9 with hn9 | hn9 | hn9
            all_goals (repeat' (first | (k_unfold; (try dsimp only)) | (k_end; wrow_close) | walk1 | (dsimp only; walk1) | (leave1; walk_say "STEP leave1"; try dsimp only) | (k_unmd; k_unfold; (try dsimp only)) | fail "no step"))
            all_goals (exact hq1 _ _ _ _ (by k_asm) (by k_asm))
          case c =>
            clear F5 N5
            intro h6 tk6 m6 n6 F6 N6
            dsimp only
            k_steps
            all_goals (try k_data)
            all_goals w_report

end Mine
theorem PySem.Challenge.cw_sy0045_01_holds : PySem.Challenge.rw_sy0045_01.Holds :=
  Mine.law_holds
