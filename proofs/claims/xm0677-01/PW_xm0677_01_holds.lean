import PyProof.Rows.All
import Wide.All
import OpenK.AllK
import Wide.FinOn
import PyProof.ExcBaseAll.Exception
import PyProof.InstStoreFacts
import KE.KFromBytes
import PyProof.StationsW
import PyProof.ExcArgs
import PyProof.Rows.CatchOwn
import Lean
import PySem.Challenge.RW_xm0677_01
open PySem PySem.W PyProof.Rows
set_option Elab.async false
set_option maxRecDepth 100000
set_option maxHeartbeats 0
namespace Mine
open_top hd for PySem.Challenge.rw_xm0677_01
end Mine
section
namespace Mine
noncomputable abbrev PR : Program := PySem.Challenge.rw_xm0677_01.row.prog
noncomputable abbrev LW : List Str := looseW hd.view_39 [Str.ofString "WIDTHS", Str.ofString "RowsError"]
end Mine
end
section
namespace Mine
section
variable {prog : Program} {w : World} {A : Around} {E : Value → Shared → Prop} {s : Shared} {env : Env} {test : PySem.Expr} {body orelse : List Stmt} {Q : Flow → Shared → Prop}
theorem whl_ind (I : Nat → Shared → Prop) {n : Nat} (start : I n s)
    (step : ∀ n s, I n s → (∀ s' n', n' < n → I n' s' → WhlRest prog w A E env test body orelse Q 0 s') → WhlRest prog w A E env test body orelse Q 1 s) :
    WhlRest prog w A E env test body orelse Q 0 s := by
  induction n using Nat.strongRecOn generalizing s with
  | _ n ih => exact step n s start fun s' n' hn h => ih n' hn h
end
theorem fr2 {g h : Heap} {L : Addr} {m : Str → Option Value} {x y : Str} {a b : Value} (F : Fr g L h m) (hx : m x = some a) (hy : m y = some b) :
    Fr g L h (fun z => if z = x then some a else if z = y then some b else m z) := by
  have e : m = (fun z => if z = x then some a else if z = y then some b else m z) := by
    funext z
    by_cases h1 : z = x
    · rw [if_pos h1, h1, hx]
    · rw [if_neg h1]
      by_cases h2 : z = y
      · rw [if_pos h2, h2, hy]
      · rw [if_neg h2]
  rw [← e]; exact F
def GcdInv (s0 : Shared) (g : Heap) (L : Addr) (news : List (Addr × Obj)) (x y : Int) (n : Nat) (s' : Shared) : Prop :=
  ∃ (l r : Int) (tl tr : Tok) (h : Heap) (tk : Nat) (M : Str → Option Value), s' = { s0 with heap := h, toks := tk } ∧ r.toNat = n ∧ 0 ≤ l ∧ 0 ≤ r ∧ Int.gcd l r = Int.gcd x y ∧
    Fr g L h (fun z => if z = Str.ofString "left" then some (.int l tl) else if z = Str.ofString "right" then some (.int r tr) else M z) ∧ News g L h news
theorem gcdInv_intro {s0 : Shared} {g : Heap} {L : Addr} {news news' : List (Addr × Obj)} {x y l r : Int} {tl tr : Tok} {h : Heap} {tk : Nat} {m : Str → Option Value}
    (F : Fr g L h m) (N : News g L h news') (sub : ∀ p ∈ news, p ∈ news') (h1 : m (Str.ofString "left") = some (.int l tl)) (h2 : m (Str.ofString "right") = some (.int r tr))
    (hl : 0 ≤ l) (hr : 0 ≤ r) (hg : Int.gcd l r = Int.gcd x y) : GcdInv s0 g L news x y r.toNat { s0 with heap := h, toks := tk } :=
  ⟨l, r, tl, tr, h, tk, m, rfl, rfl, hl, hr, hg, fr2 F h1 h2, cb_drop N sub⟩
end Mine
end
section
namespace Mine
theorem gcd_step {l r : Int} (hr : 0 < r) : Int.gcd r (l.fmod r) = Int.gcd l r := by
  rw [Int.fmod_eq_emod_of_nonneg l (by omega), Int.gcd_comm l r]
  have h := Int.gcd_add_mul_left_right r (l % r) (l / r)
  have e : l % r + r * (l / r) = l := Int.emod_add_mul_ediv l r
  rw [e] at h
  exact h.symm
theorem gcd_end {l r : Int} {n : Nat} (hl : 0 ≤ l) (hr : 0 ≤ r) (h : ¬ 0 < r) (hg : Int.gcd l r = n) : l = (n : Int) := by
  have h0 : r = 0 := by omega
  subst h0
  rw [Int.gcd_zero] at hg
  omega
theorem gcd_abs {l r : Int} : Int.gcd (if l < 0 then -l else l) (if r < 0 then -r else r) = Int.gcd l r := by
  split <;> split <;> simp
theorem gcd_ctr {w : World} {mean : ExcName → Option Value} {mg mb : Str → Option Value} {dp un : Nat} {gd : Option (List Code)} {cn : Str} {cs : Scope} {a : Addr} {ccd : Value} {cl : List (Str × Addr)} {outer : List Env} {A₀ : Around} {base h₀ : Heap} {L : Addr} {m : Str → Option Value} {s : Shared} {Q E : Value → Shared → Prop} {news : List (Addr × Obj)}
  (B : Below A₀ base outer h₀) (F : Fr h₀ L s.heap m) (X : (hd.heap_39 w.params).In h₀) (N : News h₀ L s.heap news) (T : Top hd.view_39 LW mean mg mb h₀) (hk : cs.kind = .function)
  (x y : Int) (t u : Tok) (hdp : dp + 1 < recursionLimit)
  (hret : ∀ t h' tk', Fr h₀ L h' m → News h₀ L h' news → Q (.int (Int.gcd x y) t) { s with heap := h', toks := tk' }) :
  wpAny (model PySem.Challenge.rw_xm0677_01.row.prog w) (ktrTop dp un gd cn cs L a ccd cl outer) (call (.ref 126) [.int x t, .int y u]) Q E s := by
  revert X; k_fill; intro X
  refine wpAny_call ?_
  k_dflt ktr_enter
  repeat' ((fail_if_success (first | (with_reducible show WhlRest _ _ _ _ _ _ _ _ _ _ _) | (with_reducible show wpAny _ _ (exec (Stmt.While _ _ _ _) _) _ _ _) | (with_reducible show WhlIf _ _ _))); first | (k_unfold; (try dsimp only)) | (k_end; wrow_close) | walk1 | (dsimp only; walk1) | (leave1; (try dsimp only)))
  refine whl_start 0 ?_
  rename Fr _ _ _ _ => F1
  rename News _ _ _ _ => N1
  refine whl_ind (GcdInv s _ _ news x y) (gcdInv_intro F1 N1 (fun p hp => List.mem_cons_of_mem _ hp) rfl rfl ?_ ?_ gcd_abs) ?_
  · split <;> omega
  · split <;> omega
  clear F1 N1
  rintro n s' ⟨l, r, tl, tr, h, tk, M, rfl, hn, hl, hr, hg, F2, N2⟩ IH
  refine whl_turn (k := 0) ?hE ?_
  · first | passes_own | with_unfolding_all passes_own
  repeat' ((fail_if_success (first | (with_reducible show WhlRest _ _ _ _ _ _ _ _ _ _ _) | (with_reducible show wpAny _ _ (exec (Stmt.While _ _ _ _) _) _ _ _) | (with_reducible show WhlIf _ _ _))); first | (k_unfold; (try dsimp only)) | (k_end; wrow_close) | walk1 | (dsimp only; walk1) | (leave1; (try dsimp only)))
  by_cases hr0 : 0 < r
  · refine WhlIf.yes (by simpa using hr0) ?_
    repeat' ((fail_if_success (first | (with_reducible show WhlRest _ _ _ _ _ _ _ _ _ _ _) | (with_reducible show wpAny _ _ (exec (Stmt.While _ _ _ _) _) _ _ _) | (with_reducible show WhlIf _ _ _))); first | (k_unfold; (try dsimp only)) | (k_end; wrow_close) | walk1 | (dsimp only; walk1) | (leave1; (try dsimp only)))
    rename Fr _ _ _ _ => F3
    rename News _ _ _ _ => N3
    refine IH _ _ ?_ (gcdInv_intro F3 N3 (fun p hp => List.mem_cons_of_mem _ hp) rfl rfl hr ?_ ((gcd_step hr0).trans hg))
    · have h1 := fmod_lo l hr0
      have h2 := fmod_hi l hr0
      omega
    · exact fmod_lo l hr0
  · refine WhlIf.no (by simpa using hr0) ?_
    repeat' ((fail_if_success (first | (with_reducible show WhlRest _ _ _ _ _ _ _ _ _ _ _) | (with_reducible show wpAny _ _ (exec (Stmt.While _ _ _ _) _) _ _ _) | (with_reducible show WhlIf _ _ _))); first | (k_unfold; (try dsimp only)) | (k_end; wrow_close) | walk1 | (dsimp only; walk1) | (leave1; (try dsimp only)))
    rw [gcd_end hl hr hr0 hg]
    exact hret _ _ _ (by k_asm) (by k_asm)
end Mine
end
section
namespace Mine
local macro_rules | `(tactic| walk_at "no such place 0") => `(tactic| skip)
local macro_rules | `(tactic| walk_at "no such place 1") => `(tactic| skip)
local macro_rules | `(tactic| walk_at "no such place 2") => `(tactic| skip)
local macro_rules | `(tactic| walk_at "no such place 3") => `(tactic| skip)
def Fit (n : Nat) (x : Int) : Prop := x.natAbs < 2 ^ n
abbrev tupO (a b : Int) (t u : Tok) (c : Nat) : Obj := { cls := .type "tuple", data := .seq #[.int a t, .int b u] c }
def lowC (x y : Int) : Int := if y < 0 then 0 - (Int.gcd x y : Int) else (Int.gcd x y : Int)
theorem gcd_pos' {x y : Int} (h : ¬ (x = 0 ∧ y = 0)) : 0 < (Int.gcd x y : Int) := by
  by_cases hx : x = 0
  · have hy : y ≠ 0 := fun e => h ⟨hx, e⟩
    have := Int.gcd_pos_of_ne_zero_right x hy
    omega
  · have := Int.gcd_pos_of_ne_zero_left y hx
    omega
theorem gcd_nopy {n : Nat} {a x y b : Int} (hn : n ≤ 9000) (hx : Fit n x) (hy : Fit n y) (h : ¬ (x = 0 ∧ y = 0)) (hb : b.natAbs = Int.gcd x y) : Builtin.divisionGoesByPylong a b = false := by
  refine PyProof.noPylong_of_log2 ?_
  rw [hb]
  have hp := gcd_pos' h
  have hlt : Int.gcd x y < 2 ^ n := by
    by_cases hx0 : x = 0
    · have hy0 : y ≠ 0 := fun e => h ⟨hx0, e⟩
      exact Nat.lt_of_le_of_lt (Int.gcd_le_natAbs_right x hy0) hy
    · exact Nat.lt_of_le_of_lt (Int.gcd_le_natAbs_left y hx0) hx
  have h2 : (Int.gcd x y).log2 < n := (Nat.log2_lt (by omega)).mpr hlt
  omega
local macro_rules | `(tactic| walk_at "call ref") => `(tactic| ((with_reducible show wpAny _ _ (call (Value.ref 126) _) _ _ _); k_dflt (refine' gcd_ctr ?k1 ?k2 ?k3 ?k4 ?k5 ?kK _ _ _ _ ?kd ?_; (case k1 => k_asm); (case k2 => k_asm); (case k3 => k_asm); (case k4 => k_asm); (case k5 => k_asm); (case kK => first | exact rfl | assumption); (case kd => ktr_room); intro t9 h9 tk9 F9 N9; (try dsimp only); (try k_fold))))
local macro_rules | `(tactic| walk_at "binaryOp FloorDiv int int") => `(tactic| (refine floordiv_int ?hb ?_ (Or.inl ?hp); (case hp => assumption); (case hb => omega)))
theorem low_ctr {w : World} {mean : ExcName → Option Value} {mg mb : Str → Option Value} {dp un : Nat} {gd : Option (List Code)} {cn : Str} {cs : Scope} {a : Addr} {ccd : Value} {cl : List (Str × Addr)} {outer : List Env} {A₀ : Around} {base h₀ : Heap} {L : Addr} {m : Str → Option Value} {s : Shared} {Q E : Value → Shared → Prop} {news : List (Addr × Obj)}
  (B : Below A₀ base outer h₀) (F : Fr h₀ L s.heap m) (X : (hd.heap_39 w.params).In h₀) (N : News h₀ L s.heap news) (T : Top hd.view_39 LW mean mg mb h₀) (hk : cs.kind = .function)
  (x y : Int) (t u : Tok) (hdp : dp + 2 < recursionLimit) (hfx : Fit 8000 x) (hfy : Fit 8000 y) (hbad : ¬ (x = 0 ∧ y = 0))
  (hret : ∀ D t u c h' tk', Fr h₀ L h' m → News h₀ L h' ((D, tupO (x.fdiv (lowC x y)) (y.fdiv (lowC x y)) t u c) :: news) → AllLt D news → Q (.ref D) { s with heap := h', toks := tk' }) :
  wpAny (model PySem.Challenge.rw_xm0677_01.row.prog w) (ktrTop dp un gd cn cs L a ccd cl outer) (call (.ref 133) [.int x t, .int y u]) Q E s := by
  have hgp := gcd_pos' hbad
  have hp1 : Builtin.divisionGoesByPylong x (Int.gcd x y : Int) = false := gcd_nopy (by decide) hfx hfy hbad (by omega)
  have hp2 : Builtin.divisionGoesByPylong y (Int.gcd x y : Int) = false := gcd_nopy (by decide) hfx hfy hbad (by omega)
  have hp3 : Builtin.divisionGoesByPylong x (0 - (Int.gcd x y : Int)) = false := gcd_nopy (by decide) hfx hfy hbad (by omega)
  have hp4 : Builtin.divisionGoesByPylong y (0 - (Int.gcd x y : Int)) = false := gcd_nopy (by decide) hfx hfy hbad (by omega)
  revert X; k_fill; intro X
  refine wpAny_call ?_
  k_dflt ktr_enter
  repeat' ((fail_if_success (first | (with_reducible show WhlRest _ _ _ _ _ _ _ _ _ _ _) | (with_reducible show wpAny _ _ (exec (Stmt.While _ _ _ _) _) _ _ _) | (with_reducible show WhlIf _ _ _))); first | (k_unfold; (try dsimp only)) | (k_end; wrow_close) | walk1 | (dsimp only; walk1) | (leave1; (try dsimp only)))
  all_goals first
    | (exfalso; omega)
    | ((have e : lowC x y = 0 - (Int.gcd x y : Int) := if_pos (by assumption)); rw [e] at hret; exact hret _ _ _ _ _ _ (by assumption) (by assumption) (allLt_of (by assumption)))
    | ((have e : lowC x y = (Int.gcd x y : Int) := if_neg (by assumption)); rw [e] at hret; exact hret _ _ _ _ _ _ (by assumption) (by assumption) (allLt_of (by assumption)))
end Mine
end
section
namespace Mine
def TupIn (h₀ : Heap) (news : List (Addr × Obj)) (p : Addr) (a b : Int) : Prop := (∃ t u c, (p, tupO a b t u c) ∈ news) ∨ (∃ t u, IsTup h₀ p #[.int a t, .int b u])
theorem TupIn.at {h₀ h : Heap} {L p : Addr} {m : Str → Option Value} {news : List (Addr × Obj)} {a b : Int} (H : TupIn h₀ news p a b) (F : Fr h₀ L h m) (N : News h₀ L h news) : ∃ t u, IsTup h p #[.int a t, .int b u] := by
  rcases H with ⟨t, u, c, hm⟩ | ⟨t, u, hi⟩
  · exact ⟨t, u, News.isTup N hm⟩
  · exact ⟨t, u, IsTup.keeps hi F.keep⟩
theorem TupIn.lift {h₀ g : Heap} {L p : Addr} {m : Str → Option Value} {news : List (Addr × Obj)} {a b : Int} (H : TupIn h₀ news p a b) (F : Fr h₀ L g m) : TupIn g news p a b := by
  rcases H with h | ⟨t, u, hi⟩
  · exact .inl h
  · exact .inr ⟨t, u, IsTup.keeps hi F.keep⟩
section
variable {prog : Program} {w : World} {A : Around} {E : Value → Shared → Prop} {s : Shared} {Q : Value → Shared → Prop} {h₀ : Heap} {L p : Addr} {m : Str → Option Value} {news : List (Addr × Obj)} {a b : Int} {value slice : PySem.Expr} {k : Tok}
theorem item_tup0 (H : TupIn h₀ news p a b) (F : Fr h₀ L s.heap m) (N : News h₀ L s.heap news) (h : ∀ t, Q (.int a t) s)
    (hs : subscripted slice false (.ref p) (.int 0 k) = operate [.ref p, .int 0 k] (getItem (.ref p) (.int 0 k)) := by with_unfolding_all rfl) :
    wpAny (model prog w) A (subscriptTail value slice (.ref p) (.int 0 k)) Q E s := by
  obtain ⟨t, u, hi⟩ := H.at F N
  exact item_tupleT (j := 0) hi (by decide) (by decide) rfl rfl (h t) hs
theorem item_tup1 (H : TupIn h₀ news p a b) (F : Fr h₀ L s.heap m) (N : News h₀ L s.heap news) (h : ∀ t, Q (.int b t) s)
    (hs : subscripted slice false (.ref p) (.int 1 k) = operate [.ref p, .int 1 k] (getItem (.ref p) (.int 1 k)) := by with_unfolding_all rfl) :
    wpAny (model prog w) A (subscriptTail value slice (.ref p) (.int 1 k)) Q E s := by
  obtain ⟨t, u, hi⟩ := H.at F N
  exact item_tupleT (j := 1) hi (by decide) (by decide) rfl rfl (h u) hs
end
theorem fit_bits {n : Nat} {x : Int} (h : Fit n x) : Builtin.Int.intBits x ≤ n := by
  unfold Builtin.Int.intBits
  split
  · exact Nat.zero_le _
  · rename_i hx
    have hx' : x ≠ 0 := by simpa using hx
    have : x.natAbs.log2 < n := (Nat.log2_lt (by omega)).mpr h
    omega
theorem fit_mulOk {x y : Int} (hx : Fit 4000 x) (hy : Fit 4000 y) : IntMulOk x y :=
  .of_bits (Nat.le_trans (fit_bits hx) (by decide)) (Nat.le_trans (fit_bits hy) (by decide))
theorem fit_mul {x y : Int} (hx : Fit 4000 x) (hy : Fit 4000 y) : Fit 8000 (x * y) := by
  unfold Fit at *
  rw [Int.natAbs_mul, show 8000 = 4000 + 4000 from rfl, Nat.pow_add]
  exact Nat.mul_lt_mul'' hx hy
theorem fit_up {m n : Nat} {x : Int} (h : m ≤ n) (hx : Fit m x) : Fit n x := Nat.lt_of_lt_of_le hx (Nat.pow_le_pow_right (by decide) h)
local macro_rules | `(tactic| walk_at "call ref") => `(tactic| ((with_reducible show wpAny _ _ (call (Value.ref 133) _) _ _ _); k_dflt (refine' low_ctr ?k1 ?k2 ?k3 ?k4 ?k5 ?kK _ _ _ _ ?kd ?p1 ?p2 ?p3 ?_; (case k1 => k_asm); (case k2 => k_asm); (case k3 => k_asm); (case k4 => k_asm); (case k5 => k_asm); (case kK => first | exact rfl | assumption); (case kd => ktr_room); (case p1 => assumption); (case p2 => assumption); (case p3 => assumption); intro D9 t9 u9 c9 h9 tk9 F9 N9 l9; (try dsimp only); (try k_fold))))
local macro_rules | `(tactic| walk_at "subscriptTail Name Constant ref int") => `(tactic| ((with_reducible show wpAny _ _ (subscriptTail _ _ (Value.ref _) (Value.int _ _)) _ _ _); first | (refine' item_tup0 ?H ?F ?N ?_ ?hs; (case H => assumption); (case F => assumption); (case N => assumption); (case hs => with_unfolding_all rfl); intro t9; (try dsimp only)) | (refine' item_tup1 ?H ?F ?N ?_ ?hs; (case H => assumption); (case F => assumption); (case N => assumption); (case hs => with_unfolding_all rfl); intro t9; (try dsimp only))))
theorem prod_ctr {w : World} {mean : ExcName → Option Value} {mg mb : Str → Option Value} {dp un : Nat} {gd : Option (List Code)} {cn : Str} {cs : Scope} {a : Addr} {ccd : Value} {cl : List (Str × Addr)} {outer : List Env} {A₀ : Around} {base h₀ : Heap} {L : Addr} {m : Str → Option Value} {s : Shared} {Q E : Value → Shared → Prop} {news : List (Addr × Obj)}
  (B : Below A₀ base outer h₀) (F : Fr h₀ L s.heap m) (X : (hd.heap_39 w.params).In h₀) (N : News h₀ L s.heap news) (T : Top hd.view_39 LW mean mg mb h₀) (hk : cs.kind = .function)
  (p q : Addr) {xa xb xc xd : Int} (H1 : TupIn h₀ news p xa xb) (H2 : TupIn h₀ news q xc xd) (hdp : dp + 3 < recursionLimit)
  (hfa : Fit 4000 xa) (hfb : Fit 4000 xb) (hfc : Fit 4000 xc) (hfd : Fit 4000 xd) (hbad : ¬ (xa * xc = 0 ∧ xb * xd = 0))
  (hret : ∀ D t u n h' tk', Fr h₀ L h' m → News h₀ L h' ((D, tupO ((xa * xc).fdiv (lowC (xa * xc) (xb * xd))) ((xb * xd).fdiv (lowC (xa * xc) (xb * xd))) t u n) :: news) → AllLt D news → Q (.ref D) { s with heap := h', toks := tk' }) :
  wpAny (model PySem.Challenge.rw_xm0677_01.row.prog w) (ktrTop dp un gd cn cs L a ccd cl outer) (call (.ref 154) [.ref p, .ref q]) Q E s := by
  have hm1 := fit_mulOk hfa hfc
  have hm2 := fit_mulOk hfb hfd
  have hf1 := fit_mul hfa hfc
  have hf2 := fit_mul hfb hfd
  revert X; k_fill; intro X
  refine wpAny_call ?_
  k_dflt ktr_enter
  rename Fr h₀ L _ m => FG
  replace H1 := H1.lift FG
  replace H2 := H2.lift FG
  repeat' ((fail_if_success (first | (with_reducible show WhlRest _ _ _ _ _ _ _ _ _ _ _) | (with_reducible show wpAny _ _ (exec (Stmt.While _ _ _ _) _) _ _ _) | (with_reducible show WhlIf _ _ _))); first | (k_unfold; (try dsimp only)) | (k_end; wrow_close) | walk1 | (dsimp only; walk1) | (leave1; (try dsimp only)))
  all_goals first
    | exact hret _ _ _ _ _ _ (by assumption) (by assumption) (by assumption)
theorem turn_ctr {w : World} {mean : ExcName → Option Value} {mg mb : Str → Option Value} {dp un : Nat} {gd : Option (List Code)} {cn : Str} {cs : Scope} {a : Addr} {ccd : Value} {cl : List (Str × Addr)} {outer : List Env} {A₀ : Around} {base h₀ : Heap} {L : Addr} {m : Str → Option Value} {s : Shared} {Q E : Value → Shared → Prop} {news : List (Addr × Obj)}
  (B : Below A₀ base outer h₀) (F : Fr h₀ L s.heap m) (X : (hd.heap_39 w.params).In h₀) (N : News h₀ L s.heap news) (T : Top hd.view_39 LW mean mg mb h₀) (hk : cs.kind = .function)
  (p : Addr) {xa xb : Int} (H1 : TupIn h₀ news p xa xb) (hdp : dp + 3 < recursionLimit)
  (hfa : Fit 8000 xa) (hfb : Fit 8000 xb) (hbad : ¬ (xb = 0 ∧ xa = 0))
  (hret : ∀ D t u n h' tk', Fr h₀ L h' m → News h₀ L h' ((D, tupO (xb.fdiv (lowC xb xa)) (xa.fdiv (lowC xb xa)) t u n) :: news) → AllLt D news → Q (.ref D) { s with heap := h', toks := tk' }) :
  wpAny (model PySem.Challenge.rw_xm0677_01.row.prog w) (ktrTop dp un gd cn cs L a ccd cl outer) (call (.ref 147) [.ref p]) Q E s := by
  revert X; k_fill; intro X
  refine wpAny_call ?_
  k_dflt ktr_enter
  rename Fr h₀ L _ m => FG
  replace H1 := H1.lift FG
  repeat' ((fail_if_success (first | (with_reducible show WhlRest _ _ _ _ _ _ _ _ _ _ _) | (with_reducible show wpAny _ _ (exec (Stmt.While _ _ _ _) _) _ _ _) | (with_reducible show WhlIf _ _ _))); first | (k_unfold; (try dsimp only)) | (k_end; wrow_close) | walk1 | (dsimp only; walk1) | (leave1; (try dsimp only)))
  all_goals first
    | exact hret _ _ _ _ _ _ (by assumption) (by assumption) (by assumption)
end Mine
end
section
namespace Mine
local macro_rules | `(tactic| walk_at "no such place 0") => `(tactic| skip)
local macro_rules | `(tactic| walk_at "no such place 1") => `(tactic| skip)
local macro_rules | `(tactic| walk_at "no such place 2") => `(tactic| skip)
local macro_rules | `(tactic| walk_at "no such place 3") => `(tactic| skip)
local macro_rules | `(tactic| k_room) => `(tactic| ktr_room)
def fitB (x : Int) : Bool := decide (x.natAbs < 2 ^ 4000)
theorem pow_cast (n : Nat) : ((2 ^ n : Nat) : Int) = (2 : Int) ^ n := by
  induction n with
  | zero => rfl
  | succ n ih => rw [Nat.pow_succ, Int.pow_succ, Int.natCast_mul, ih]; rfl
theorem fitB_hi {x : Int} (h : 1 - (2 : Int) ^ Int.toNat 4000 ≤ x) : fitB x = decide (x ≤ (2 : Int) ^ Int.toNat 4000 - 1) := by
  unfold fitB
  rw [show Int.toNat 4000 = 4000 from rfl] at *
  rw [← pow_cast] at *
  generalize (2 ^ 4000 : Nat) = P at *
  rw [decide_eq_decide]
  omega
theorem fitB_lo {x : Int} (h : ¬ 1 - (2 : Int) ^ Int.toNat 4000 ≤ x) : fitB x = decide (1 - (2 : Int) ^ Int.toNat 4000 ≤ x) := by
  rw [decide_eq_false h]
  unfold fitB
  rw [show Int.toNat 4000 = 4000 from rfl] at *
  rw [← pow_cast] at *
  generalize (2 ^ 4000 : Nat) = P at *
  rw [decide_eq_false_iff_not]
  omega
theorem fits_ctr {w : World} {mean : ExcName → Option Value} {mg mb : Str → Option Value} {dp un : Nat} {gd : Option (List Code)} {cn : Str} {cs : Scope} {a : Addr} {ccd : Value} {cl : List (Str × Addr)} {outer : List Env} {A₀ : Around} {base h₀ : Heap} {L : Addr} {m : Str → Option Value} {s : Shared} {Q E : Value → Shared → Prop} {news : List (Addr × Obj)}
  (B : Below A₀ base outer h₀) (F : Fr h₀ L s.heap m) (X : (hd.heap_39 w.params).In h₀) (N : News h₀ L s.heap news) (T : Top hd.view_39 LW mean mg mb h₀) (hk : cs.kind = .function)
  (x : Int) (t u : Tok) (hdp : dp + 2 < recursionLimit)
  (hret : ∀ h' tk', Fr h₀ L h' m → News h₀ L h' news → Q (.bool (fitB x)) { s with heap := h', toks := tk' }) :
  wpAny (model PySem.Challenge.rw_xm0677_01.row.prog w) (ktrTop dp un gd cn cs L a ccd cl outer) (call (.ref 43) [.str (Str.ofString "BigInt") t, .int x u]) Q E s := by
  revert X; k_fill; intro X
  refine wpAny_call ?_
  k_dflt ktr_enter
  repeat' ((fail_if_success (first | (with_reducible show WhlRest _ _ _ _ _ _ _ _ _ _ _) | (with_reducible show wpAny _ _ (exec (Stmt.While _ _ _ _) _) _ _ _) | (with_reducible show WhlIf _ _ _))); first | (k_unfold; (try dsimp only)) | (k_end; wrow_close) | walk1 | (dsimp only; walk1) | (leave1; (try dsimp only)))
  all_goals first
    | (rw [fitB_hi (by assumption)] at hret; exact hret _ _ (by assumption) (by assumption))
    | (rw [fitB_lo (by assumption)] at hret; exact hret _ _ (by assumption) (by assumption))
    | (exfalso; omega)
end Mine
end
section
namespace Mine
abbrev msgT : Str := Str.ofString "a ratio without room in its kind"
def msgB : Array UInt8 := "a ratio without room in its kind".toUTF8.data
theorem enc_eq (t u : Tok) : Builtin.«str.encode» ⟨[.str msgT t, .str (Str.ofString "utf-8") u], []⟩ = (do let v ← mkBytes msgB; ret v) := by
  kernel_rfl
end Mine
end
section
namespace Mine
abbrev excO (t : Addr) : Obj := { cls := .ref 81, data := .fields #[.ref t, .none, .none, .none, .bool false, .none] }
abbrev tupL (l : List Value) : Obj := { cls := .type "tuple", data := .seq l.toArray }
abbrev bm81 : List Value := [.ref 61, .type "Exception", .type "BaseException", .type "object"]
theorem cls81 {P : Params} {h : Heap} (X : (hd.heap_39 P).In h) : ∃ nm q N bs hdct sn sub ab col dd k0 k1 k2 k3 k5, h.get? 81 = some (excClassObj nm q 81 N bs bm81 hdct sn sub ab col dd k0 k1 k2 k3 k5 "Exception.__new__") := by
  exact ⟨_, _, _, _, _, _, _, _, _, _, _, _, _, _, _, X _ _ rfl⟩
section
variable {w : World} {A : Around} {R : Result → Shared → Prop} {h : Heap} {g : Array GenState} {d : Drawn} {t : Nat} {os : OsState} {prog : Program}
theorem exc_new81 {rest : List Value} (X : (hd.heap_39 w.params).In h)
    (hq : R (.ok (.ret (.ref (h.objs.size + 1)))) ⟨(h.push (tupL rest)).push (excO h.objs.size), g, d, t, os⟩) (hrest : rest.length ≤ sizeLine) :
    codeAny (model prog w) A (.call (.builtin "Exception.__new__") ⟨.ref 81 :: rest, []⟩) R ⟨h, g, d, t, os⟩ := by
  obtain ⟨nm, q, N, bs, hdct, sn, sub, ab, col, dd, k0, k1, k2, k3, k5, hC⟩ := cls81 X
  have F := F.excBase_Exception
  have hcB : (Value.ref 81 :: bm81).contains (.type "Exception") = true := by decide +kernel
  have hcA : (Value.ref 81 :: bm81).contains (.type "AttributeError") = false := by decide +kernel
  have hcN : (Value.ref 81 :: bm81).contains (.type "NameError") = false := by decide +kernel
  have hstar := F.noStar
  refine codeAny_call_builtin_code (Code.quiet_builtin _ F.quiet) ?_
  simp only [checkBuiltinCall, F.newKind, F.newSplit, F.newRow]
  repeat (first | refine wpAny_loadPart_at hC ?_ | (refine wpAny_isSubtype_exc hC ?_; rw [hcB]) | refine wpAny_staticBase_exc hC ?_ | refine wpAny_madeBy_exc hC ?_ | simp only [bne_self_eq_false, Bool.false_eq_true, if_false] | wp_step)
  refine codeAny_builtinAt F.entry ?_
  unfold Builtin.«BaseException.__new__»
  refine PySem.wpAt_bind ?_
  show PySem.wpAt _ _ _ (stack >>= _) _ _ _
  refine PySem.wpAt_bind (PySem.wpAt_stack fun p below => PySem.wpAt_of_wpAny ?_)
  have hends := F.ends
  wp_walk
  refine PySem.wpAt_of_wpAny ?_
  rw [F.owner]
  repeat (first | with_reducible refine wpAny_madeHere_exc F.canon hC ?_ | with_reducible refine wpAny_loadPart_at hC ?_ | (with_reducible refine wpAny_isSubtype_exc hC ?_; first | rw [hcB] | rw [hcA] | rw [hcN]) | wp_step)
  show R _ _
  rw [Heap.size_push]
  exact hq
end
end Mine
end
section
namespace Mine
section
variable {w : World} {A : Around} {R : Result → Shared → Prop} {h : Heap} {g : Array GenState} {d : Drawn} {t : Nat} {os : OsState} {prog : Program}
theorem exc_core81 {rest : List Value} (X : (hd.heap_39 w.params).In h) (hrest : rest.length ≤ sizeLine)
    (call : Looks (model prog w) h (specialOf (.ref 81) "__call__") (some (.builtin "type.__call__")))
    (typ : Looks (model prog w) h (isInstance (.ref 81) (.type "type")) true)
    (hi : Looks (model prog w) h (typeLookup (.ref 81) "__init__") (some (.ref 78)))
    (hb : ∀ self, Looks (model prog w) h (bindSpecial (.ref 78) self) (.ref 78, [self]))
    (hq : codeAny (model prog w) (A.under (.builtin "type.__call__" ⟨.ref 81 :: rest, []⟩)) (.call (.ref 78) ⟨.ref (h.objs.size + 1) :: rest, []⟩) (InitBack (h.objs.size + 1) R) ⟨(h.push (tupL rest)).push (excO h.objs.size), g, d, t, os⟩) :
    codeAny (model prog w) A (.call (.ref 81) ⟨rest, []⟩) R ⟨h, g, d, t, os⟩ := by
  obtain ⟨nm, q, N, bs, hdct, sn, sub, ab, col, dd, k0, k1, k2, k3, k5, hC⟩ := cls81 X
  have hm : Looks (model prog w) h (mroOf (.ref 81)) (Value.ref 81 :: bm81) := ((Looks.ld (part := none) hC).andThen .now).andThen .now
  have made : Looks (model prog w) h (Bind.madeBy (.ref 81)) (some "Exception.__new__") := fun A Q E s k q => by
    obtain ⟨hh, g, d, t, os⟩ := s
    exact wpAny_madeBy_exc (k _ _ hC) q
  have self : Looks (model prog w) h (isSubtype (.ref 81) (.ref 81)) true := fun A Q E s k q => by
    obtain ⟨hh, g, d, t, os⟩ := s
    exact wpAny_isSubtype_exc (k _ _ hC) q
  refine codeAny_of_tree ?_
  show wpAny _ _ (callAny (.ref 81) _) _ _ _
  refine nd_load hC ?_
  show wpAny _ _ (callAny.viaDunder (.ref 81) _) _ _ _
  unfold callAny.viaDunder
  refine wpAny_bind (call.at ?_)
  dsimp only
  rw [tc_bind]
  refine wpAny_bind (wpAny_pure (wpAny_bind (wpAny_pure ?_)))
  refine wpAny_pure (a := Fin.again (.call (.builtin "type.__call__") ⟨.ref 81 :: rest, []⟩)) (And.intro rfl ?_)
  refine codeAny_call_builtin_at (Code.quiet_builtin _ (by decide +kernel)) entry_typeCall (check_slot tc_kind tc_split typ (tc_args _ _ _) ?_)
  unfold Builtin.«type.__call__»
  repeat (first | simp only [List.isEmpty_cons, Bool.false_eq_true, if_false] | with_reducible refine wpAny_call ?_ | lk)
  refine exc_new81 X ?_ hrest
  have k : ∀ b o, h.get? b = some o → ((h.push (tupL rest)).push (excO h.objs.size)).get? b = some o := fun b o e => Heap.get?_push_of_some _ (Heap.get?_push_of_some _ e)
  have hx : ((h.push (tupL rest)).push (excO h.objs.size)).get? (h.objs.size + 1) = some (excO h.objs.size) := by heap_get
  have t1 : Looks (model prog w) ((h.push (tupL rest)).push (excO h.objs.size)) (typeOf (.ref (h.objs.size + 1))) (.ref 81) := (Looks.ld hx).andThen .now
  have s1 := self.keeps k
  have i1 := hi.keeps k
  have b1 := (hb (.ref (h.objs.size + 1))).keeps k
  unfold isInstance callSpecial? specialOf
  repeat (first | with_reducible refine wpAny_call ?_ | lk)
  refine codeAny_mono hq fun r s' z => ?_
  rcases r with e | (v | _ | _ | _) <;> first | exact z | exact z.elim | skip
  obtain ⟨rfl, z⟩ := z
  exact wpAny_pure (wpAny_pure z)
end
section
variable {w : World} {A : Around} {E Q : _} {prog : Program} {s : Shared} {h₀ : Heap} {L : Addr} {m : Str → Option Value} {news : List (Addr × Obj)}
theorem exc_make81 {rest : List Value} (F : Fr h₀ L s.heap m) (N : News h₀ L s.heap news) (X₀ : (hd.heap_39 w.params).In h₀) (hrest : rest.length ≤ 1000)
    (c1 : specialIn (hd.heap_39 w.params) (.ref 81) "__call__" = some (some (.builtin "type.__call__")))
    (c2 : instIn (hd.heap_39 w.params) (.ref 81) (.type "type") = some true)
    (c3 : findIn (hd.heap_39 w.params) (.ref 81) "__init__" = some (some (.ref 78)))
    (c4 : typeIn (hd.heap_39 w.params) (.ref 78) = some (.type "function"))
    (h : ∀ x t h', Fr h₀ L h' m → News h₀ L h' ((x, excO t) :: (t, tupL rest) :: news) → (∀ p ∈ news, p.1 < t) → t < x →
      codeAny (model prog w) (A.under (.builtin "type.__call__" ⟨.ref 81 :: rest, []⟩)) (.call (.ref 78) ⟨.ref x :: rest, []⟩) (InitBack x fun r s' => match r with | .ok (.ret v) => Q v s' | .ok _ => False | .error e => E e s') { s with heap := h' }) :
    wpAny (model prog w) A (call (.ref 81) rest []) Q E s := by
  have X := X₀.keeps F.keep
  refine wpAny_call ?_
  obtain ⟨hh, g, d, t, os⟩ := s
  refine exc_core81 X (Nat.le_trans hrest (by rw [sizeLine_eq]; omega)) (looks_specialIn X c1) (looks_instIn X c2) (looks_findIn X c3) (fun self => bind_fn X self c4) (h _ hh.objs.size _ ((F.push _).push _) ?_ (fun p hp => Heap.lt_size (N p hp).1) (Nat.lt_succ_self _))
  have := (N.push F (tupL rest)).push (F.push _) (excO hh.objs.size)
  rwa [Heap.size_push] at this
end
end Mine
end
section
open PySem.Builtin PySem.Builtin.ObjectAttr
namespace Mine
abbrev excD (t dx : Addr) : Obj := { cls := .ref 81, dict := some dx, data := .fields #[.ref t, .none, .none, .none, .bool false, .none] }
theorem refuse81 (self : Value) : refuseLoop self "__setattr__" (.ref 81 :: bm81) = pure () := by
  rw [refuseLoop_ref, refuseLoop_ref]
  exact PySem.F.store_Exception.passes self
section
variable {w : World} {A : Around} {R : Result → Shared → Prop} {prog : Program} {s : Shared} {x : Addr} {ox : Obj} {od : Option Obj} {name : Str} {tk : Tok} {v : Value}
theorem osa81_open (X : (hd.heap_39 w.params).In s.heap) (I : InstAt s.heap x ox 81 od) (hf : findIn (hd.heap_39 w.params) (.ref 81) name = some none)
    (h : ∀ b, wpAny (model prog w) A.in1 (storeInOwnDict (.ref x) (.ref 81) (.str name tk) name v b)
      (fun fin s' => match fin with | .done f => R (.ok f) s' | .again c' => c'.quiet = true ∧ codeAny (model prog w) A c' R s') (fun e s' => R (.error e) s') s) :
    codeAny (model prog w) A (.call (.builtin "object.__setattr__") ⟨[.ref x, .str name tk, v], []⟩) R s := by
  obtain ⟨nm, q, N, bs, hdct, sn, sub, ab, col, dd, k0, k1, k2, k3, k5, hC⟩ := cls81 X
  have SF := PySem.F.store_object
  have hm : Looks (model prog w) s.heap (mroOf (.ref 81)) (Value.ref 81 :: bm81) := ((Looks.ld (part := none) hC).andThen .now).andThen .now
  have st : Looks (model prog w) s.heap (isSubtype (.ref 81) (.type "object")) true := fun A Q E s k q => by
    obtain ⟨hh, g, d, t, os⟩ := s
    exact wpAny_isSubtype_exc (k _ _ hC) (by rw [show (Value.ref 81 :: bm81).contains (.type "object") = true by decide +kernel]; exact q)
  have sb : Looks (model prog w) s.heap (isInstance (.ref x) (.type "object")) true := I.type.andThen st
  refine codeAny_call_builtin SF.slot.plain SF.entry (@check_slot (model prog w) _ _ s "object.__setattr__" "object" "__setattr__" (.ref x) [.str name tk, v] [] _ SF.kind SF.split sb (SF.args (.ref x) (.str name tk) v) ?_)
  rw [osa_eq, refuse_eq]
  refine wpAny_bind (wpAny_bind (I.type.here (wpAny_bind (hm.here ?_))))
  rw [refuse81]
  refine wpAny_pure (wpAny_bind (I.type.here (wpAny_bind ((looks_findIn X hf).here (wpAny_bind (wpAny_pure ?_))))))
  exact h _
theorem hasDict81 {P : Params} {M : Model} {h : Heap} (X : (hd.heap_39 P).In h) : ∃ cd, Looks M h (classData 81) cd ∧ cd.hasDict = true :=
  ⟨_, looks_clsIn X rfl, rfl⟩
end
section
variable {w : World} {A : Around} {R : Result → Shared → Prop} {prog : Program} {s : Shared} {x t dx : Addr} {name : Str} {tk : Tok} {v : Value} {h₀ : Heap} {L : Addr} {m : Str → Option Value} {news news' : List (Addr × Obj)} {es : List DictEntry} {n : Nat}
theorem osa81_old (F : Fr h₀ L s.heap m) (N : News h₀ L s.heap news) (X : (hd.heap_39 w.params).In s.heap) (hx : (x, excD t dx) ∈ news)
    (hf : findIn (hd.heap_39 w.params) (.ref 81) name = some none) (hl : es.any (·.refKey) = false)
    (U : Upd dx (dictOf es n) (dictOf (putL name (PyData.keyHash w.params name) (.str name s.toks) v es) (putN name es n)) news news') (hz : (putL name (PyData.keyHash w.params name) (.str name s.toks) v es).length ≤ 1000)
    (h : ∀ h', Fr h₀ L h' m → News h₀ L h' news' → R (.ok (.ret .none)) { s with heap := h', toks := s.toks + 1 }) :
    codeAny (model prog w) A (.call (.builtin "object.__setattr__") ⟨[.ref x, .str name tk, v], []⟩) R s := by
  obtain ⟨pre, post, rfl, rfl, h1, h2⟩ := U.split
  have D := (N (dx, dictOf es n) (by simp)).1
  have hx' := (N _ hx).1
  have I : InstAt s.heap x (excD t dx) 81 (some (dictOf es n)) := ⟨hx', rfl, rfl, D⟩
  obtain ⟨cd, Lc, hd'⟩ := hasDict81 (M := model prog w) X
  obtain ⟨U1, U2⟩ := news_upd (f := Obj.putName name (PyData.keyHash w.params name) (.str name s.toks) v) F N h1 h2 (putName_dict ..) rfl
  have D' := (U2 (dx, _) (List.mem_append_right _ (.head _))).1
  refine osa81_open X I hf fun b => ?_
  refine wpAny_bind (wpAny_pure (wpAny_bind (wpAny_bind (wpAny_loadPart hx' (wpAny_bind (Lc.here ?_))))))
  rw [hd']
  refine wpAny_pure (a := some dx) (wpAny_bind (wpAny_pure (wpAny_bind ?_)))
  unfold nsSet
  refine wpAny_bind (wpAny_bind (wpAny_askSetting (wpAny_pure (wpAny_bind (wpAny_mkText (wpAny_bind (wpAny_loadPart D ?_)))))))
  dsimp only
  rw [aRefKeyMayBeTheName_at, show (!es.toArray.any (·.key.isStr name) && es.toArray.any (·.refKey)) = false by rw [← Array.any_toList, ← Array.any_toList]; rw [show es.toArray.toList.any (·.refKey) = false from hl, Bool.and_false]]
  refine wpAny_updatePart D ?_
  refine wpAny_bind (wpAny_lookBehind D' (pastItsLine_dict (by rw [List.size_toArray, sizeLine_eq]; omega)) ?_)
  exact wpAny_pure (h _ U1 U2)
end
end Mine
end
section
open PySem.Builtin PySem.Builtin.ObjectAttr
namespace Mine
section
variable {w : World} {A : Around} {R : Result → Shared → Prop} {prog : Program} {s : Shared} {x t : Addr} {name : Str} {tk : Tok} {v : Value} {h₀ : Heap} {L : Addr} {m : Str → Option Value} {news : List (Addr × Obj)} {nf : Addr → List (Addr × Obj)}
theorem osa81_new (F : Fr h₀ L s.heap m) (N : News h₀ L s.heap news) (X : (hd.heap_39 w.params).In s.heap) (hx : (x, excO t) ∈ news)
    (hf : findIn (hd.heap_39 w.params) (.ref 81) name = some none)
    (U : ∀ dx, Upd x (excO t) (excD t dx) news (nf dx))
    (h : ∀ dx h', Fr h₀ L h' m → News h₀ L h' ((dx, dictOf [⟨PyData.keyHash w.params name, .str name s.toks, v⟩] 1) :: nf dx) → (∀ p ∈ news, p.1 < dx) → R (.ok (.ret .none)) { s with heap := h', toks := s.toks + 1 }) :
    codeAny (model prog w) A (.call (.builtin "object.__setattr__") ⟨[.ref x, .str name tk, v], []⟩) R s := by
  have hx' := (N _ hx).1
  have I : InstAt s.heap x (excO t) 81 none := ⟨hx', rfl, rfl, trivial⟩
  obtain ⟨cd, Lc, hd'⟩ := hasDict81 (M := model prog w) X
  obtain ⟨hh, g, d, tt, os⟩ := s
  have lt : ∀ p ∈ news, p.1 < hh.objs.size := fun p hp => Heap.lt_size (N p hp).1
  have F1 := F.push (dictOf [] 0)
  have N1 := N.push F (dictOf [] 0)
  have key := h hh.objs.size
  have U0 := U hh.objs.size
  obtain ⟨pre, post, e1, e2, h1, h2⟩ := U0.split
  rw [e2] at key
  subst e1
  have hxs : x < hh.objs.size := lt _ hx
  obtain ⟨F2, N2⟩ := news_upd (h := hh.push (dictOf [] 0)) (d := x) (pre := (hh.objs.size, dictOf [] 0) :: pre) (post := post) (f := fun o => { o with dict := some hh.objs.size }) F1 N1
    (fun p hp => by
      rcases List.mem_cons.mp hp with rfl | hp
      · exact Nat.ne_of_gt hxs
      · exact h1 p hp) h2 (o' := excD t hh.objs.size) rfl rfl
  obtain ⟨F3, N3⟩ := news_upd (d := hh.objs.size) (pre := []) (post := pre ++ (x, excD t hh.objs.size) :: post) (f := Obj.putName name (PyData.keyHash w.params name) (.str name tt) v) F2 N2 (fun _ hp => nomatch hp)
    (fun p hp => by
      rcases List.mem_append.mp hp with hp | hp
      · exact Nat.ne_of_lt (lt p (List.mem_append_left _ hp))
      · rcases List.mem_cons.mp hp with rfl | hp
        · exact Nat.ne_of_lt hxs
        · exact Nat.ne_of_lt (lt p (List.mem_append_right _ (.tail _ hp)))) (putName_dict ..) rfl
  have D2 := (N2 (hh.objs.size, dictOf [] 0) (List.mem_append_left _ (.head _))).1
  have D3 := (N3 (hh.objs.size, _) (List.mem_append_right _ (.head _))).1
  have hx1 : (hh.push (dictOf [] 0)).get? x = some (excO t) := (N1 _ (.tail _ hx)).1
  refine osa81_open X I hf fun b => ?_
  refine wpAny_bind (wpAny_pure (wpAny_bind (wpAny_bind (wpAny_loadPart hx' (wpAny_bind (Lc.at ?_))))))
  rw [hd']
  refine wpAny_bind (wpAny_alloc (wpAny_bind (wpAny_update hx1 ?_)))
  refine wpAny_pure (a := some hh.objs.size) (wpAny_bind (wpAny_pure (wpAny_bind ?_)))
  unfold nsSet
  refine wpAny_bind (wpAny_bind (wpAny_askSetting (wpAny_pure (wpAny_bind (wpAny_mkText (wpAny_bind (wpAny_loadPart D2 ?_)))))))
  dsimp only
  rw [aRefKeyMayBeTheName_at, show (!(([] : List DictEntry).toArray).any (·.key.isStr name) && (([] : List DictEntry).toArray).any (·.refKey)) = false by simp]
  refine wpAny_updatePart D2 ?_
  refine wpAny_bind (wpAny_lookBehind D3 (pastItsLine_dict (by rw [sizeLine_eq]; simp [putL])) ?_)
  exact wpAny_pure (key _ F3 N3 lt)
end
end Mine
end
section
namespace Mine
section
variable {w : World} {A : Around} {E : Value → Shared → Prop} {prog : Program} {s : Shared} {h₀ : Heap} {L : Addr} {m : Str → Option Value} {news : List (Addr × Obj)} {nf : Addr → List (Addr × Obj)}
theorem exc_getm {pl : Sem Bool} {Q : Value × List Value → Shared → Prop} (F : Fr h₀ L s.heap m) (X₀ : (hd.heap_39 w.params).In h₀)
    (e : findCls (hd.heap_39 w.params) (.type "Exception") (.type "type") (Str.ofString "__init__") = some (.val (.builtin "Exception.__init__")))
    (h : Q (.builtin "Exception.__init__", []) { s with toks := s.toks + 1 }) :
    wpAny (model prog w) A (getMethod (.type "Exception") (Str.ofString "__init__") pl) Q E s := by
  have X := X₀.keeps F.keep
  have hstub : opaqueClassAbove (.type "Exception") = pure none := by unfold opaqueClassAbove; dsimp only; rw [show Manifest.isStub "Exception" = false by decide +kernel]; rfl
  have ht : typeOf (.type "Exception") = pure (.type "type") := by first | rfl | kernel_rfl
  have L0 : Looks (model prog w) s.heap (typeOf (.type "Exception")) (.type "type") := Looks.of_pure ht
  have hg : findIn (hd.heap_39 w.params) (.type "type") "__getattribute__" = some (some (.builtin "type.__getattribute__")) := type_tga
  unfold getMethod specialOf
  refine wpAny_bind (wpAny_bind (L0.here ((looks_findIn X hg).here ?_)))
  dsimp only
  rw [if_pos canon_tga]
  refine wpAny_bind (wpAny_mono (Q := fun v => Q (v, [])) (E := E) ?_ (fun _ _ z => wpAny_pure z) fun _ _ z => z)
  have LO : Looks (model prog w) s.heap (opaqueClassAbove (.type "Exception")) none := Looks.of_pure hstub
  refine cls_open X LO L0 hg (looks_hook X (r := none) (by rfl)) (by show subIn (hd.heap_39 w.params) _ _ = _; rfl) e ?_
  refine wpAny_pure ?_
  exact handed_on rfl h
theorem exc_init81 {x t : Addr} {v : Value} {Q : Value → Shared → Prop} (F : Fr h₀ L s.heap m) (N : News h₀ L s.heap news) (X₀ : (hd.heap_39 w.params).In h₀) (hx : (x, excO t) ∈ news)
    (U : ∀ t2, Upd x (excO t) (excO t2) news (nf t2))
    (h : ∀ t2 h', Fr h₀ L h' m → News h₀ L h' ((t2, tupL [v]) :: nf t2) → (∀ p ∈ news, p.1 < t2) → Q .none { s with heap := h' }) :
    wpAny (model prog w) A (call (.builtin "Exception.__init__") [.ref x, v]) Q E s := by
  have X := X₀.keeps F.keep
  obtain ⟨nm, q, N0, bs, hdct, sn, sub, ab, col, dd, k0, k1, k2, k3, k5, hC⟩ := cls81 X
  have FB := PySem.F.excBase_Exception
  have hcB : (Value.ref 81 :: bm81).contains (.type "Exception") = true := by decide +kernel
  have he := (N _ hx).1
  obtain ⟨hh, g, d, tt, os⟩ := s
  have lt : ∀ p ∈ news, p.1 < hh.objs.size := fun p hp => Heap.lt_size (N p hp).1
  have hxs : x < hh.objs.size := lt _ hx
  have F1 := F.push (tupL [v])
  have N1 := N.push F (tupL [v])
  have key := h hh.objs.size
  have U0 := U hh.objs.size
  obtain ⟨pre, post, e1, e2, h1, h2⟩ := U0.split
  rw [e2] at key
  subst e1
  obtain ⟨F2, N2⟩ := news_upd (h := hh.push (tupL [v])) (d := x) (pre := (hh.objs.size, tupL [v]) :: pre) (post := post) (f := Obj.mapFields (·.setIfInBounds 0 (.ref hh.objs.size))) F1 N1
    (fun p hp => by
      rcases List.mem_cons.mp hp with rfl | hp
      · exact Nat.ne_of_gt hxs
      · exact h1 p hp) h2 (o' := excO hh.objs.size) rfl rfl
  have hx1 : (hh.push (tupL [v])).get? x = some (excO t) := (N1 _ (.tail _ hx)).1
  have hshort := FB.noStar
  refine wpAny_call (codeAny_call_builtin FB.init.plain FB.initEntry ?_)
  simp only [checkBuiltinCall, FB.initKind, FB.initSplit, FB.initRow]
  repeat (first | (with_reducible refine wpAny_loadPart_at he ?_; dsimp only) | with_reducible refine wpAny_loadPart_at hC ?_ | (with_reducible refine wpAny_isSubtype_exc hC ?_; rw [hcB]) | wp_step)
  exact key _ F2 N2 lt
end
end Mine
end
section
namespace Mine
section
variable {w : World} {A : Around} {E : Value → Shared → Prop} {prog : Program} {s : Shared} {h₀ : Heap} {L x t dx : Addr} {m : Str → Option Value} {news news' : List (Addr × Obj)} {nf : Addr → List (Addr × Obj)} {name : Str} {v : Value} {Q : Unit → Shared → Prop} {es es' : List DictEntry} {n n' : Nat}
theorem set81_new (F : Fr h₀ L s.heap m) (N : News h₀ L s.heap news) (X₀ : (hd.heap_39 w.params).In h₀) (hx : (x, excO t) ∈ news)
    (hs : findIn (hd.heap_39 w.params) (.ref 81) "__setattr__" = some (some (.builtin "object.__setattr__")))
    (hf : findIn (hd.heap_39 w.params) (.ref 81) name = some none)
    (U : ∀ dx, Upd x (excO t) (excD t dx) news (nf dx))
    (h : ∀ dx h', Fr h₀ L h' m → News h₀ L h' ((dx, dictOf [⟨PyData.keyHash w.params name, .str name (s.toks + 1), v⟩] 1) :: nf dx) → (∀ p ∈ news, p.1 < dx) → Q () { s with heap := h', toks := s.toks + 2 }) :
    wpAny (model prog w) A (setAttr (.ref x) name v) Q E s := by
  have X := X₀.keeps F.keep
  refine set_plain X (ox := excO t) (od := none) ⟨(N _ hx).1, rfl, rfl, trivial⟩ hs ?_
  exact osa81_new (s := { s with toks := s.toks + 1 }) F N X hx hf U h
theorem set81_old (F : Fr h₀ L s.heap m) (N : News h₀ L s.heap news) (X₀ : (hd.heap_39 w.params).In h₀) (hx : (x, excD t dx) ∈ news)
    (hs : findIn (hd.heap_39 w.params) (.ref 81) "__setattr__" = some (some (.builtin "object.__setattr__")))
    (hf : findIn (hd.heap_39 w.params) (.ref 81) name = some none) (hm : (dx, dictOf es n) ∈ news) (hl : es.any (·.refKey) = false)
    (e : (putL name (PyData.keyHash w.params name) (.str name (s.toks + 1)) v es, putN name es n) = (es', n')) (U : Upd dx (dictOf es n) (dictOf es' n') news news') (hz : es'.length ≤ 1000)
    (h : ∀ h', Fr h₀ L h' m → News h₀ L h' news' → Q () { s with heap := h', toks := s.toks + 2 }) :
    wpAny (model prog w) A (setAttr (.ref x) name v) Q E s := by
  have X := X₀.keeps F.keep
  obtain ⟨e1, e2⟩ := Prod.mk.inj e
  refine set_plain X (ox := excD t dx) (od := some (dictOf es n)) ⟨(N _ hx).1, rfl, rfl, (N _ hm).1⟩ hs ?_
  exact osa81_old (s := { s with toks := s.toks + 1 }) F N X hx hf hl (by rw [e1, e2]; exact U) (by rw [e1]; exact hz) h
end
end Mine
end
section
namespace Mine
def TrD (base : Heap) (l : List Env) (e dx : Addr) (fl : Value) (h : Heap) : Prop :=
  base.StaysIn h ∧ base.get? e = none ∧ h.FunFrames base l ∧ ∃ vs T oT ts sl, h.get? e = some (⟨.ref 81, some dx, .fields vs, sl⟩ : Obj) ∧ vs[1]? = some (.ref T) ∧ base.get? T = none ∧ T ≠ e ∧ h.get? T = some oT ∧ oT.data = .fields ts ∧ ts[3]? = some fl
section
variable {M : Model} {A : Around} {E : Value → Shared → Prop} {s : Shared} {base : Heap} {env : Env} {outer l : List Env} {L e dx : Addr} {Q : Unit → Shared → Prop}
theorem entryD {vs : Array Value} {sl : Array (Option Value)} {head : Value} {hadNext : Bool}
    (hfr : A.frames = some (env :: outer)) (hl : s.heap.FunFrames base (env :: outer)) (hf : env.frame = some L)
    (he : s.heap.get? e = some (⟨.ref 81, some dx, .fields vs, sl⟩ : Obj)) (hkb : base.StaysIn s.heap) (hen : base.get? e = none) (hsz : 1 < vs.size)
    (h : ∀ h', TrD base (env :: outer) e dx (rawInt L) h' → s.heap.UpToSlots h' → Q () { s with heap := h' }) :
    wpAny M A (do let a ← frameOf env; let pl ← entryPlaceOf L hadNext; let b ← EntryCells.newEntry head a .none (rawInt L) .none pl; setField (.ref e) 1 b) Q E s := by
  have hene : e ∉ (env :: outer).filterMap (·.frame) := fun hm => by
    obtain ⟨_, o, ho, hnf⟩ := hl.mem hm
    rw [he] at ho
    exact hnf vs ((congrArg Obj.data (Option.some.inj ho)).symm)
  refine wpAny_bind (wpAny_frameOf_fun hfr hl hf fun h₁ hs₁ => ?_)
  refine wpAny_bind (wpAny_entryPlaceOf fun pl hpl => ?_)
  unfold EntryCells.newEntry newFields
  refine wpAny_bind (wpAny_newObj_type ?_ (hpl.sizeOk5 _ _ _ _ _))
  have e1 := (hs₁.2.1 e hene).trans he
  have k1 : base.StaysIn h₁ := fun b o hb => (hs₁.2.1 b fun hm => by rw [(hl.mem hm).1] at hb; cases hb).trans (hkb b o hb)
  generalize hO : ({ cls := .type "traceback", dict := none, data := .fields ([head, .ref L, .none, rawInt L, .none] ++ (if pl.isEmpty then List.replicate 6 Value.none else pl)).toArray } : Obj) = oT
  have dT : oT.data = .fields ([head, .ref L, .none, rawInt L, .none] ++ (if pl.isEmpty then List.replicate 6 Value.none else pl)).toArray := by rw [← hO]
  have fT : oT.isFreed = false := by rw [← hO]; rfl
  have e2 := Heap.get?_push_of_some oT e1
  have nT : h₁.objs.size ≠ e := Nat.ne_of_gt (Heap.lt_size e1)
  have e3 : ((h₁.push oT).update e (Obj.mapFields (·.setIfInBounds 1 (.ref h₁.objs.size)))).get? e = some (⟨.ref 81, some dx, .fields (vs.setIfInBounds 1 (.ref h₁.objs.size)), sl⟩ : Obj) := Heap.get?_update_self (Obj.mapFields (·.setIfInBounds 1 (Value.ref h₁.objs.size))) e2 rfl
  have o3 : ∀ b, b ≠ e → ∀ o, h₁.get? b = some o → ((h₁.push oT).update e (Obj.mapFields (·.setIfInBounds 1 (.ref h₁.objs.size)))).get? b = some o := fun b hb o ho =>
    (Heap.get?_update_other _ _ (Ne.symm hb)).trans (Heap.get?_push_of_some _ ho)
  have notE : ∀ b o, s.heap.get? b = some o → (∀ vs, o.data ≠ .fields vs) → b ≠ e := fun b o hb hn q => by
    rw [q, he] at hb
    exact hn vs ((congrArg Obj.data (Option.some.inj hb)).symm)
  refine wpAny_setField e2 rfl hsz (h _ ⟨fun b o hb => o3 b (fun q => by rw [q, hen] at hb; cases hb) o (k1 b o hb), hen, hl.of_keeps fun b o hb hn => ?_, _, h₁.objs.size, oT, _, sl, e3, ?_, k1.fresh, nT, ?_, dT, ?_⟩ fun b o hb hn => ?_)
  · obtain ⟨sl', hs⟩ := hs₁.2.2 b o hb
    exact ⟨_, o3 b (notE b o hb hn) _ hs, rfl⟩
  · simp [hsz]
  · exact (Heap.get?_update_other _ _ (Ne.symm nT)).trans (Heap.get?_push_size h₁ fT)
  · first | (simp; done) | (rcases hpl with rfl | ⟨_, _, _, _, _, _, _, rfl⟩ <;> simp)
  · obtain ⟨sl', hs⟩ := hs₁.2.2 b o hb
    exact ⟨sl', o3 b (notE b o hb hn) _ hs⟩
theorem flightD {fl : Value} (ht : TrD base l e dx fl s.heap) (h : ∀ h', TrD base l e dx .none h' → s.heap.UpToSlots h' → Q () { s with heap := h' }) : wpAny M A (setFlight (.ref e) none) Q E s := by
  obtain ⟨k, hen, hl, vs, T, oT, ts, sl, he, h1, bT, nT, hT, dT, h3⟩ := ht
  have z3 : 3 < ts.size := (Array.getElem?_eq_some_iff.mp h3).1
  have other : ∀ b, b ≠ T → (s.heap.update T (Obj.mapFields (·.setIfInBounds 3 ((none : Option Addr).elim Value.none fun f => rawInt f)))).get? b = s.heap.get? b := fun b hb => Heap.get?_update_other _ _ (Ne.symm hb)
  have notT : ∀ b o, s.heap.get? b = some o → (∀ vs, o.data ≠ .fields vs) → b ≠ T := fun b o hb hn q => by
    rw [q, hT] at hb
    exact hn ts (by rw [← Option.some.inj hb]; exact dT)
  unfold setFlight
  refine wpAny_bind (wpAny_field he rfl h1 ?_)
  rw [if_pos (show (Value.ref T != Value.none) = true from by simp)]
  refine wpAny_setField hT dT z3 (h _ ⟨fun b o hb => (other b fun q => by rw [q, bT] at hb; cases hb).trans (k b o hb), hen, hl.of_keeps fun b o hb hn => ⟨o, (other b (notT b o hb hn)).trans hb, rfl⟩, vs, T, _, _, sl, (other e (Ne.symm nT)).trans he, h1, bT, nT, Heap.get?_update_self _ hT (Obj.isFreed_of_fields (Obj.data_mapFields dT _)), Obj.data_mapFields dT _, by simp [z3]⟩ fun b o hb hn => ⟨o.slots, (other b (notT b o hb hn)).trans hb⟩)
theorem noteD (hfr : A.frames = some (env :: outer)) (hf : env.frame = some L) (ht : TrD base (env :: outer) e dx .none s.heap)
    (h : ∀ h', TrD base (env :: outer) e dx (rawInt L) h' → s.heap.UpToSlots h' → Q () { s with heap := h' }) : wpAny M A (noteFrame (.ref e) env) Q E s := by
  obtain ⟨k, hen, hl, vs, T, oT, ts, sl, he, h1, bT, nT, hT, dT, h3⟩ := ht
  have z3 : 3 < ts.size := (Array.getElem?_eq_some_iff.mp h3).1
  have other : ∀ b, b ≠ T → (s.heap.update T (Obj.mapFields (·.setIfInBounds 3 Value.none))).get? b = s.heap.get? b := fun b hb => Heap.get?_update_other _ _ (Ne.symm hb)
  have notT : ∀ b o, s.heap.get? b = some o → (∀ vs, o.data ≠ .fields vs) → b ≠ T := fun b o hb hn q => by
    rw [q, hT] at hb
    exact hn ts (by rw [← Option.some.inj hb]; exact dT)
  unfold noteFrame
  simp only [hf]
  refine wpAny_bind (wpAny_field he rfl h1 ?_)
  rw [if_pos (show (Value.ref T != Value.none) = true from by simp)]
  refine wpAny_bind (wpAny_field hT dT h3 ?_)
  rw [if_neg (show ¬ ((Value.none == rawInt L) = true) from by simp [rawInt])]
  refine wpAny_bind (wpAny_setField hT dT z3 ?_)
  refine entryD hfr (hl.of_keeps fun b o hb hn => ⟨o, (other b (notT b o hb hn)).trans hb, rfl⟩) hf ((other e (Ne.symm nT)).trans he)
    (fun b o hb => (other b fun q => by rw [q, bT] at hb; cases hb).trans (k b o hb)) hen (Array.getElem?_eq_some_iff.mp h1).1 fun h' x y => h h' x fun b o hb hn => y b o ((other b (notT b o hb hn)).trans hb) hn
theorem note1 {vs : Array Value} {sl : Array (Option Value)} (hfr : A.frames = some (env :: outer)) (hf : env.frame = some L) (hl : s.heap.FunFrames base (env :: outer)) (he : s.heap.get? e = some (⟨.ref 81, some dx, .fields vs, sl⟩ : Obj))
    (h1 : vs[1]? = some .none) (hkb : base.StaysIn s.heap) (hen : base.get? e = none)
    (h : ∀ h', TrD base (env :: outer) e dx (rawInt L) h' → s.heap.UpToSlots h' → Q () { s with heap := h' }) : wpAny M A (noteFrame (.ref e) env) Q E s := by
  unfold noteFrame
  simp only [hf]
  refine wpAny_bind (wpAny_field he rfl h1 ?_)
  rw [if_neg (by decide)]
  exact entryD hfr hl hf he hkb hen (Array.getElem?_eq_some_iff.mp h1).1 h
theorem TrD.out {fl : Value} {h : Heap} (x : TrD base (env :: outer) e dx fl h) : TrD base outer e dx fl h :=
  ⟨x.1, x.2.1, x.2.2.1.2.2, x.2.2.2⟩
theorem leave1 {vs : Array Value} {sl : Array (Option Value)} (hfr : A.frames = some (env :: outer)) (hf : env.frame = some L) (hl : s.heap.FunFrames base (env :: outer)) (he : s.heap.get? e = some (⟨.ref 81, some dx, .fields vs, sl⟩ : Obj))
    (h1 : vs[1]? = some .none) (hkb : base.StaysIn s.heap) (hen : base.get? e = none)
    (h : ∀ h', TrD base outer e dx .none h' → s.heap.UpToSlots h' → Q () { s with heap := h' }) : wpAny M A (leaving env (.ref e)) Q E s := by
  unfold leaving
  exact wpAny_bind (note1 hfr hf hl he h1 hkb hen fun h' x y => flightD x fun h'' x' y' => h h'' x'.out (y.trans y'))
theorem leave2 (hfr : A.frames = some (env :: outer)) (hf : env.frame = some L) (ht : TrD base (env :: outer) e dx .none s.heap)
    (h : ∀ h', TrD base outer e dx .none h' → s.heap.UpToSlots h' → Q () { s with heap := h' }) : wpAny M A (leaving env (.ref e)) Q E s := by
  unfold leaving
  exact wpAny_bind (noteD hfr hf ht fun h' x y => flightD x fun h'' x' y' => h h'' x'.out (y.trans y'))
end
end Mine
end
section
namespace Mine
def RaisedT (base : Heap) (l : List Env) (e dx : Addr) (news : List (Addr × Obj)) (h : Heap) : Prop :=
  ∃ B, base.StaysIn B ∧ (∀ q ∈ news, B.get? q.1 = some q.2 ∧ base.get? q.1 = none) ∧ TrD B l e dx .none h
def Raise81 (E : Value → Shared → Prop) (v : Value) (s₁ : Shared) : Prop :=
  ∃ P a t dx, (hd.heap_39 P).In s₁.heap ∧ v = .ref a ∧ s₁.heap.get? a = some (excD t dx) ∧ E (.ref a) s₁
section
variable {M : Model} {A : Around} {E : Value → Shared → Prop} {s : Shared} {env : Env}
theorem raise81 {e : PySem.Expr} {pos : Pos} {Q : Flow → Shared → Prop} (hh : A.handled = none)
    (h : wpAny M A (eval e env) (Raise81 E) E s) : wpAny M A (exec (.Raise (some e) none pos) env) Q E s := by
  have hcB : (Value.ref 81 :: bm81).contains (.type "BaseException") = true := by decide +kernel
  show wpAny M A (do standAt pos; raiseStmt env (some (do let v ← eval e env; standAt pos; pure v)) none) Q E s
  refine wpAny_bind (wpAny_standAt ?_)
  unfold raiseStmt
  dsimp only
  refine wpAny_bind (wpAny_bind (wpAny_mono h (fun v s₁ h₁ => wpAny_bind (wpAny_standAt (wpAny_pure ?_))) fun _ _ x => x))
  obtain ⟨P, a, t, dx, X, rfl, ha, hE⟩ := h₁
  obtain ⟨nm, q, N, bs, hdct, sn, sub, ab, col, dd, k0, k1, k2, k3, k5, hC⟩ := cls81 X
  obtain ⟨hp, g, d, tk, os⟩ := s₁
  repeat (first | with_reducible refine wpAny_loadPart_at ha ?_ | with_reducible refine wpAny_loadPart_at hC ?_ | (with_reducible refine wpAny_isSubtype_exc hC ?_; rw [hcB]) | wp_step)
  exact wpAny_raiseNew_none hh hE
end
section
variable {M : Model} {A : Around} {E : Value → Shared → Prop} {s' : Shared} {base g g₂ h : Heap} {outer : List Env} {L a e t dx : Addr} {m : Str → Option Value} {name : Str} {scope : Scope} {cd : Value} {Q : Unit → Shared → Prop} {news all : List (Addr × Obj)}
theorem leaveA (K : Below A base outer g) (F : Fr g L s'.heap m) (N : News g L s'.heap all) (he : (e, excD t dx) ∈ all) (hn : ∀ p ∈ news, p ∈ all ∧ p.1 ≠ e)
    (hQ : ∀ h', RaisedT base outer e dx news h' → g.UpToSlots h' → Q () { s' with heap := h' }) (hk : scope.kind = .function := by rfl) :
    wpAny M (A.deeper (envOf name scope L a cd)) (leaving (envOf name scope L a cd) (.ref e)) Q E s' := by
  have K' := K.push (name := name) (a := a) (cd := cd) F hk
  have hin : ∀ env ∈ (envOf name scope L a cd :: outer), ∀ b, env.frame = some b → b ∈ e :: (envOf name scope L a cd :: outer).filterMap (·.frame) := fun env he b hb => .tail _ (List.mem_filterMap.mpr ⟨env, he, hb⟩)
  have eb : base.get? e = none := fresh_of_stays K.stays (N _ he).2.2
  have st : base.StaysIn (hideAll s'.heap (e :: (envOf name scope L a cd :: outer).filterMap (·.frame))) := fun b o q => hideAll_get _ (K'.stays b o q) fun hm => by
    rcases List.mem_cons.mp hm with rfl | hm
    · rw [eb] at q; cases q
    · rw [(K'.frames.mem hm).1] at q; cases q
  have hl : ∀ q ∈ news, (hideAll s'.heap (e :: (envOf name scope L a cd :: outer).filterMap (·.frame))).get? q.1 = some q.2 ∧ base.get? q.1 = none := fun q hq => by
    obtain ⟨hq, hqe⟩ := hn q hq
    refine ⟨hideAll_get _ (N q hq).1 fun hm => ?_, fresh_of_stays K.stays (N q hq).2.2⟩
    rcases List.mem_cons.mp hm with hm | hm
    · exact hqe hm
    obtain ⟨env, he', hf⟩ := List.mem_filterMap.mp hm
    rcases List.mem_cons.mp he' with rfl | he'
    · exact (N q hq).2.1 (Option.some.inj hf).symm
    · obtain ⟨o, ho, _⟩ := (K.frames.mem (List.mem_filterMap.mpr ⟨env, he', hf⟩)).2
      rw [(N q hq).2.2] at ho; cases ho
  have en : (hideAll s'.heap (e :: (envOf name scope L a cd :: outer).filterMap (·.frame))).get? e = none := hideAll_none _ (.head _)
  exact leave1 (Around.frames_deeper K.stack) rfl (funFrames_hide K'.frames hin) (N _ he).1 rfl (fun b o hb => of_hideAll _ hb) en fun h' x y =>
    hQ h' ⟨_, st, hl, x⟩ ((Heap.UpToSlots.of_keeps F.keep).trans y)
theorem leaveB (K : Below A base outer g) (F : Fr g L g₂ m) (R : RaisedT base (envOf name scope L a cd :: outer) e dx news s'.heap) (hsm : g₂.UpToSlots s'.heap)
    (hQ : ∀ h', RaisedT base outer e dx news h' → g.UpToSlots h' → Q () { s' with heap := h' }) :
    wpAny M (A.deeper (envOf name scope L a cd)) (leaving (envOf name scope L a cd) (.ref e)) Q E s' := by
  obtain ⟨B, st, hl, x⟩ := R
  exact leave2 (Around.frames_deeper K.stack) rfl x fun h' x' y => hQ h' ⟨B, st, hl, x'⟩ ((Heap.UpToSlots.of_keeps F.keep).trans (hsm.trans y))
end
def ThrownD (all : List (Addr × Obj)) (dx : Addr) : Prop :=
  ∃ es n V k0 K1 P1 c1 k2 k3 E1 c2, (dx, dictOf es n) ∈ all ∧ getL (Str.ofString "value") es = some (some (.ref V)) ∧
    (V, ({ cls := .type "tuple", data := .seq #[.str (Str.ofString "struct") k0, .ref K1, .ref P1] c1 } : Obj)) ∈ all ∧
    (K1, ({ cls := .type "tuple", data := .seq #[.str (Str.ofString "name") k2, .str (Str.ofString "OverflowError") k3, .ref E1] c2 } : Obj)) ∈ all
end Mine
end
section
namespace Mine
section
variable {prog : Program} {w : World} {A : Around} {E : Value → Shared → Prop} {s : Shared}
theorem enc_method {x : Str} {t : Tok} {pl : Sem Bool} {Q : Value × List Value → Shared → Prop} (h : Q (.builtin "str.encode", [.str x t]) s) : wpAny (model prog w) A (getMethod (.str x t) (Str.ofString "encode") pl) Q E s :=
  getMethod_builtin (typeIs_str s x t) F.plainAttrs_str F.slot_str_encode F.type_str_encode (fun _ e => nomatch e) h
theorem enc_call {t u : Tok} {Q : Value → Shared → Prop} (h : Q (.bytes msgB s.toks) { s with toks := s.toks + 1 }) : wpAny (model prog w) A (call (.builtin "str.encode") [.str msgT t, .str (Str.ofString "utf-8") u]) Q E s := by
  refine wpAny_call_entry F.slot_str_encode (typeIs_str s _ t) F.entry_str_encode ?_ (F.args_str_encode_2 _ _)
  rw [enc_eq]
  refine wpAny_bind (wpAny_mkBytes (wpAny_pure ?_))
  exact ⟨_, rfl, h⟩
end
theorem tail_ne {d x : Addr} {l : List (Addr × Obj)} (h : AllLt d l) (hx : @LE.le Nat _ d x) : ∀ p ∈ l, p.1 ≠ x := fun p hp => Nat.ne_of_lt (Nat.lt_of_lt_of_le (ktn_ltOf h p hp) hx)
local macro_rules | `(tactic| k_all) => `(tactic| first | exact List.forall_mem_nil _ | (refine' List.forall_mem_cons.mpr ⟨?a, ?b⟩; (case a => k_ne); (case b => k_all)) | (exact tail_ne (by first | assumption | exact And.right (by assumption) | exact And.right (And.right (by assumption)) | exact And.right (And.right (And.right (by assumption))) | exact And.right (And.right (And.right (And.right (by assumption)))) | exact And.right (And.right (And.right (And.right (And.right (by assumption))))) | exact And.right (And.right (And.right (And.right (And.right (And.right (by assumption)))))) | exact And.right (And.right (And.right (And.right (And.right (And.right (And.right (by assumption))))))) | exact And.right (And.right (And.right (And.right (And.right (And.right (And.right (And.right (by assumption)))))))) | exact And.right (And.right (And.right (And.right (And.right (And.right (And.right (And.right (And.right (by assumption)))))))))) (by (try dsimp only); omega)))
local macro_rules | `(tactic| k_room) => `(tactic| ktr_room)
local macro_rules | `(tactic| walk_at "getMethod str") => `(tactic| refine enc_method ?_)
local macro_rules | `(tactic| walk_at "call builtin:str.encode") => `(tactic| refine enc_call ?_)
local macro_rules | `(tactic| walk_at "call ref") => `(tactic| ((with_reducible show wpAny _ _ (call (Value.ref 81) _) _ _ _); k_dflt (refine' exc_make81 ?k1 ?k2 ?k3 ?k4 ?k5 ?k6 ?k7 ?k8 ?_; (case k1 => k_asm); (case k2 => k_asm); (case k3 => k_asm); (case k4 => exact Nat.le_of_ble_eq_true rfl); (case k5 => k_is); (case k6 => k_is); (case k7 => k_is); (case k8 => k_is); k_whole; intro x' d' h' F' N' l1 l2; (try k_lt l1); (try k_lt2 l2); (try k_sweep); k_enter)))
local macro_rules | `(tactic| walk_at "getMethod") => `(tactic| ((with_reducible show wpAny _ _ (getMethod (Value.type "Exception") _ _) _ _ _); k_dflt (refine' exc_getm ?k1 ?k2 ?k3 ?_; (case k1 => k_asm); (case k2 => k_asm); (case k3 => k_is); k_whole)))
local macro_rules | `(tactic| walk_at "call builtin:Exception.__init__") => `(tactic| (k_dflt (refine' exc_init81 ?k1 ?k2 ?k3 ?k4 ?k5 ?_; (case k1 => k_asm); (case k2 => k_asm); (case k3 => k_asm); (case k4 => k_mem); (case k5 => (intro t2'; k_upd)); k_whole; intro t2' h' F' N' l1; (try k_lt l1); (try k_sweep))))
local macro_rules | `(tactic| walk_at "setAttr ref") => `(tactic| (k_dflt (first
  | (refine' set81_new ?k1 ?k2 ?k3 ?k4 ?k5 ?k6 ?k7 ?_; (case k1 => k_asm); (case k2 => k_asm); (case k3 => k_asm); (case k4 => k_mem); (case k5 => k_is); (case k6 => k_is); (case k7 => (intro t2'; k_upd)); k_whole; intro t2' h' F' N' l1; (try k_lt l1); (try k_sweep))
  | (refine' set81_old ?k1 ?k2 ?k3 ?k4 ?k5 ?k6 ?k7 ?k8 ?k9 ?k10 ?k11 ?_; (case k1 => k_asm); (case k2 => k_asm); (case k3 => k_asm); (case k4 => k_mem); (case k5 => k_is); (case k6 => k_is); (case k7 => k_mem); (case k8 => rfl); (case k9 => k_put); (case k10 => k_upd); (case k11 => exact Nat.le_of_ble_eq_true rfl); k_whole; intro h' F' N'; (try k_sweep)))))
theorem thrown_ctr {w : World} {mean : ExcName → Option Value} {mg mb : Str → Option Value} {dp un : Nat} {gd : Option (List Code)} {cn : Str} {cs : Scope} {a : Addr} {ccd : Value} {cl : List (Str × Addr)} {outer : List Env} {A₀ : Around} {base h₀ : Heap} {L : Addr} {m : Str → Option Value} {s : Shared} {Q E : Value → Shared → Prop} {news : List (Addr × Obj)}
  (B : Below A₀ base outer h₀) (F : Fr h₀ L s.heap m) (X : (hd.heap_39 w.params).In h₀) (N : News h₀ L s.heap news) (T : Top hd.view_39 LW mean mg mb h₀) (hk : cs.kind = .function)
  (t u : Tok) (hdp : dp + 5 < recursionLimit)
  (hret : ∀ x y dx all h' tk', Fr h₀ L h' m → News h₀ L h' all → (x, excD y dx) ∈ all → (∀ p ∈ news, p ∈ all ∧ p.1 ≠ x) → ThrownD (all.filter fun p => decide (p.1 ≠ x)) dx → Q (.ref x) { s with heap := h', toks := tk' }) :
  wpAny (model PySem.Challenge.rw_xm0677_01.row.prog w) (ktrTop dp un gd cn cs L a ccd cl outer) (call (.ref 111) [.str (Str.ofString "OverflowError") t, .str msgT u]) Q E s := by
  revert X; k_fill; intro X
  refine wpAny_call ?_
  k_dflt ktr_enter
  repeat' ((fail_if_success (first | (with_reducible show WhlRest _ _ _ _ _ _ _ _ _ _ _) | (with_reducible show wpAny _ _ (exec (Stmt.While _ _ _ _) _) _ _ _) | (with_reducible show WhlIf _ _ _))); first | (k_unfold; (try dsimp only)) | (k_end; wrow_close) | walk1 | (dsimp only; walk1) | (leave1; (try dsimp only)))
  refine hret _ _ _ _ _ _ (by k_asm) (by k_asm) (by k_mem) ?_ ?_
  · intro p hp
    exact ⟨by repeat (first | exact hp | refine List.Mem.tail _ ?_), tail_ne (by first | assumption | exact And.right (by assumption) | exact And.right (And.right (by assumption)) | exact And.right (And.right (And.right (by assumption))) | exact And.right (And.right (And.right (And.right (by assumption)))) | exact And.right (And.right (And.right (And.right (And.right (by assumption))))) | exact And.right (And.right (And.right (And.right (And.right (And.right (by assumption)))))) | exact And.right (And.right (And.right (And.right (And.right (And.right (And.right (by assumption))))))) | exact And.right (And.right (And.right (And.right (And.right (And.right (And.right (And.right (by assumption)))))))) | exact And.right (And.right (And.right (And.right (And.right (And.right (And.right (And.right (And.right (by assumption)))))))))) (by (try dsimp only); omega) p hp⟩
  · refine ⟨_, _, _, _, _, _, _, _, _, _, _, List.mem_filter.mpr ⟨by k_mem, ?_⟩, rfl, List.mem_filter.mpr ⟨by k_mem, ?_⟩, List.mem_filter.mpr ⟨by k_mem, ?_⟩⟩
    all_goals (rw [decide_eq_true_eq]; refine neN ?_; (try dsimp only); omega)
end Mine
end
section
namespace Mine
local macro_rules | `(tactic| walk_at "no such place 0") => `(tactic| skip)
local macro_rules | `(tactic| walk_at "no such place 1") => `(tactic| skip)
local macro_rules | `(tactic| walk_at "no such place 2") => `(tactic| skip)
local macro_rules | `(tactic| walk_at "no such place 3") => `(tactic| skip)
local macro_rules | `(tactic| k_room) => `(tactic| ktr_room)
local macro_rules | `(tactic| walk_at "subscriptTail Name Constant ref int") => `(tactic| ((with_reducible show wpAny _ _ (subscriptTail _ _ (Value.ref _) (Value.int _ _)) _ _ _); first | (refine' item_tup0 ?H ?F ?N ?_ ?hs; (case H => assumption); (case F => assumption); (case N => assumption); (case hs => with_unfolding_all rfl); intro t9; (try dsimp only)) | (refine' item_tup1 ?H ?F ?N ?_ ?hs; (case H => assumption); (case F => assumption); (case N => assumption); (case hs => with_unfolding_all rfl); intro t9; (try dsimp only))))
local macro_rules | `(tactic| walk_at "call ref") => `(tactic| ((with_reducible show wpAny _ _ (call (Value.ref 43) _) _ _ _); k_dflt (refine' fits_ctr ?k1 ?k2 ?k3 ?k4 ?k5 ?kK _ _ _ ?kd ?_; (case k1 => k_asm); (case k2 => k_asm); (case k3 => k_asm); (case k4 => k_asm); (case k5 => k_asm); (case kK => first | exact rfl | assumption); (case kd => ktr_room); intro h9 tk9 F9 N9; (try dsimp only); (try k_fold))))
local macro_rules | `(tactic| walk_at "exec Raise some none") => `(tactic| (refine raise81 rfl ?_))
theorem room_ctr {w : World} {mean : ExcName → Option Value} {mg mb : Str → Option Value} {dp un : Nat} {gd : Option (List Code)} {cn : Str} {cs : Scope} {a : Addr} {ccd : Value} {cl : List (Str × Addr)} {outer : List Env} {A₀ : Around} {base h₀ : Heap} {L : Addr} {m : Str → Option Value} {s : Shared} {Q E : Value → Shared → Prop} {news : List (Addr × Obj)}
  (B : Below A₀ base outer h₀) (F : Fr h₀ L s.heap m) (X : (hd.heap_39 w.params).In h₀) (N : News h₀ L s.heap news) (T : Top hd.view_39 LW mean mg mb h₀) (hk : cs.kind = .function)
  (p : Addr) {xa xb : Int} (t : Tok) (H1 : TupIn h₀ news p xa xb) (hdp : dp + 6 < recursionLimit)
  (hret : (fitB xa && fitB xb) = true → ∀ h' tk', Fr h₀ L h' m → News h₀ L h' news → Q (.ref p) { s with heap := h', toks := tk' })
  (hexc : (fitB xa && fitB xb) = false → ∀ g₂ x dx all h' tk', Fr h₀ L g₂ m → g₂.UpToSlots h' → RaisedT base (envX cn cs L a ccd cl :: outer) x dx all h' → (∀ p ∈ news, p ∈ all) → ThrownD all dx → E (.ref x) { s with heap := h', toks := tk' }) :
  wpAny (model PySem.Challenge.rw_xm0677_01.row.prog w) (ktrTop dp un gd cn cs L a ccd cl outer) (call (.ref 140) [.str (Str.ofString "BigInt") t, .ref p]) Q E s := by
  revert X; k_fill; intro X
  refine wpAny_call ?_
  k_dflt ktr_enter
  rename Fr h₀ L _ m => FG
  replace H1 := H1.lift FG
  repeat' ((fail_if_success (first | (with_reducible show WhlRest _ _ _ _ _ _ _ _ _ _ _) | (with_reducible show wpAny _ _ (exec (Stmt.While _ _ _ _) _) _ _ _) | (with_reducible show WhlIf _ _ _) | (with_reducible show wpAny _ _ (call (Value.ref 111) _) _ _ _))); first | (k_unfold; (try dsimp only)) | (k_end; wrow_close) | walk1 | (dsimp only; walk1) | (leave1; (try dsimp only)))
  all_goals first
    | ((with_reducible show wpAny _ _ (call (Value.ref 111) _) _ _ _)
       k_dflt (refine' thrown_ctr ?k1 ?k2 ?k3 ?k4 ?k5 ?kK _ _ ?kd ?_; (case k1 => k_asm); (case k2 => k_asm); (case k3 => k_asm); (case k4 => k_asm); (case k5 => k_asm); (case kK => first | exact rfl | assumption); (case kd => ktr_room))
       intro x y dx all h9 tk9 F9 N9 hx hsub hthr
       refine ⟨_, _, _, _, Frag.In.keeps (by assumption) F9.keep, rfl, (N9 _ hx).1, ?_⟩
       k_unfold
       refine leaveA (news := all.filter fun p => decide (p.1 ≠ x)) (by assumption) F9 N9 hx (fun p hp => ?_) ?_
       · obtain ⟨h1, h2⟩ := List.mem_filter.mp hp
         exact ⟨h1, of_decide_eq_true h2⟩
       intro h8 R8 U8
       refine hexc ?_ _ _ _ _ _ _ FG U8 R8 (fun p hp => List.mem_filter.mpr ⟨(hsub p hp).1, decide_eq_true (hsub p hp).2⟩) hthr
       simp_all)
    | (refine hret ?_ _ _ (by assumption) (by assumption); simp_all)
    | (exfalso; omega)
end Mine
end
section
namespace Mine
inductive Out where
  | val (a b : Int) | over | bad

def prodP (a b c d : Int) : Option (Int × Int) := if a * c = 0 ∧ b * d = 0 then none else some ((a * c).fdiv (lowC (a * c) (b * d)), (b * d).fdiv (lowC (a * c) (b * d)))
def powQ (k : Int → Int → Int → Int → Int → Out) (f1 f2 s1 s2 l : Int) : Out := if 0 < l then (match prodP s1 s2 s1 s2 with
      | none => .bad
      | some (c, d) => if (fitB c && fitB d) = true then k f1 f2 c d l else .over) else k f1 f2 s1 s2 l
def powP : Nat → Int → Int → Int → Int → Int → Out
  | 0 => fun _ _ _ _ _ => .bad
  | n + 1 => fun f1 f2 s1 s2 l => if 0 < l then (if l.fmod 2 = 1 then (match prodP f1 f2 s1 s2 with
      | none => .bad
      | some (a, b) => if (fitB a && fitB b) = true then powQ (powP n) a b s1 s2 (l.fdiv 2) else .over) else powQ (powP n) f1 f2 s1 s2 (l.fdiv 2)) else .val f1 f2
def startP (a b e : Int) : Int × Int := if e < 0 then (b.fdiv (lowC b a), a.fdiv (lowC b a)) else (a, b)
def absP (e : Int) : Int := if e < 0 then -e else e
def outP (a b e : Int) : Out := powP 14 1 1 (startP a b e).1 (startP a b e).2 (absP e)
theorem prodP_some {a b c d x y : Int} (h : prodP a b c d = some (x, y)) : ¬ (a * c = 0 ∧ b * d = 0) ∧ (a * c).fdiv (lowC (a * c) (b * d)) = x ∧ (b * d).fdiv (lowC (a * c) (b * d)) = y := by
  unfold prodP at h
  split at h
  · cases h
  · rename_i hn
    obtain ⟨h1, h2⟩ := Prod.mk.inj (Option.some.inj h)
    exact ⟨hn, h1, h2⟩
theorem powP_pos {n : Nat} {f1 f2 s1 s2 l : Int} {out : Out} (h : powP (n + 1) f1 f2 s1 s2 l = out) (hb : out ≠ .bad) (hl : 0 < l) :
    (l.fmod 2 = 1 → ∃ a b, prodP f1 f2 s1 s2 = some (a, b) ∧ (((fitB a && fitB b) = true ∧ powQ (powP n) a b s1 s2 (l.fdiv 2) = out) ∨ ((fitB a && fitB b) = false ∧ out = .over))) ∧
    (¬ l.fmod 2 = 1 → powQ (powP n) f1 f2 s1 s2 (l.fdiv 2) = out) := by
  unfold powP at h
  rw [if_pos hl] at h
  refine ⟨fun ho => ?_, fun ho => ?_⟩
  · rw [if_pos ho] at h
    cases hp : prodP f1 f2 s1 s2 with
    | none => rw [hp] at h; exact absurd h.symm hb
    | some q =>
      obtain ⟨a, b⟩ := q
      rw [hp] at h
      dsimp only at h
      refine ⟨a, b, rfl, ?_⟩
      cases hf : (fitB a && fitB b) with
      | true => rw [hf, if_pos rfl] at h; exact .inl ⟨rfl, h⟩
      | false => rw [hf, if_neg Bool.false_ne_true] at h; exact .inr ⟨rfl, h.symm⟩
  · rw [if_neg ho] at h; exact h
theorem powP_neg {n : Nat} {f1 f2 s1 s2 l : Int} {out : Out} (h : powP (n + 1) f1 f2 s1 s2 l = out) (hl : ¬ 0 < l) : out = .val f1 f2 := by
  unfold powP at h
  rw [if_neg hl] at h
  exact h.symm
theorem powQ_pos {k : Int → Int → Int → Int → Int → Out} {f1 f2 s1 s2 l : Int} {out : Out} (h : powQ k f1 f2 s1 s2 l = out) (hb : out ≠ .bad) (hl : 0 < l) :
    ∃ c d, prodP s1 s2 s1 s2 = some (c, d) ∧ (((fitB c && fitB d) = true ∧ k f1 f2 c d l = out) ∨ ((fitB c && fitB d) = false ∧ out = .over)) := by
  unfold powQ at h
  rw [if_pos hl] at h
  cases hp : prodP s1 s2 s1 s2 with
  | none => rw [hp] at h; exact absurd h.symm hb
  | some q =>
    obtain ⟨a, b⟩ := q
    rw [hp] at h
    dsimp only at h
    refine ⟨a, b, rfl, ?_⟩
    cases hf : (fitB a && fitB b) with
    | true => rw [hf, if_pos rfl] at h; exact .inl ⟨rfl, h⟩
    | false => rw [hf, if_neg Bool.false_ne_true] at h; exact .inr ⟨rfl, h.symm⟩
theorem powQ_neg {k : Int → Int → Int → Int → Int → Out} {f1 f2 s1 s2 l : Int} {out : Out} (h : powQ k f1 f2 s1 s2 l = out) (hl : ¬ 0 < l) : k f1 f2 s1 s2 l = out := by
  unfold powQ at h
  rw [if_neg hl] at h
  exact h
theorem fit_of {a : Int} (h : fitB a = true) : Fit 4000 a := of_decide_eq_true (p := a.natAbs < 2 ^ 4000) h
theorem fit_and {a b : Int} (h : (fitB a && fitB b) = true) : Fit 4000 a ∧ Fit 4000 b := by
  rw [Bool.and_eq_true] at h
  exact ⟨fit_of h.1, fit_of h.2⟩
def FndIn (all : List (Addr × Obj)) (p : Addr) (a b : Int) : Prop := (∃ t u c, (p, tupO a b t u c) ∈ all) ∨ (p = 112 ∧ a = 1 ∧ b = 1)
theorem one_tup {P : Params} {h : Heap} (X : (hd.heap_39 P).In h) : ∃ t u, IsTup h 112 #[.int 1 t, .int 1 u] := ⟨_, _, tupK (l := [_, _]) X rfl⟩
theorem FndIn.tup {all : List (Addr × Obj)} {p : Addr} {a b : Int} {P : Params} {g : Heap} (H : FndIn all p a b) (X : (hd.heap_39 P).In g) : TupIn g all p a b := by
  rcases H with h | ⟨rfl, rfl, rfl⟩
  · exact .inl h
  · exact .inr (one_tup X)
theorem TupIn.more {g : Heap} {all all' : List (Addr × Obj)} {p : Addr} {a b : Int} (H : TupIn g all p a b) (sub : ∀ q ∈ all, q ∈ all') : TupIn g all' p a b := by
  rcases H with ⟨t, u, c, h⟩ | h
  · exact .inl ⟨t, u, c, sub _ h⟩
  · exact .inr h
theorem FndIn.more {all all' : List (Addr × Obj)} {p : Addr} {a b : Int} (H : FndIn all p a b) (sub : ∀ q ∈ all, q ∈ all') : FndIn all' p a b := by
  rcases H with ⟨t, u, c, h⟩ | h
  · exact .inl ⟨t, u, c, sub _ h⟩
  · exact .inr h
theorem sub_cons {all : List (Addr × Obj)} {q : Addr × Obj} : ∀ p ∈ all, p ∈ q :: all := fun _ h => .tail _ h
theorem fr3 {g h : Heap} {L : Addr} {m : Str → Option Value} {x y z : Str} {a b c : Value} (F : Fr g L h m) (hx : m x = some a) (hy : m y = some b) (hz : m z = some c) :
    Fr g L h (fun k => if k = x then some a else if k = y then some b else if k = z then some c else m k) := by
  have e : m = (fun k => if k = x then some a else if k = y then some b else if k = z then some c else m k) := by
    funext k
    by_cases h1 : k = x
    · rw [if_pos h1, h1, hx]
    · rw [if_neg h1]
      by_cases h2 : k = y
      · rw [if_pos h2, h2, hy]
      · rw [if_neg h2]
        by_cases h3 : k = z
        · rw [if_pos h3, h3, hz]
        · rw [if_neg h3]
  rw [← e]; exact F
def PowInv (s0 : Shared) (g : Heap) (L : Addr) (news : List (Addr × Obj)) (out : Out) (n : Nat) (s' : Shared) : Prop :=
  ∃ (f1 f2 s1 s2 l : Int) (pf ps : Addr) (tl : Tok) (h : Heap) (tk : Nat) (M : Str → Option Value) (all : List (Addr × Obj)), s' = { s0 with heap := h, toks := tk } ∧ powP n f1 f2 s1 s2 l = out ∧
    Fit 4000 f1 ∧ Fit 4000 f2 ∧ Fit 4000 s1 ∧ Fit 4000 s2 ∧
    Fr g L h (fun k => if k = Str.ofString "found" then some (.ref pf) else if k = Str.ofString "square" then some (.ref ps) else if k = Str.ofString "left" then some (.int l tl) else M k) ∧
    News g L h all ∧ (∀ p ∈ news, p ∈ all) ∧ FndIn all pf f1 f2 ∧ TupIn g all ps s1 s2
theorem powInv_intro {s0 : Shared} {g : Heap} {L : Addr} {news all : List (Addr × Obj)} {out : Out} {n : Nat} {f1 f2 s1 s2 l : Int} {pf ps : Addr} {tl : Tok} {h : Heap} {tk : Nat} {m : Str → Option Value}
    (F : Fr g L h m) (N : News g L h all) (sub : ∀ p ∈ news, p ∈ all) (h1 : m (Str.ofString "found") = some (.ref pf)) (h2 : m (Str.ofString "square") = some (.ref ps)) (h3 : m (Str.ofString "left") = some (.int l tl))
    (T1 : FndIn all pf f1 f2) (T2 : TupIn g all ps s1 s2) (a : Fit 4000 f1) (b : Fit 4000 f2) (c : Fit 4000 s1) (d : Fit 4000 s2) (e : powP n f1 f2 s1 s2 l = out) : PowInv s0 g L news out n { s0 with heap := h, toks := tk } :=
  ⟨f1, f2, s1, s2, l, pf, ps, tl, h, tk, m, all, rfl, e, a, b, c, d, fr3 F h1 h2 h3, N, sub, T1, T2⟩
theorem half_pos {l : Int} (hl : 0 < l) (h : ¬ l.fmod 2 = 1) : 0 < l.fdiv 2 := by
  rw [Int.fmod_eq_emod_of_nonneg l (by omega)] at h
  rw [Int.fdiv_eq_ediv_of_nonneg l (by omega)]
  omega
theorem fit_one : Fit 4000 1 := by
  have : fitB 1 = true := by decide +kernel
  exact fit_of this
end Mine
end
section
namespace Mine
local macro_rules | `(tactic| k_room) => `(tactic| ktr_room)
local macro_rules | `(tactic| walk_at "call ref") => `(tactic| ((with_reducible show wpAny _ _ (call (Value.ref 147) _) _ _ _); k_dflt (refine' turn_ctr ?k1 ?k2 ?k3 ?k4 ?k5 ?kK _ ?h1 ?kd ?f1 ?f2 ?bad ?_; (case k1 => k_asm); (case k2 => k_asm); (case k3 => k_asm); (case k4 => k_asm); (case k5 => k_asm); (case kK => first | exact rfl | assumption); (case h1 => assumption); (case kd => ktr_room); (case f1 => assumption); (case f2 => assumption); (case bad => first | assumption | omega); intro D9 t9 u9 n9 h9 tk9 F9 N9 l9; (try dsimp only); (try k_fold))))
theorem pow_ctr {w : World} {mean : ExcName → Option Value} {mg mb : Str → Option Value} {dp un : Nat} {gd : Option (List Code)} {cn : Str} {cs : Scope} {a : Addr} {ccd : Value} {cl : List (Str × Addr)} {outer : List Env} {A₀ : Around} {base h₀ : Heap} {L : Addr} {m : Str → Option Value} {s : Shared} {Q E : Value → Shared → Prop} {news : List (Addr × Obj)}
  (B : Below A₀ base outer h₀) (F : Fr h₀ L s.heap m) (X : (hd.heap_39 w.params).In h₀) (N : News h₀ L s.heap news) (T : Top hd.view_39 LW mean mg mb h₀) (hk : cs.kind = .function)
  (p : Addr) {xa xb e : Int} (u : Tok) (H1 : TupIn h₀ news p xa xb) (hdp : dp + 7 < recursionLimit)
  (hfa : Fit 8000 xa) (hfb : Fit 8000 xb) (hturn : e < 0 → ¬ (xb = 0 ∧ xa = 0)) (hs1 : Fit 4000 (startP xa xb e).1) (hs2 : Fit 4000 (startP xa xb e).2) (hnb : outP xa xb e ≠ .bad)
  (hret : ∀ a b, outP xa xb e = .val a b → ∀ D all h' tk', Fr h₀ L h' m → News h₀ L h' all → (∀ p ∈ news, p ∈ all) → FndIn all D a b → Q (.ref D) { s with heap := h', toks := tk' })
  (hexc : outP xa xb e = .over → ∀ g₂ x dx all h' tk', Fr h₀ L g₂ m → g₂.UpToSlots h' → RaisedT base (envX cn cs L a ccd cl :: outer) x dx all h' → (∀ p ∈ news, p ∈ all) → ThrownD all dx → E (.ref x) { s with heap := h', toks := tk' }) :
  wpAny (model PySem.Challenge.rw_xm0677_01.row.prog w) (ktrTop dp un gd cn cs L a ccd cl outer) (call (.ref 161) [.ref p, .int e u]) Q E s := by
  generalize hout : outP xa xb e = out at *
  revert X; k_fill; intro X
  refine wpAny_call ?_
  k_dflt (refine' code_def ?k1 ?k2 ?k3 ?k4 ?k5 ?kA ?kF ?kK ?k6 ?k7 ?k8 ?k9 ?kB ?_ ?c2 ?c3 ?c4 ?c5; (case kA => exact rfl); (case kF => exact rfl); (case kK => assumption); (case k1 => k_asm); (case k2 => k_asm); (case k3 => k_asm); (case k4 => k_asm); (case k5 => k_asm); (case k6 => k_is); (case k7 => k_is); (case k8 => ktr_room); (case k9 => exact BindsTo.of_eq rfl); (case c5 => decide); (case kB => exact locs rfl); (case c2 => exact rfl); (case c3 => exact rfl); (case c4 => exact rfl); k_whole; intro gC LC hC FG FC NC BC XC TC; (try dsimp only))
  have H1' := H1.lift FG
  refine wpAny_execs_cons (wpAny_mono (Q := fun fl s' => fl = Flow.next ∧ PowInv s gC LC news out 14 s') ?a ?b fun _ _ z => z)
  case a =>
    repeat' ((fail_if_success (first | (with_reducible show WhlRest _ _ _ _ _ _ _ _ _ _ _) | (with_reducible show wpAny _ _ (exec (Stmt.While _ _ _ _) _) _ _ _) | (with_reducible show WhlIf _ _ _))); first | (k_unfold; (try dsimp only)) | (k_end; wrow_close) | walk1 | (dsimp only; walk1) | (leave1; (try dsimp only)))
    all_goals first
      | exact trivial
      | ((have hst : startP xa xb e = (xa, xb) := if_neg (by omega))
         rw [hst] at hs1 hs2
         exact powInv_intro (f1 := 1) (f2 := 1) (s1 := xa) (s2 := xb) (l := absP e) (by k_asm) (by k_asm) sub_cons rfl rfl rfl (.inr ⟨rfl, rfl, rfl⟩) (H1'.more sub_cons) fit_one fit_one hs1 hs2 (by rw [← hout]; unfold outP; rw [hst]))
      | ((have hst : startP xa xb e = (xb.fdiv (lowC xb xa), xa.fdiv (lowC xb xa)) := if_pos (by omega))
         rw [hst] at hs1 hs2
         exact powInv_intro (f1 := 1) (f2 := 1) (s1 := xb.fdiv (lowC xb xa)) (s2 := xa.fdiv (lowC xb xa)) (l := absP e) (by k_asm) (by k_asm) (fun p hp => .tail _ (.tail _ hp)) rfl rfl rfl (.inr ⟨rfl, rfl, rfl⟩) (.inl ⟨_, _, _, .tail _ (.head _)⟩) fit_one fit_one hs1 hs2 (by rw [← hout]; unfold outP; rw [hst]))
      | (exfalso; omega)
  case b =>
    rintro fl s' ⟨rfl, hI⟩
    dsimp only
    repeat' ((fail_if_success (first | (with_reducible show WhlRest _ _ _ _ _ _ _ _ _ _ _) | (with_reducible show wpAny _ _ (exec (Stmt.While _ _ _ _) _) _ _ _) | (with_reducible show WhlIf _ _ _))); first | (k_unfold; (try dsimp only)) | (k_end; wrow_close) | walk1 | (dsimp only; walk1) | (leave1; (try dsimp only)))
    refine whl_start 0 ?_
    refine whl_ind (PowInv s gC LC news out) hI ?_
    clear hI
    rintro n s' ⟨f1, f2, s1, s2, l, pf, ps, tl, h, tk, M, all, rfl, hp, a1, a2, a3, a4, F2, N2, sub, T1, T2⟩ IH
    cases n with
    | zero => exact absurd hp.symm hnb
    | succ n =>
    have T1' := T1.tup XC
    refine whl_turn (k := 0) ?hE ?_
    · first | passes_own | with_unfolding_all passes_own
    repeat' ((fail_if_success (first | (with_reducible show WhlRest _ _ _ _ _ _ _ _ _ _ _) | (with_reducible show wpAny _ _ (exec (Stmt.While _ _ _ _) _) _ _ _) | (with_reducible show WhlIf _ _ _))); first | (k_unfold; (try dsimp only)) | (k_end; wrow_close) | walk1 | (dsimp only; walk1) | (leave1; (try dsimp only)))
    by_cases hl : 0 < l
    · refine WhlIf.yes (by simpa using hl) ?_
      obtain ⟨hodd, heven⟩ := powP_pos hp hnb hl
      repeat' ((fail_if_success (first | (with_reducible show WhlRest _ _ _ _ _ _ _ _ _ _ _) | (with_reducible show wpAny _ _ (exec (Stmt.While _ _ _ _) _) _ _ _) | (with_reducible show WhlIf _ _ _) | (with_reducible show wpAny _ _ (call (Value.ref 154) _) _ _ _) | (with_reducible show wpAny _ _ (call (Value.ref 140) _) _ _ _))); first | (k_unfold; (try dsimp only)) | (k_end; wrow_close) | walk1 | (dsimp only; walk1) | (leave1; (try dsimp only)))
      all_goals first
        | (have ho : l.fmod 2 = 1 := by assumption
           obtain ⟨y1, y2, hpr, hc⟩ := hodd ho
           obtain ⟨hb1, e1, e2⟩ := prodP_some hpr
           k_dflt (refine' prod_ctr ?k1 ?k2 ?k3 ?k4 ?k5 ?kK _ _ ?h1 ?h2 ?kd ?f1 ?f2 ?f3 ?f4 ?bad ?_; (case k1 => k_asm); (case k2 => k_asm); (case k3 => k_asm); (case k4 => k_asm); (case k5 => k_asm); (case kK => first | exact rfl | assumption); (case h1 => first | assumption | exact TupIn.more (by assumption) sub_cons); (case h2 => first | assumption | exact TupIn.more (by assumption) sub_cons); (case kd => ktr_room); (case f1 => assumption); (case f2 => assumption); (case f3 => assumption); (case f4 => assumption); (case bad => assumption))
           intro D9 t9 u9 n9 h9 tk9 F9 N9 l9
           simp only [e1, e2] at N9
           (try dsimp only)
           repeat' ((fail_if_success (first | (with_reducible show WhlRest _ _ _ _ _ _ _ _ _ _ _) | (with_reducible show wpAny _ _ (exec (Stmt.While _ _ _ _) _) _ _ _) | (with_reducible show WhlIf _ _ _) | (with_reducible show wpAny _ _ (call (Value.ref 154) _) _ _ _) | (with_reducible show wpAny _ _ (call (Value.ref 140) _) _ _ _))); first | (k_unfold; (try dsimp only)) | (k_end; wrow_close) | walk1 | (dsimp only; walk1) | (leave1; (try dsimp only)))
           k_dflt (refine' room_ctr ?k1 ?k2 ?k3 ?k4 ?k5 ?kK _ _ ?h1 ?kd ?ret ?exc; (case k1 => k_asm); (case k2 => k_asm); (case k3 => k_asm); (case k4 => k_asm); (case k5 => k_asm); (case kK => first | exact rfl | assumption); (case h1 => exact .inl ⟨_, _, _, List.Mem.head _⟩); (case kd => ktr_room))
           case exc =>
             intro hnf g₂ x dx all9 h8 tk8 F8 U8 R8 S8 T8
             have hov : out = .over := by
               rcases hc with ⟨h, _⟩ | ⟨_, h⟩
               · rw [h] at hnf; cases hnf
               · exact h
             try k_unfold
             exact leaveB BC F8 R8 U8 fun h7 R7 U7 => hexc hov gC x dx all9 h7 tk8 FG U7 R7 (fun p hp => S8 p (by repeat (first | exact sub p hp | refine List.Mem.tail _ ?_))) T8
           case ret =>
           intro hfit h9 tk9 F9 N9
           obtain ⟨hg1, hg2⟩ := fit_and hfit
           (try dsimp only)
           have hq : powQ (powP n) y1 y2 s1 s2 (l.fdiv 2) = out := by
             rcases hc with ⟨_, h⟩ | ⟨h, _⟩
             · exact h
             · rw [h] at hfit; cases hfit
           repeat' ((fail_if_success (first | (with_reducible show WhlRest _ _ _ _ _ _ _ _ _ _ _) | (with_reducible show wpAny _ _ (exec (Stmt.While _ _ _ _) _) _ _ _) | (with_reducible show WhlIf _ _ _) | (with_reducible show wpAny _ _ (call (Value.ref 154) _) _ _ _) | (with_reducible show wpAny _ _ (call (Value.ref 140) _) _ _ _))); first | (k_unfold; (try dsimp only)) | (k_end; wrow_close) | walk1 | (dsimp only; walk1) | (leave1; (try dsimp only)))
           all_goals first
             | ((with_reducible show wpAny _ _ (call (Value.ref 154) _) _ _ _)
                obtain ⟨z1, z2, hpr2, hc2⟩ := powQ_pos hq hnb (by first | assumption | exact half_pos hl (by assumption))
                obtain ⟨hb2, e3, e4⟩ := prodP_some hpr2
                k_dflt (refine' prod_ctr ?k1 ?k2 ?k3 ?k4 ?k5 ?kK _ _ ?h1 ?h2 ?kd ?f1 ?f2 ?f3 ?f4 ?bad ?_; (case k1 => k_asm); (case k2 => k_asm); (case k3 => k_asm); (case k4 => k_asm); (case k5 => k_asm); (case kK => first | exact rfl | assumption); (case h1 => first | assumption | exact TupIn.more (by assumption) sub_cons); (case h2 => first | assumption | exact TupIn.more (by assumption) sub_cons); (case kd => ktr_room); (case f1 => assumption); (case f2 => assumption); (case f3 => assumption); (case f4 => assumption); (case bad => assumption))
                intro D8 t8 u8 n8 h8 tk8 F8 N8 l8
                simp only [e3, e4] at N8
                (try dsimp only)
                repeat' ((fail_if_success (first | (with_reducible show WhlRest _ _ _ _ _ _ _ _ _ _ _) | (with_reducible show wpAny _ _ (exec (Stmt.While _ _ _ _) _) _ _ _) | (with_reducible show WhlIf _ _ _) | (with_reducible show wpAny _ _ (call (Value.ref 154) _) _ _ _) | (with_reducible show wpAny _ _ (call (Value.ref 140) _) _ _ _))); first | (k_unfold; (try dsimp only)) | (k_end; wrow_close) | walk1 | (dsimp only; walk1) | (leave1; (try dsimp only)))
                k_dflt (refine' room_ctr ?k1 ?k2 ?k3 ?k4 ?k5 ?kK _ _ ?h1 ?kd ?ret ?exc; (case k1 => k_asm); (case k2 => k_asm); (case k3 => k_asm); (case k4 => k_asm); (case k5 => k_asm); (case kK => first | exact rfl | assumption); (case h1 => exact .inl ⟨_, _, _, List.Mem.head _⟩); (case kd => ktr_room))
                case exc =>
                  intro hnf g₂ x dx all9 h8 tk8 F8 U8 R8 S8 T8
                  have hov : out = .over := by
                    rcases hc2 with ⟨h, _⟩ | ⟨_, h⟩
                    · rw [h] at hnf; cases hnf
                    · exact h
                  try k_unfold
                  exact leaveB BC F8 R8 U8 fun h7 R7 U7 => hexc hov gC x dx all9 h7 tk8 FG U7 R7 (fun p hp => S8 p (by repeat (first | exact sub p hp | refine List.Mem.tail _ ?_))) T8
                case ret =>
                intro hfit h9 tk9 F9 N9
                obtain ⟨hg1, hg2⟩ := fit_and hfit
                (try dsimp only)
                repeat' ((fail_if_success (first | (with_reducible show WhlRest _ _ _ _ _ _ _ _ _ _ _) | (with_reducible show wpAny _ _ (exec (Stmt.While _ _ _ _) _) _ _ _) | (with_reducible show WhlIf _ _ _))); first | (k_unfold; (try dsimp only)) | (k_end; wrow_close) | walk1 | (dsimp only; walk1) | (leave1; (try dsimp only)))
                have hk2 := (hc2.resolve_right (fun h => by rw [h.1] at hfit; cases hfit)).2
                rename Fr _ _ _ _ => Fz
                rename News _ _ _ _ => Nz
                exact IH _ n (Nat.lt_succ_self n) (powInv_intro Fz Nz (fun p hp => by repeat (first | exact sub p hp | refine List.Mem.tail _ ?_)) rfl rfl rfl (by first | exact FndIn.more T1 (fun p hp => by repeat (first | exact hp | refine List.Mem.tail _ ?_)) | exact .inl ⟨_, _, _, by k_mem⟩) (by first | exact TupIn.more T2 (fun p hp => by repeat (first | exact hp | refine List.Mem.tail _ ?_)) | exact .inl ⟨_, _, _, by k_mem⟩) (by assumption) (by assumption) (by assumption) (by assumption) hk2))
             | ((with_reducible show WhlRest _ _ _ _ _ _ _ _ _ _ _)
                have hk2 := powQ_neg hq (by first | assumption | exact half_pos hl (by assumption))
                rename Fr _ _ _ _ => Fz
                rename News _ _ _ _ => Nz
                exact IH _ n (Nat.lt_succ_self n) (powInv_intro Fz Nz (fun p hp => by repeat (first | exact sub p hp | refine List.Mem.tail _ ?_)) rfl rfl rfl (by first | exact FndIn.more T1 (fun p hp => by repeat (first | exact hp | refine List.Mem.tail _ ?_)) | exact .inl ⟨_, _, _, by k_mem⟩) (by first | exact TupIn.more T2 (fun p hp => by repeat (first | exact hp | refine List.Mem.tail _ ?_)) | exact .inl ⟨_, _, _, by k_mem⟩) (by assumption) (by assumption) (by assumption) (by assumption) hk2))
             | (exfalso; first | contradiction | omega)
             | (exfalso; omega))
        | (have hq := heven (by assumption)
           first
             | ((with_reducible show wpAny _ _ (call (Value.ref 154) _) _ _ _)
                obtain ⟨z1, z2, hpr2, hc2⟩ := powQ_pos hq hnb (by first | assumption | exact half_pos hl (by assumption))
                obtain ⟨hb2, e3, e4⟩ := prodP_some hpr2
                k_dflt (refine' prod_ctr ?k1 ?k2 ?k3 ?k4 ?k5 ?kK _ _ ?h1 ?h2 ?kd ?f1 ?f2 ?f3 ?f4 ?bad ?_; (case k1 => k_asm); (case k2 => k_asm); (case k3 => k_asm); (case k4 => k_asm); (case k5 => k_asm); (case kK => first | exact rfl | assumption); (case h1 => first | assumption | exact TupIn.more (by assumption) sub_cons); (case h2 => first | assumption | exact TupIn.more (by assumption) sub_cons); (case kd => ktr_room); (case f1 => assumption); (case f2 => assumption); (case f3 => assumption); (case f4 => assumption); (case bad => assumption))
                intro D8 t8 u8 n8 h8 tk8 F8 N8 l8
                simp only [e3, e4] at N8
                (try dsimp only)
                repeat' ((fail_if_success (first | (with_reducible show WhlRest _ _ _ _ _ _ _ _ _ _ _) | (with_reducible show wpAny _ _ (exec (Stmt.While _ _ _ _) _) _ _ _) | (with_reducible show WhlIf _ _ _) | (with_reducible show wpAny _ _ (call (Value.ref 154) _) _ _ _) | (with_reducible show wpAny _ _ (call (Value.ref 140) _) _ _ _))); first | (k_unfold; (try dsimp only)) | (k_end; wrow_close) | walk1 | (dsimp only; walk1) | (leave1; (try dsimp only)))
                k_dflt (refine' room_ctr ?k1 ?k2 ?k3 ?k4 ?k5 ?kK _ _ ?h1 ?kd ?ret ?exc; (case k1 => k_asm); (case k2 => k_asm); (case k3 => k_asm); (case k4 => k_asm); (case k5 => k_asm); (case kK => first | exact rfl | assumption); (case h1 => exact .inl ⟨_, _, _, List.Mem.head _⟩); (case kd => ktr_room))
                case exc =>
                  intro hnf g₂ x dx all9 h8 tk8 F8 U8 R8 S8 T8
                  have hov : out = .over := by
                    rcases hc2 with ⟨h, _⟩ | ⟨_, h⟩
                    · rw [h] at hnf; cases hnf
                    · exact h
                  try k_unfold
                  exact leaveB BC F8 R8 U8 fun h7 R7 U7 => hexc hov gC x dx all9 h7 tk8 FG U7 R7 (fun p hp => S8 p (by repeat (first | exact sub p hp | refine List.Mem.tail _ ?_))) T8
                case ret =>
                intro hfit h9 tk9 F9 N9
                obtain ⟨hg1, hg2⟩ := fit_and hfit
                (try dsimp only)
                repeat' ((fail_if_success (first | (with_reducible show WhlRest _ _ _ _ _ _ _ _ _ _ _) | (with_reducible show wpAny _ _ (exec (Stmt.While _ _ _ _) _) _ _ _) | (with_reducible show WhlIf _ _ _))); first | (k_unfold; (try dsimp only)) | (k_end; wrow_close) | walk1 | (dsimp only; walk1) | (leave1; (try dsimp only)))
                have hk2 := (hc2.resolve_right (fun h => by rw [h.1] at hfit; cases hfit)).2
                rename Fr _ _ _ _ => Fz
                rename News _ _ _ _ => Nz
                exact IH _ n (Nat.lt_succ_self n) (powInv_intro Fz Nz (fun p hp => by repeat (first | exact sub p hp | refine List.Mem.tail _ ?_)) rfl rfl rfl (by first | exact FndIn.more T1 (fun p hp => by repeat (first | exact hp | refine List.Mem.tail _ ?_)) | exact .inl ⟨_, _, _, by k_mem⟩) (by first | exact TupIn.more T2 (fun p hp => by repeat (first | exact hp | refine List.Mem.tail _ ?_)) | exact .inl ⟨_, _, _, by k_mem⟩) (by assumption) (by assumption) (by assumption) (by assumption) hk2))
             | ((with_reducible show WhlRest _ _ _ _ _ _ _ _ _ _ _)
                have hk2 := powQ_neg hq (by first | assumption | exact half_pos hl (by assumption))
                rename Fr _ _ _ _ => Fz
                rename News _ _ _ _ => Nz
                exact IH _ n (Nat.lt_succ_self n) (powInv_intro Fz Nz (fun p hp => by repeat (first | exact sub p hp | refine List.Mem.tail _ ?_)) rfl rfl rfl (by first | exact FndIn.more T1 (fun p hp => by repeat (first | exact hp | refine List.Mem.tail _ ?_)) | exact .inl ⟨_, _, _, by k_mem⟩) (by first | exact TupIn.more T2 (fun p hp => by repeat (first | exact hp | refine List.Mem.tail _ ?_)) | exact .inl ⟨_, _, _, by k_mem⟩) (by assumption) (by assumption) (by assumption) (by assumption) hk2))
             | (exfalso; first | contradiction | omega)
             | (exfalso; omega))
        | (exfalso; first | contradiction | omega)
        | (exfalso; omega)
    · refine WhlIf.no (by simpa using hl) ?_
      repeat' ((fail_if_success (first | (with_reducible show WhlRest _ _ _ _ _ _ _ _ _ _ _) | (with_reducible show wpAny _ _ (exec (Stmt.While _ _ _ _) _) _ _ _) | (with_reducible show WhlIf _ _ _))); first | (k_unfold; (try dsimp only)) | (k_end; wrow_close) | walk1 | (dsimp only; walk1) | (leave1; (try dsimp only)))
      exact hret f1 f2 (powP_neg hp hl) _ _ _ _ (by assumption) (by assumption) sub T1
end Mine
end
section
namespace Mine
section
variable {w : World} {A : Around} {E : Value → Shared → Prop} {prog : Program} {s : Shared} {h₀ : Heap} {L x dx : Addr} {m : Str → Option Value} {news : List (Addr × Obj)} {name : Str} {v : Value} {es : List DictEntry} {n : Nat}
  {vs : Array Value} {sl : Array (Option Value)} {expr : Bool} {Q : Value → Shared → Prop}
theorem exc_get81 (F : Fr h₀ L s.heap m) (N : News h₀ L s.heap news) (X₀ : (hd.heap_39 w.params).In h₀) (hx : (x, (⟨.ref 81, some dx, .fields vs, sl⟩ : Obj)) ∈ news) (hm : (dx, dictOf es n) ∈ news)
    (hg : findIn (hd.heap_39 w.params) (.ref 81) "__getattribute__" = some (some (.builtin "BaseException.__getattribute__")))
    (hd1 : hasDictIn (hd.heap_39 w.params) 81 = true) (hf : findIn (hd.heap_39 w.params) (.ref 81) name = some none) (hk : findIn (hd.heap_39 w.params) (.ref 81) "__getattr__" = some none)
    (hl : getL name es = some (some v)) (hh : handedIn v = true) (h : Q v { s with toks := s.toks + 1 }) : wpAny (model prog w) A (getAttr (.ref x) name expr) Q E s := by
  have X := X₀.keeps F.keep
  obtain ⟨nm, q, N0, bs, hdct, sn, sub, ab, col, dd, k0, k1, k2, k3, k5, hC⟩ := cls81 X
  have I : InstAt s.heap x (⟨.ref 81, some dx, .fields vs, sl⟩ : Obj) 81 (some (dictOf es n)) := ⟨(N _ hx).1, rfl, rfl, (N _ hm).1⟩
  have fo : findObj (hd.heap_39 w.params) 81 (some (dictOf es n)) name = some (.value v) := findObj_own hd1 hf rfl hl
  have LT := I.type (M := model prog w)
  have st : Looks (model prog w) s.heap (isSubtype (.ref 81) (.type "BaseException")) true := fun A Q E s k q => by
    obtain ⟨hh, g, d, t, os⟩ := s
    exact wpAny_isSubtype_exc (k _ _ hC) (by rw [show (Value.ref 81 :: bm81).contains (.type "BaseException") = true by decide +kernel]; exact q)
  have LF := looks_find (M := model prog w) X I fo
  obtain ⟨hp, g, d, t, os⟩ := s
  refine wpAny_bind (wpAny_mkText (wpAny_holding (wpAny_bind (LT.at (wpAny_bind ((looks_findIn X hg).at ?_))))))
  dsimp only
  rw [show (onTheHeap (Value.ref 81) && Value.builtin "BaseException.__getattribute__" == Value.builtin "object.__getattribute__") = false from by rw [show (Value.builtin "BaseException.__getattribute__" == Value.builtin "object.__getattribute__") = false from by decide +kernel, Bool.and_false], if_neg (by decide)]
  refine wpAny_bind ((looks_hook (mc := .ref 81) X (r := none) hk).at (wpAny_bind (wpAny_attempt (wpAny_holding ?_))))
  unfold callGetattribute
  rw [show (expr && onTheHeap (Value.builtin "BaseException.__getattribute__")) = false from Bool.and_false _, if_neg (by decide)]
  unfold boundAndCalled
  rw [PySem.F.excAttr_ValueError.ga.bind]
  refine wpAny_bind (wpAny_pure ?_)
  refine wpAny_call ?_
  refine codeAny_call_builtin PySem.F.excAttr_ValueError.ga.plain PySem.F.entry_bexc_ga ?_
  refine @check_slot (model prog w) _ _ ⟨hp, g, d, t + 1, os⟩ "BaseException.__getattribute__" "BaseException" "__getattribute__" (.ref x) [.str name t] [] _ (by decide +kernel) (by decide +kernel) (LT.andThen st) (PySem.F.args_bexc_ga (.ref x) (.str name t)) ?_
  unfold Builtin.«object.__getattribute__»
  refine wpAny_bind (wpAny_pure (wpAny_bind (wpAny_pure (wpAny_bind (LT.at (wpAny_bind (LF.at ?_)))))))
  refine wpAny_pure ?_
  dsimp only
  exact handed_on hh h
end
end Mine
end
section
namespace Mine
section
variable {prog : Program} {w : World} {A A₀ : Around} {E : Value → Shared → Prop} {s : Shared} {K : Frag} {base h₀ : Heap} {L : Addr} {m mg mb : Str → Option Value} {news : List (Addr × Obj)} {p : Program} {loose : List Str} {mean : ExcName → Option Value}
theorem code_defR {env : Env} {outer : List Env} {R : Result → Shared → Prop} {name qual : Str} {params : Arguments} {body : List Stmt} {scope : Scope} {dV kV doc pm cdv ct oc : Value} {an od : Option Addr} {osl : Array (Option Value)} {f : Addr} {args : Args} {binds : List (Str × Value)}
    (B : Below A₀ base outer h₀) (F : Fr h₀ L s.heap m) (X₀ : K.In h₀) (N : News h₀ L s.heap news) (T : Top p loose mean mg mb h₀) (hA : A.frames = some (env :: outer)) (hf : env.frame = some L) (hke : env.scope.kind = .function)
    (ho : K.lookup f = some ⟨oc, od, .func (fnOf name qual params body scope dV kV doc pm an cdv ct), osl⟩) (hcd : codeIn K cdv qual = true) (hroom : A.depth < recursionLimit)
    (hbind : BindsTo s (fnOf name qual params body scope dV kV doc pm an cdv ct) args binds) (hloc : ∀ y ∈ binds, scope.names.lookup y.1 = some .local)
    (h : ∀ g L' h₁, Fr h₀ L g m → Fr g L' h₁ (fun y => binds.reverse.lookup y) → News g L' h₁ news → Below A base (env :: outer) g → K.In g → Top p loose mean mg mb g → (∀ v s', LeaveK h₀ L m g R v s' → R (.ok (.ret v)) s') →
      wpAny (model prog w) (A.deeper (envOf qual scope L' f cdv)) (execs body (envOf qual scope L' f cdv))
        (fun fl s' => R (.ok (.ret (match fl with | .ret v => v | _ => .none))) s')
        (fun e s' => wpAny (model prog w) (A.deeper (envOf qual scope L' f cdv)) (leaving (envOf qual scope L' f cdv) e) (fun _ s'' => R (.error e) s'') (fun e' s'' => R (.error e') s'') s')
        { s with heap := h₁, toks := s.toks + binds.length })
    (hco : scope.isCoroutine = false) (hgen : scope.isGenerator = false) (hk : scope.kind = .function)
    (hcell : ∀ x ∈ scope.names, x.2 ≠ .cell) : codeAny (model prog w) A (.call (.ref f) args) R s := by
  obtain ⟨FG, BG, st, lv⟩ := groundX (R := R) B F N hA hf hke
  refine codeAny_call_def (fd := fnOf name qual params body scope dV kV doc pm an cdv ct) (body := body) (binds := binds) hroom ((X₀.keeps F.keep) _ _ ho) rfl (T.nolimit.keeps F.keep) (codeRec_of (X₀.keeps F.keep) hcd) rfl hbind hcell hloc (fun h₁ hns hk₁ => ?_) hco hgen hk
  exact h _ s.heap.objs.size h₁ FG ⟨hns, fun b o e => hk₁ b o (of_hideAll _ e), Nat.le_of_eq (hideAll_size _ _)⟩
    (fun p hp => ⟨hk₁ _ _ (N p hp).1, Nat.ne_of_lt (Heap.lt_size (N p hp).1), hideAll_none _ (List.mem_map_of_mem hp)⟩) BG (X₀.keeps st) (T.keeps st) lv
end
section
variable {h₀ g g₂ h B : Heap} {L L' x dx : Addr} {m m' : Str → Option Value} {all : List (Addr × Obj)} {l : List Env} {fl : Value} {env : Env}
theorem groundT (FG : Fr h₀ L g m) (FB : Fr g L' g₂ m') (U : g₂.UpToSlots h) (st : h₀.StaysIn B) (hl : ∀ q ∈ all, B.get? q.1 = some q.2 ∧ h₀.get? q.1 = none) (ht : TrD B (env :: l) x dx fl h) (hf : env.frame = some L') :
    ∃ oL vs sl, Fr h₀ L' h m' ∧ News h₀ L' h ((L, oL) :: (x, (⟨.ref 81, some dx, .fields vs, sl⟩ : Obj)) :: all) ∧ (∀ h' : Heap, h'.get? L = some oL → h'.Ns L m) := by
  have gU : g.UpToSlots h := (Heap.UpToSlots.of_keeps FB.keep).trans U
  have n1 : h.Ns L' m' := U.ns FB.ns
  obtain ⟨oL, es, ep, ho, hd, hk, hfi⟩ := FG.ns
  obtain ⟨sl', hL⟩ := gU L oL ho fun vs q => by rw [hd] at q; cases q
  obtain ⟨kB, hen, hfr, vs, T, oT, ts, sl, he, h1, bT, nT, hT, dT, h3⟩ := ht
  have lt : L < g.objs.size := Heap.lt_size ho
  have le : g.objs.size ≤ L' := FB.above
  have bL : B.get? L' = none := by
    obtain ⟨_, ⟨L'', o, hf', hn, _⟩, _⟩ := hfr
    rw [hf] at hf'
    rw [Option.some.inj hf']; exact hn
  have xL : x ≠ L' := fun q => by
    obtain ⟨o', es', ep', ho', hd', _⟩ := n1
    rw [q, ho'] at he
    have := congrArg Obj.data (Option.some.inj he)
    rw [hd'] at this
    cases this
  refine ⟨{ oL with slots := sl' }, vs, sl, ⟨n1, fun b o e => kB b o (st b o e), Nat.le_trans FG.above (Nat.le_trans (Nat.le_of_lt lt) le)⟩, fun q hq => ?_, fun h' e => ⟨_, es, ep, e, hd, hk, hfi⟩⟩
  rcases List.mem_cons.mp hq with rfl | hq
  · exact ⟨hL, Nat.ne_of_lt (Nat.lt_of_lt_of_le lt le), Heap.get?_none_of_le FG.above⟩
  rcases List.mem_cons.mp hq with rfl | hq
  · exact ⟨he, xL, fresh_of_stays st hen⟩
  · exact ⟨kB _ _ (hl q hq).1, (fun z => by have := (hl q hq).1; rw [z, bL] at this; cases this), (hl q hq).2⟩
end
section
variable {prog : Program} {w : World} {A : Around} {E : Value → Shared → Prop} {s : Shared} {env : Env}
theorem handle81 {e : Addr} {t : PySem.Expr} {n : Str} {b₀ : Stmt} {suite : List Stmt} {pos : Pos} {rest : List ExceptHandler} {Q : Flow → Shared → Prop}
    (h : wpAny (model prog w) (A.mark (some (.ref e))) (eval t env) (fun c s₁ => c = .ref 81 ∧ (hd.heap_39 w.params).In s₁.heap ∧ (∃ oe, s₁.heap.get? e = some oe ∧ oe.cls = .ref 81) ∧
      wpAny (model prog w) (A.mark (some (.ref e))) (setFlight (.ref e) none) (fun _ s₂ =>
          wpAny (model prog w) (A.mark (some (.ref e))) (storeName env n (.ref e)) (fun _ s₃ =>
            wpAny (model prog w) (A.mark (some (.ref e))) (execs (b₀ :: suite) env)
              (fun f s₄ => wpAny (model prog w) A (do bindName env n .none; unbindBehindTheSuite env n pos) (fun _ s₅ => Q f s₅) E s₄)
              (AsSuiteRaised (model prog w) (A.mark (some (.ref e))) env n pos (notedBy (model prog w) (A.mark (some (.ref e))) env (cameBackBy (model prog w) A env E))) s₃) (notedBy (model prog w) (A.mark (some (.ref e))) env (cameBackBy (model prog w) A env E)) s₂) (notedBy (model prog w) (A.mark (some (.ref e))) env (cameBackBy (model prog w) A env E)) s₁) (notedBy (model prog w) (A.mark (some (.ref e))) env (cameBackBy (model prog w) A env E)) s) :
    wpAny (model prog w) A (handleBy (.ref e) env (.ExceptHandler (some t) (some n) (b₀ :: suite) pos :: rest)) Q E s := by
  refine wpAny_handleBy_cons (codeAny_handlers_test (wpAny_mono h (fun c s₁ h₁ => ?_) fun _ _ y => y)) (by intro q; cases q)
  obtain ⟨rfl, X, ⟨oe, he, hcls⟩, hk⟩ := h₁
  obtain ⟨nm, q, N, bs, hdct, sn, sub, ab, col, dd, k0, k1, k2, k3, k5, hC⟩ := cls81 X
  obtain ⟨hh, g, d, tk, os⟩ := s₁
  exact wpAny_excMatches_sub_self hC he hcls (by decide +kernel) (codeAny_handlers_suite_as hk)
end
end Mine
end
section
namespace Mine
local macro_rules | `(tactic| walk_at "no such place 0") => `(tactic| skip)
local macro_rules | `(tactic| walk_at "no such place 1") => `(tactic| skip)
local macro_rules | `(tactic| walk_at "no such place 2") => `(tactic| skip)
local macro_rules | `(tactic| walk_at "no such place 3") => `(tactic| skip)
local macro_rules | `(tactic| k_room) => `(tactic| ktr_room)
local macro_rules | `(tactic| walk_at "getAttr ref") => `(tactic| (k_dflt (refine' exc_get81 ?k1 ?k2 ?k3 ?hx ?hm ?hg ?hd ?hf ?hk ?hl ?hh ?_; (case k1 => k_asm); (case k2 => k_asm); (case k3 => k_asm); (case hx => k_mem); (case hm => k_mem); (case hg => k_is); (case hd => k_is); (case hf => k_is); (case hk => k_is); (case hl => assumption); (case hh => rfl))))
theorem told_ctr {w : World} {mean : ExcName → Option Value} {mg mb : Str → Option Value} {dp un : Nat} {gd : Option (List Code)} {cn : Str} {cs : Scope} {a : Addr} {ccd : Value} {cl : List (Str × Addr)} {A₀ : Around} {h₀ : Heap} {L : Addr} {m : Str → Option Value} {s : Shared} {Q E : Value → Shared → Prop} {news : List (Addr × Obj)}
  (B : Below A₀ h₀ [] h₀) (F : Fr h₀ L s.heap m) (X : (hd.heap_39 w.params).In h₀) (N : News h₀ L s.heap news) (T : Top hd.view_39 LW mean mg mb h₀) (hk : cs.kind = .function)
  (p : Addr) {xa xb e : Int} (u : Tok) (H1 : TupIn h₀ news p xa xb) (hdp : dp + 8 < recursionLimit)
  (hfa : Fit 8000 xa) (hfb : Fit 8000 xb) (hturn : e < 0 → ¬ (xb = 0 ∧ xa = 0)) (hs1 : Fit 4000 (startP xa xb e).1) (hs2 : Fit 4000 (startP xa xb e).2) (hnb : outP xa xb e ≠ .bad)
  (hval : ∀ a b, outP xa xb e = .val a b → ∀ D all h' tk', Fr h₀ L h' m → News h₀ L h' all → (∀ p ∈ news, p ∈ all) → FndIn all D a b → Q (.ref D) { s with heap := h', toks := tk' })
  (hover : outP xa xb e = .over → ∀ h' tk', Fr h₀ L h' m → News h₀ L h' news → Q .none { s with heap := h', toks := tk' }) :
  wpAny (model PySem.Challenge.rw_xm0677_01.row.prog w) (ktrTop dp un gd cn cs L a ccd cl []) (call (.ref 189) [.ref p, .int e u]) Q E s := by
  revert X; k_fill; intro X
  refine wpAny_call ?_
  k_dflt (refine' code_defR ?k1 ?k2 ?k3 ?k4 ?k5 ?kA ?kF ?kK ?k6 ?k7 ?k8 ?k9 ?kB ?_ ?c2 ?c3 ?c4 ?c5; (case kA => exact rfl); (case kF => exact rfl); (case kK => assumption); (case k1 => k_asm); (case k2 => k_asm); (case k3 => k_asm); (case k4 => k_asm); (case k5 => k_asm); (case k6 => k_is); (case k7 => k_is); (case k8 => ktr_room); (case k9 => exact BindsTo.of_eq rfl); (case c5 => decide); (case kB => exact locs rfl); (case c2 => exact rfl); (case c3 => exact rfl); (case c4 => exact rfl); k_whole; intro gC LC hC FG FC NC BC XC TC LV; (try dsimp only))
  have H1' := H1.lift FG
  repeat' ((fail_if_success (first | (with_reducible show WhlRest _ _ _ _ _ _ _ _ _ _ _) | (with_reducible show wpAny _ _ (exec (Stmt.While _ _ _ _) _) _ _ _) | (with_reducible show WhlIf _ _ _) | (with_reducible show wpAny _ _ (call (Value.ref 161) _) _ _ _))); first | (k_unfold; (try dsimp only)) | (k_end; wrow_close) | walk1 | (dsimp only; walk1) | (leave1; (try dsimp only)))
  k_dflt (refine' pow_ctr ?k1 ?k2 ?k3 ?k4 ?k5 ?kK _ _ ?h1 ?kd ?fa ?fb ?ht ?s1 ?s2 ?nb ?ret ?exc; (case k1 => k_asm); (case k2 => k_asm); (case k3 => k_asm); (case k4 => k_asm); (case k5 => k_asm); (case kK => first | exact rfl | assumption); (case h1 => exact H1'); (case kd => ktr_room); (case fa => assumption); (case fb => assumption); (case ht => assumption); (case s1 => assumption); (case s2 => assumption); (case nb => assumption))
  case ret =>
    intro xa' xb' ho D all h9 tk9 F9 N9 sub hf
    exact LV (.ref D) _ (leaveK_ F9 N9 fun kF kN => hval _ _ ho D all _ _ kF kN sub hf)
  case exc =>
    intro ho g₂ x dx all h9 tk9 F9 U9 R9 sub T9
    (try dsimp only)
    obtain ⟨B9, st9, hl9, tr9⟩ := R9
    refine noteD (Around.frames_deeper BC.stack) rfl tr9 fun h10 tr10 u10 => ?_
    (try dsimp only)
    refine flightD tr10 fun h11 tr11 u11 => ?_
    (try dsimp only)
    obtain ⟨oL, vs, sl, F11, N11, back⟩ := groundT FG F9 (U9.trans (u10.trans u11)) st9 hl9 tr11 rfl
    refine handle81 ?_
    refine name_K (v := .ref 81) F11 X (topRead_of T) ?_ ?_
    · k_is
    refine ⟨rfl, X.keeps F11.keep, ⟨_, (N11 _ (.tail _ (.head _))).1, rfl⟩, ?_⟩
    refine flightD tr11 fun h12 tr12 u12 => ?_
    obtain ⟨oL', vs', sl', F12, N12, back'⟩ := groundT FG F9 (U9.trans (u10.trans (u11.trans u12))) st9 hl9 tr12 rfl
    clear N11 F11 back
    dsimp only
    obtain ⟨es, n9, V, k0, K1, P1, c1, k2, k3, E1, c2, hdx, hgl, hV, hK1⟩ := T9
    have N13 : News h₀ LC h12 ((L, oL') :: (x, (⟨.ref 81, some dx, .fields vs', sl'⟩ : Obj)) :: (dx, dictOf es n9) :: (V, ({ cls := .type "tuple", data := .seq #[.str (Str.ofString "struct") k0, .ref K1, .ref P1] c1 } : Obj)) :: (K1, ({ cls := .type "tuple", data := .seq #[.str (Str.ofString "name") k2, .str (Str.ofString "OverflowError") k3, .ref E1] c2 } : Obj)) :: news) := by
      intro q hq
      refine N12 q ?_
      simp only [List.mem_cons] at hq
      rcases hq with h | h | h | h | h | h
      · exact h ▸ .head _
      · exact h ▸ .tail _ (.head _)
      · exact h ▸ .tail _ (.tail _ hdx)
      · exact h ▸ .tail _ (.tail _ hV)
      · exact h ▸ .tail _ (.tail _ hK1)
      · exact .tail _ (.tail _ (sub q h))
    clear N12 hdx hV hK1 sub hl9 st9 tr9 tr10 tr11 tr12 u10 u11 u12 U9 F9 NC FC XC TC H1'
    repeat' ((fail_if_success (first | (with_reducible show WhlRest _ _ _ _ _ _ _ _ _ _ _) | (with_reducible show wpAny _ _ (exec (Stmt.While _ _ _ _) _) _ _ _) | (with_reducible show WhlIf _ _ _))); first | (k_unfold; (try dsimp only)) | (k_end; wrow_close) | walk1 | (dsimp only; walk1) | (leave1; (try dsimp only)))
    rename Fr _ _ _ _ => Fz
    rename News _ _ _ _ => Nz
    exact hover ho _ _ ⟨back' _ (Nz _ (.head _)).1, Fz.keep, F.above⟩ (fun r hr => ⟨(Nz r (by repeat (first | exact hr | refine List.Mem.tail _ ?_))).1, (N r hr).2.1, (N r hr).2.2⟩)
end Mine
end
section
namespace Mine
def dueS (a b e : Int) : Int × Int :=
  if 0 ≤ e then (if b < 0 then (0 - a, 0 - b) else (a, b))
  else if a < 0 then (if 0 - a = 0 then (1, 0 - a) else (0 - b, 0 - a))
  else if a = 0 then (1, a) else (b, a)
def dueP (a b e : Int) : Option (Int × Int) :=
  if (2 : Int) ^ Int.toNat 4000 ≤ absP ((dueS a b e).1 ^ (absP e).toNat) then none
  else if (2 : Int) ^ Int.toNat 4000 ≤ (dueS a b e).2 ^ (absP e).toNat then none
  else some ((dueS a b e).1 ^ (absP e).toNat, (dueS a b e).2 ^ (absP e).toNat)
theorem dueP_over1 {a b e n : Int} (h : (dueS a b e).1 = n) (h1 : (2 : Int) ^ Int.toNat 4000 ≤ if n ^ (if e < 0 then -e else e).toNat < 0 then -n ^ (if e < 0 then -e else e).toNat else n ^ (if e < 0 then -e else e).toNat) : dueP a b e = none := by
  subst h; exact if_pos h1
theorem dueP_over2 {a b e n d : Int} (h : (dueS a b e).1 = n) (k : (dueS a b e).2 = d) (h1 : ¬ (2 : Int) ^ Int.toNat 4000 ≤ if n ^ (if e < 0 then -e else e).toNat < 0 then -n ^ (if e < 0 then -e else e).toNat else n ^ (if e < 0 then -e else e).toNat) (h2 : (2 : Int) ^ Int.toNat 4000 ≤ d ^ (if e < 0 then -e else e).toNat) : dueP a b e = none := by
  subst h k; exact (if_neg h1).trans (if_pos h2)
theorem dueP_val {a b e n d : Int} (h : (dueS a b e).1 = n) (k : (dueS a b e).2 = d) (h1 : ¬ (2 : Int) ^ Int.toNat 4000 ≤ if n ^ (if e < 0 then -e else e).toNat < 0 then -n ^ (if e < 0 then -e else e).toNat else n ^ (if e < 0 then -e else e).toNat) (h2 : ¬ (2 : Int) ^ Int.toNat 4000 ≤ d ^ (if e < 0 then -e else e).toNat) : dueP a b e = some (n ^ (if e < 0 then -e else e).toNat, d ^ (if e < 0 then -e else e).toNat) := by
  subst h k; exact (if_neg h1).trans (if_neg h2)
local macro_rules | `(tactic| k_room) => `(tactic| ktr_room)
local macro_rules | `(tactic| walk_at "subscriptTail Name Constant ref int") => `(tactic| ((with_reducible show wpAny _ _ (subscriptTail _ _ (Value.ref _) (Value.int _ _)) _ _ _); first | (refine' item_tup0 ?H ?F ?N ?_ ?hs; (case H => assumption); (case F => assumption); (case N => assumption); (case hs => with_unfolding_all rfl); intro t9; (try dsimp only)) | (refine' item_tup1 ?H ?F ?N ?_ ?hs; (case H => assumption); (case F => assumption); (case N => assumption); (case hs => with_unfolding_all rfl); intro t9; (try dsimp only))))
theorem due_ctr {w : World} {mean : ExcName → Option Value} {mg mb : Str → Option Value} {dp un : Nat} {gd : Option (List Code)} {cn : Str} {cs : Scope} {a : Addr} {ccd : Value} {cl : List (Str × Addr)} {outer : List Env} {A₀ : Around} {base h₀ : Heap} {L : Addr} {m : Str → Option Value} {s : Shared} {Q E : Value → Shared → Prop} {news : List (Addr × Obj)}
  (B : Below A₀ base outer h₀) (F : Fr h₀ L s.heap m) (X : (hd.heap_39 w.params).In h₀) (N : News h₀ L s.heap news) (T : Top hd.view_39 LW mean mg mb h₀) (hk : cs.kind = .function)
  (p : Addr) {xa xb e : Int} (u : Tok) (H1 : TupIn h₀ news p xa xb) (hdp : dp + 1 < recursionLimit)
  (a1 : -100 ≤ xa) (a2 : xa ≤ 100) (b1 : -100 ≤ xb) (b2 : xb ≤ 100) (e1 : -5000 ≤ e) (e2 : e ≤ 5000)
  (hval : ∀ n d, dueP xa xb e = some (n, d) → ∀ D t u c all h' tk', Fr h₀ L h' m → News h₀ L h' all → (∀ p ∈ news, p ∈ all) → (D, tupO n d t u c) ∈ all → Q (.ref D) { s with heap := h', toks := tk' })
  (hnone : dueP xa xb e = none → ∀ h' tk', Fr h₀ L h' m → News h₀ L h' news → Q .none { s with heap := h', toks := tk' }) :
  wpAny (model PySem.Challenge.rw_xm0677_01.row.prog w) (ktrTop dp un gd cn cs L a ccd cl outer) (call (.ref 182) [.ref p, .int e u]) Q E s := by
  revert X; k_fill; intro X
  refine wpAny_call ?_
  k_dflt (refine' code_def ?k1 ?k2 ?k3 ?k4 ?k5 ?kA ?kF ?kK ?k6 ?k7 ?k8 ?k9 ?kB ?_ ?c2 ?c3 ?c4 ?c5; (case kA => exact rfl); (case kF => exact rfl); (case kK => assumption); (case k1 => k_asm); (case k2 => k_asm); (case k3 => k_asm); (case k4 => k_asm); (case k5 => k_asm); (case k6 => k_is); (case k7 => k_is); (case k8 => ktr_room); (case k9 => exact BindsTo.of_eq rfl); (case c5 => decide); (case kB => exact locs rfl); (case c2 => exact rfl); (case c3 => exact rfl); (case c4 => exact rfl); k_whole; intro gC LC hC FG FC NC BC XC TC; (try dsimp only))
  have H1' := H1.lift FG
  obtain ⟨t5, u5, hi⟩ := H1'.at FC NC
  repeat' ((fail_if_success (first | (with_reducible show WhlRest _ _ _ _ _ _ _ _ _ _ _) | (with_reducible show wpAny _ _ (exec (Stmt.While _ _ _ _) _) _ _ _) | (with_reducible show WhlIf _ _ _))); first | (k_unfold; (try dsimp only)) | (k_end; wrow_close) | walk1 | (dsimp only; walk1) | (leave1; (try dsimp only)))
  all_goals first
    | ((with_reducible show Q Value.none _)
       rename Fr _ _ _ _ => Fz
       rename News _ _ _ _ => Nz
       refine hnone ?_ _ _ Fz (fun q hq => Nz q (by repeat (first | exact hq | refine List.Mem.tail _ ?_)))
       first
         | exact dueP_over1 (n := 0 - xa) (by unfold dueS; (repeat' split) <;> first | rfl | (exfalso; omega)) (by assumption)
         | exact dueP_over1 (n := xa) (by unfold dueS; (repeat' split) <;> first | rfl | (exfalso; omega)) (by assumption)
         | exact dueP_over1 (n := 1) (by unfold dueS; (repeat' split) <;> first | rfl | (exfalso; omega)) (by assumption)
         | exact dueP_over1 (n := 0 - xb) (by unfold dueS; (repeat' split) <;> first | rfl | (exfalso; omega)) (by assumption)
         | exact dueP_over1 (n := xb) (by unfold dueS; (repeat' split) <;> first | rfl | (exfalso; omega)) (by assumption)
         | exact dueP_over2 (n := 0 - xa) (d := 0 - xb) (by unfold dueS; (repeat' split) <;> first | rfl | (exfalso; omega)) (by unfold dueS; (repeat' split) <;> first | rfl | (exfalso; omega)) (by assumption) (by assumption)
         | exact dueP_over2 (n := xa) (d := xb) (by unfold dueS; (repeat' split) <;> first | rfl | (exfalso; omega)) (by unfold dueS; (repeat' split) <;> first | rfl | (exfalso; omega)) (by assumption) (by assumption)
         | exact dueP_over2 (n := 1) (d := 0 - xa) (by unfold dueS; (repeat' split) <;> first | rfl | (exfalso; omega)) (by unfold dueS; (repeat' split) <;> first | rfl | (exfalso; omega)) (by assumption) (by assumption)
         | exact dueP_over2 (n := 0 - xb) (d := 0 - xa) (by unfold dueS; (repeat' split) <;> first | rfl | (exfalso; omega)) (by unfold dueS; (repeat' split) <;> first | rfl | (exfalso; omega)) (by assumption) (by assumption)
         | exact dueP_over2 (n := 1) (d := xa) (by unfold dueS; (repeat' split) <;> first | rfl | (exfalso; omega)) (by unfold dueS; (repeat' split) <;> first | rfl | (exfalso; omega)) (by assumption) (by assumption)
         | exact dueP_over2 (n := xb) (d := xa) (by unfold dueS; (repeat' split) <;> first | rfl | (exfalso; omega)) (by unfold dueS; (repeat' split) <;> first | rfl | (exfalso; omega)) (by assumption) (by assumption))
    | ((with_reducible show Q (Value.ref _) _)
       rename Fr _ _ _ _ => Fz
       rename News _ _ _ _ => Nz
       refine hval _ _ (dueP_val ?_ ?_ (by assumption) (by assumption)) _ _ _ _ _ _ _ Fz Nz (fun p hp => by repeat (first | exact hp | refine List.Mem.tail _ ?_)) (.head _)
       · unfold dueS; (repeat' split) <;> first | rfl | (exfalso; omega)
       · unfold dueS; (repeat' split) <;> first | rfl | (exfalso; omega))
    | (exfalso; omega)
end Mine
end
section
namespace Mine
local macro_rules | `(tactic| walk_at "no such place 0") => `(tactic| skip)
local macro_rules | `(tactic| walk_at "no such place 1") => `(tactic| skip)
local macro_rules | `(tactic| walk_at "no such place 2") => `(tactic| skip)
local macro_rules | `(tactic| walk_at "no such place 3") => `(tactic| skip)
def vialO (n x z : Int) (t1 t2 t3 : Tok) (c : Nat) : Obj := { cls := .type "list", data := .seq #[.int n t1, .int x t2, .int z t3] c }
section
local macro_rules | `(tactic| k_room) => `(tactic| ktr_room)
local macro_rules | `(tactic| k_all) => `(tactic| assumption)
theorem drip_ctr {w : World} {mean : ExcName → Option Value} {mg mb : Str → Option Value} {dp un : Nat} {gd : Option (List Code)} {cn : Str} {cs : Scope} {a : Addr} {ccd : Value} {cl : List (Str × Addr)} {outer : List Env} {A₀ : Around} {base h₀ : Heap} {L : Addr} {m : Str → Option Value} {s : Shared} {Q E : Value → Shared → Prop} {news : List (Addr × Obj)}
  (B : Below A₀ base outer h₀) (F : Fr h₀ L s.heap m) (X : (hd.heap_39 w.params).In h₀) (N : News h₀ L s.heap news) (T : Top hd.view_39 LW mean mg mb h₀) (hk : cs.kind = .function)
  (v : Addr) {n x z many : Int} {t1 t2 t3 : Tok} (u : Tok) {c : Nat} {rest : List (Addr × Obj)} (hn : news = (v, vialO n x z t1 t2 t3 c) :: rest) (hr : ∀ p ∈ rest, p.1 ≠ v) (hdp : dp + 1 < recursionLimit) (hm : 0 < many) (hm2 : many ≤ 100)
  (h : ∀ g tg n' x' t1' t2' h' tk', 0 ≤ g → g < many → Fr h₀ L h' m → News h₀ L h' ((v, vialO n' x' z t1' t2' t3 c) :: rest) → Q (.int g tg) { s with heap := h', toks := tk' }) :
  wpAny (model PySem.Challenge.rw_xm0677_01.row.prog w) (ktrTop dp un gd cn cs L a ccd cl outer) (call (.ref 175) [.ref v, .int many u]) Q E s := by
  subst hn
  unfold vialO at N
  revert X; k_fill; intro X
  refine wpAny_call ?_
  k_dflt (refine' code_def ?k1 ?k2 ?k3 ?k4 ?k5 ?kA ?kF ?kK ?k6 ?k7 ?k8 ?k9 ?kB ?_ ?c2 ?c3 ?c4 ?c5; (case kA => exact rfl); (case kF => exact rfl); (case kK => assumption); (case k1 => k_asm); (case k2 => k_asm); (case k3 => k_asm); (case k4 => k_asm); (case k5 => k_asm); (case k6 => k_is); (case k7 => k_is); (case k8 => ktr_room); (case k9 => exact BindsTo.of_eq rfl); (case c5 => decide); (case kB => exact locs rfl); (case c2 => exact rfl); (case c3 => exact rfl); (case c4 => exact rfl); k_whole; intro gC LC hC FG FC NC BC XC TC; (try dsimp only))
  repeat' ((fail_if_success (first | (with_reducible show WhlRest _ _ _ _ _ _ _ _ _ _ _) | (with_reducible show wpAny _ _ (exec (Stmt.While _ _ _ _) _) _ _ _) | (with_reducible show WhlIf _ _ _))); first | (k_unfold; (try dsimp only)) | (k_end; wrow_close) | walk1 | (dsimp only; walk1) | (leave1; (try dsimp only)))
  · exact h 0 _ _ _ _ _ _ _ (Int.le_refl 0) hm (by assumption) (by unfold vialO; assumption)
  · rename News _ _ _ _ => Nz
    refine h _ _ ?n ?x ?t1 ?t2 _ _ (Int.fmod_nonneg_of_pos _ hm) (Int.fmod_lt_of_pos _ hm) (by assumption) ?N
    case N => exact Nz
theorem drip_at {w : World} {mean : ExcName → Option Value} {mg mb : Str → Option Value} {dp un : Nat} {gd : Option (List Code)} {cn : Str} {cs : Scope} {a : Addr} {ccd : Value} {cl : List (Str × Addr)} {outer : List Env} {A₀ : Around} {base h₀ : Heap} {L : Addr} {m : Str → Option Value} {s : Shared} {Q E : Value → Shared → Prop} {news : List (Addr × Obj)}
  (B : Below A₀ base outer h₀) (F : Fr h₀ L s.heap m) (X : (hd.heap_39 w.params).In h₀) (N : News h₀ L s.heap news) (T : Top hd.view_39 LW mean mg mb h₀) (hk : cs.kind = .function)
  (v : Addr) {n x z many : Int} {t1 t2 t3 : Tok} (u : Tok) {c : Nat} (rest : List (Addr × Obj)) (hv : (v, vialO n x z t1 t2 t3 c) ∈ news) (hr : ∀ p ∈ rest, p ∈ news ∧ p.1 ≠ v) (hdp : dp + 1 < recursionLimit) (hm : 0 < many) (hm2 : many ≤ 100)
  (h : ∀ g tg n' x' t1' t2' h' tk', 0 ≤ g → g < many → Fr h₀ L h' m → News h₀ L h' ((v, vialO n' x' z t1' t2' t3 c) :: rest) → Q (.int g tg) { s with heap := h', toks := tk' }) :
  wpAny (model PySem.Challenge.rw_xm0677_01.row.prog w) (ktrTop dp un gd cn cs L a ccd cl outer) (call (.ref 175) [.ref v, .int many u]) Q E s :=
  drip_ctr B F X (fun q hq => (List.mem_cons.mp hq).elim (fun e => e ▸ N _ hv) (fun m => N q (hr q m).1)) T hk v u rfl (fun q hq => (hr q hq).2) hdp hm hm2 h
end
end Mine
end
section
namespace Mine
section
local macro_rules | `(tactic| k_room) => `(tactic| ktr_room)
theorem vial_ctr {w : World} {mean : ExcName → Option Value} {mg mb : Str → Option Value} {dp un : Nat} {gd : Option (List Code)} {cn : Str} {cs : Scope} {a : Addr} {ccd : Value} {cl : List (Str × Addr)} {outer : List Env} {A₀ : Around} {base h₀ : Heap} {L : Addr} {m : Str → Option Value} {s : Shared} {Q E : Value → Shared → Prop} {news : List (Addr × Obj)}
  (B : Below A₀ base outer h₀) (F : Fr h₀ L s.heap m) (X : (hd.heap_39 w.params).In h₀) (N : News h₀ L s.heap news) (T : Top hd.view_39 LW mean mg mb h₀) (hk : cs.kind = .function)
  (v : Addr) {k : Int} {its : List Value} {xs : List Int} (u : Tok) (hdp : dp + 1 < recursionLimit) (hk0 : 0 ≤ k) (hk2 : k ≤ 2) (hL : h₀.IsList v its.toArray) (hI : IntsAre its xs) (hlen : xs.length ≤ 1000)
  (h : ∀ D n x z t1 t2 t3 c h' tk', Fr h₀ L h' m → News h₀ L h' ((D, vialO n x z t1 t2 t3 c) :: news) → AllLt D news → Q (.ref D) { s with heap := h', toks := tk' }) :
  wpAny (model PySem.Challenge.rw_xm0677_01.row.prog w) (ktrTop dp un gd cn cs L a ccd cl outer) (call (.ref 168) [.ref v, .int k u]) Q E s := by
  revert X; k_fill; intro X
  refine wpAny_call ?_
  k_dflt (refine' code_def ?k1 ?k2 ?k3 ?k4 ?k5 ?kA ?kF ?kK ?k6 ?k7 ?k8 ?k9 ?kB ?_ ?c2 ?c3 ?c4 ?c5; (case kA => exact rfl); (case kF => exact rfl); (case kK => assumption); (case k1 => k_asm); (case k2 => k_asm); (case k3 => k_asm); (case k4 => k_asm); (case k5 => k_asm); (case k6 => k_is); (case k7 => k_is); (case k8 => ktr_room); (case k9 => exact BindsTo.of_eq rfl); (case c5 => decide); (case kB => exact locs rfl); (case c2 => exact rfl); (case c3 => exact rfl); (case c4 => exact rfl); k_whole; intro gC LC hC FG FC NC BC XC TC; (try dsimp only))
  have hL' : gC.IsList v its.toArray := FG.lst hL
  repeat' ((fail_if_success (first | (with_reducible show WhlRest _ _ _ _ _ _ _ _ _ _ _) | (with_reducible show wpAny _ _ (exec (Stmt.While _ _ _ _) _) _ _ _) | (with_reducible show WhlIf _ _ _))); first | (k_unfold; (try dsimp only)) | (k_end; wrow_close) | walk1 | (dsimp only; walk1) | (leave1; (try dsimp only)))
  all_goals exact h _ _ _ _ _ _ _ _ _ _ (by assumption) (by unfold vialO; assumption) (allLt_of (by assumption))
end
end Mine
end
section
namespace Mine
def isOver : Out → Bool
  | .over => true
  | _ => false
theorem isOver_eq : ∀ {o : Out}, isOver o = true → o = .over
  | .over, _ => rfl
theorem out_far : outP 2 1 4095 = .over := isOver_eq (by decide +kernel)
theorem start_far : startP 2 1 4095 = (2, 1) := if_neg (by decide)
theorem fit_far1 : Fit 4000 (startP 2 1 4095).1 := by rw [start_far]; unfold Fit; decide +kernel
theorem fit_far2 : Fit 4000 (startP 2 1 4095).2 := by rw [start_far]; unfold Fit; decide +kernel
end Mine
end
section
namespace Mine
def pairsL : List (Int × Int) := [(2, 1), (1, 2), (-2, 1), (-1, 2), (4, 1), (1, 4), (0, 1), (1, 1), (-1, 1), (1, 0), (-1, 0), (3, 2), (-3, 2)]
def expsL : List Int := [3999, 4000, 4001, 1999, 2000, 2001, 0, 1, 2, 3]
def smallL : List Int := [0, 1, 2, 3, 4, 5, 6, 7, 8, 9, 10, 11, 12]
def oddB (a b : Int) : Bool := b == 2 && a.fmod 3 == 0
def ipow (x : Int) (k : Nat) : Int :=
  if 0 ≤ x then ((x.natAbs ^ k : Nat) : Int) else if k % 2 = 0 then ((x.natAbs ^ k : Nat) : Int) else -((x.natAbs ^ k : Nat) : Int)
theorem ipow_eq (x : Int) (k : Nat) : x ^ k = ipow x k := by
  unfold ipow
  by_cases hx : 0 ≤ x
  · rw [if_pos hx, Int.natCast_pow, Int.natAbs_of_nonneg hx]
  · rw [if_neg hx]
    have hn : x = -((x.natAbs : Nat) : Int) := by omega
    generalize x.natAbs = n at hn
    subst hn
    induction k with
    | zero => simp
    | succ k ih =>
      rw [Int.pow_succ, ih]
      by_cases h : k % 2 = 0
      · rw [if_pos h, if_neg (by omega)]
        simp [Nat.pow_succ, Int.mul_neg]
      · rw [if_neg h, if_pos (by omega)]
        simp [Nat.pow_succ, Int.mul_neg, Int.neg_mul]
def dueF (a b e : Int) : Option (Int × Int) :=
  let n := ipow (dueS a b e).1 (absP e).toNat
  let d := ipow (dueS a b e).2 (absP e).toNat
  if ((2 ^ 4000 : Nat) : Int) ≤ absP n then none
  else if ((2 ^ 4000 : Nat) : Int) ≤ d then none
  else some (n, d)
set_option exponentiation.threshold 5000 in
theorem two_pow : (2 : Int) ^ Int.toNat 4000 = ((2 ^ 4000 : Nat) : Int) := by
  rw [show Int.toNat 4000 = 4000 from rfl, Int.natCast_pow]; rfl
theorem dueF_eq (a b e : Int) : dueP a b e = dueF a b e := by
  unfold dueP dueF
  rw [two_pow, ipow_eq, ipow_eq]
def okO : Out → Option (Int × Int) → Bool
  | .val x y, some (n, d) => x == n && y == d
  | .over, none => true
  | _, _ => false
def okB (a b e : Int) : Bool :=
  !(decide (e < 0) && (b == 0) && (a == 0)) && decide ((startP a b e).1.natAbs < 2 ^ 4000) && decide ((startP a b e).2.natAbs < 2 ^ 4000) && okO (outP a b e) (dueF a b e)
theorem okO_spec : ∀ {o : Out} {d : Option (Int × Int)}, okO o d = true → o ≠ .bad ∧ ((∃ x y, o = .val x y ∧ d = some (x, y)) ∨ (o = .over ∧ d = none))
  | .val x y, some (n, d), h => by
    have h' : x = n ∧ y = d := by simpa [okO] using h
    obtain ⟨rfl, rfl⟩ := h'
    exact ⟨(by intro q; cases q), .inl ⟨_, _, rfl, rfl⟩⟩
  | .over, none, _ => ⟨(by intro q; cases q), .inr ⟨rfl, rfl⟩⟩
  | .bad, _, h => by simp [okO] at h
  | .val _ _, none, h => by simp [okO] at h
  | .over, some _, h => by simp [okO] at h
theorem okB_spec {a b e : Int} (h : okB a b e = true) : (e < 0 → ¬ (b = 0 ∧ a = 0)) ∧ Fit 4000 (startP a b e).1 ∧ Fit 4000 (startP a b e).2 ∧ outP a b e ≠ .bad ∧
    ((∃ x y, outP a b e = .val x y ∧ dueP a b e = some (x, y)) ∨ (outP a b e = .over ∧ dueP a b e = none)) := by
  unfold okB at h
  rw [Bool.and_eq_true, Bool.and_eq_true, Bool.and_eq_true] at h
  obtain ⟨⟨⟨h1, h2⟩, h3⟩, h4⟩ := h
  obtain ⟨h5, h6⟩ := okO_spec h4
  rw [← dueF_eq] at h6
  refine ⟨fun he hz => ?_, (show (startP a b e).1.natAbs < 2 ^ 4000 from of_decide_eq_true h2), (show (startP a b e).2.natAbs < 2 ^ 4000 from of_decide_eq_true h3), h5, h6⟩
  simp [he, hz.1, hz.2] at h1
def allOk : Bool := pairsL.all fun p =>
  if oddB p.1 p.2 then smallL.all fun e => okB p.1 p.2 e && okB p.1 p.2 (-e) else expsL.all fun e => okB p.1 p.2 e && okB p.1 p.2 (-e)
theorem allOk_true : allOk = true := by decide +kernel
theorem ok_at {a b : Int} (hp : (a, b) ∈ pairsL) : (if oddB a b then smallL.all fun e => okB a b e && okB a b (-e) else expsL.all fun e => okB a b e && okB a b (-e)) = true :=
  List.all_eq_true.mp allOk_true (a, b) hp
theorem small_mem {e : Int} (h0 : 0 ≤ e) (h1 : e < 13) : e ∈ smallL := by
  obtain rfl | rfl | rfl | rfl | rfl | rfl | rfl | rfl | rfl | rfl | rfl | rfl | rfl : e = 0 ∨ e = 1 ∨ e = 2 ∨ e = 3 ∨ e = 4 ∨ e = 5 ∨ e = 6 ∨ e = 7 ∨ e = 8 ∨ e = 9 ∨ e = 10 ∨ e = 11 ∨ e = 12 := by omega
  all_goals decide
theorem ok_both {a b e : Int} (hp : (a, b) ∈ pairsL) (he : (oddB a b = true ∧ 0 ≤ e ∧ e < 13) ∨ (oddB a b = false ∧ e ∈ expsL)) {σ : Int} (hσ : σ = 1 ∨ σ = -1) : okB a b (e * σ) = true := by
  have h := ok_at hp
  have hb : okB a b e = true ∧ okB a b (-e) = true := by
    rcases he with ⟨ho, h0, h1⟩ | ⟨ho, hm⟩
    · rw [ho, if_pos rfl] at h
      exact Bool.and_eq_true_iff.mp (List.all_eq_true.mp h e (small_mem h0 h1))
    · rw [ho, if_neg (by decide)] at h
      exact Bool.and_eq_true_iff.mp (List.all_eq_true.mp h e hm)
  rcases hσ with rfl | rfl
  · rw [Int.mul_one]; exact hb.1
  · rw [Int.mul_neg, Int.mul_one]; exact hb.2
theorem pairs_bnd {a b : Int} (hp : (a, b) ∈ pairsL) : -100 ≤ a ∧ a ≤ 100 ∧ -100 ≤ b ∧ b ≤ 100 := by
  have h : (pairsL.all fun p => decide (-100 ≤ p.1) && decide (p.1 ≤ 100) && decide (-100 ≤ p.2) && decide (p.2 ≤ 100)) = true := by decide
  have := List.all_eq_true.mp h (a, b) hp
  simp only [Bool.and_eq_true, decide_eq_true_eq] at this
  exact ⟨this.1.1.1, this.1.1.2, this.1.2, this.2⟩
theorem exps_bnd {e : Int} (h : e ∈ expsL) : 0 ≤ e ∧ e ≤ 4001 := by
  have h' : (expsL.all fun p => decide (0 ≤ p) && decide (p ≤ 4001)) = true := by decide
  have := List.all_eq_true.mp h' e h
  simpa only [Bool.and_eq_true, decide_eq_true_eq] using this
theorem fit_100 {x : Int} (h : -100 ≤ x) (h' : x ≤ 100) : Fit 8000 x := by
  have h1 : x.natAbs ≤ 100 := by omega
  exact Nat.lt_of_le_of_lt h1 (by decide +kernel)
end Mine
end
section
namespace Mine
section
variable {prog : Program} {w : World} {A : Around} {E : Value → Shared → Prop} {s : Shared} {Q : Value → Shared → Prop} {D a b : Addr}
theorem sub_any {its : List Value} {g : Int} {u : Tok} {value slice : PySem.Expr} (hl : s.heap.IsList D its.toArray) (h0 : 0 ≤ g) (h1 : g < (its.length : Int)) (hs : its.length ≤ 1000) (h : ∀ v ∈ its, Q v s)
    (hb : subscripted slice false (.ref D) (.int g u) = operate [.ref D, .int g u] (getItem (.ref D) (.int g u)) := by with_unfolding_all rfl) :
    wpAny (model prog w) A (subscriptTail value slice (.ref D) (.int g u)) Q E s := by
  have hj : g.toNat < its.length := by omega
  exact tail_any hl.typeIs slot_list_getitem.lookup (wpAny_getItem_list hl h0 (by omega) (by rw [List.getElem?_toArray]; exact List.getElem?_eq_getElem hj) (h _ (List.getElem_mem hj))) hb
theorem ne_tups {x1 x2 y1 y2 : Int} {t1 t2 u1 u2 : Tok} (ha : IsTup s.heap a #[.int x1 t1, .int x2 t2]) (hb : IsTup s.heap b #[.int y1 u1, .int y2 u2]) (hu : A.units + 64 < cLine) (e1 : x1 = y1) (e2 : x2 = y2) (h : Q (.bool false) s) :
    wpAny (model prog w) A (compareOp .NotEq (.ref a) (.ref b)) Q E s := by
  subst e1 e2
  obtain ⟨oa, ga, ca, na, da⟩ := ha
  obtain ⟨ob, gb, cb, nb, db⟩ := hb
  refine ne_dataH (reads_tuple_at ga ca da (.cons (.int _ _) (.cons (.int _ _) .nil))) (reads_tuple_at gb cb db (.cons (.int _ _) (.cons (.int _ _) .nil))) rfl rfl hu ?_
  simp only [PyData.eqv, PyData.eqvAll, beq_self_eq_true, Bool.and_true, Bool.true_and, Bool.not_true, decide_true]
  exact h
end
theorem news_drop {h₀ h : Heap} {L : Addr} {news : List (Addr × Obj)} (_ : News h₀ L h news) : News h₀ L h [] := News.nil
theorem news_two {h₀ h : Heap} {L : Addr} {l own : List (Addr × Obj)} {a b : Addr × Obj} (N : News h₀ L h l) (ha : a ∈ l) (hb : b ∈ l) (ho : ∀ q ∈ own, q ∈ l) : News h₀ L h (a :: b :: own) := by
  intro q hq
  rcases List.mem_cons.mp hq with rfl | hq
  · exact N _ ha
  rcases List.mem_cons.mp hq with rfl | hq
  · exact N _ hb
  · exact N _ (ho q hq)
theorem allLt_ne : ∀ {V : Addr} {l : List (Addr × Obj)}, AllLt V l → ∀ p ∈ l, p.1 ≠ V
  | _, [], _, _, h => nomatch h
  | _, _ :: _, h, p, hp => (List.mem_cons.mp hp).elim (fun e => by subst e; exact Nat.ne_of_lt h.1) (fun m => allLt_ne h.2 p m)
section
variable {h₀ h : Heap} {L V p : Addr} {l : List (Addr × Obj)} {o : Obj} {n x z : Int} {t1 t2 t3 : Tok} {c : Nat}
theorem ne_tup (N : News h₀ L h l) (hv : (V, vialO n x z t1 t2 t3 c) ∈ l) (hp : (p, o) ∈ l) (hc : o.cls = .type "tuple") : p ≠ V := fun e => by
  subst e
  have h1 : some o = some (vialO n x z t1 t2 t3 c) := (N _ hp).1.symm.trans (N _ hv).1
  rw [Option.some.inj h1] at hc
  exact absurd (show (Value.type "list") = Value.type "tuple" from hc) (by decide)
theorem ne_len {its : Array Value} {c' : Nat} (N : News h₀ L h l) (hv : (V, vialO n x z t1 t2 t3 c) ∈ l) (hp : (p, o) ∈ l) (hd : o.data = .seq its c') (hs : (its.size == 3) = false) : p ≠ V := fun e => by
  subst e
  have h1 : some o = some (vialO n x z t1 t2 t3 c) := (N _ hp).1.symm.trans (N _ hv).1
  rw [Option.some.inj h1] at hd
  have h2 : (Data.seq #[.int n t1, .int x t2, .int z t3] c) = .seq its c' := hd
  injection h2 with h3 h4
  rw [← h3] at hs
  exact absurd hs (by intro q; cases q)
end
theorem tup_two {h₀ h : Heap} {L p : Addr} {own : List (Addr × Obj)} {a : Addr × Obj} {xa xb : Int} {t1 t2 : Tok} {c : Nat} (_ : News h₀ L h (a :: (p, tupO xa xb t1 t2 c) :: own)) : TupIn h₀ (a :: (p, tupO xa xb t1 t2 c) :: own) p xa xb := .inl ⟨_, _, _, .tail _ (.head _)⟩
theorem odd_yes {a b : Int} (h : b = 2) (h' : a.fmod 3 = 0) : oddB a b = true := by simp [oddB, h, h']
theorem odd_no1 {a b : Int} (h : b ≠ 2) : oddB a b = false := by simp [oddB, h]
theorem odd_no2 {a b : Int} (h : a.fmod 3 ≠ 0) : oddB a b = false := by simp [oddB, h]
theorem sign_of {v : Int} (h : v ∈ ([1, -1] : List Int)) : v = 1 ∨ v = -1 := by simpa using h
theorem exp_bnd {a b e : Int} (he : (oddB a b = true ∧ 0 ≤ e ∧ e < 13) ∨ (oddB a b = false ∧ e ∈ expsL)) : 0 ≤ e ∧ e ≤ 4001 := by
  rcases he with ⟨_, h0, h1⟩ | ⟨_, h⟩
  · omega
  · exact exps_bnd h
theorem exp_sgn {e σ : Int} (h : 0 ≤ e ∧ e ≤ 4001) (hσ : σ = 1 ∨ σ = -1) : -5000 ≤ e * σ ∧ e * σ ≤ 5000 := by
  rcases hσ with rfl | rfl <;> omega
theorem due_val {o : Out} {d : Option (Int × Int)} {a b : Int} (h : (∃ x y, o = .val x y ∧ d = some (x, y)) ∨ (o = .over ∧ d = none)) (ho : o = .val a b) : d = some (a, b) := by
  subst ho
  rcases h with ⟨x, y, h1, h2⟩ | ⟨h1, _⟩
  · injection h1 with e1 e2
    rw [h2, e1, e2]
  · cases h1
theorem due_none {o : Out} {d : Option (Int × Int)} (h : (∃ x y, o = .val x y ∧ d = some (x, y)) ∨ (o = .over ∧ d = none)) (ho : o = .over) : d = none := by
  subst ho
  rcases h with ⟨x, y, h1, _⟩ | ⟨_, h2⟩
  · cases h1
  · exact h2
theorem some_pair {d : Option (Int × Int)} {a b n m : Int} (h : d = some (a, b)) (h' : d = some (n, m)) : a = n ∧ b = m := by
  rw [h] at h'
  exact Prod.mk.inj (Option.some.inj h')
theorem erase_all {l : List (Addr × Obj)} {v : Addr} {i : Nat} (h : ∀ p ∈ l.eraseIdx i, p.1 ≠ v) : ∀ p ∈ l.eraseIdx i, p ∈ l ∧ p.1 ≠ v := fun p hp => ⟨List.mem_of_mem_eraseIdx hp, h p hp⟩
end Mine
end
section
namespace Mine
local macro_rules | `(tactic| walk_at "no such place 0") => `(tactic| skip)
local macro_rules | `(tactic| walk_at "no such place 1") => `(tactic| skip)
local macro_rules | `(tactic| walk_at "no such place 2") => `(tactic| skip)
local macro_rules | `(tactic| walk_at "no such place 3") => `(tactic| skip)
section
local macro_rules | `(tactic| k_room) => `(tactic| ktr_room)
local macro_rules | `(tactic| walk_at "subscriptTail Name Constant ref int") => `(tactic| ((with_reducible show wpAny _ _ (subscriptTail _ _ (Value.ref _) (Value.int _ _)) _ _ _); first | (refine' item_tup0 ?H ?F ?N ?_ ?hs; (case H => assumption); (case F => assumption); (case N => assumption); (case hs => with_unfolding_all rfl); intro t9; (try dsimp only)) | (refine' item_tup1 ?H ?F ?N ?_ ?hs; (case H => assumption); (case F => assumption); (case N => assumption); (case hs => with_unfolding_all rfl); intro t9; (try dsimp only))))
theorem rng2 {b : Int} (h : b = 1 ∨ b = 2) : Builtin.Range.small 0 b 1 = true ∧ Builtin.Range.rangeSize 0 b 1 = ((b.toNat : Nat) : Int) ∧ ((b.toNat : Nat) : Int) ≤ 2 := by
  rcases h with rfl | rfl
  · exact ⟨by decide, by decide, by decide⟩
  · exact ⟨by decide, by decide, by decide⟩
theorem pick_pair {h₀ h : Heap} {L : Addr} {v : Value} {its : List Value} {V : Addr} {l : List (Addr × Obj)} (_ : News h₀ L h l) (hv : v ∈ its) (H : ∀ v ∈ its, ∃ p xa xb t1 t2 c, v = .ref p ∧ (p, tupO xa xb t1 t2 c) ∈ l ∧ (xa, xb) ∈ pairsL ∧ p ≠ V) : ∃ p xa xb t1 t2 c, v = .ref p ∧ (p, tupO xa xb t1 t2 c) ∈ l ∧ (xa, xb) ∈ pairsL ∧ p ≠ V := H v hv
theorem pick_int {v : Value} {its : List Value} {l : List Int} (hv : v ∈ its) (H : ∀ v ∈ its, ∃ e t, v = .int e t ∧ e ∈ l) : ∃ e t, v = .int e t ∧ e ∈ l := H v hv
theorem law_holds : PySem.Challenge.rw_xm0677_01.Holds := by
  refine Mine.hd ?_
  k_go0
  repeat' ((fail_if_success (first | (with_reducible show WhlRest _ _ _ _ _ _ _ _ _ _ _) | (with_reducible show wpAny _ _ (exec (Stmt.While _ _ _ _) _) _ _ _) | (with_reducible show WhlIf _ _ _) | (with_reducible show wpAny _ _ (call (Value.ref 189) _) _ _ _))); first | (k_unfold; (try dsimp only)) | (k_end; wrow_close) | walk1 | (dsimp only; walk1) | (leave1; (try dsimp only)))
  k_dflt (refine' told_ctr ?k1 ?k2 ?k3 ?k4 ?k5 ?kK _ _ ?h1 ?kd ?fa ?fb ?ht fit_far1 fit_far2 ?nb ?ret ?exc)
  ((case k2 => k_asm); (case k1 => ((rename Below _ _ _ _ => BB); exact BB)); (case k3 => k_asm); (case k4 => k_asm); (case k5 => k_asm); (case kK => first | exact rfl | assumption); (case kd => decide))
  case h1 => exact .inl ⟨_, _, _, by k_mem⟩
  case ht => intro h; exact absurd h (by decide)
  case fa => unfold Fit; decide +kernel
  case fb => unfold Fit; decide +kernel
  case nb => rw [out_far]; intro h; cases h
  case ret => intro a b h; rw [out_far] at h; cases h
  case exc =>
    intro h0 h9 tk9 F9 N9
    clear h0
    (try dsimp only)
    replace N9 := news_drop N9
    repeat' ((fail_if_success (first | (with_reducible show WhlRest _ _ _ _ _ _ _ _ _ _ _) | (with_reducible show wpAny _ _ (exec (Stmt.While _ _ _ _) _) _ _ _) | (with_reducible show WhlIf _ _ _) | (with_reducible show wpAny _ _ (exec (Stmt.For _ _ _ _ _) _) _ _ _))); first | (k_unfold; (try dsimp only)) | (k_end; wrow_close) | walk1 | (dsimp only; walk1) | (leave1; (try dsimp only)))
    rename Fr _ _ _ _ => lF'
    with_unfolding_all refine' For_invVF lF' ?k1 ?k2 ?_
    case k1 => exact rfl
    case k2 => exact rfl
    repeat' ((fail_if_success (first | (with_reducible show WhlRest _ _ _ _ _ _ _ _ _ _ _) | (with_reducible show wpAny _ _ (exec (Stmt.While _ _ _ _) _) _ _ _) | (with_reducible show WhlIf _ _ _) | (with_reducible show wpAny _ _ (pyIter (Value.ref _)) _ _ _))); first | (k_unfold; (try dsimp only)) | (k_end; wrow_close) | walk1 | (dsimp only; walk1) | (leave1; (try dsimp only)))
    rename IsRange _ _ _ _ _ _ _ _ => rgX
    rename Fr _ _ _ _ => fX
    rename News _ _ _ _ => nX
    obtain ⟨b, hb, rgY⟩ : ∃ b : Int, (b = 1 ∨ b = 2) ∧ IsRange _ _ 0 b 1 _ _ _ := by
      refine ⟨_, ?_, rgX⟩
      (repeat' split) <;> omega
    obtain ⟨hb1, hb2, hb3⟩ := rng2 hb
    clear rgX hb
    refine iter_rangeLaw [Str.ofString "vial", Str.ofString "pair", Str.ofString "exponent"] ?hh rgY hb1 hb2 fX nX ?turn ?done
    case hh => rfl
    case done =>
      clear lF' fX nX rgY hb1 hb2
      intro u h tk F N
      (try dsimp only)
      repeat' ((fail_if_success (first | (with_reducible show WhlRest _ _ _ _ _ _ _ _ _ _ _) | (with_reducible show wpAny _ _ (exec (Stmt.While _ _ _ _) _) _ _ _) | (with_reducible show WhlIf _ _ _))); first | (k_unfold; (try dsimp only)) | (k_end; wrow_close) | walk1 | (dsimp only; walk1) | (leave1; (try dsimp only)))
    case turn =>
      clear lF' fX nX rgY hb1 hb2
      intro k tk0 u hT tkT own hk0 hk1 FT NT
      have hk2 : k ≤ 2 := by omega
      rw [List.append_nil] at NT
      clear hk1 hb3
      (try dsimp only)
      repeat' ((fail_if_success (first | (with_reducible show WhlRest _ _ _ _ _ _ _ _ _ _ _) | (with_reducible show wpAny _ _ (exec (Stmt.While _ _ _ _) _) _ _ _) | (with_reducible show WhlIf _ _ _) | (with_reducible show wpAny _ _ (call (Value.ref 168) _) _ _ _))); first | (k_unfold; (try dsimp only)) | (k_end; wrow_close) | walk1 | (dsimp only; walk1) | (leave1; (try dsimp only)))
      k_dflt (refine' vial_ctr ?k1 ?k2 ?k3 ?k4 ?k5 ?kK _ _ ?kd ?h0 ?h2 ?hL ?hI ?hl ?ret)
      ((case k2 => k_asm); (case k1 => ((rename Below _ _ _ _ => BB); exact BB)); (case k3 => k_asm); (case k4 => k_asm); (case k5 => k_asm); (case kK => first | exact rfl | assumption); (case kd => decide))
      case h0 => assumption
      case h2 => assumption
      case hL => assumption
      case hI => assumption
      case hl => omega
      case ret =>
      intro V n0 x0 z0 q1 q2 q3 c0 h1 tk1 F1 N1 lV
      (try dsimp only)
      repeat' ((fail_if_success (first | (with_reducible show WhlRest _ _ _ _ _ _ _ _ _ _ _) | (with_reducible show wpAny _ _ (exec (Stmt.While _ _ _ _) _) _ _ _) | (with_reducible show WhlIf _ _ _) | (with_reducible show wpAny _ _ (call (Value.ref 175) _) _ _ _))); first | (k_unfold; (try dsimp only)) | (k_end; wrow_close) | walk1 | (dsimp only; walk1) | (leave1; (try dsimp only)))
      k_dflt (refine' drip_at ?k1 ?k2 ?k3 ?k4 ?k5 ?kK _ _ (List.eraseIdx _ 14) ?hv (erase_all ?hr) ?kd ?hm ?hm2 ?ret)
      ((case k2 => k_asm); (case k1 => ((rename Below _ _ _ _ => BB); exact BB)); (case k3 => k_asm); (case k4 => k_asm); (case k5 => k_asm); (case kK => first | exact rfl | assumption); (case kd => decide))
      case hv => k_mem
      case hr => (dsimp only [List.eraseIdx]; ((repeat (refine List.forall_mem_cons.mpr ⟨(by first | assumption | exact ne_tup (by assumption) (by k_mem) (by k_mem) rfl | exact ne_len (by assumption) (by k_mem) (by k_mem) rfl rfl), ?_⟩)); exact allLt_ne (by assumption)))
      case hm => decide
      case hm2 => decide
      case ret =>
      intro g tg n1 x1 q4 q5 h2 tk2 g0 g1 F2 N2
      dsimp only [List.eraseIdx] at N2
      (try dsimp only)
      repeat' ((fail_if_success (first | (with_reducible show WhlRest _ _ _ _ _ _ _ _ _ _ _) | (with_reducible show wpAny _ _ (exec (Stmt.While _ _ _ _) _) _ _ _) | (with_reducible show WhlIf _ _ _) | (with_reducible show wpAny _ _ (subscriptTail _ _ (Value.ref _) (Value.int _ _)) _ _ _))); first | (k_unfold; (try dsimp only)) | (k_end; wrow_close) | walk1 | (dsimp only; walk1) | (leave1; (try dsimp only)))
      refine' sub_any ?hl g0 ?g1 ?hs ?_
      case hl => is_list
      case g1 => exact g1
      case hs => exact Nat.le_of_ble_eq_true rfl
      intro v hv
      obtain ⟨p, xa, xb, t1, t2, c1, rfl, hm, hp, hpV⟩ := pick_pair (V := V) N2 hv (by ((repeat (refine List.forall_mem_cons.mpr ⟨⟨_, _, _, _, _, _, rfl, (by k_mem), (by decide), (by first | assumption | exact ne_tup (by assumption) (by k_mem) (by k_mem) rfl | exact ne_len (by assumption) (by k_mem) (by k_mem) rfl rfl)⟩, ?_⟩)); exact List.forall_mem_nil _))
      have N3 := news_two (own := own) N2 (List.Mem.head _) hm (fun q hq => by repeat (first | exact hq | refine List.Mem.tail _ ?_))
      (try clear N2); (try clear NT); (try clear N1); (try clear FT); (try clear hm)
      (repeat ((rename _ ∧ _ => hcl); clear hcl))
      repeat' ((fail_if_success (first | (with_reducible show WhlRest _ _ _ _ _ _ _ _ _ _ _) | (with_reducible show wpAny _ _ (exec (Stmt.While _ _ _ _) _) _ _ _) | (with_reducible show WhlIf _ _ _) | (with_reducible show wpAny _ _ (call (Value.ref 175) _) _ _ _))); first | (k_unfold; (try dsimp only)) | (k_end; wrow_close) | walk1 | (dsimp only; walk1) | (leave1; (try dsimp only)))
      k_dflt (refine' drip_at ?k1 ?k2 ?k3 ?k4 ?k5 ?kK _ _ (List.eraseIdx _ 1) ?hv (erase_all ?hr) ?kd ?hm ?hm2 ?ret)
      ((case k2 => k_asm); (case k1 => ((rename Below _ _ _ _ => BB); exact BB)); (case k3 => k_asm); (case k4 => k_asm); (case k5 => k_asm); (case kK => first | exact rfl | assumption); (case kd => decide))
      case hv => k_mem
      case hr => (dsimp only [List.eraseIdx]; ((repeat (refine List.forall_mem_cons.mpr ⟨(by first | assumption | exact ne_tup (by assumption) (by k_mem) (by k_mem) rfl | exact ne_len (by assumption) (by k_mem) (by k_mem) rfl rfl), ?_⟩)); exact allLt_ne (by assumption)))
      case hm => decide
      case hm2 => decide
      case ret =>
      intro g' tg' n2 x2 q6 q7 h3 tk3 g0' g1' F4 N4
      dsimp only [List.eraseIdx] at N4
      (try dsimp only)
      repeat' ((fail_if_success (first | (with_reducible show WhlRest _ _ _ _ _ _ _ _ _ _ _) | (with_reducible show wpAny _ _ (exec (Stmt.While _ _ _ _) _) _ _ _) | (with_reducible show WhlIf _ _ _) | (with_reducible show wpAny _ _ (subscriptTail _ _ (Value.ref _) (Value.int _ _)) _ _ _))); first | (k_unfold; (try dsimp only)) | (k_end; wrow_close) | walk1 | (dsimp only; walk1) | (leave1; (try dsimp only)))
      refine' sub_any ?hl g0' ?g1 ?hs ?_
      case hl => is_list
      case g1 => exact g1'
      case hs => exact Nat.le_of_ble_eq_true rfl
      intro v hv
      obtain ⟨e0, t0, rfl, he0⟩ := pick_int (l := expsL) hv (by ((repeat (refine List.forall_mem_cons.mpr ⟨⟨_, _, rfl, (by decide)⟩, ?_⟩)); exact List.forall_mem_nil _))
      have N5 := news_two (own := own) N4 (List.Mem.head _) (List.Mem.tail _ (List.Mem.tail _ (List.Mem.head _))) (fun q hq => by repeat (first | exact hq | refine List.Mem.tail _ ?_))
      (try clear N4); (try clear N3)
      (repeat ((rename _ ∧ _ => hcl); clear hcl))
      have H1 := tup_two N5
      repeat' ((fail_if_success (first | (with_reducible show WhlRest _ _ _ _ _ _ _ _ _ _ _) | (with_reducible show wpAny _ _ (exec (Stmt.While _ _ _ _) _) _ _ _) | (with_reducible show WhlIf _ _ _) | (with_reducible show wpAny _ _ (call (Value.ref 175) _) _ _ _))); first | (k_unfold; (try dsimp only)) | (k_end; wrow_close) | walk1 | (dsimp only; walk1) | (leave1; (try dsimp only)))
      all_goals (try clear hv)
      · have ho : oddB xa xb = true := odd_yes (by assumption) (by assumption)
        k_dflt (refine' drip_at ?k1 ?k2 ?k3 ?k4 ?k5 ?kK _ _ (List.eraseIdx _ 0) ?hv (erase_all ?hr) ?kd ?hm ?hm2 ?ret)
        ((case k2 => k_asm); (case k1 => ((rename Below _ _ _ _ => BB); exact BB)); (case k3 => k_asm); (case k4 => k_asm); (case k5 => k_asm); (case kK => first | exact rfl | assumption); (case kd => decide))
        case hv => k_mem
        case hr => (dsimp only [List.eraseIdx]; ((repeat (refine List.forall_mem_cons.mpr ⟨(by first | assumption | exact ne_tup (by assumption) (by k_mem) (by k_mem) rfl | exact ne_len (by assumption) (by k_mem) (by k_mem) rfl rfl), ?_⟩)); exact allLt_ne (by assumption)))
        case hm => decide
        case hm2 => decide
        case ret =>
        intro g8 tg8 n8 x8 q8 q9 h4 tk4 g80 g81 F5 N5
        dsimp only [List.eraseIdx] at N5
        (try dsimp only)
        (repeat ((rename _ ∧ _ => hcl); clear hcl))
        have H1 := tup_two N5
        repeat' ((fail_if_success (first | (with_reducible show WhlRest _ _ _ _ _ _ _ _ _ _ _) | (with_reducible show wpAny _ _ (exec (Stmt.While _ _ _ _) _) _ _ _) | (with_reducible show WhlIf _ _ _) | (with_reducible show wpAny _ _ (call (Value.ref 175) _) _ _ _))); first | (k_unfold; (try dsimp only)) | (k_end; wrow_close) | walk1 | (dsimp only; walk1) | (leave1; (try dsimp only)))
        have hE : (oddB xa xb = true ∧ 0 ≤ g8 ∧ g8 < 13) ∨ (oddB xa xb = false ∧ g8 ∈ expsL) := .inl ⟨ho, g80, g81⟩
        k_dflt (refine' drip_at ?k1 ?k2 ?k3 ?k4 ?k5 ?kK _ _ (List.eraseIdx _ 1) ?hv (erase_all ?hr) ?kd ?hm ?hm2 ?ret)
        ((case k2 => k_asm); (case k1 => ((rename Below _ _ _ _ => BB); exact BB)); (case k3 => k_asm); (case k4 => k_asm); (case k5 => k_asm); (case kK => first | exact rfl | assumption); (case kd => decide))
        case hv => k_mem
        case hr => (dsimp only [List.eraseIdx]; ((repeat (refine List.forall_mem_cons.mpr ⟨(by first | assumption | exact ne_tup (by assumption) (by k_mem) (by k_mem) rfl | exact ne_len (by assumption) (by k_mem) (by k_mem) rfl rfl), ?_⟩)); exact allLt_ne (by assumption)))
        case hm => decide
        case hm2 => decide
        case ret =>
        intro g9 tg9 n9 x9 q10 q11 h5 tk5 g90 g91 F6 N6
        dsimp only [List.eraseIdx] at N6
        (try dsimp only)
        repeat' ((fail_if_success (first | (with_reducible show WhlRest _ _ _ _ _ _ _ _ _ _ _) | (with_reducible show wpAny _ _ (exec (Stmt.While _ _ _ _) _) _ _ _) | (with_reducible show WhlIf _ _ _) | (with_reducible show wpAny _ _ (subscriptTail _ _ (Value.ref _) (Value.int _ _)) _ _ _))); first | (k_unfold; (try dsimp only)) | (k_end; wrow_close) | walk1 | (dsimp only; walk1) | (leave1; (try dsimp only)))
        refine' sub_any ?hl g90 ?g1 ?hs ?_
        case hl => is_list
        case g1 => exact g91
        case hs => exact Nat.le_of_ble_eq_true rfl
        intro v hv
        obtain ⟨σ, tσ, rfl, hσ⟩ := pick_int (l := [1, -1]) hv (by ((repeat (refine List.forall_mem_cons.mpr ⟨⟨_, _, rfl, (by decide)⟩, ?_⟩)); exact List.forall_mem_nil _))
        have N7 := news_two (own := own) N6 (List.Mem.head _) (List.Mem.tail _ (List.Mem.tail _ (List.Mem.head _))) (fun q hq => by repeat (first | exact hq | refine List.Mem.tail _ ?_))
        have H2 := tup_two N7
        (try clear N6); (try clear hv)
        (repeat ((rename _ ∧ _ => hcl); clear hcl))
        have hσ' := sign_of hσ
        have hok := ok_both hp hE hσ'
        obtain ⟨be1, be2⟩ := exp_bnd hE
        obtain ⟨bm1, bm2⟩ := exp_sgn (exp_bnd hE) hσ'
        clear hσ hE
        repeat' ((fail_if_success (first | (with_reducible show WhlRest _ _ _ _ _ _ _ _ _ _ _) | (with_reducible show wpAny _ _ (exec (Stmt.While _ _ _ _) _) _ _ _) | (with_reducible show WhlIf _ _ _) | (with_reducible show wpAny _ _ (call (Value.ref 189) _) _ _ _))); first | (k_unfold; (try dsimp only)) | (k_end; wrow_close) | walk1 | (dsimp only; walk1) | (leave1; (try dsimp only)))
        obtain ⟨pa1, pa2, pb1, pb2⟩ := pairs_bnd hp
        obtain ⟨c1', c2', c3', c4', c5'⟩ := okB_spec hok
        clear hok H1
        k_dflt (refine' told_ctr ?k1 ?k2 ?k3 ?k4 ?k5 ?kK _ _ ?h1 ?kd (fit_100 pa1 pa2) (fit_100 pb1 pb2) c1' c2' c3' c4' ?ret ?exc)
        ((case k2 => k_asm); (case k1 => ((rename Below _ _ _ _ => BB); exact BB)); (case k3 => k_asm); (case k4 => k_asm); (case k5 => k_asm); (case kK => first | exact rfl | assumption); (case kd => decide))
        case h1 => exact H2
        case ret =>
          intro a' b' ho D9 all9 h9 tk9 F9 N9 sub9 hf
          have hd := due_val c5' ho
          clear c5' c4' c3' c2' c1' ho
          (try dsimp only)
          repeat' ((fail_if_success (first | (with_reducible show WhlRest _ _ _ _ _ _ _ _ _ _ _) | (with_reducible show wpAny _ _ (exec (Stmt.While _ _ _ _) _) _ _ _) | (with_reducible show WhlIf _ _ _) | (with_reducible show wpAny _ _ (call (Value.ref 182) _) _ _ _))); first | (k_unfold; (try dsimp only)) | (k_end; wrow_close) | walk1 | (dsimp only; walk1) | (leave1; (try dsimp only)))
          k_dflt (refine' due_ctr ?k1 ?k2 ?k3 ?k4 ?k5 ?kK _ _ ?h1 ?kd pa1 pa2 pb1 pb2 bm1 bm2 ?val ?none)
          ((case k2 => k_asm); (case k1 => ((rename Below _ _ _ _ => BB); exact BB)); (case k3 => k_asm); (case k4 => k_asm); (case k5 => k_asm); (case kK => first | exact rfl | assumption); (case kd => decide))
          case h1 => exact H2.more sub9
          case none => (intro hn; rw [hd] at hn; cases hn)
          case val =>
            intro n' d' hv' D8 t8 u8 c8 all8 h8 tk8 F8 N8 sub8 hm8
            obtain ⟨rfl, rfl⟩ := some_pair hd hv'
            clear hd hv'
            (try dsimp only)
            repeat' ((fail_if_success (first | (with_reducible show WhlRest _ _ _ _ _ _ _ _ _ _ _) | (with_reducible show wpAny _ _ (exec (Stmt.While _ _ _ _) _) _ _ _) | (with_reducible show WhlIf _ _ _) | (with_reducible show wpAny _ _ (compareOp CmpOp.NotEq _ _) _ _ _))); first | (k_unfold; (try dsimp only)) | (k_end; wrow_close) | walk1 | (dsimp only; walk1) | (leave1; (try dsimp only)))
            rename Frag.In _ _ => KX0
            obtain ⟨ta, tb, hA⟩ := ((FndIn.more hf sub8).tup KX0).at F8 N8
            refine ne_tups hA (News.isTup N8 hm8) (by ke_room) rfl rfl ?_
            repeat' ((fail_if_success (first | (with_reducible show WhlRest _ _ _ _ _ _ _ _ _ _ _) | (with_reducible show wpAny _ _ (exec (Stmt.While _ _ _ _) _) _ _ _) | (with_reducible show WhlIf _ _ _))); first | (k_unfold; (try dsimp only)) | (k_end; wrow_close) | walk1 | (dsimp only; walk1) | (leave1; (try dsimp only)))
        case exc =>
          intro ho h9 tk9 F9 N9
          have hd := due_none c5' ho
          clear c5' c4' c3' c2' c1' ho
          (try dsimp only)
          repeat' ((fail_if_success (first | (with_reducible show WhlRest _ _ _ _ _ _ _ _ _ _ _) | (with_reducible show wpAny _ _ (exec (Stmt.While _ _ _ _) _) _ _ _) | (with_reducible show WhlIf _ _ _) | (with_reducible show wpAny _ _ (call (Value.ref 182) _) _ _ _))); first | (k_unfold; (try dsimp only)) | (k_end; wrow_close) | walk1 | (dsimp only; walk1) | (leave1; (try dsimp only)))
          k_dflt (refine' due_ctr ?k1 ?k2 ?k3 ?k4 ?k5 ?kK _ _ ?h1 ?kd pa1 pa2 pb1 pb2 bm1 bm2 ?val ?none)
          ((case k2 => k_asm); (case k1 => ((rename Below _ _ _ _ => BB); exact BB)); (case k3 => k_asm); (case k4 => k_asm); (case k5 => k_asm); (case kK => first | exact rfl | assumption); (case kd => decide))
          case h1 => exact H2
          case val => (intro n' d' hn; rw [hd] at hn; cases hn)
          case none =>
            intro hn h8 tk8 F8 N8
            clear hd hn
            (try dsimp only)
            repeat' ((fail_if_success (first | (with_reducible show WhlRest _ _ _ _ _ _ _ _ _ _ _) | (with_reducible show wpAny _ _ (exec (Stmt.While _ _ _ _) _) _ _ _) | (with_reducible show WhlIf _ _ _))); first | (k_unfold; (try dsimp only)) | (k_end; wrow_close) | walk1 | (dsimp only; walk1) | (leave1; (try dsimp only)))
      · have hE : (oddB xa xb = true ∧ 0 ≤ e0 ∧ e0 < 13) ∨ (oddB xa xb = false ∧ e0 ∈ expsL) := .inr ⟨odd_no2 (by assumption), he0⟩
        k_dflt (refine' drip_at ?k1 ?k2 ?k3 ?k4 ?k5 ?kK _ _ (List.eraseIdx _ 1) ?hv (erase_all ?hr) ?kd ?hm ?hm2 ?ret)
        ((case k2 => k_asm); (case k1 => ((rename Below _ _ _ _ => BB); exact BB)); (case k3 => k_asm); (case k4 => k_asm); (case k5 => k_asm); (case kK => first | exact rfl | assumption); (case kd => decide))
        case hv => k_mem
        case hr => (dsimp only [List.eraseIdx]; ((repeat (refine List.forall_mem_cons.mpr ⟨(by first | assumption | exact ne_tup (by assumption) (by k_mem) (by k_mem) rfl | exact ne_len (by assumption) (by k_mem) (by k_mem) rfl rfl), ?_⟩)); exact allLt_ne (by assumption)))
        case hm => decide
        case hm2 => decide
        case ret =>
        intro g9 tg9 n9 x9 q10 q11 h5 tk5 g90 g91 F6 N6
        dsimp only [List.eraseIdx] at N6
        (try dsimp only)
        repeat' ((fail_if_success (first | (with_reducible show WhlRest _ _ _ _ _ _ _ _ _ _ _) | (with_reducible show wpAny _ _ (exec (Stmt.While _ _ _ _) _) _ _ _) | (with_reducible show WhlIf _ _ _) | (with_reducible show wpAny _ _ (subscriptTail _ _ (Value.ref _) (Value.int _ _)) _ _ _))); first | (k_unfold; (try dsimp only)) | (k_end; wrow_close) | walk1 | (dsimp only; walk1) | (leave1; (try dsimp only)))
        refine' sub_any ?hl g90 ?g1 ?hs ?_
        case hl => is_list
        case g1 => exact g91
        case hs => exact Nat.le_of_ble_eq_true rfl
        intro v hv
        obtain ⟨σ, tσ, rfl, hσ⟩ := pick_int (l := [1, -1]) hv (by ((repeat (refine List.forall_mem_cons.mpr ⟨⟨_, _, rfl, (by decide)⟩, ?_⟩)); exact List.forall_mem_nil _))
        have N7 := news_two (own := own) N6 (List.Mem.head _) (List.Mem.tail _ (List.Mem.tail _ (List.Mem.head _))) (fun q hq => by repeat (first | exact hq | refine List.Mem.tail _ ?_))
        have H2 := tup_two N7
        (try clear N6); (try clear hv)
        (repeat ((rename _ ∧ _ => hcl); clear hcl))
        have hσ' := sign_of hσ
        have hok := ok_both hp hE hσ'
        obtain ⟨be1, be2⟩ := exp_bnd hE
        obtain ⟨bm1, bm2⟩ := exp_sgn (exp_bnd hE) hσ'
        clear hσ hE
        repeat' ((fail_if_success (first | (with_reducible show WhlRest _ _ _ _ _ _ _ _ _ _ _) | (with_reducible show wpAny _ _ (exec (Stmt.While _ _ _ _) _) _ _ _) | (with_reducible show WhlIf _ _ _) | (with_reducible show wpAny _ _ (call (Value.ref 189) _) _ _ _))); first | (k_unfold; (try dsimp only)) | (k_end; wrow_close) | walk1 | (dsimp only; walk1) | (leave1; (try dsimp only)))
        obtain ⟨pa1, pa2, pb1, pb2⟩ := pairs_bnd hp
        obtain ⟨c1', c2', c3', c4', c5'⟩ := okB_spec hok
        clear hok H1
        k_dflt (refine' told_ctr ?k1 ?k2 ?k3 ?k4 ?k5 ?kK _ _ ?h1 ?kd (fit_100 pa1 pa2) (fit_100 pb1 pb2) c1' c2' c3' c4' ?ret ?exc)
        ((case k2 => k_asm); (case k1 => ((rename Below _ _ _ _ => BB); exact BB)); (case k3 => k_asm); (case k4 => k_asm); (case k5 => k_asm); (case kK => first | exact rfl | assumption); (case kd => decide))
        case h1 => exact H2
        case ret =>
          intro a' b' ho D9 all9 h9 tk9 F9 N9 sub9 hf
          have hd := due_val c5' ho
          clear c5' c4' c3' c2' c1' ho
          (try dsimp only)
          repeat' ((fail_if_success (first | (with_reducible show WhlRest _ _ _ _ _ _ _ _ _ _ _) | (with_reducible show wpAny _ _ (exec (Stmt.While _ _ _ _) _) _ _ _) | (with_reducible show WhlIf _ _ _) | (with_reducible show wpAny _ _ (call (Value.ref 182) _) _ _ _))); first | (k_unfold; (try dsimp only)) | (k_end; wrow_close) | walk1 | (dsimp only; walk1) | (leave1; (try dsimp only)))
          k_dflt (refine' due_ctr ?k1 ?k2 ?k3 ?k4 ?k5 ?kK _ _ ?h1 ?kd pa1 pa2 pb1 pb2 bm1 bm2 ?val ?none)
          ((case k2 => k_asm); (case k1 => ((rename Below _ _ _ _ => BB); exact BB)); (case k3 => k_asm); (case k4 => k_asm); (case k5 => k_asm); (case kK => first | exact rfl | assumption); (case kd => decide))
          case h1 => exact H2.more sub9
          case none => (intro hn; rw [hd] at hn; cases hn)
          case val =>
            intro n' d' hv' D8 t8 u8 c8 all8 h8 tk8 F8 N8 sub8 hm8
            obtain ⟨rfl, rfl⟩ := some_pair hd hv'
            clear hd hv'
            (try dsimp only)
            repeat' ((fail_if_success (first | (with_reducible show WhlRest _ _ _ _ _ _ _ _ _ _ _) | (with_reducible show wpAny _ _ (exec (Stmt.While _ _ _ _) _) _ _ _) | (with_reducible show WhlIf _ _ _) | (with_reducible show wpAny _ _ (compareOp CmpOp.NotEq _ _) _ _ _))); first | (k_unfold; (try dsimp only)) | (k_end; wrow_close) | walk1 | (dsimp only; walk1) | (leave1; (try dsimp only)))
            rename Frag.In _ _ => KX0
            obtain ⟨ta, tb, hA⟩ := ((FndIn.more hf sub8).tup KX0).at F8 N8
            refine ne_tups hA (News.isTup N8 hm8) (by ke_room) rfl rfl ?_
            repeat' ((fail_if_success (first | (with_reducible show WhlRest _ _ _ _ _ _ _ _ _ _ _) | (with_reducible show wpAny _ _ (exec (Stmt.While _ _ _ _) _) _ _ _) | (with_reducible show WhlIf _ _ _))); first | (k_unfold; (try dsimp only)) | (k_end; wrow_close) | walk1 | (dsimp only; walk1) | (leave1; (try dsimp only)))
        case exc =>
          intro ho h9 tk9 F9 N9
          have hd := due_none c5' ho
          clear c5' c4' c3' c2' c1' ho
          (try dsimp only)
          repeat' ((fail_if_success (first | (with_reducible show WhlRest _ _ _ _ _ _ _ _ _ _ _) | (with_reducible show wpAny _ _ (exec (Stmt.While _ _ _ _) _) _ _ _) | (with_reducible show WhlIf _ _ _) | (with_reducible show wpAny _ _ (call (Value.ref 182) _) _ _ _))); first | (k_unfold; (try dsimp only)) | (k_end; wrow_close) | walk1 | (dsimp only; walk1) | (leave1; (try dsimp only)))
          k_dflt (refine' due_ctr ?k1 ?k2 ?k3 ?k4 ?k5 ?kK _ _ ?h1 ?kd pa1 pa2 pb1 pb2 bm1 bm2 ?val ?none)
          ((case k2 => k_asm); (case k1 => ((rename Below _ _ _ _ => BB); exact BB)); (case k3 => k_asm); (case k4 => k_asm); (case k5 => k_asm); (case kK => first | exact rfl | assumption); (case kd => decide))
          case h1 => exact H2
          case val => (intro n' d' hn; rw [hd] at hn; cases hn)
          case none =>
            intro hn h8 tk8 F8 N8
            clear hd hn
            (try dsimp only)
            repeat' ((fail_if_success (first | (with_reducible show WhlRest _ _ _ _ _ _ _ _ _ _ _) | (with_reducible show wpAny _ _ (exec (Stmt.While _ _ _ _) _) _ _ _) | (with_reducible show WhlIf _ _ _))); first | (k_unfold; (try dsimp only)) | (k_end; wrow_close) | walk1 | (dsimp only; walk1) | (leave1; (try dsimp only)))
      · have hE : (oddB xa xb = true ∧ 0 ≤ e0 ∧ e0 < 13) ∨ (oddB xa xb = false ∧ e0 ∈ expsL) := .inr ⟨odd_no1 (by assumption), he0⟩
        k_dflt (refine' drip_at ?k1 ?k2 ?k3 ?k4 ?k5 ?kK _ _ (List.eraseIdx _ 1) ?hv (erase_all ?hr) ?kd ?hm ?hm2 ?ret)
        ((case k2 => k_asm); (case k1 => ((rename Below _ _ _ _ => BB); exact BB)); (case k3 => k_asm); (case k4 => k_asm); (case k5 => k_asm); (case kK => first | exact rfl | assumption); (case kd => decide))
        case hv => k_mem
        case hr => (dsimp only [List.eraseIdx]; ((repeat (refine List.forall_mem_cons.mpr ⟨(by first | assumption | exact ne_tup (by assumption) (by k_mem) (by k_mem) rfl | exact ne_len (by assumption) (by k_mem) (by k_mem) rfl rfl), ?_⟩)); exact allLt_ne (by assumption)))
        case hm => decide
        case hm2 => decide
        case ret =>
        intro g9 tg9 n9 x9 q10 q11 h5 tk5 g90 g91 F6 N6
        dsimp only [List.eraseIdx] at N6
        (try dsimp only)
        repeat' ((fail_if_success (first | (with_reducible show WhlRest _ _ _ _ _ _ _ _ _ _ _) | (with_reducible show wpAny _ _ (exec (Stmt.While _ _ _ _) _) _ _ _) | (with_reducible show WhlIf _ _ _) | (with_reducible show wpAny _ _ (subscriptTail _ _ (Value.ref _) (Value.int _ _)) _ _ _))); first | (k_unfold; (try dsimp only)) | (k_end; wrow_close) | walk1 | (dsimp only; walk1) | (leave1; (try dsimp only)))
        refine' sub_any ?hl g90 ?g1 ?hs ?_
        case hl => is_list
        case g1 => exact g91
        case hs => exact Nat.le_of_ble_eq_true rfl
        intro v hv
        obtain ⟨σ, tσ, rfl, hσ⟩ := pick_int (l := [1, -1]) hv (by ((repeat (refine List.forall_mem_cons.mpr ⟨⟨_, _, rfl, (by decide)⟩, ?_⟩)); exact List.forall_mem_nil _))
        have N7 := news_two (own := own) N6 (List.Mem.head _) (List.Mem.tail _ (List.Mem.tail _ (List.Mem.head _))) (fun q hq => by repeat (first | exact hq | refine List.Mem.tail _ ?_))
        have H2 := tup_two N7
        (try clear N6); (try clear hv)
        (repeat ((rename _ ∧ _ => hcl); clear hcl))
        have hσ' := sign_of hσ
        have hok := ok_both hp hE hσ'
        obtain ⟨be1, be2⟩ := exp_bnd hE
        obtain ⟨bm1, bm2⟩ := exp_sgn (exp_bnd hE) hσ'
        clear hσ hE
        repeat' ((fail_if_success (first | (with_reducible show WhlRest _ _ _ _ _ _ _ _ _ _ _) | (with_reducible show wpAny _ _ (exec (Stmt.While _ _ _ _) _) _ _ _) | (with_reducible show WhlIf _ _ _) | (with_reducible show wpAny _ _ (call (Value.ref 189) _) _ _ _))); first | (k_unfold; (try dsimp only)) | (k_end; wrow_close) | walk1 | (dsimp only; walk1) | (leave1; (try dsimp only)))
        obtain ⟨pa1, pa2, pb1, pb2⟩ := pairs_bnd hp
        obtain ⟨c1', c2', c3', c4', c5'⟩ := okB_spec hok
        clear hok H1
        k_dflt (refine' told_ctr ?k1 ?k2 ?k3 ?k4 ?k5 ?kK _ _ ?h1 ?kd (fit_100 pa1 pa2) (fit_100 pb1 pb2) c1' c2' c3' c4' ?ret ?exc)
        ((case k2 => k_asm); (case k1 => ((rename Below _ _ _ _ => BB); exact BB)); (case k3 => k_asm); (case k4 => k_asm); (case k5 => k_asm); (case kK => first | exact rfl | assumption); (case kd => decide))
        case h1 => exact H2
        case ret =>
          intro a' b' ho D9 all9 h9 tk9 F9 N9 sub9 hf
          have hd := due_val c5' ho
          clear c5' c4' c3' c2' c1' ho
          (try dsimp only)
          repeat' ((fail_if_success (first | (with_reducible show WhlRest _ _ _ _ _ _ _ _ _ _ _) | (with_reducible show wpAny _ _ (exec (Stmt.While _ _ _ _) _) _ _ _) | (with_reducible show WhlIf _ _ _) | (with_reducible show wpAny _ _ (call (Value.ref 182) _) _ _ _))); first | (k_unfold; (try dsimp only)) | (k_end; wrow_close) | walk1 | (dsimp only; walk1) | (leave1; (try dsimp only)))
          k_dflt (refine' due_ctr ?k1 ?k2 ?k3 ?k4 ?k5 ?kK _ _ ?h1 ?kd pa1 pa2 pb1 pb2 bm1 bm2 ?val ?none)
          ((case k2 => k_asm); (case k1 => ((rename Below _ _ _ _ => BB); exact BB)); (case k3 => k_asm); (case k4 => k_asm); (case k5 => k_asm); (case kK => first | exact rfl | assumption); (case kd => decide))
          case h1 => exact H2.more sub9
          case none => (intro hn; rw [hd] at hn; cases hn)
          case val =>
            intro n' d' hv' D8 t8 u8 c8 all8 h8 tk8 F8 N8 sub8 hm8
            obtain ⟨rfl, rfl⟩ := some_pair hd hv'
            clear hd hv'
            (try dsimp only)
            repeat' ((fail_if_success (first | (with_reducible show WhlRest _ _ _ _ _ _ _ _ _ _ _) | (with_reducible show wpAny _ _ (exec (Stmt.While _ _ _ _) _) _ _ _) | (with_reducible show WhlIf _ _ _) | (with_reducible show wpAny _ _ (compareOp CmpOp.NotEq _ _) _ _ _))); first | (k_unfold; (try dsimp only)) | (k_end; wrow_close) | walk1 | (dsimp only; walk1) | (leave1; (try dsimp only)))
            rename Frag.In _ _ => KX0
            obtain ⟨ta, tb, hA⟩ := ((FndIn.more hf sub8).tup KX0).at F8 N8
            refine ne_tups hA (News.isTup N8 hm8) (by ke_room) rfl rfl ?_
            repeat' ((fail_if_success (first | (with_reducible show WhlRest _ _ _ _ _ _ _ _ _ _ _) | (with_reducible show wpAny _ _ (exec (Stmt.While _ _ _ _) _) _ _ _) | (with_reducible show WhlIf _ _ _))); first | (k_unfold; (try dsimp only)) | (k_end; wrow_close) | walk1 | (dsimp only; walk1) | (leave1; (try dsimp only)))
        case exc =>
          intro ho h9 tk9 F9 N9
          have hd := due_none c5' ho
          clear c5' c4' c3' c2' c1' ho
          (try dsimp only)
          repeat' ((fail_if_success (first | (with_reducible show WhlRest _ _ _ _ _ _ _ _ _ _ _) | (with_reducible show wpAny _ _ (exec (Stmt.While _ _ _ _) _) _ _ _) | (with_reducible show WhlIf _ _ _) | (with_reducible show wpAny _ _ (call (Value.ref 182) _) _ _ _))); first | (k_unfold; (try dsimp only)) | (k_end; wrow_close) | walk1 | (dsimp only; walk1) | (leave1; (try dsimp only)))
          k_dflt (refine' due_ctr ?k1 ?k2 ?k3 ?k4 ?k5 ?kK _ _ ?h1 ?kd pa1 pa2 pb1 pb2 bm1 bm2 ?val ?none)
          ((case k2 => k_asm); (case k1 => ((rename Below _ _ _ _ => BB); exact BB)); (case k3 => k_asm); (case k4 => k_asm); (case k5 => k_asm); (case kK => first | exact rfl | assumption); (case kd => decide))
          case h1 => exact H2
          case val => (intro n' d' hn; rw [hd] at hn; cases hn)
          case none =>
            intro hn h8 tk8 F8 N8
            clear hd hn
            (try dsimp only)
            repeat' ((fail_if_success (first | (with_reducible show WhlRest _ _ _ _ _ _ _ _ _ _ _) | (with_reducible show wpAny _ _ (exec (Stmt.While _ _ _ _) _) _ _ _) | (with_reducible show WhlIf _ _ _))); first | (k_unfold; (try dsimp only)) | (k_end; wrow_close) | walk1 | (dsimp only; walk1) | (leave1; (try dsimp only)))
end
end Mine
end
theorem PySem.Challenge.cw_xm0677_01_holds : PySem.Challenge.rw_xm0677_01.Holds :=
  Mine.law_holds
