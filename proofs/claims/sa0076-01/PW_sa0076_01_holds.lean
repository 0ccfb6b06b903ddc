import PyProof.Rows.All
import Wide.All
import OpenK.AllK
import Wide.FinOn
import PySem.Challenge.RW_sa0076_01
open PySem PySem.W PyProof.Rows PySem.Calls
set_option Elab.async false
set_option maxRecDepth 100000
set_option linter.unusedVariables false
set_option linter.unusedSimpArgs false
set_option maxHeartbeats 8000000
namespace Mine
open_top hd for PySem.Challenge.rw_sa0076_01
end Mine
-- part G1
set_option maxHeartbeats 4000000
namespace Mine
def gcdI (a b : Int) : Int := ((Int.gcd a b : Nat) : Int)
theorem gcd_mod (a b : Int) (hb : 0 ≤ b) (ha : 0 ≤ a) : gcdI b (a.fmod b) = gcdI a b := by
  rw [Int.fmod_eq_emod_of_nonneg _ hb]
  obtain ⟨n, rfl⟩ := Int.eq_ofNat_of_zero_le ha
  obtain ⟨k, rfl⟩ := Int.eq_ofNat_of_zero_le hb
  unfold gcdI Int.gcd
  rw [← Int.natCast_emod, Int.natAbs_natCast, Int.natAbs_natCast, Int.natAbs_natCast, Nat.gcd_comm n k, Nat.gcd_rec k n, Nat.gcd_comm]
theorem gcd_turn {a b a0 b0 : Int} (ha : 0 ≤ a) (hb : 0 ≤ b) (h : gcdI a b = gcdI a0 b0) (hn : b ≠ 0) : 0 ≤ b ∧ 0 ≤ a.fmod b ∧ gcdI b (a.fmod b) = gcdI a0 b0 := by
  refine ⟨hb, ?_, (gcd_mod a b hb ha).trans h⟩
  rw [Int.fmod_eq_emod_of_nonneg _ hb]
  exact Int.emod_nonneg _ hn
theorem gcd_less {a b : Int} (hb : 0 ≤ b) (hn : b ≠ 0) : (a.fmod b).toNat < b.toNat := by
  have h1 := Int.emod_lt_of_pos a (show 0 < b by omega)
  rw [Int.fmod_eq_emod_of_nonneg _ hb]
  omega
def absI (a : Int) : Int := if a < 0 then -a else a
theorem gcd_abs (a b : Int) : gcdI (absI a) (absI b) = gcdI a b := by
  unfold gcdI absI Int.gcd
  congr 2 <;> split <;> simp
theorem gcd_start (a b : Int) : 0 ≤ absI a ∧ 0 ≤ absI b ∧ gcdI (absI a) (absI b) = gcdI (absI a) (absI b) := ⟨by unfold absI; split <;> omega, by unfold absI; split <;> omega, rfl⟩
theorem gcd_last {x y a b : Int} (hx : 0 ≤ x) (h : gcdI x y = gcdI (absI a) (absI b)) (hy : y = 0) : x = gcdI a b := by
  subst hy
  have e1 : gcdI x 0 = x := by unfold gcdI; rw [Int.gcd_zero]; omega
  rw [← e1, h, gcd_abs]
theorem gcd_cb (w : World) (mean : ExcName → Option Value) (mg mb : Str → Option Value) : CbC 41 0 (∀ (cbNews : CbLed) (a : Int) (ta : CbTok) (b : Int) (tb : CbTok), CbClaim PySem.Challenge.rw_sa0076_01.row.prog w (hd.heap_39 w.params) hd.view_39 (looseW hd.view_39 []) mean mg mb 41 cbNews [] True [Value.int a ta, Value.int b tb] (fun t => Value.int (gcdI a b) t)) := by
  k_fill
  w_top off
  unfold CbC; dsimp only [CbClaim, CbLists, CbRet]; intros; rename_i hret
  have cbI : CbIn 41 := CbIn.mk
  k_with "exec While Compare cons nil" => k_while_given ["a!", "b!"] (fun a0 b0 (_ : List Int) a b => 0 ≤ a ∧ 0 ≤ b ∧ gcdI a b = gcdI a0 b0) (fun a0 b0 (_ : List Int) a b => b.toNat) "a" "b"
  k_with "state" => first | exact gcd_turn (by assumption) (by assumption) (by assumption) (by first | assumption | omega) | exact gcd_start _ _
  k_with "measure" => exact gcd_less (by assumption) (by first | assumption | omega)
  refine wpAny_call ?_
  k_dflt cell_enter
  k_steps
  all_goals (refine cb_retI hret ?e1 ?e2 ?e3; (case e2 => k_asm); (case e3 => first | k_asm | (refine' cb_drop ?cbN ?cbS; (case cbN => assumption); (case cbS => kcj_all))); (case e1 => exact gcd_last (by assumption) (by assumption) (by first | assumption | omega)))
end Mine
-- part S0
set_option maxHeartbeats 4000000
namespace Mine
abbrev tupO (x : Int) (t : Tok) (y : Int) (u : Tok) (c : Nat) : Obj := { cls := .type "tuple", data := .seq #[.int x t, .int y u] c }
theorem R0_is (w : World) : ∃ t u c, (hd.heap_39 w.params).lookup 42 = some (tupO 0 t 1 u c) := ⟨_, _, _, rfl⟩
theorem R1_is (w : World) : ∃ t u c, (hd.heap_39 w.params).lookup 43 = some (tupO 1 t 1 u c) := ⟨_, _, _, rfl⟩
/-- a tuple of two ints, of the ledger or of the written part -/
def TupA (K : Frag) (news : List (Addr × Obj)) (a : Addr) (x y : Int) : Prop := ∃ t u c, (a, tupO x t y u c) ∈ news ∨ K.lookup a = some (tupO x t y u c)
theorem TupA.mono {K : Frag} {news news' : List (Addr × Obj)} {a : Addr} {x y : Int} (h : TupA K news a x y) (hs : ∀ p ∈ news, p ∈ news') : TupA K news' a x y := by
  obtain ⟨t, u, c, h | h⟩ := h
  · exact ⟨t, u, c, .inl (hs _ h)⟩
  · exact ⟨t, u, c, .inr h⟩
theorem tupA_R0 (w : World) (news : List (Addr × Obj)) : TupA (hd.heap_39 w.params) news 42 0 1 := by
  obtain ⟨t, u, c, h⟩ := R0_is w
  exact ⟨t, u, c, .inr h⟩
theorem tupA_R1 (w : World) (news : List (Addr × Obj)) : TupA (hd.heap_39 w.params) news 43 1 1 := by
  obtain ⟨t, u, c, h⟩ := R1_is w
  exact ⟨t, u, c, .inr h⟩
theorem tupA_new {K : Frag} {news : List (Addr × Obj)} {a : Addr} {x y : Int} {t u : Tok} {c : Nat} (h : (a, tupO x t y u c) ∈ news) : TupA K news a x y := ⟨t, u, c, .inl h⟩
theorem TupA.is {K : Frag} {news news' : List (Addr × Obj)} {a L : Addr} {x y : Int} {h₀ h : Heap} {m : Str → Option Value} (hT : TupA K news a x y) (X : K.In h₀) (F : Fr h₀ L h m) (N : News h₀ L h news') (hs : ∀ p ∈ news, p ∈ news') : ∃ t u, IsTup h a [Value.int x t, Value.int y u].toArray := by
  obtain ⟨t, u, c, q | q⟩ := hT
  · exact ⟨t, u, News.isTup N (hs _ q)⟩
  · exact ⟨t, u, _, F.keep _ _ (X _ _ q), rfl, c, rfl⟩
section
variable {prog : Program} {w : World} {A : Around} {E : Value → Shared → Prop} {s : Shared} {value slice : PySem.Expr} {K : Frag} {news news' : List (Addr × Obj)} {a L : Addr} {x y : Int} {v : Tok} {h₀ : Heap} {m : Str → Option Value} {Q : Value → Shared → Prop}
theorem sub0 (hT : TupA K news a x y) (X : K.In h₀) (F : Fr h₀ L s.heap m) (N : News h₀ L s.heap news') (hs : ∀ p ∈ news, p ∈ news') (h : ∀ t, Q (.int x t) s)
    (hb : subscripted slice false (.ref a) (.int 0 v) = operate [.ref a, .int 0 v] (getItem (.ref a) (.int 0 v)) := by with_unfolding_all rfl) : wpAny (model prog w) A (subscriptTail value slice (.ref a) (.int 0 v)) Q E s := by
  obtain ⟨t, u, hI⟩ := hT.is X F N hs
  exact item_tupleT (j := 0) hI (by decide) (by decide) rfl rfl (h t) hb
theorem sub1 (hT : TupA K news a x y) (X : K.In h₀) (F : Fr h₀ L s.heap m) (N : News h₀ L s.heap news') (hs : ∀ p ∈ news, p ∈ news') (h : ∀ t, Q (.int y t) s)
    (hb : subscripted slice false (.ref a) (.int 1 v) = operate [.ref a, .int 1 v] (getItem (.ref a) (.int 1 v)) := by with_unfolding_all rfl) : wpAny (model prog w) A (subscriptTail value slice (.ref a) (.int 1 v)) Q E s := by
  obtain ⟨t, u, hI⟩ := hT.is X F N hs
  exact item_tupleT (j := 1) hI (by decide) (by decide) rfl rfl (h u) hb
end
/-- what a call asks of its caller -/
structure Here (w : World) (mean : ExcName → Option Value) (mg mb : Str → Option Value) (sz dp un : Nat) (cs : Scope) (outer : List Env) (A₀ : Around) (base h₀ : Heap) (L : Addr) (m : Str → Option Value) (s : Shared) (news : List (Addr × Obj)) : Prop where
  b : Below A₀ base outer h₀
  f : Fr h₀ L s.heap m
  x : (hd.heap_39 w.params).In h₀
  n : News h₀ L s.heap news
  t : Top hd.view_39 (looseW hd.view_39 []) mean mg mb h₀
  k : cs.kind = .function
  d : dp + sz < recursionLimit
  u : un + 8 * sz < cLine
abbrev RetI (h₀ : Heap) (L : Addr) (m : Str → Option Value) (news : List (Addr × Obj)) (s : Shared) (Q : Value → Shared → Prop) (x : Int) : Prop :=
  ∀ (t : Tok) (h' : Heap) (tk' : Nat), Fr h₀ L h' m → News h₀ L h' news → Q (.int x t) { s with heap := h', toks := tk' }
abbrev RetB (h₀ : Heap) (L : Addr) (m : Str → Option Value) (news : List (Addr × Obj)) (s : Shared) (Q : Value → Shared → Prop) (x : Bool) : Prop :=
  ∀ (h' : Heap) (tk' : Nat), Fr h₀ L h' m → News h₀ L h' news → Q (.bool x) { s with heap := h', toks := tk' }
abbrev RetT (h₀ : Heap) (L : Addr) (m : Str → Option Value) (news : List (Addr × Obj)) (s : Shared) (Q : Value → Shared → Prop) (x y : Int) : Prop :=
  ∀ (D : Addr) (t u : Tok) (c : Nat) (h' : Heap) (tk' : Nat), Fr h₀ L h' m → News h₀ L h' ((D, tupO x t y u c) :: news) → (∀ p ∈ news, p.1 < D) → Q (.ref D) { s with heap := h', toks := tk' }
theorem retT_end {h₀ h' : Heap} {L D : Addr} {m : Str → Option Value} {news news' : List (Addr × Obj)} {s : Shared} {Q : Value → Shared → Prop} {x y x' y' : Int} {t u : Tok} {c tk' : Nat}
    (hret : RetT h₀ L m news s Q x y) (ex : x' = x) (ey : y' = y) (F : Fr h₀ L h' m) (N : News h₀ L h' news') (hm : (D, tupO x' t y' u c) ∈ news') (hs : ∀ p ∈ news, p ∈ news') (hl : ∀ p ∈ news, p.1 < D) : Q (.ref D) { s with heap := h', toks := tk' } := by
  subst ex ey
  refine hret D t u c h' tk' F (fun p hp => ?_) hl
  rcases List.mem_cons.mp hp with rfl | hp
  · exact N _ hm
  · exact N p (hs p hp)
theorem retI_end {h₀ h' : Heap} {L : Addr} {m : Str → Option Value} {news news' : List (Addr × Obj)} {s : Shared} {Q : Value → Shared → Prop} {x x' : Int} {t : Tok} {tk' : Nat}
    (hret : RetI h₀ L m news s Q x) (ex : x' = x) (F : Fr h₀ L h' m) (N : News h₀ L h' news') (hs : ∀ p ∈ news, p ∈ news') : Q (.int x' t) { s with heap := h', toks := tk' } := by
  subst ex
  exact hret t h' tk' F (cb_drop N hs)
theorem retB_end {h₀ h' : Heap} {L : Addr} {m : Str → Option Value} {news news' : List (Addr × Obj)} {s : Shared} {Q : Value → Shared → Prop} {x x' : Bool} {tk' : Nat}
    (hret : RetB h₀ L m news s Q x) (ex : x' = x) (F : Fr h₀ L h' m) (N : News h₀ L h' news') (hs : ∀ p ∈ news, p ∈ news') : Q (.bool x') { s with heap := h', toks := tk' } := by
  subst ex
  exact hret h' tk' F (cb_drop N hs)
section
variable {w : World} {mean : ExcName → Option Value} {mg mb : Str → Option Value} {dp un : Nat} {gd : Option (List Code)} {cn : Str} {cs : Scope} {a : Addr} {ccd : Value} {cl : List (Str × Addr)} {outer : List Env} {A₀ : Around} {base h₀ : Heap} {L : Addr} {m : Str → Option Value} {s : Shared} {Q E : Value → Shared → Prop} {news : List (Addr × Obj)}
theorem gcd_use {x y : Int} {tx ty : Tok} (B : Below A₀ base outer h₀) (F : Fr h₀ L s.heap m) (X : (hd.heap_39 w.params).In h₀) (N : News h₀ L s.heap news) (T : Top hd.view_39 (looseW hd.view_39 []) mean mg mb h₀) (hk : cs.kind = .function) (hdp : dp + 1 < recursionLimit) (hu : un + 8 < cLine)
    (ret : RetI h₀ L m news s Q (gcdI x y)) : wpAny (model PySem.Challenge.rw_sa0076_01.row.prog w) (ktrTop dp un gd cn cs L a ccd cl outer) (call (.ref 41) [.int x tx, .int y ty]) Q E s :=
  (gcd_cb w mean mg mb).out news x tx y ty dp un gd cn cs a ccd cl outer A₀ base h₀ L m s Q E B F X N T hk trivial hdp hu ret
end
end Mine
-- part S1
set_option maxHeartbeats 4000000
namespace Mine
def ratX (x y : Int) : Int := x.fdiv (gcdI x y)
def ratY (x y : Int) : Int := y.fdiv (gcdI x y)
theorem gcdI_pos {x y : Int} (h : 0 < y) : 0 < gcdI x y := by
  unfold gcdI
  exact_mod_cast Int.gcd_pos_of_ne_zero_right x (by omega)
theorem gcdI_le {x y : Int} (h : 0 < y) : gcdI x y ≤ y := by
  have h2 : gcdI x y ≤ y.natAbs := by
    unfold gcdI
    exact_mod_cast Int.gcd_le_natAbs_right x (by omega)
  omega
theorem prodOk {x y : Int} (h : 0 < x ∧ x < 32768) (k : 0 < y ∧ y < 32768) : 0 < x * y ∧ x * y < 1073741824 := by
  refine ⟨Int.mul_pos h.1 k.1, ?_⟩
  have h1 : x * y ≤ 32767 * y := Int.mul_le_mul_of_nonneg_right (by omega) (by omega)
  omega
-- the branch that the facts decide
local macro_rules | `(tactic| walk_at "ite") => `(tactic| (k_here; k_openite; first | (refine ite_neg (by (simp only [decide_eq_true_eq, beq_iff_eq, bne_iff_ne, ne_eq, gt_iff_lt, ge_iff_le]; omega)) ?_) | (refine ite_pos (by (simp only [decide_eq_true_eq, beq_iff_eq, bne_iff_ne, ne_eq, gt_iff_lt, ge_iff_le]; omega)) ?_)))
-- a tuple's items
local macro_rules | `(tactic| walk_at "subscriptTail") => `(tactic| (k_here; (with_reducible show wpAny _ _ (subscriptTail _ _ (Value.ref _) (Value.int 1 _)) _ _ _); k_dflt (refine' sub1 ?kT ?kX ?kF ?kN ?kS ?_ ?kB; (case kT => assumption); (case kF => k_asm); (case kX => k_asm); (case kN => k_asm); (case kS => kcj_all); (case kB => with_unfolding_all rfl); k_whole); intro t9; (try dsimp only)))
local macro_rules | `(tactic| walk_at "subscriptTail") => `(tactic| (k_here; (with_reducible show wpAny _ _ (subscriptTail _ _ (Value.ref _) (Value.int 0 _)) _ _ _); k_dflt (refine' sub0 ?kT ?kX ?kF ?kN ?kS ?_ ?kB; (case kT => assumption); (case kF => k_asm); (case kX => k_asm); (case kN => k_asm); (case kS => kcj_all); (case kB => with_unfolding_all rfl); k_whole); intro t9; (try dsimp only)))
-- the calls' common premises
local macro_rules | `(tactic| walk_at "ASK") => `(tactic| ((case k1 => k_asm); (case k2 => k_asm); (case k3 => k_asm); (case k4 => k_asm); (case k5 => k_asm); (case kK => first | exact rfl | assumption); (case kd => ktr_room); (case ku => ktr_units)))
local macro_rules | `(tactic| walk_at "call ref") => `(tactic| (k_here; (with_reducible show wpAny _ _ (PySem.call (Value.ref 41) _ _) _ _ _); k_dflt (refine' gcd_use ?k1 ?k2 ?k3 ?k4 ?k5 ?kK ?kd ?ku ?_; walk_at "ASK"; k_whole); intro t9 h9 tk9 F9 N9; (try dsimp only); (try k_fold)))
-- a tuple comes back
local macro_rules | `(tactic| walk_at "BACK") => `(tactic| (refine' retT_end (by assumption) ?ex ?ey ?ef ?en ?em ?es ?el; (case ef => k_asm); (case en => k_asm); (case em => k_mem); (case es => kcj_all); (case ex => exact rfl); (case ey => exact rfl); (case el => first | assumption | fail "BACK: order")))
section
variable {w : World} {mean : ExcName → Option Value} {mg mb : Str → Option Value} {dp un : Nat} {gd : Option (List Code)} {cn : Str} {cs : Scope} {a : Addr} {ccd : Value} {cl : List (Str × Addr)} {outer : List Env} {A₀ : Around} {base h₀ : Heap} {L : Addr} {m : Str → Option Value} {s : Shared} {Q E : Value → Shared → Prop} {news : List (Addr × Obj)}
theorem rat_use {x y : Int} {tx ty : Tok} (B : Below A₀ base outer h₀) (F : Fr h₀ L s.heap m) (X : (hd.heap_39 w.params).In h₀) (N : News h₀ L s.heap news) (T : Top hd.view_39 (looseW hd.view_39 []) mean mg mb h₀) (hk : cs.kind = .function) (hdp : dp + 2 < recursionLimit) (hu : un + 16 < cLine)
    (hy : 0 < y ∧ y < 1073741824) (hret : RetT h₀ L m news s Q (ratX x y) (ratY x y)) : wpAny (model PySem.Challenge.rw_sa0076_01.row.prog w) (ktrTop dp un gd cn cs L a ccd cl outer) (call (.ref 50) [.int x tx, .int y ty]) Q E s := by
  revert X; k_fill; intro X; w_top off
  obtain ⟨hy, hb⟩ := hy
  have hg := gcdI_pos (x := x) hy
  have hl := gcdI_le (x := x) hy
  refine wpAny_call ?_
  k_dflt cell_enter
  k_steps
  all_goals walk_at "BACK"
end
end Mine
-- part S2
set_option maxHeartbeats 4000000
namespace Mine
-- the branch that the facts decide
local macro_rules | `(tactic| walk_at "ite") => `(tactic| (k_here; k_openite; first | (refine ite_neg (by (simp only [decide_eq_true_eq, beq_iff_eq, bne_iff_ne, ne_eq, gt_iff_lt, ge_iff_le]; omega)) ?_) | (refine ite_pos (by (simp only [decide_eq_true_eq, beq_iff_eq, bne_iff_ne, ne_eq, gt_iff_lt, ge_iff_le]; omega)) ?_)))
-- a tuple's items
local macro_rules | `(tactic| walk_at "subscriptTail") => `(tactic| (k_here; (with_reducible show wpAny _ _ (subscriptTail _ _ (Value.ref _) (Value.int 1 _)) _ _ _); k_dflt (refine' sub1 ?kT ?kX ?kF ?kN ?kS ?_ ?kB; (case kT => assumption); (case kF => k_asm); (case kX => k_asm); (case kN => k_asm); (case kS => kcj_all); (case kB => with_unfolding_all rfl); k_whole); intro t9; (try dsimp only)))
local macro_rules | `(tactic| walk_at "subscriptTail") => `(tactic| (k_here; (with_reducible show wpAny _ _ (subscriptTail _ _ (Value.ref _) (Value.int 0 _)) _ _ _); k_dflt (refine' sub0 ?kT ?kX ?kF ?kN ?kS ?_ ?kB; (case kT => assumption); (case kF => k_asm); (case kX => k_asm); (case kN => k_asm); (case kS => kcj_all); (case kB => with_unfolding_all rfl); k_whole); intro t9; (try dsimp only)))
-- the calls' common premises
local macro_rules | `(tactic| walk_at "ASK") => `(tactic| ((case k1 => k_asm); (case k2 => k_asm); (case k3 => k_asm); (case k4 => k_asm); (case k5 => k_asm); (case kK => first | exact rfl | assumption); (case kd => ktr_room); (case ku => ktr_units)))
local macro_rules | `(tactic| walk_at "TUP") => `(tactic| first | assumption | exact tupA_R0 _ _ | exact tupA_R1 _ _ | exact tupA_new (by k_mem) | (refine' TupA.mono (by assumption) ?kS; (case kS => kcj_all)))
local macro_rules | `(tactic| walk_at "call ref") => `(tactic| (k_here; (with_reducible show wpAny _ _ (PySem.call (Value.ref 41) _ _) _ _ _); k_dflt (refine' gcd_use ?k1 ?k2 ?k3 ?k4 ?k5 ?kK ?kd ?ku ?_; walk_at "ASK"; k_whole); intro t9 h9 tk9 F9 N9; (try dsimp only); (try k_fold)))
-- a tuple comes back
local macro_rules | `(tactic| walk_at "BACK") => `(tactic| (refine' retT_end (by assumption) ?ex ?ey ?ef ?en ?em ?es ?el; (case ef => k_asm); (case en => k_asm); (case em => k_mem); (case es => kcj_all); (case ex => exact rfl); (case ey => exact rfl); (case el => first | assumption | fail "BACK: order")))
local macro_rules | `(tactic| walk_at "call ref") => `(tactic| (k_here; (with_reducible show wpAny _ _ (PySem.call (Value.ref 50) _ _) _ _ _); k_dflt (refine' rat_use ?k1 ?k2 ?k3 ?k4 ?k5 ?kK ?kd ?ku ?ky ?_; walk_at "ASK"; (case ky => first | assumption | omega | fail "RAT: the bottom"); k_whole); intro D9 t9 u9 c9 h9 tk9 F9 N9 l9; (try k_lt l9); (try dsimp only); (try k_fold)))
def addX (x y x' y' : Int) : Int := ratX (x * y' + x' * y) (y * y')
def addY (x y x' y' : Int) : Int := ratY (x * y' + x' * y) (y * y')
def mulX (x y x' y' : Int) : Int := ratX (x * x') (y * y')
def mulY (x y x' y' : Int) : Int := ratY (x * x') (y * y')
def divX (x y x' y' : Int) : Int := ratX (x * y') (y * x')
def divY (x y x' y' : Int) : Int := ratY (x * y') (y * x')
section
variable {w : World} {mean : ExcName → Option Value} {mg mb : Str → Option Value} {dp un : Nat} {gd : Option (List Code)} {cn : Str} {cs : Scope} {a : Addr} {ccd : Value} {cl : List (Str × Addr)} {outer : List Env} {A₀ : Around} {base h₀ : Heap} {L : Addr} {m : Str → Option Value} {s : Shared} {Q E : Value → Shared → Prop} {news : List (Addr × Obj)}
theorem radd_use {x y x' y' : Int} {a1 a2 : Addr} (B : Below A₀ base outer h₀) (F : Fr h₀ L s.heap m) (X : (hd.heap_39 w.params).In h₀) (N : News h₀ L s.heap news) (T : Top hd.view_39 (looseW hd.view_39 []) mean mg mb h₀) (hk : cs.kind = .function) (hdp : dp + 3 < recursionLimit) (hu : un + 24 < cLine)
    (h1 : TupA (hd.heap_39 w.params) news a1 x y) (h2 : TupA (hd.heap_39 w.params) news a2 x' y') (hy : 0 < y ∧ y < 32768) (hy' : 0 < y' ∧ y' < 32768)
    (hret : RetT h₀ L m news s Q (addX x y x' y') (addY x y x' y')) : wpAny (model PySem.Challenge.rw_sa0076_01.row.prog w) (ktrTop dp un gd cn cs L a ccd cl outer) (call (.ref 57) [.ref a1, .ref a2]) Q E s := by
  revert X; k_fill; intro X; w_top off
  have hp := prodOk hy hy'
  refine wpAny_call ?_
  k_dflt cell_enter
  k_steps
  all_goals walk_at "BACK"
theorem rmul_use {x y x' y' : Int} {a1 a2 : Addr} (B : Below A₀ base outer h₀) (F : Fr h₀ L s.heap m) (X : (hd.heap_39 w.params).In h₀) (N : News h₀ L s.heap news) (T : Top hd.view_39 (looseW hd.view_39 []) mean mg mb h₀) (hk : cs.kind = .function) (hdp : dp + 3 < recursionLimit) (hu : un + 24 < cLine)
    (h1 : TupA (hd.heap_39 w.params) news a1 x y) (h2 : TupA (hd.heap_39 w.params) news a2 x' y') (hy : 0 < y ∧ y < 32768) (hy' : 0 < y' ∧ y' < 32768) (hx' : -1073741824 < x' ∧ x' < 1073741824)
    (hret : RetT h₀ L m news s Q (mulX x y x' y') (mulY x y x' y')) : wpAny (model PySem.Challenge.rw_sa0076_01.row.prog w) (ktrTop dp un gd cn cs L a ccd cl outer) (call (.ref 64) [.ref a1, .ref a2]) Q E s := by
  revert X; k_fill; intro X; w_top off
  have hp := prodOk hy hy'
  refine wpAny_call ?_
  k_dflt cell_enter
  k_steps
  all_goals walk_at "BACK"
theorem rdiv_use {x y x' y' : Int} {a1 a2 : Addr} (B : Below A₀ base outer h₀) (F : Fr h₀ L s.heap m) (X : (hd.heap_39 w.params).In h₀) (N : News h₀ L s.heap news) (T : Top hd.view_39 (looseW hd.view_39 []) mean mg mb h₀) (hk : cs.kind = .function) (hdp : dp + 3 < recursionLimit) (hu : un + 24 < cLine)
    (h1 : TupA (hd.heap_39 w.params) news a1 x y) (h2 : TupA (hd.heap_39 w.params) news a2 x' y') (hy : 0 < y ∧ y < 32768) (hx' : 0 < x' ∧ x' < 32768) (hy' : 0 < y' ∧ y' < 32768)
    (hret : RetT h₀ L m news s Q (divX x y x' y') (divY x y x' y')) : wpAny (model PySem.Challenge.rw_sa0076_01.row.prog w) (ktrTop dp un gd cn cs L a ccd cl outer) (call (.ref 71) [.ref a1, .ref a2]) Q E s := by
  revert X; k_fill; intro X; w_top off
  have hp := prodOk hy hx'
  refine wpAny_call ?_
  k_dflt cell_enter
  k_steps
  all_goals walk_at "BACK"
theorem rneg_use {x y : Int} {a1 : Addr} (B : Below A₀ base outer h₀) (F : Fr h₀ L s.heap m) (X : (hd.heap_39 w.params).In h₀) (N : News h₀ L s.heap news) (T : Top hd.view_39 (looseW hd.view_39 []) mean mg mb h₀) (hk : cs.kind = .function) (hdp : dp + 3 < recursionLimit) (hu : un + 24 < cLine)
    (h1 : TupA (hd.heap_39 w.params) news a1 x y)
    (hret : RetT h₀ L m news s Q (0 - x) y) : wpAny (model PySem.Challenge.rw_sa0076_01.row.prog w) (ktrTop dp un gd cn cs L a ccd cl outer) (call (.ref 78) [.ref a1]) Q E s := by
  revert X; k_fill; intro X; w_top off
  refine wpAny_call ?_
  k_dflt cell_enter
  k_steps
  all_goals walk_at "BACK"
end
end Mine
-- part S3
set_option maxHeartbeats 4000000
namespace Mine
-- the branch that the facts decide
local macro_rules | `(tactic| walk_at "ite") => `(tactic| (k_here; k_openite; first | (refine ite_neg (by (simp only [decide_eq_true_eq, beq_iff_eq, bne_iff_ne, ne_eq, gt_iff_lt, ge_iff_le]; omega)) ?_) | (refine ite_pos (by (simp only [decide_eq_true_eq, beq_iff_eq, bne_iff_ne, ne_eq, gt_iff_lt, ge_iff_le]; omega)) ?_)))
-- a tuple's items
local macro_rules | `(tactic| walk_at "subscriptTail") => `(tactic| (k_here; (with_reducible show wpAny _ _ (subscriptTail _ _ (Value.ref _) (Value.int 1 _)) _ _ _); k_dflt (refine' sub1 ?kT ?kX ?kF ?kN ?kS ?_ ?kB; (case kT => assumption); (case kF => k_asm); (case kX => k_asm); (case kN => k_asm); (case kS => kcj_all); (case kB => with_unfolding_all rfl); k_whole); intro t9; (try dsimp only)))
local macro_rules | `(tactic| walk_at "subscriptTail") => `(tactic| (k_here; (with_reducible show wpAny _ _ (subscriptTail _ _ (Value.ref _) (Value.int 0 _)) _ _ _); k_dflt (refine' sub0 ?kT ?kX ?kF ?kN ?kS ?_ ?kB; (case kT => assumption); (case kF => k_asm); (case kX => k_asm); (case kN => k_asm); (case kS => kcj_all); (case kB => with_unfolding_all rfl); k_whole); intro t9; (try dsimp only)))
-- the calls' common premises
local macro_rules | `(tactic| walk_at "ASK") => `(tactic| ((case k1 => k_asm); (case k2 => k_asm); (case k3 => k_asm); (case k4 => k_asm); (case k5 => k_asm); (case kK => first | exact rfl | assumption); (case kd => ktr_room); (case ku => ktr_units)))
local macro_rules | `(tactic| walk_at "TUP") => `(tactic| first | assumption | exact tupA_R0 _ _ | exact tupA_R1 _ _ | exact tupA_new (by k_mem) | (refine' TupA.mono (by assumption) ?kS; (case kS => kcj_all)))
local macro_rules | `(tactic| walk_at "call ref") => `(tactic| (k_here; (with_reducible show wpAny _ _ (PySem.call (Value.ref 41) _ _) _ _ _); k_dflt (refine' gcd_use ?k1 ?k2 ?k3 ?k4 ?k5 ?kK ?kd ?ku ?_; walk_at "ASK"; k_whole); intro t9 h9 tk9 F9 N9; (try dsimp only); (try k_fold)))
-- a tuple comes back
local macro_rules | `(tactic| walk_at "BACK") => `(tactic| (refine' retT_end (by assumption) ?ex ?ey ?ef ?en ?em ?es ?el; (case ef => k_asm); (case en => k_asm); (case em => k_mem); (case es => kcj_all); (case ex => exact rfl); (case ey => exact rfl); (case el => first | assumption | fail "BACK: order")))
-- steps up to a loop
local macro_rules | `(tactic| walk_at "UPTO") => `(tactic| repeat' ((fail_if_success (with_reducible show wpAny _ _ (pyIter (Value.ref _)) (fun it s₂ => LoopAtV _ _ _ _ _ _ _ _ _ it s₂) _ _)); first | (k_unfold; (try dsimp only)) | (k_end; wrow_close) | walk1 | (dsimp only; walk1) | (leave1; try dsimp only) | fail "no step"))
def binL (n : Int) : Nat → List Int
  | 0 => [1]
  | k + 1 => binL n k ++ [((binL n k).getD k 0 * (n - (k : Int))).fdiv ((k : Int) + 1)]
theorem bin_turn {n k : Int} {pre ns : List Int} (hP : ns = binL n pre.length) (hL : ns.length = pre.length + 1) (hk : k = 0 + (pre.length : Int)) :
    ns ++ [(ns.getD k.toNat 0 * (n - k)).fdiv (k + 1)] = binL n (pre ++ [k]).length ∧ (ns ++ [(ns.getD k.toNat 0 * (n - k)).fdiv (k + 1)]).length = (pre ++ [k]).length + 1 := by
  have e : k.toNat = pre.length := by omega
  have e' : (pre.length : Int) = k := by omega
  refine ⟨?_, by simp [hL]⟩
  rw [List.length_append, List.length_singleton, binL, ← hP, e, e']
abbrev RetL (h₀ : Heap) (L : Addr) (m : Str → Option Value) (news : List (Addr × Obj)) (s : Shared) (Q : Value → Shared → Prop) (ns : List Int) : Prop :=
  ∀ (D : Addr) (vs : List Value) (c : Nat) (h' : Heap) (tk' : Nat), IntsAre vs ns → Fr h₀ L h' m → News h₀ L h' ((D, listOf vs.toArray c) :: news) → (∀ p ∈ news, p.1 < D) → Q (.ref D) { s with heap := h', toks := tk' }
section
variable {w : World} {mean : ExcName → Option Value} {mg mb : Str → Option Value} {dp un : Nat} {gd : Option (List Code)} {cn : Str} {cs : Scope} {a : Addr} {ccd : Value} {cl : List (Str × Addr)} {outer : List Env} {A₀ : Around} {base h₀ : Heap} {L : Addr} {m : Str → Option Value} {s : Shared} {Q E : Value → Shared → Prop} {news : List (Addr × Obj)}
set_option maxHeartbeats 400000
set_option pp.deepTerms false
theorem bin_use {n : Int} {tn : Tok} (B : Below A₀ base outer h₀) (F : Fr h₀ L s.heap m) (X : (hd.heap_39 w.params).In h₀) (N : News h₀ L s.heap news) (T : Top hd.view_39 (looseW hd.view_39 []) mean mg mb h₀) (hk : cs.kind = .function) (hdp : dp + 1 < recursionLimit) (hu : un + 8 < cLine)
    (hn : 0 ≤ n ∧ n ≤ 14)
    (hret : RetL h₀ L m news s Q (binL n n.toNat)) : wpAny (model PySem.Challenge.rw_sa0076_01.row.prog w) (ktrTop dp un gd cn cs L a ccd cl outer) (call (.ref 85) [.int n tn]) Q E s := by
  revert X; k_fill; intro X; w_top off
  obtain ⟨hn0, hn1⟩ := hn
  k_with "state" => exact bin_turn (by assumption) (by assumption) (by assumption)
  refine wpAny_call ?_
  k_dflt cell_enter
  walk_at "UPTO"
  (rename Fr _ _ _ _ => lF'); (rename News _ _ _ _ => lN'); (rename IsRange _ _ _ _ _ _ _ _ => rgX)
  rename_i T1 tk1 D1 h2 l1 h3 F3 N3 h4 tk4 tt1 uu1 vv1 xx1
  refine' kd_range (σ := List Value × List Int × Nat) (fun c => [(D1, listOf c.1.toArray c.2.2)]) news (fun _ => []) (fun _ c => IntsAre c.1 c.2.1) [] (fun pre c => c.2.1 = binL n pre.length ∧ c.2.1.length = pre.length + 1) (D1 :: news.map (·.1)) ([.int 1 tk1], [1], 0) ?kh rgX ?ksm (rangeSize_nat _ _) lF' lN' ?ki ?ka ?kf ?kk ?kp ?kt ?kd
  case kh => exact rfl
  case ksm => exact small_one (by omega) (by omega) (by omega) (by omega)
  case ki => intro p hp; simpa using hp
  case ka => intro c; rfl
  case kf => exact IntsAre.cons _ _ IntsAre.nil
  case kk => intro p hp; cases hp
  case kp => exact ⟨rfl, rfl⟩
  case kt =>
    rintro ⟨vs, ns, c⟩ tl pre k t u h9 tk9 own hk9 hlt hsep hoff hI ⟨hP, hL⟩ F9 N9
    have kMark := kstMark
    have kMark' := kdMark
    dsimp only [kstB] at F9
    dsimp only at N9 hI hP hL
    simp only [List.nil_append, List.cons_append, List.append_nil] at N9
    try k_fold
    k_steps
  case kd =>
    rintro ⟨vs, ns, c⟩ tl u h9 tk9 hoff hI ⟨hP, hL⟩ F9 N9
    dsimp only [kstB] at F9
    dsimp only at N9 hI hP hL
    simp only [List.nil_append, List.cons_append, List.append_nil] at N9
    try k_fold
    k_steps
    subst hP
    rw [rangeKs_length, Int.sub_zero] at hI
    refine hret D1 vs c _ _ hI (by k_asm) ?_ (by assumption)
    refine cb_drop (by assumption) ?_
    kcj_all
end
end Mine
-- part P4
namespace Mine
def bernT : List (Int × Int) := [(1, 1), (-1, 2), (1, 6), (0, 1), (-1, 30), (0, 1), (1, 42), (0, 1), (-1, 30), (0, 1), (5, 66), (0, 1), (-691, 2730)]
def totT : List (List (Int × Int)) := [[],
  [(0, 1), (1, 1)],
  [(0, 1), (1, 1), (-1, 2)],
  [(0, 1), (1, 1), (-1, 1), (0, 1)],
  [(0, 1), (1, 1), (-3, 2), (1, 6), (1, 6)],
  [(0, 1), (1, 1), (-2, 1), (1, 2), (1, 2), (0, 1)],
  [(0, 1), (1, 1), (-5, 2), (1, 1), (1, 1), (-1, 6), (-1, 6)],
  [(0, 1), (1, 1), (-3, 1), (5, 3), (5, 3), (-2, 3), (-2, 3), (0, 1)],
  [(0, 1), (1, 1), (-7, 2), (5, 2), (5, 2), (-17, 10), (-17, 10), (3, 10), (3, 10)],
  [(0, 1), (1, 1), (-4, 1), (7, 2), (7, 2), (-7, 2), (-7, 2), (3, 2), (3, 2), (0, 1)],
  [(0, 1), (1, 1), (-9, 2), (14, 3), (14, 3), (-19, 3), (-19, 3), (14, 3), (14, 3), (-5, 6), (-5, 6)],
  [(0, 1), (1, 1), (-5, 1), (6, 1), (6, 1), (-21, 2), (-21, 2), (23, 2), (23, 2), (-5, 1), (-5, 1), (0, 1)],
  [(0, 1), (1, 1), (-11, 2), (15, 2), (15, 2), (-49, 3), (-49, 3), (515, 21), (515, 21), (-3859, 210), (-3859, 210), (691, 210), (691, 210)]]
def binT : List (List Int) := [[1],
  [1, 1],
  [1, 2, 1],
  [1, 3, 3, 1],
  [1, 4, 6, 4, 1],
  [1, 5, 10, 10, 5, 1],
  [1, 6, 15, 20, 15, 6, 1],
  [1, 7, 21, 35, 35, 21, 7, 1],
  [1, 8, 28, 56, 70, 56, 28, 8, 1],
  [1, 9, 36, 84, 126, 126, 84, 36, 9, 1],
  [1, 10, 45, 120, 210, 252, 210, 120, 45, 10, 1],
  [1, 11, 55, 165, 330, 462, 462, 330, 165, 55, 11, 1],
  [1, 12, 66, 220, 495, 792, 924, 792, 495, 220, 66, 12, 1],
  [1, 13, 78, 286, 715, 1287, 1716, 1716, 1287, 715, 286, 78, 13, 1],
  [1, 14, 91, 364, 1001, 2002, 3003, 3432, 3003, 2002, 1001, 364, 91, 14, 1]]
def powT : List (List (Int × Int)) := [[],
  [(0, 1), (-1, 2), (1, 2)],
  [(0, 1), (1, 6), (-1, 2), (1, 3)],
  [(0, 1), (0, 1), (1, 4), (-1, 2), (1, 4)],
  [(0, 1), (-1, 30), (0, 1), (1, 3), (-1, 2), (1, 5)]]
def bernE (k : Nat) : Int × Int := bernT.getD k (0, 1)
def totE (m k : Nat) : Int × Int := (totT.getD m []).getD k (0, 1)
def binE (n k : Nat) : Int := (binT.getD n []).getD k 0
theorem bin_tab : ∀ n : Nat, n < 15 → binL (n : Int) n = binT.getD n [] := by decide +kernel
theorem bin_len : ∀ n, n < 15 → (binT.getD n []).length = n + 1 := by decide +kernel
def prodE (m k : Nat) : Int × Int := (mulX (ratX (binE (m + 1) k) 1) (ratY (binE (m + 1) k) 1) (bernE k).1 (bernE k).2, mulY (ratX (binE (m + 1) k) 1) (ratY (binE (m + 1) k) 1) (bernE k).1 (bernE k).2)
theorem bern_ok : ∀ k, k < 13 → (0 < (bernE k).2 ∧ (bernE k).2 < 32768) ∧ (-1073741824 < (bernE k).1 ∧ (bernE k).1 < 1073741824) := by decide +kernel
theorem tot_ok : ∀ m, m < 13 → ∀ k, k < m + 1 → 0 < (totE m k).2 ∧ (totE m k).2 < 32768 := by decide +kernel
theorem prod_ok : ∀ m, m < 13 → ∀ k, k < m → (0 < ratY (binE (m + 1) k) 1 ∧ ratY (binE (m + 1) k) 1 < 32768) ∧ (0 < (prodE m k).2 ∧ (prodE m k).2 < 32768) := by decide +kernel
theorem tot_start : ∀ m : Nat, m < 13 → 0 < m → totE m 0 = (0, 1) := by decide +kernel
theorem tot_step : ∀ m, m < 13 → ∀ k, k < m → (addX (totE m k).1 (totE m k).2 (prodE m k).1 (prodE m k).2, addY (totE m k).1 (totE m k).2 (prodE m k).1 (prodE m k).2) = totE m (k + 1) := by decide +kernel
theorem bern_step : ∀ m : Nat, m < 13 → 0 < m → bernT.take m ++ [((0 : Int) - divX (totE m m).1 (totE m m).2 ((m : Int) + 1) 1, divY (totE m m).1 (totE m m).2 ((m : Int) + 1) 1)] = bernT.take (m + 1) := by decide +kernel
end Mine
-- part S4a
set_option maxHeartbeats 1000000
namespace Mine
/-- a list's items: tuples of two ints -/
inductive TupL (K : Frag) (news : List (Addr × Obj)) : List Value → List (Int × Int) → Prop
  | nil : TupL K news [] []
  | cons {a : Addr} {x y : Int} {vs : List Value} {rs : List (Int × Int)} : TupA K news a x y → TupL K news vs rs → TupL K news (.ref a :: vs) ((x, y) :: rs)
section
variable {K : Frag} {news news' : List (Addr × Obj)} {vs : List Value} {rs : List (Int × Int)}
theorem TupL.mono (h : TupL K news vs rs) (hs : ∀ p ∈ news, p ∈ news') : TupL K news' vs rs := by
  induction h with
  | nil => exact .nil
  | cons hA _ ih => exact .cons (hA.mono hs) ih
theorem TupL.length (h : TupL K news vs rs) : vs.length = rs.length := by
  induction h with
  | nil => rfl
  | cons _ _ ih => rw [List.length_cons, List.length_cons, ih]
theorem TupL.snoc {a : Addr} {x y : Int} (h : TupL K news vs rs) (hA : TupA K news a x y) : TupL K news (vs ++ [.ref a]) (rs ++ [(x, y)]) := by
  induction h with
  | nil => exact .cons hA .nil
  | cons h _ ih => exact .cons h ih
theorem TupL.get {x y : Int} (h : TupL K news vs rs) : ∀ {k : Nat}, rs[k]? = some (x, y) → ∃ a, vs[k]? = some (.ref a) ∧ TupA K news a x y := by
  induction h with
  | nil => intro k h; simp at h
  | cons hA _ ih =>
    intro k h
    cases k with
    | zero =>
      simp only [List.getElem?_cons_zero, Option.some.injEq, Prod.mk.injEq] at h
      obtain ⟨rfl, rfl⟩ := h
      exact ⟨_, rfl, hA⟩
    | succ k => exact ih (by simpa using h)
end
section
variable {prog : Program} {w : World} {A : Around} {E : Value → Shared → Prop} {s : Shared} {value slice : PySem.Expr} {K : Frag} {news nw : List (Addr × Obj)} {l L : Addr} {us : List Value} {rs : List (Int × Int)} {x y k : Int} {n : Nat} {u : Tok} {h₀ : Heap} {Q : Value → Shared → Prop}
theorem subL (hm : (l, listOf us.toArray n) ∈ news) (N : News h₀ L s.heap news) (hT : TupL K nw us rs) (h0 : 0 ≤ k) (hfit : k < 2 ^ 63) (hr : rs[k.toNat]? = some (x, y)) (h : ∀ a, TupA K nw a x y → Q (.ref a) s)
    (hs : subscripted slice false (.ref l) (.int k u) = operate [.ref l, .int k u] (getItem (.ref l) (.int k u)) := by with_unfolding_all rfl) : wpAny (model prog w) A (subscriptTail value slice (.ref l) (.int k u)) Q E s := by
  obtain ⟨a, hv, hA⟩ := hT.get hr
  have hl : s.heap.IsList l us.toArray := ⟨_, (N _ hm).1, rfl, n, rfl⟩
  exact tail_any hl.typeIs slot_list_getitem.lookup (wpAny_getItem_list hl h0 hfit (by simpa using hv) (h a hA)) hs
end
section
variable {w : World} {mean : ExcName → Option Value} {mg mb : Str → Option Value} {dp un : Nat} {gd : Option (List Code)} {cn : Str} {cs : Scope} {a : Addr} {ccd : Value} {cl : List (Str × Addr)} {outer : List Env} {A₀ : Around} {base h₀ : Heap} {L : Addr} {m : Str → Option Value} {s : Shared} {Q E : Value → Shared → Prop} {news : List (Addr × Obj)}
theorem binT_use {n : Int} {tn : Tok} (B : Below A₀ base outer h₀) (F : Fr h₀ L s.heap m) (X : (hd.heap_39 w.params).In h₀) (N : News h₀ L s.heap news) (T : Top hd.view_39 (looseW hd.view_39 []) mean mg mb h₀) (hk : cs.kind = .function) (hdp : dp + 1 < recursionLimit) (hu : un + 8 < cLine)
    (hn : 0 ≤ n ∧ n ≤ 14)
    (hret : RetL h₀ L m news s Q (binT.getD n.toNat [])) : wpAny (model PySem.Challenge.rw_sa0076_01.row.prog w) (ktrTop dp un gd cn cs L a ccd cl outer) (call (.ref 85) [.int n tn]) Q E s := by
  have e : binL n n.toNat = binT.getD n.toNat [] := by
    have := bin_tab n.toNat (by omega)
    rwa [Int.toNat_of_nonneg hn.1] at this
  rw [← e] at hret
  exact bin_use B F X N T hk hdp hu hn hret
end
abbrev RetF (K : Frag) (h₀ : Heap) (L : Addr) (m : Str → Option Value) (news : List (Addr × Obj)) (s : Shared) (Q : Value → Shared → Prop) (rs : List (Int × Int)) : Prop :=
  ∀ (D : Addr) (vs : List Value) (c : Nat) (tl : List (Addr × Obj)) (h' : Heap) (tk' : Nat), TupL K (news ++ tl) vs rs → Fr h₀ L h' m → News h₀ L h' ((D, listOf vs.toArray c) :: (news ++ tl)) → Q (.ref D) { s with heap := h', toks := tk' }
end Mine
-- part S4
set_option maxHeartbeats 1000000
namespace Mine
-- the branch that the facts decide
local macro_rules | `(tactic| walk_at "ite") => `(tactic| (k_here; k_openite; first | (refine ite_neg (by (simp only [decide_eq_true_eq, beq_iff_eq, bne_iff_ne, ne_eq, gt_iff_lt, ge_iff_le]; omega)) ?_) | (refine ite_pos (by (simp only [decide_eq_true_eq, beq_iff_eq, bne_iff_ne, ne_eq, gt_iff_lt, ge_iff_le]; omega)) ?_)))
-- a tuple's items
local macro_rules | `(tactic| walk_at "subscriptTail") => `(tactic| (k_here; (with_reducible show wpAny _ _ (subscriptTail _ _ (Value.ref _) (Value.int 1 _)) _ _ _); k_dflt (refine' sub1 ?kT ?kX ?kF ?kN ?kS ?_ ?kB; (case kT => assumption); (case kF => k_asm); (case kX => k_asm); (case kN => k_asm); (case kS => kcj_all); (case kB => with_unfolding_all rfl); k_whole); intro t9; (try dsimp only)))
local macro_rules | `(tactic| walk_at "subscriptTail") => `(tactic| (k_here; (with_reducible show wpAny _ _ (subscriptTail _ _ (Value.ref _) (Value.int 0 _)) _ _ _); k_dflt (refine' sub0 ?kT ?kX ?kF ?kN ?kS ?_ ?kB; (case kT => assumption); (case kF => k_asm); (case kX => k_asm); (case kN => k_asm); (case kS => kcj_all); (case kB => with_unfolding_all rfl); k_whole); intro t9; (try dsimp only)))
-- the calls' common premises
local macro_rules | `(tactic| walk_at "ASK") => `(tactic| ((case k1 => k_asm); (case k2 => k_asm); (case k3 => k_asm); (case k4 => k_asm); (case k5 => k_asm); (case kK => first | exact rfl | assumption); (case kd => ktr_room); (case ku => ktr_units)))
local macro_rules | `(tactic| walk_at "TUP") => `(tactic| first | assumption | exact tupA_R0 _ _ | exact tupA_R1 _ _ | exact tupA_new (by k_mem) | (refine' TupA.mono (by assumption) ?kS; (case kS => kcj_all)))
local macro_rules | `(tactic| walk_at "call ref") => `(tactic| (k_here; (with_reducible show wpAny _ _ (PySem.call (Value.ref 41) _ _) _ _ _); k_dflt (refine' gcd_use ?k1 ?k2 ?k3 ?k4 ?k5 ?kK ?kd ?ku ?_; walk_at "ASK"; k_whole); intro t9 h9 tk9 F9 N9; (try dsimp only); (try k_fold)))
-- a tuple comes back
local macro_rules | `(tactic| walk_at "BACK") => `(tactic| (refine' retT_end (by assumption) ?ex ?ey ?ef ?en ?em ?es ?el; (case ef => k_asm); (case en => k_asm); (case em => k_mem); (case es => kcj_all); (case ex => exact rfl); (case ey => exact rfl); (case el => first | assumption | fail "BACK: order")))
-- steps up to a loop
local macro_rules | `(tactic| walk_at "UPTO") => `(tactic| repeat' ((fail_if_success (with_reducible show wpAny _ _ (pyIter (Value.ref _)) (fun it s₂ => LoopAtV _ _ _ _ _ _ _ _ _ it s₂) _ _)); first | (k_unfold; (try dsimp only)) | (k_end; wrow_close) | walk1 | (dsimp only; walk1) | (leave1; try dsimp only) | fail "no step"))
local macro_rules | `(tactic| walk_at "SUB") => `(tactic| first | kcj_all | kd_subs | ktd_sub)
local macro_rules | `(tactic| walk_at "TUP") => `(tactic| first | assumption | exact tupA_R0 _ _ | exact tupA_R1 _ _ | exact tupA_new (by k_mem) | (refine' TupA.mono (by assumption) ?kS; (case kS => walk_at "SUB")))
local macro_rules | `(tactic| walk_at "call ref") => `(tactic| (k_here; (with_reducible show wpAny _ _ (PySem.call (Value.ref 50) _ _) _ _ _); k_dflt (refine' rat_use ?k1 ?k2 ?k3 ?k4 ?k5 ?kK ?kd ?ku ?ky ?_; walk_at "ASK"; (case ky => first | assumption | omega | fail "RAT: the bottom"); k_whole); intro D9 t9 u9 c9 h9 tk9 F9 N9 l9; (have l8 := l9); (try k_lt l8); (try dsimp only); (try k_fold)))
local macro_rules | `(tactic| walk_at "call ref") => `(tactic| (k_here; (with_reducible show wpAny _ _ (PySem.call (Value.ref 57) _ _) _ _ _); k_dflt (refine' radd_use ?k1 ?k2 ?k3 ?k4 ?k5 ?kK ?kd ?ku ?kt ?kT ?ky ?kY ?_; walk_at "ASK"; (case kt => walk_at "TUP"); (case kT => walk_at "TUP"); (case ky => first | assumption | omega | fail "RADD: a bottom"); (case kY => first | assumption | omega | fail "RADD: a bottom"); k_whole); intro D9 t9 u9 c9 h9 tk9 F9 N9 l9; (have l8 := l9); (try k_lt l8); (try dsimp only); (try k_fold)))
local macro_rules | `(tactic| walk_at "call ref") => `(tactic| (k_here; (with_reducible show wpAny _ _ (PySem.call (Value.ref 64) _ _) _ _ _); k_dflt (refine' rmul_use ?k1 ?k2 ?k3 ?k4 ?k5 ?kK ?kd ?ku ?kt ?kT ?ky ?kY ?kX ?_; walk_at "ASK"; (case kt => walk_at "TUP"); (case kT => walk_at "TUP"); (case ky => first | assumption | omega | fail "RMUL: a bottom"); (case kY => first | assumption | omega | fail "RMUL: a bottom"); (case kX => first | assumption | omega | fail "RMUL: a top"); k_whole); intro D9 t9 u9 c9 h9 tk9 F9 N9 l9; (have l8 := l9); (try k_lt l8); (try dsimp only); (try k_fold)))
local macro_rules | `(tactic| walk_at "call ref") => `(tactic| (k_here; (with_reducible show wpAny _ _ (PySem.call (Value.ref 71) _ _) _ _ _); k_dflt (refine' rdiv_use ?k1 ?k2 ?k3 ?k4 ?k5 ?kK ?kd ?ku ?kt ?kT ?ky ?kX ?kY ?_; walk_at "ASK"; (case kt => walk_at "TUP"); (case kT => walk_at "TUP"); (case ky => first | assumption | omega | fail "RDIV: a bottom"); (case kY => first | assumption | omega | fail "RDIV: a bottom"); (case kX => first | assumption | omega | fail "RDIV: a top"); k_whole); intro D9 t9 u9 c9 h9 tk9 F9 N9 l9; (have l8 := l9); (try k_lt l8); (try dsimp only); (try k_fold)))
local macro_rules | `(tactic| walk_at "call ref") => `(tactic| (k_here; (with_reducible show wpAny _ _ (PySem.call (Value.ref 78) _ _) _ _ _); k_dflt (refine' rneg_use ?k1 ?k2 ?k3 ?k4 ?k5 ?kK ?kd ?ku ?kt ?_; walk_at "ASK"; (case kt => walk_at "TUP"); k_whole); intro D9 t9 u9 c9 h9 tk9 F9 N9 l9; (have l8 := l9); (try k_lt l8); (try dsimp only); (try k_fold)))
local macro_rules | `(tactic| walk_at "call ref") => `(tactic| (k_here; (with_reducible show wpAny _ _ (PySem.call (Value.ref 85) _ _) _ _ _); k_dflt (refine' binT_use ?k1 ?k2 ?k3 ?k4 ?k5 ?kK ?kd ?ku ?kn ?_; walk_at "ASK"; (case kn => first | assumption | omega | fail "BIN: n"); k_whole); intro D9 v9 c9 h9 tk9 i9 F9 N9 l9; (have l8 := l9); (try k_lt l8); (try dsimp only); (try k_fold)))
local macro_rules | `(tactic| walk_at "subscriptTail") => `(tactic| (k_here; (with_reducible show wpAny _ _ (subscriptTail _ _ (Value.ref _) (Value.int _ _)) _ _ _); k_dflt (refine' subL ?k1 ?k2 ?k3 ?k4 ?k5 ?k6 ?_ ?k7; (case k2 => k_asm); (case k1 => k_mem); (case k3 => assumption); (case k4 => first | assumption | omega); (case k5 => omega); (case k6 => assumption); (case k7 => with_unfolding_all rfl); k_whole); intro a9 t9; (try dsimp only)))
section
variable {w : World} {mean : ExcName → Option Value} {mg mb : Str → Option Value} {dp un : Nat} {gd : Option (List Code)} {cn : Str} {cs : Scope} {a : Addr} {ccd : Value} {cl : List (Str × Addr)} {outer : List Env} {A₀ : Around} {base h₀ : Heap} {L : Addr} {m : Str → Option Value} {s : Shared} {Q E : Value → Shared → Prop} {news : List (Addr × Obj)}
theorem kd_end1 {σ τ : Type} {h₀ : Heap} {x : Str} {Led : σ → List (Addr × Obj)} {cst : List (Addr × Obj)} {ps : σ → List (Str × Value)} {Facts : List (Addr × Obj) → σ → Prop} {stored : List Str} {m₀ : Str → Option Value} {P : τ → σ → Prop} {adr : List Addr} {pre : τ} (c : σ) (D : Addr) (o : Obj) {tl : List (Addr × Obj)} {L : Addr} {m' : Str → Option Value} {own news' : List (Addr × Obj)} {s₁ : Shared} {h' : Heap} {tk : Nat}
    (h0 : KdSep own tl adr) (F : Fr h₀ L h' m') (N : News h₀ L h' news') (hm : (D, o) ∈ news') (hs : ∀ p ∈ Led c ++ (cst ++ (tl ++ own)), p ∈ news') (hadr : (Led c ++ cst).map (·.1) = adr)
    (hb : ∀ b ∈ adr, b < D) (hw : ∀ p ∈ own, p.1 < D) (hk : ∀ p ∈ ps c, m' p.1 = some p.2) (hr : ∀ z, z ≠ x → (∀ p ∈ ps c, z ≠ p.1) → stored.contains z = false → m' z = m₀ z) (hf : Facts (cst ++ ((D, o) :: tl)) c) (hp : P pre c) :
    InvEndG h₀ L (KdS Led cst ps Facts x stored m₀ P adr pre) own s₁ { s₁ with heap := h', toks := tk } := by
  refine kd_end c [(D, o)] h0 F N (fun p hp => ?_) (fun p hp => hs p ?_) hadr (fun q hq b hb' => ?_) (fun q hq p hp => ?_) hk hr hf hp
  · simp only [List.mem_append, List.mem_cons, List.not_mem_nil, or_false] at hp
    rcases hp with hp | hp | hp | hp
    · exact hs p (List.mem_append.mpr (.inl hp))
    · exact hs p (List.mem_append.mpr (.inr (List.mem_append.mpr (.inl hp))))
    · rw [hp]; exact hm
    · exact hs p (List.mem_append.mpr (.inr (List.mem_append.mpr (.inr (List.mem_append.mpr (.inl hp))))))
  · exact List.mem_append.mpr (.inr (List.mem_append.mpr (.inr (List.mem_append.mpr (.inr hp)))))
  · rw [List.mem_singleton.mp hq]; exact Nat.ne_of_lt (hb b hb')
  · rw [List.mem_singleton.mp hq]; exact Nat.ne_of_lt (hw p hp)
local macro_rules | `(tactic| walk_at "INS") => `(tactic| ((try simp only [List.nil_append, List.append_nil] at *); simp only [List.mem_append, List.mem_cons, List.not_mem_nil, or_false, false_or, List.cons_append] at *; first | assumption | grind))
local macro_rules | `(tactic| walk_at "SUBS") => `(tactic| (intro p hp; simp only [List.mem_append, List.mem_cons, List.not_mem_nil, or_false, false_or, List.cons_append, List.nil_append, List.append_nil] at hp ⊢; first | assumption | grind))
theorem bern_take : ∀ m : Nat, m < 13 → ∀ k : Nat, k < m → (bernT.take m)[k]? = some ((bernE k).1, (bernE k).2) := by decide +kernel
theorem bern_use {n : Int} {tn : Tok} (B : Below A₀ base outer h₀) (F : Fr h₀ L s.heap m) (X : (hd.heap_39 w.params).In h₀) (N : News h₀ L s.heap news) (T : Top hd.view_39 (looseW hd.view_39 []) mean mg mb h₀) (hk : cs.kind = .function) (hdp : dp + 4 < recursionLimit) (hu : un + 32 < cLine)
    (hn : 0 ≤ n ∧ n ≤ 12)
    (hret : RetF (hd.heap_39 w.params) h₀ L m news s Q (bernT.take (n.toNat + 1))) : wpAny (model PySem.Challenge.rw_sa0076_01.row.prog w) (ktrTop dp un gd cn cs L a ccd cl outer) (call (.ref 92) [.int n tn]) Q E s := by
  revert X; k_fill; intro X; w_top off
  obtain ⟨hn0, hn1⟩ := hn
  refine wpAny_call ?_
  k_dflt cell_enter
  walk_at "UPTO"
  (rename Fr _ _ _ _ => lF'); (rename News _ _ _ _ => lN'); (rename IsRange _ _ _ _ _ _ _ _ => rgX)
  rename_i T1 tk1 D1 h2 l1 h3 F3 N3 h4 tk4 tt1 uu1 vv1 xx1
  have lN := lN'
  refine' kd_range (σ := List Value × List (Int × Int) × Nat) (fun c => [(D1, listOf c.1.toArray c.2.2)]) news (fun _ => []) (fun l c => TupL (hd.heap_39 w.params) l c.1 c.2.1) [Str.ofString "row", Str.ofString "total", Str.ofString "k"] (fun pre c => c.2.1 = bernT.take (pre.length + 1)) (D1 :: news.map (·.1)) ([.ref 43], [(1, 1)], 0) ?kh rgX ?ksm (rangeSize_nat _ _) lF' lN ?ki ?ka ?kf ?kk ?kp ?kt ?kd
  case kh => exact rfl
  case ksm => exact small_one (by omega) (by omega) (by omega) (by omega)
  case ki => intro p hp; simpa using hp
  case ka => intro c; rfl
  case kf => exact .cons (tupA_R1 _ _) .nil
  case kk => intro p hp; cases hp
  case kp => exact rfl
  case kt =>
    rintro ⟨vs, rs, c⟩ tl pre k t u h9 tk9 own hk9 hlt hsep hoff hI hP F9 N9
    have kMark := kstMark
    have kMark' := kdMark
    have o1 := hsep.one
    have o2 := hsep.two
    have o3 := hsep.three
    dsimp only [kstB] at F9
    dsimp only at N9 hI hP
    simp only [List.nil_append, List.cons_append, List.append_nil] at N9
    clear lF' lN' lN F3 N3 rgX
    try k_fold
    walk_at "UPTO"
    (rename Fr _ _ _ _ => lF); (rename News _ _ _ _ => lN); (rename IsRange _ _ _ _ _ _ _ _ => rgX)
    rename_i D9 v9 c9 hh1 tt1' i9 l9 l8 Dp hh2 l1p hh3 hh4 hh5 Fp Np hh6 tt2 tr1 tr2 tr3 ax
    have hM : pre.length + 1 < 13 := by omega
    have eM : (k + 1).toNat = pre.length + 2 := by omega
    rw [eM] at i9
    have hlen := bin_len (pre.length + 2) (by omega)
    have lN2 := lN
    refine' kd_range (σ := Addr × Int × Int) (fun _ => []) ((D9, listOf v9.toArray c9) :: (D1, listOf vs.toArray c) :: (news ++ (tl ++ own))) (fun c => [(Str.ofString "total", Value.ref c.1)]) (fun l c => TupA (hd.heap_39 w.params) l c.1 c.2.1 c.2.2) [] (fun pr c => (c.2.1, c.2.2) = totE (pre.length + 1) pr.length) (D9 :: D1 :: (news ++ (tl ++ own)).map (·.1)) (42, 0, 1) ?ih rgX ?ism (rangeSize_nat _ _) lF lN2 ?ii ?ia ?if' ?ik ?ip ?it ?id
    case ih => exact rfl
    case ism => exact small_one (by omega) (by omega) (by omega) (by omega)
    case ii => (intro p hp; simp only [List.nil_append, List.append_nil] at hp; exact List.mem_cons_of_mem _ hp)
    case ia => intro c; rfl
    case if' => exact tupA_R0 _ _
    case ik => intro p hp; rw [List.mem_singleton.mp hp]; exact rfl
    case ip => exact (tot_start _ hM (Nat.succ_pos _)).symm
    case it =>
      rintro ⟨at', x, y⟩ tl' pr k2 t2 u2 h9' tk9' own' hk2 hlt2 hsep2 hoff2 hA hP2 F9' N9'
      clear lF lN lN2 F9 N9 rgX Fp Np
      have kMark := kstMark
      have kMark' := kdMark
      dsimp only [kstB] at F9'
      dsimp only at N9' hA hP2
      simp only [List.nil_append, List.cons_append, List.append_nil] at N9' hA
      have ek : k2.toNat = pr.length := by omega
      have hkk : pr.length < pre.length + 1 := by omega
      have ex : x = (totE (pre.length + 1) pr.length).1 := congrArg Prod.fst hP2
      have ey : y = (totE (pre.length + 1) pr.length).2 := congrArg Prod.snd hP2
      have hy := tot_ok (pre.length + 1) hM pr.length (by omega)
      rw [← ey] at hy
      have hf : rs[k2.toNat]? = some ((bernE pr.length).1, (bernE pr.length).2) := by
        rw [hP, ek]
        exact bern_take (pre.length + 1) (by omega) pr.length hkk
      have hb := bern_ok pr.length (by omega)
      obtain ⟨hb1, hb2⟩ := hb
      have hp := prod_ok (pre.length + 1) hM pr.length hkk
      obtain ⟨hp1, hp2⟩ := hp
      have er : (binT.getD (pre.length + 2) []).getD k2.toNat 0 = binE (pre.length + 1 + 1) pr.length := by rw [ek]; rfl
      rw [← er] at hp1
      unfold prodE at hp2
      rw [← er] at hp2
      dsimp only at hp2
      try k_fold
      k_steps
      rename_i Dz tz uz cz hz tkz lz l8z hE FE NE
      refine kd_end1 (σ := Addr × Int × Int) (Dz, _, _) Dz (tupO _ tz _ uz cz) hsep2 FE NE (List.Mem.head _) (by walk_at "SUBS") rfl (fun b hb => ?_) (fun p hp => lz p (by walk_at "INS")) ?_ (by kst_same) (tupA_new (List.mem_append.mpr (.inr (List.Mem.head _)))) ?_
      · obtain ⟨p, hp, rfl⟩ := List.mem_map.mp (show b ∈ ((D9, listOf v9.toArray c9) :: (D1, listOf vs.toArray c) :: (news ++ (tl ++ own))).map (·.1) from hb)
        exact lz p (by walk_at "INS")
      · intro p hp
        rw [List.mem_singleton.mp hp]
        exact rfl
      · have h := tot_step (pre.length + 1) hM pr.length hkk
        unfold prodE at h
        dsimp only at h
        rw [← er, ← ex, ← ey] at h
        rw [List.length_append, List.length_singleton]
        exact h
    case id =>
      rintro ⟨at', x, y⟩ tl' u2 h9' tk9' hoff2 hA hP2 F9' N9'
      clear lF lN lN2 F9 N9 rgX Fp Np
      have kMark := kstMark
      have kMark' := kdMark
      dsimp only [kstB] at F9'
      dsimp only at N9' hA hP2
      simp only [List.nil_append, List.cons_append, List.append_assoc] at N9' hA
      rw [rangeKs_length, show (k - 0).toNat = pre.length + 1 by omega] at hP2
      have ex : x = (totE (pre.length + 1) (pre.length + 1)).1 := congrArg Prod.fst hP2
      have ey : y = (totE (pre.length + 1) (pre.length + 1)).2 := congrArg Prod.snd hP2
      have hy := tot_ok (pre.length + 1) hM (pre.length + 1) (by omega)
      rw [← ey] at hy
      have hvl : vs.length ≤ 13 := by
        rw [hI.length, hP, List.length_take]
        exact Nat.le_trans (Nat.min_le_left _ _) (by omega)
      try k_fold
      k_steps
      rename_i Dz tz uz cz hz tkz lz l8z hE FE NE
      have hres := bern_step (pre.length + 1) hM (Nat.succ_pos _)
      rw [← ex, ← ey, ← hP, show ((pre.length + 1 : Nat) : Int) = k by omega] at hres
      simp only [List.push_toArray] at NE
      refine kd_end1 (σ := List Value × List (Int × Int) × Nat) (vs ++ [.ref Dz], rs ++ [(_, _)], _) Dz (tupO _ tz _ uz cz) hsep FE NE (List.Mem.head _) (List.forall_mem_append.mpr ⟨List.forall_mem_cons.mpr ⟨by (try dsimp only); k_mem, List.forall_mem_nil _⟩, by walk_at "SUBS"⟩) rfl (fun b hb => ?_) (fun p hp => lz p (by walk_at "INS")) ?_ (by kst_same) (TupL.snoc (hI.mono ?_) (tupA_new (List.mem_append.mpr (.inr (List.Mem.head _))))) ?_
      · rcases List.mem_cons.mp hb with rfl | hb
        · exact lz (b, listOf vs.toArray c) (by walk_at "INS")
        · obtain ⟨p, hp, rfl⟩ := List.mem_map.mp hb
          exact lz p (by walk_at "INS")
      · intro p hp; cases hp
      · walk_at "SUBS"
      · rw [List.length_append, List.length_singleton]
        exact hres
  case kd =>
    rintro ⟨vs, rs, c⟩ tl u h9 tk9 hoff hI hP F9 N9
    dsimp only [kstB] at F9
    dsimp only at N9 hI hP
    simp only [List.nil_append, List.cons_append, List.append_nil] at N9
    try k_fold
    k_steps
    subst hP
    rw [rangeKs_length] at hI
    rw [show n + 1 - 1 = n by omega] at hI
    exact hret D1 vs c tl _ _ hI (by k_asm) (by assumption)
end
end Mine
-- part S5
set_option maxHeartbeats 1000000
namespace Mine
-- the branch that the facts decide
local macro_rules | `(tactic| walk_at "ite") => `(tactic| (k_here; k_openite; first | (refine ite_neg (by (simp only [decide_eq_true_eq, beq_iff_eq, bne_iff_ne, ne_eq, gt_iff_lt, ge_iff_le]; omega)) ?_) | (refine ite_pos (by (simp only [decide_eq_true_eq, beq_iff_eq, bne_iff_ne, ne_eq, gt_iff_lt, ge_iff_le]; omega)) ?_)))
-- a tuple's items
local macro_rules | `(tactic| walk_at "subscriptTail") => `(tactic| (k_here; (with_reducible show wpAny _ _ (subscriptTail _ _ (Value.ref _) (Value.int 1 _)) _ _ _); k_dflt (refine' sub1 ?kT ?kX ?kF ?kN ?kS ?_ ?kB; (case kT => assumption); (case kF => k_asm); (case kX => k_asm); (case kN => k_asm); (case kS => kcj_all); (case kB => with_unfolding_all rfl); k_whole); intro t9; (try dsimp only)))
local macro_rules | `(tactic| walk_at "subscriptTail") => `(tactic| (k_here; (with_reducible show wpAny _ _ (subscriptTail _ _ (Value.ref _) (Value.int 0 _)) _ _ _); k_dflt (refine' sub0 ?kT ?kX ?kF ?kN ?kS ?_ ?kB; (case kT => assumption); (case kF => k_asm); (case kX => k_asm); (case kN => k_asm); (case kS => kcj_all); (case kB => with_unfolding_all rfl); k_whole); intro t9; (try dsimp only)))
-- the calls' common premises
local macro_rules | `(tactic| walk_at "ASK") => `(tactic| ((case k1 => k_asm); (case k2 => k_asm); (case k3 => k_asm); (case k4 => k_asm); (case k5 => k_asm); (case kK => first | exact rfl | assumption); (case kd => ktr_room); (case ku => ktr_units)))
local macro_rules | `(tactic| walk_at "TUP") => `(tactic| first | assumption | exact tupA_R0 _ _ | exact tupA_R1 _ _ | exact tupA_new (by k_mem) | (refine' TupA.mono (by assumption) ?kS; (case kS => kcj_all)))
local macro_rules | `(tactic| walk_at "call ref") => `(tactic| (k_here; (with_reducible show wpAny _ _ (PySem.call (Value.ref 41) _ _) _ _ _); k_dflt (refine' gcd_use ?k1 ?k2 ?k3 ?k4 ?k5 ?kK ?kd ?ku ?_; walk_at "ASK"; k_whole); intro t9 h9 tk9 F9 N9; (try dsimp only); (try k_fold)))
-- a tuple comes back
local macro_rules | `(tactic| walk_at "BACK") => `(tactic| (refine' retT_end (by assumption) ?ex ?ey ?ef ?en ?em ?es ?el; (case ef => k_asm); (case en => k_asm); (case em => k_mem); (case es => kcj_all); (case ex => exact rfl); (case ey => exact rfl); (case el => first | assumption | fail "BACK: order")))
-- steps up to a loop
local macro_rules | `(tactic| walk_at "UPTO") => `(tactic| repeat' ((fail_if_success (with_reducible show wpAny _ _ (pyIter (Value.ref _)) (fun it s₂ => LoopAtV _ _ _ _ _ _ _ _ _ it s₂) _ _)); first | (k_unfold; (try dsimp only)) | (k_end; wrow_close) | walk1 | (dsimp only; walk1) | (leave1; try dsimp only) | fail "no step"))
local macro_rules | `(tactic| walk_at "SUB") => `(tactic| first | kcj_all | kd_subs | ktd_sub)
local macro_rules | `(tactic| walk_at "TUP") => `(tactic| first | assumption | exact tupA_R0 _ _ | exact tupA_R1 _ _ | exact tupA_new (by k_mem) | (refine' TupA.mono (by assumption) ?kS; (case kS => walk_at "SUB")))
local macro_rules | `(tactic| walk_at "call ref") => `(tactic| (k_here; (with_reducible show wpAny _ _ (PySem.call (Value.ref 50) _ _) _ _ _); k_dflt (refine' rat_use ?k1 ?k2 ?k3 ?k4 ?k5 ?kK ?kd ?ku ?ky ?_; walk_at "ASK"; (case ky => first | assumption | omega | fail "RAT: the bottom"); k_whole); intro D9 t9 u9 c9 h9 tk9 F9 N9 l9; (have l8 := l9); (try k_lt l8); (try dsimp only); (try k_fold)))
local macro_rules | `(tactic| walk_at "call ref") => `(tactic| (k_here; (with_reducible show wpAny _ _ (PySem.call (Value.ref 57) _ _) _ _ _); k_dflt (refine' radd_use ?k1 ?k2 ?k3 ?k4 ?k5 ?kK ?kd ?ku ?kt ?kT ?ky ?kY ?_; walk_at "ASK"; (case kt => walk_at "TUP"); (case kT => walk_at "TUP"); (case ky => first | assumption | omega | fail "RADD: a bottom"); (case kY => first | assumption | omega | fail "RADD: a bottom"); k_whole); intro D9 t9 u9 c9 h9 tk9 F9 N9 l9; (have l8 := l9); (try k_lt l8); (try dsimp only); (try k_fold)))
local macro_rules | `(tactic| walk_at "call ref") => `(tactic| (k_here; (with_reducible show wpAny _ _ (PySem.call (Value.ref 64) _ _) _ _ _); k_dflt (refine' rmul_use ?k1 ?k2 ?k3 ?k4 ?k5 ?kK ?kd ?ku ?kt ?kT ?ky ?kY ?kX ?_; walk_at "ASK"; (case kt => walk_at "TUP"); (case kT => walk_at "TUP"); (case ky => first | assumption | omega | fail "RMUL: a bottom"); (case kY => first | assumption | omega | fail "RMUL: a bottom"); (case kX => first | assumption | omega | fail "RMUL: a top"); k_whole); intro D9 t9 u9 c9 h9 tk9 F9 N9 l9; (have l8 := l9); (try k_lt l8); (try dsimp only); (try k_fold)))
local macro_rules | `(tactic| walk_at "call ref") => `(tactic| (k_here; (with_reducible show wpAny _ _ (PySem.call (Value.ref 71) _ _) _ _ _); k_dflt (refine' rdiv_use ?k1 ?k2 ?k3 ?k4 ?k5 ?kK ?kd ?ku ?kt ?kT ?ky ?kX ?kY ?_; walk_at "ASK"; (case kt => walk_at "TUP"); (case kT => walk_at "TUP"); (case ky => first | assumption | omega | fail "RDIV: a bottom"); (case kY => first | assumption | omega | fail "RDIV: a bottom"); (case kX => first | assumption | omega | fail "RDIV: a top"); k_whole); intro D9 t9 u9 c9 h9 tk9 F9 N9 l9; (have l8 := l9); (try k_lt l8); (try dsimp only); (try k_fold)))
local macro_rules | `(tactic| walk_at "call ref") => `(tactic| (k_here; (with_reducible show wpAny _ _ (PySem.call (Value.ref 78) _ _) _ _ _); k_dflt (refine' rneg_use ?k1 ?k2 ?k3 ?k4 ?k5 ?kK ?kd ?ku ?kt ?_; walk_at "ASK"; (case kt => walk_at "TUP"); k_whole); intro D9 t9 u9 c9 h9 tk9 F9 N9 l9; (have l8 := l9); (try k_lt l8); (try dsimp only); (try k_fold)))
local macro_rules | `(tactic| walk_at "call ref") => `(tactic| (k_here; (with_reducible show wpAny _ _ (PySem.call (Value.ref 85) _ _) _ _ _); k_dflt (refine' binT_use ?k1 ?k2 ?k3 ?k4 ?k5 ?kK ?kd ?ku ?kn ?_; walk_at "ASK"; (case kn => first | assumption | omega | fail "BIN: n"); k_whole); intro D9 v9 c9 h9 tk9 i9 F9 N9 l9; (have l8 := l9); (try k_lt l8); (try dsimp only); (try k_fold)))
local macro_rules | `(tactic| walk_at "subscriptTail") => `(tactic| (k_here; (with_reducible show wpAny _ _ (subscriptTail _ _ (Value.ref _) (Value.int _ _)) _ _ _); k_dflt (refine' subL ?k1 ?k2 ?k3 ?k4 ?k5 ?k6 ?_ ?k7; (case k2 => k_asm); (case k1 => k_mem); (case k3 => assumption); (case k4 => first | assumption | omega); (case k5 => omega); (case k6 => assumption); (case k7 => with_unfolding_all rfl); k_whole); intro a9 t9; (try dsimp only)))
local macro_rules | `(tactic| walk_at "call ref") => `(tactic| (k_here; (with_reducible show wpAny _ _ (PySem.call (Value.ref 92) _ _) _ _ _); k_dflt (refine' bern_use ?k1 ?k2 ?k3 ?k4 ?k5 ?kK ?kd ?ku ?kn ?_; walk_at "ASK"; (case kn => first | assumption | omega | fail "BERN: n"); k_whole); intro D9 v9 c9 tl9 h9 tk9 i9 F9 N9; (try simp only [List.cons_append, List.append_assoc] at N9); (try simp only [List.cons_append, List.append_assoc] at i9); (try dsimp only); (try k_fold)))
local macro_rules | `(tactic| walk_at "INS") => `(tactic| ((try simp only [List.nil_append, List.append_nil] at *); simp only [List.mem_append, List.mem_cons, List.not_mem_nil, or_false, false_or, List.cons_append] at *; first | assumption | grind))
local macro_rules | `(tactic| walk_at "SUBS") => `(tactic| (intro p hp; simp only [List.mem_append, List.mem_cons, List.not_mem_nil, or_false, false_or, List.cons_append, List.nil_append, List.append_nil] at hp ⊢; first | assumption | grind))
-- a range as it stands, never value by value
local macro_rules | `(tactic| walk_at "call type:range") => `(tactic| (k_here; (rename Fr _ _ _ _ => fR'); (rename News _ _ _ _ => nR'); (with_unfolding_all first | refine range1_rows fR' nR' ?_ | refine range2_rows fR' nR' ?_); intro _ _ _ _ _ _ _ _ _))
def powE (k : Nat) : List (Int × Int) := powT.getD k []
def pmX (k j : Nat) : Int := mulX (ratX (binE (k + 1) (j + 1)) 1) (ratY (binE (k + 1) (j + 1)) 1) (bernE (k - j)).1 (bernE (k - j)).2
def pmY (k j : Nat) : Int := mulY (ratX (binE (k + 1) (j + 1)) 1) (ratY (binE (k + 1) (j + 1)) 1) (bernE (k - j)).1 (bernE (k - j)).2
theorem pow_ok : ∀ k : Nat, k < 5 → ∀ j : Nat, j < k + 1 → (0 < ratY (binE (k + 1) (j + 1)) 1 ∧ ratY (binE (k + 1) (j + 1)) 1 < 32768) ∧ (0 < pmY k j ∧ pmY k j < 32768) := by decide +kernel
theorem pow_step : ∀ k : Nat, k < 5 → 0 < k → ∀ j : Nat, j < k + 1 → (powE k).take (j + 1) ++ [(divX (pmX k j) (pmY k j) ((k : Int) + 1) 1, divY (pmX k j) (pmY k j) ((k : Int) + 1) 1)] = (powE k).take (j + 2) := by decide +kernel
theorem pow_start : ∀ k : Nat, k < 5 → 0 < k → (powE k).take 1 = [(0, 1)] ∧ (powE k).take (k + 2) = powE k := by decide +kernel
section
variable {w : World} {mean : ExcName → Option Value} {mg mb : Str → Option Value} {dp un : Nat} {gd : Option (List Code)} {cn : Str} {cs : Scope} {a : Addr} {ccd : Value} {cl : List (Str × Addr)} {outer : List Env} {A₀ : Around} {base h₀ : Heap} {L : Addr} {m : Str → Option Value} {s : Shared} {Q E : Value → Shared → Prop} {news : List (Addr × Obj)}
theorem pow_use {n : Int} {tn : Tok} (B : Below A₀ base outer h₀) (F : Fr h₀ L s.heap m) (X : (hd.heap_39 w.params).In h₀) (N : News h₀ L s.heap news) (T : Top hd.view_39 (looseW hd.view_39 []) mean mg mb h₀) (hk : cs.kind = .function) (hdp : dp + 5 < recursionLimit) (hu : un + 40 < cLine)
    (hn : 0 < n ∧ n < 5)
    (hret : RetF (hd.heap_39 w.params) h₀ L m news s Q (powE n.toNat)) : wpAny (model PySem.Challenge.rw_sa0076_01.row.prog w) (ktrTop dp un gd cn cs L a ccd cl outer) (call (.ref 99) [.int n tn]) Q E s := by
  revert X; k_fill; intro X; w_top off
  obtain ⟨hn0, hn1⟩ := hn
  refine wpAny_call ?_
  k_dflt cell_enter
  walk_at "UPTO"
  (rename Fr _ _ _ _ => lF'); (rename News _ _ _ _ => lN'); (rename IsRange _ _ _ _ _ _ _ _ => rgX)
  (rename IntsAre _ _ => i8); (rename TupL _ _ _ _ => i9)
  rename_i T1 tk1 D8 v8 c8 h8 tk8 l8 l8' D9 v9 c9 tl9 h9 tk9 Dp hp lp hp2 hp3 hp4 tk10 D1 h10 l1 h11 F11 N11 h12 tk11 tt1 uu1 vv1 xx1
  have hlen := bin_len (n.toNat + 1) (by omega)
  have e8 : (n + 1).toNat = n.toNat + 1 := by omega
  rw [e8] at i8
  have lN := lN'
  refine' kd_range (σ := List Value × List (Int × Int) × Nat) (fun c => [(D1, listOf c.1.toArray c.2.2)]) ((D9, listOf v9.toArray c9) :: (D8, listOf v8.toArray c8) :: (news ++ tl9)) (fun _ => []) (fun l c => TupL (hd.heap_39 w.params) l c.1 c.2.1) [] (fun pre c => c.2.1 = (powE n.toNat).take (pre.length + 1)) (D1 :: D9 :: D8 :: (news ++ tl9).map (·.1)) ([.ref 42], [(0, 1)], 0) ?kh rgX ?ksm (rangeSize_nat _ _) lF' lN ?ki ?ka ?kf ?kk ?kp ?kt ?kd
  case kh => exact rfl
  case ksm => exact small_one (by omega) (by omega) (by omega) (by omega)
  case ki => walk_at "SUBS"
  case ka => intro c; rfl
  case kf => exact .cons (tupA_R0 _ _) .nil
  case kk => intro p hp; cases hp
  case kp => exact (pow_start n.toNat (by omega) (by omega)).1.symm
  case kt =>
    rintro ⟨vs, rs, c⟩ tl pre k t u h9 tk9 own hk9 hlt hsep hoff hI hP F9 N9
    have kMark := kstMark
    have kMark' := kdMark
    have o1 := hsep.one
    have o2 := hsep.two
    have o3 := hsep.three
    dsimp only [kstB] at F9
    dsimp only at N9 hI hP
    simp only [List.nil_append, List.cons_append, List.append_assoc] at N9 hI
    clear lF' lN' lN F11 N11 rgX
    have ek : k.toNat = pre.length + 1 := by omega
    have ekn : (n + 1 - k).toNat = n.toNat - pre.length := by omega
    have hj : pre.length < n.toNat + 1 := by omega
    have hf : ((bernT.take (n.toNat + 1)))[(n + 1 - k).toNat]? = some ((bernE (n.toNat - pre.length)).1, (bernE (n.toNat - pre.length)).2) := by
      rw [ekn]
      exact bern_take (n.toNat + 1) (by omega) _ (by omega)
    have hb := bern_ok (n.toNat - pre.length) (by omega)
    obtain ⟨hb1, hb2⟩ := hb
    have hq := pow_ok n.toNat (by omega) pre.length hj
    obtain ⟨hq1, hq2⟩ := hq
    have er : (binT.getD (n.toNat + 1) []).getD k.toNat 0 = binE (n.toNat + 1) (pre.length + 1) := by rw [ek]; rfl
    rw [← er] at hq1
    unfold pmY at hq2
    rw [← er] at hq2
    have hvl : vs.length ≤ 13 := by
      rw [hI.length, hP, List.length_take]
      exact Nat.le_trans (Nat.min_le_left _ _) (by omega)
    try k_fold
    k_steps
    rename_i Dz tz uz cz hz tkz lz l8z hE FE NE
    have hres := pow_step n.toNat (by omega) (by omega) pre.length hj
    unfold pmX pmY at hres
    rw [← er, ← hP, show ((n.toNat : Nat) : Int) = n by omega] at hres
    simp only [List.push_toArray] at NE
    refine kd_end1 (σ := List Value × List (Int × Int) × Nat) (vs ++ [.ref Dz], rs ++ [(_, _)], _) Dz (tupO _ tz _ uz cz) hsep FE NE (List.Mem.head _) (List.forall_mem_append.mpr ⟨List.forall_mem_cons.mpr ⟨by (try dsimp only); k_mem, List.forall_mem_nil _⟩, by walk_at "SUBS"⟩) rfl (fun b hb => ?_) (fun p hp => lz p (by walk_at "INS")) ?_ (by kst_same) (TupL.snoc (hI.mono ?_) (tupA_new (List.mem_append.mpr (.inr (List.Mem.head _))))) ?_
    · rcases List.mem_cons.mp hb with rfl | hb
      · exact lz (b, listOf vs.toArray c) (by walk_at "INS")
      · obtain ⟨p, hp, rfl⟩ := List.mem_map.mp (show b ∈ ((D9, listOf v9.toArray c9) :: (D8, listOf v8.toArray c8) :: (news ++ tl9)).map (·.1) from hb)
        exact lz p (by walk_at "INS")
    · intro p hp; cases hp
    · walk_at "SUBS"
    · rw [List.length_append, List.length_singleton]
      exact hres
  case kd =>
    rintro ⟨vs, rs, c⟩ tl u h9 tk9 hoff hI hP F9 N9
    dsimp only [kstB] at F9
    dsimp only at N9 hI hP
    simp only [List.nil_append, List.cons_append, List.append_assoc] at N9 hI
    try k_fold
    k_steps
    rw [rangeKs_length, show (n + 2 - 1).toNat = n.toNat + 1 by omega, (pow_start n.toNat (by omega) (by omega)).2] at hP
    subst hP
    refine hret D1 vs c ((D9, listOf v9.toArray c9) :: (D8, listOf v8.toArray c8) :: (tl9 ++ tl)) _ _ (hI.mono ?_) (by k_asm) (cb_drop (by assumption) ?_)
    · walk_at "SUBS"
    · walk_at "SUBS"
end
end Mine
-- part S6
set_option maxHeartbeats 1000000
namespace Mine
-- the branch that the facts decide
local macro_rules | `(tactic| walk_at "ite") => `(tactic| (k_here; k_openite; first | (refine ite_neg (by (simp only [decide_eq_true_eq, beq_iff_eq, bne_iff_ne, ne_eq, gt_iff_lt, ge_iff_le]; omega)) ?_) | (refine ite_pos (by (simp only [decide_eq_true_eq, beq_iff_eq, bne_iff_ne, ne_eq, gt_iff_lt, ge_iff_le]; omega)) ?_)))
-- a tuple's items
local macro_rules | `(tactic| walk_at "subscriptTail") => `(tactic| (k_here; (with_reducible show wpAny _ _ (subscriptTail _ _ (Value.ref _) (Value.int 1 _)) _ _ _); k_dflt (refine' sub1 ?kT ?kX ?kF ?kN ?kS ?_ ?kB; (case kT => assumption); (case kF => k_asm); (case kX => k_asm); (case kN => k_asm); (case kS => kcj_all); (case kB => with_unfolding_all rfl); k_whole); intro t9; (try dsimp only)))
local macro_rules | `(tactic| walk_at "subscriptTail") => `(tactic| (k_here; (with_reducible show wpAny _ _ (subscriptTail _ _ (Value.ref _) (Value.int 0 _)) _ _ _); k_dflt (refine' sub0 ?kT ?kX ?kF ?kN ?kS ?_ ?kB; (case kT => assumption); (case kF => k_asm); (case kX => k_asm); (case kN => k_asm); (case kS => kcj_all); (case kB => with_unfolding_all rfl); k_whole); intro t9; (try dsimp only)))
-- the calls' common premises
local macro_rules | `(tactic| walk_at "ASK") => `(tactic| ((case k1 => k_asm); (case k2 => k_asm); (case k3 => k_asm); (case k4 => k_asm); (case k5 => k_asm); (case kK => first | exact rfl | assumption); (case kd => ktr_room); (case ku => ktr_units)))
local macro_rules | `(tactic| walk_at "TUP") => `(tactic| first | assumption | exact tupA_R0 _ _ | exact tupA_R1 _ _ | exact tupA_new (by k_mem) | (refine' TupA.mono (by assumption) ?kS; (case kS => kcj_all)))
local macro_rules | `(tactic| walk_at "call ref") => `(tactic| (k_here; (with_reducible show wpAny _ _ (PySem.call (Value.ref 41) _ _) _ _ _); k_dflt (refine' gcd_use ?k1 ?k2 ?k3 ?k4 ?k5 ?kK ?kd ?ku ?_; walk_at "ASK"; k_whole); intro t9 h9 tk9 F9 N9; (try dsimp only); (try k_fold)))
-- a tuple comes back
local macro_rules | `(tactic| walk_at "BACK") => `(tactic| (refine' retT_end (by assumption) ?ex ?ey ?ef ?en ?em ?es ?el; (case ef => k_asm); (case en => k_asm); (case em => k_mem); (case es => kcj_all); (case ex => exact rfl); (case ey => exact rfl); (case el => first | assumption | fail "BACK: order")))
-- steps up to a loop
local macro_rules | `(tactic| walk_at "UPTO") => `(tactic| repeat' ((fail_if_success (with_reducible show wpAny _ _ (pyIter (Value.ref _)) (fun it s₂ => LoopAtV _ _ _ _ _ _ _ _ _ it s₂) _ _)); first | (k_unfold; (try dsimp only)) | (k_end; wrow_close) | walk1 | (dsimp only; walk1) | (leave1; try dsimp only) | fail "no step"))
local macro_rules | `(tactic| walk_at "SUB") => `(tactic| first | kcj_all | kd_subs | ktd_sub)
local macro_rules | `(tactic| walk_at "TUP") => `(tactic| first | assumption | exact tupA_R0 _ _ | exact tupA_R1 _ _ | exact tupA_new (by k_mem) | (refine' TupA.mono (by assumption) ?kS; (case kS => walk_at "SUB")))
local macro_rules | `(tactic| walk_at "call ref") => `(tactic| (k_here; (with_reducible show wpAny _ _ (PySem.call (Value.ref 50) _ _) _ _ _); k_dflt (refine' rat_use ?k1 ?k2 ?k3 ?k4 ?k5 ?kK ?kd ?ku ?ky ?_; walk_at "ASK"; (case ky => first | assumption | omega | fail "RAT: the bottom"); k_whole); intro D9 t9 u9 c9 h9 tk9 F9 N9 l9; (have l8 := l9); (try k_lt l8); (try dsimp only); (try k_fold)))
local macro_rules | `(tactic| walk_at "call ref") => `(tactic| (k_here; (with_reducible show wpAny _ _ (PySem.call (Value.ref 57) _ _) _ _ _); k_dflt (refine' radd_use ?k1 ?k2 ?k3 ?k4 ?k5 ?kK ?kd ?ku ?kt ?kT ?ky ?kY ?_; walk_at "ASK"; (case kt => walk_at "TUP"); (case kT => walk_at "TUP"); (case ky => first | assumption | omega | fail "RADD: a bottom"); (case kY => first | assumption | omega | fail "RADD: a bottom"); k_whole); intro D9 t9 u9 c9 h9 tk9 F9 N9 l9; (have l8 := l9); (try k_lt l8); (try dsimp only); (try k_fold)))
local macro_rules | `(tactic| walk_at "call ref") => `(tactic| (k_here; (with_reducible show wpAny _ _ (PySem.call (Value.ref 64) _ _) _ _ _); k_dflt (refine' rmul_use ?k1 ?k2 ?k3 ?k4 ?k5 ?kK ?kd ?ku ?kt ?kT ?ky ?kY ?kX ?_; walk_at "ASK"; (case kt => walk_at "TUP"); (case kT => walk_at "TUP"); (case ky => first | assumption | omega | fail "RMUL: a bottom"); (case kY => first | assumption | omega | fail "RMUL: a bottom"); (case kX => first | assumption | omega | fail "RMUL: a top"); k_whole); intro D9 t9 u9 c9 h9 tk9 F9 N9 l9; (have l8 := l9); (try k_lt l8); (try dsimp only); (try k_fold)))
local macro_rules | `(tactic| walk_at "call ref") => `(tactic| (k_here; (with_reducible show wpAny _ _ (PySem.call (Value.ref 71) _ _) _ _ _); k_dflt (refine' rdiv_use ?k1 ?k2 ?k3 ?k4 ?k5 ?kK ?kd ?ku ?kt ?kT ?ky ?kX ?kY ?_; walk_at "ASK"; (case kt => walk_at "TUP"); (case kT => walk_at "TUP"); (case ky => first | assumption | omega | fail "RDIV: a bottom"); (case kY => first | assumption | omega | fail "RDIV: a bottom"); (case kX => first | assumption | omega | fail "RDIV: a top"); k_whole); intro D9 t9 u9 c9 h9 tk9 F9 N9 l9; (have l8 := l9); (try k_lt l8); (try dsimp only); (try k_fold)))
local macro_rules | `(tactic| walk_at "call ref") => `(tactic| (k_here; (with_reducible show wpAny _ _ (PySem.call (Value.ref 78) _ _) _ _ _); k_dflt (refine' rneg_use ?k1 ?k2 ?k3 ?k4 ?k5 ?kK ?kd ?ku ?kt ?_; walk_at "ASK"; (case kt => walk_at "TUP"); k_whole); intro D9 t9 u9 c9 h9 tk9 F9 N9 l9; (have l8 := l9); (try k_lt l8); (try dsimp only); (try k_fold)))
local macro_rules | `(tactic| walk_at "call ref") => `(tactic| (k_here; (with_reducible show wpAny _ _ (PySem.call (Value.ref 85) _ _) _ _ _); k_dflt (refine' binT_use ?k1 ?k2 ?k3 ?k4 ?k5 ?kK ?kd ?ku ?kn ?_; walk_at "ASK"; (case kn => first | assumption | omega | fail "BIN: n"); k_whole); intro D9 v9 c9 h9 tk9 i9 F9 N9 l9; (have l8 := l9); (try k_lt l8); (try dsimp only); (try k_fold)))
local macro_rules | `(tactic| walk_at "subscriptTail") => `(tactic| (k_here; (with_reducible show wpAny _ _ (subscriptTail _ _ (Value.ref _) (Value.int _ _)) _ _ _); k_dflt (refine' subL ?k1 ?k2 ?k3 ?k4 ?k5 ?k6 ?_ ?k7; (case k2 => k_asm); (case k1 => k_mem); (case k3 => assumption); (case k4 => first | assumption | omega); (case k5 => omega); (case k6 => assumption); (case k7 => with_unfolding_all rfl); k_whole); intro a9 t9; (try dsimp only)))
local macro_rules | `(tactic| walk_at "call ref") => `(tactic| (k_here; (with_reducible show wpAny _ _ (PySem.call (Value.ref 92) _ _) _ _ _); k_dflt (refine' bern_use ?k1 ?k2 ?k3 ?k4 ?k5 ?kK ?kd ?ku ?kn ?_; walk_at "ASK"; (case kn => first | assumption | omega | fail "BERN: n"); k_whole); intro D9 v9 c9 tl9 h9 tk9 i9 F9 N9; (try simp only [List.cons_append, List.append_assoc] at N9); (try simp only [List.cons_append, List.append_assoc] at i9); (try dsimp only); (try k_fold)))
local macro_rules | `(tactic| walk_at "INS") => `(tactic| ((try simp only [List.nil_append, List.append_nil] at *); simp only [List.mem_append, List.mem_cons, List.not_mem_nil, or_false, false_or, List.cons_append] at *; first | assumption | grind))
local macro_rules | `(tactic| walk_at "SUBS") => `(tactic| (intro p hp; simp only [List.mem_append, List.mem_cons, List.not_mem_nil, or_false, false_or, List.cons_append, List.nil_append, List.append_nil] at hp ⊢; first | assumption | grind))
-- a range as it stands, never value by value
local macro_rules | `(tactic| walk_at "call type:range") => `(tactic| (k_here; (rename Fr _ _ _ _ => fR'); (rename News _ _ _ _ => nR'); (with_unfolding_all first | refine range1_rows fR' nR' ?_ | refine range2_rows fR' nR' ?_); intro _ _ _ _ _ _ _ _ _))
def qatT : List (List (List (Int × Int))) := [[[], [], [], [], [], []],
  [[(0, 1), (1, 2), (1, 2), (1, 1)], [(0, 1), (1, 2), (1, 1), (3, 1)], [(0, 1), (1, 2), (3, 1), (21, 1)], [(0, 1), (1, 2), (2, 1), (10, 1)], [(0, 1), (1, 2), (5, 1), (55, 1)], [(0, 1), (1, 2), (6, 1), (78, 1)]],
  [[(0, 1), (1, 3), (1, 6), (1, 2), (1, 1)], [(0, 1), (1, 3), (1, 2), (5, 3), (5, 1)], [(0, 1), (1, 3), (11, 6), (13, 1), (91, 1)], [(0, 1), (1, 3), (7, 6), (6, 1), (30, 1)], [(0, 1), (1, 3), (19, 6), (35, 1), (385, 1)], [(0, 1), (1, 3), (23, 6), (50, 1), (650, 1)]],
  [[(0, 1), (1, 4), (0, 1), (1, 4), (1, 2), (1, 1)], [(0, 1), (1, 4), (1, 4), (1, 1), (3, 1), (9, 1)], [(0, 1), (1, 4), (5, 4), (9, 1), (63, 1), (441, 1)], [(0, 1), (1, 4), (3, 4), (4, 1), (20, 1), (100, 1)], [(0, 1), (1, 4), (9, 4), (25, 1), (275, 1), (3025, 1)], [(0, 1), (1, 4), (11, 4), (36, 1), (468, 1), (6084, 1)]],
  [[(0, 1), (1, 5), (-1, 10), (2, 15), (4, 15), (1, 2), (1, 1)], [(0, 1), (1, 5), (1, 10), (19, 30), (19, 10), (17, 3), (17, 1)], [(0, 1), (1, 5), (9, 10), (199, 30), (1393, 30), (325, 1), (2275, 1)], [(0, 1), (1, 5), (1, 2), (17, 6), (85, 6), (354, 5), (354, 1)], [(0, 1), (1, 5), (17, 10), (571, 30), (6281, 30), (2303, 1), (25333, 1)], [(0, 1), (1, 5), (21, 10), (829, 30), (10777, 30), (4670, 1), (60710, 1)]]]
def primT : List Int := [2, 3, 7, 5, 11, 13]
def primE (j : Nat) : Int := primT.getD j 2
def qatE (k j i : Nat) : Int × Int := ((qatT.getD k []).getD j []).getD i (0, 1)
def revE (k i : Nat) : Int × Int := (powE k).reverse.getD i (0, 1)
def qmX (k j i : Nat) : Int := mulX (qatE k j i).1 (qatE k j i).2 (primE j) 1
def qmY (k j i : Nat) : Int := mulY (qatE k j i).1 (qatE k j i).2 (primE j) 1
theorem qat_ok : ∀ k : Nat, k < 5 → ∀ j : Nat, j < 6 → ∀ i : Nat, i < k + 2 → (0 < (qatE k j i).2 ∧ (qatE k j i).2 < 32768) ∧ (0 < qmY k j i ∧ qmY k j i < 32768) ∧ (0 < (revE k i).2 ∧ (revE k i).2 < 32768) := by decide +kernel
theorem qat_step : ∀ k : Nat, k < 5 → 0 < k → ∀ j : Nat, j < 6 → ∀ i : Nat, i < k + 2 → (addX (qmX k j i) (qmY k j i) (revE k i).1 (revE k i).2, addY (qmX k j i) (qmY k j i) (revE k i).1 (revE k i).2) = qatE k j (i + 1) := by decide +kernel
theorem qat_start : ∀ k : Nat, k < 5 → 0 < k → ∀ j : Nat, j < 6 → qatE k j 0 = (0, 1) := by decide +kernel
theorem pow_len : ∀ k : Nat, k < 5 → 0 < k → (powE k).length = k + 2 := by decide +kernel
theorem prim_ok : ∀ j : Nat, j < 6 → 1 < primE j ∧ primE j < 14 := by decide +kernel
theorem TupL.rev {K : Frag} {news : List (Addr × Obj)} {vs : List Value} {rs : List (Int × Int)} (h : TupL K news vs rs) : TupL K news vs.reverse rs.reverse := by
  induction h with
  | nil => exact .nil
  | cons hA _ ih =>
    rw [List.reverse_cons, List.reverse_cons]
    exact ih.snoc hA
theorem TupL.drop {K : Frag} {news : List (Addr × Obj)} {v : Value} {vs : List Value} {rs : List (Int × Int)} (h : TupL K news (v :: vs) rs) : ∃ a x y rs', v = .ref a ∧ rs = (x, y) :: rs' ∧ TupA K news a x y ∧ TupL K news vs rs' := by
  cases h with
  | cons hA hL => exact ⟨_, _, _, _, rfl, rfl, hA, hL⟩

def KdR {σ : Type} (cst : List (Addr × Obj)) (ps : σ → List (Str × Value)) (Facts : List (Addr × Obj) → σ → Prop) (x : Str) (stored : List Str) (m₀ : Str → Option Value) (P : List Value → σ → Prop) (I : Addr) (r : List Value) (m : Str → Option Value) (nx : List (Addr × Obj)) : Prop :=
  ∃ (c : σ) (tl : List (Addr × Obj)), nx = cst ++ tl ∧ (∀ p ∈ nx, p.1 ≠ I) ∧ Facts (cst ++ tl) c ∧ (∀ p ∈ ps c, m p.1 = some p.2) ∧ (∀ z, z ≠ x → (∀ p ∈ ps c, z ≠ p.1) → stored.contains z = false → m z = m₀ z) ∧ P r c
section
variable {prog : Program} {w : World} {A : Around} {E : Value → Shared → Prop} {s : Shared} {env : Env} {h₀ : Heap} {x : Str} {body : List Stmt} {Q : Flow → Shared → Prop}
theorem kd_rev {σ : Type} {ax I : Addr} {lo : Obj} {vs : List Value} {n : Nat} {m₀ : Str → Option Value} (cst : List (Addr × Obj)) (ps : σ → List (Str × Value)) (Facts : List (Addr × Obj) → σ → Prop) (stored : List Str) (P : List Value → σ → Prop) (c₀ : σ)
    (hh : A.handled = none) (F : Fr h₀ env.locals s.heap m₀) (N : News h₀ env.locals s.heap ((I, revObj ax ((vs.length : Int) - 1)) :: cst)) (hof : ∀ p ∈ cst, p.1 ≠ I) (hm : (ax, lo) ∈ cst) (hc : lo.cls = .type "list") (hd : lo.data = .seq vs.toArray n)
    (hf : Facts cst c₀) (hk : ∀ p ∈ ps c₀, m₀ p.1 = some p.2) (hp : P vs.reverse c₀)
    (turn : ∀ (c : σ) tl v r (u : Str → Option Value) it h tk, it.cls = .type "list_reverseiterator" → (∀ p ∈ cst ++ tl, p.1 ≠ I) → Facts (cst ++ tl) c → P (v :: r) c →
      Fr h₀ env.locals h (fun y => if y = x then some v else kstB (fun z => if stored.contains z then u z else m₀ z) (ps c) y) → News h₀ env.locals h ((I, it) :: (cst ++ tl)) →
      wpAny (model prog w) A (execs body env) (UnrPost h₀ env.locals { s with heap := h, toks := tk } I it (KdR cst ps Facts x stored m₀ P I r) Q) E { s with heap := h, toks := tk })
    (done : ∀ (c : σ) tl (u : Str → Option Value) h tk, Facts (cst ++ tl) c → P [] c → Fr h₀ env.locals h (fun y => if y = x then u y else kstB (fun z => if stored.contains z then u z else m₀ z) (ps c) y) → News h₀ env.locals h (cst ++ tl) → Q .next { s with heap := h, toks := tk }) :
    wpAny (model prog w) A (pyIter (.ref I)) (fun it s₂ => LoopAtV prog w A h₀ env x body Q E it s₂) E s := by
  have all : ∀ (r : List Value) (m : Str → Option Value) (nx : List (Addr × Obj)), KdR cst ps Facts x stored m₀ P I r m nx → RevRest prog w A E h₀ env x body Q s I (ax, lo) r m nx := by
    intro r
    induction r with
    | nil =>
      rintro m nx ⟨c, tl, rfl, h1, h2, h3, h4, h5⟩
      exact fun h tk F₁ N₁ => done c tl m h tk h2 h5 (kst_frOut h3 h4 F₁) N₁
    | cons v r ih =>
      rintro m nx ⟨c, tl, rfl, h1, h2, h3, h4, h5⟩
      intro it h tk hi F₁ N₁
      refine wpAny_mono (turn c tl v r m it h tk hi h1 h2 h5 (kst_fr h3 h4 F₁) N₁) (fun f s₂ q => ?_) fun _ _ e => e
      have fin : UnrEnd h₀ env.locals { s with heap := h, toks := tk } I it (KdR cst ps Facts x stored m₀ P I r) s₂ → UnrEnd h₀ env.locals { s with heap := h, toks := tk } I it (fun m' n' => (ax, lo) ∈ n' ∧ RevRest prog w A E h₀ env x body Q s I (ax, lo) r m' n') s₂ := by
        rintro ⟨h', tk', m', news', e, F', N', ho, hr⟩
        refine ⟨h', tk', m', news', e, F', N', ho, ?_, ih m' news' hr⟩
        obtain ⟨c', tl', rfl, _⟩ := hr
        exact List.mem_append.mpr (.inl hm)
      cases f with
      | ret v => exact q
      | brk => exact q
      | next => exact fin q
      | cont => exact fin q
  have hof' : ∀ l : List (Addr × Obj), (∀ p ∈ l, p.1 ≠ I) → OffI I (revObj ax ((vs.length : Int) - 1)) l := by
    intro l
    induction l with
    | nil => exact fun _ => trivial
    | cons p r ih => exact fun h => ⟨.inl (h p (.head _)), ih fun q hq => h q (.tail _ hq)⟩
  exact iter_revUnr hh F N (hof' cst hof) hm hc hd (all _ _ _ ⟨c₀, [], (List.append_nil _).symm, hof, by rw [List.append_nil]; exact hf, hk, fun _ _ _ _ => rfl, hp⟩)
end
section
variable {w : World} {mean : ExcName → Option Value} {mg mb : Str → Option Value} {dp un : Nat} {gd : Option (List Code)} {cn : Str} {cs : Scope} {a : Addr} {ccd : Value} {cl : List (Str × Addr)} {outer : List Env} {A₀ : Around} {base h₀ : Heap} {L : Addr} {m : Str → Option Value} {s : Shared} {Q E : Value → Shared → Prop} {news : List (Addr × Obj)}
theorem qat_use {k j : Nat} {vs : List Value} {Dp ar : Addr} {cp : Nat} (B : Below A₀ base outer h₀) (F : Fr h₀ L s.heap m) (X : (hd.heap_39 w.params).In h₀) (N : News h₀ L s.heap news) (T : Top hd.view_39 (looseW hd.view_39 []) mean mg mb h₀) (hk : cs.kind = .function) (hdp : dp + 4 < recursionLimit) (hu : un + 32 < cLine)
    (hm : (Dp, listOf vs.toArray cp) ∈ news) (hL : TupL (hd.heap_39 w.params) news vs (powE k)) (hA : TupA (hd.heap_39 w.params) news ar (primE j) 1) (hk0 : 0 < k) (hk1 : k < 5) (hj : j < 6)
    (hret : ∀ (D : Addr) (tl : List (Addr × Obj)) (h' : Heap) (tk' : Nat), Fr h₀ L h' m → News h₀ L h' (news ++ tl) → TupA (hd.heap_39 w.params) (news ++ tl) D (qatE k j (k + 2)).1 (qatE k j (k + 2)).2 → Q (.ref D) { s with heap := h', toks := tk' }) : wpAny (model PySem.Challenge.rw_sa0076_01.row.prog w) (ktrTop dp un gd cn cs L a ccd cl outer) (call (.ref 106) [.ref Dp, .ref ar]) Q E s := by
  revert X; k_fill; intro X; w_top off
  have N2 : News h₀ L s.heap ((Dp, listOf vs.toArray cp) :: news) := fun p hp => by
    rcases List.mem_cons.mp hp with rfl | hp
    · exact N _ hm
    · exact N p hp
  clear N
  refine wpAny_call ?_
  k_dflt cell_enter
  walk_at "UPTO"
  (rename Fr _ _ _ _ => lF'); (rename News _ _ _ _ => lN')
  rename_i T1 tk1 h1 D1 h2 l1
  refine' kd_rev (σ := Addr × Int × Int) (n := cp) ((Dp, listOf vs.toArray cp) :: news) (fun c => [(Str.ofString "found", Value.ref c.1)]) (fun l c => TupA (hd.heap_39 w.params) l c.1 c.2.1 c.2.2) [] (fun r c => ∃ i, i ≤ k + 2 ∧ TupL (hd.heap_39 w.params) news r ((powE k).reverse.drop i) ∧ (c.2.1, c.2.2) = qatE k j i) (42, 0, 1) ?ih lF' lN' ?io (List.Mem.head _) rfl rfl ?if' ?ik ?ip ?it ?id
  case ih => exact rfl
  case io =>
    intro p hp
    rcases List.mem_cons.mp hp with rfl | hp
    · exact Nat.ne_of_lt l1.1
    · exact Nat.ne_of_lt (kst_ltOf l1.2 p hp)
  case if' => exact tupA_R0 _ _
  case ik => intro p hp; rw [List.mem_singleton.mp hp]; exact rfl
  case ip => exact ⟨0, Nat.zero_le _, hL.rev, (qat_start k hk1 hk0 j hj).symm⟩
  case it =>
    rintro ⟨af, x, y⟩ tl v r u it h9 tk9 hcl hoff hF ⟨i, hi, hT, hP⟩ F9 N9
    dsimp only [kstB] at F9
    dsimp only at hF hP
    obtain ⟨an, x', y', rs', rfl, hrs, hAn, hT'⟩ := hT.drop
    clear lF' lN'
    have hlen := pow_len k hk1 hk0
    have hlt : i < (powE k).reverse.length := by
      have h := congrArg List.length hrs
      rw [List.length_drop, List.length_cons] at h
      omega
    rw [List.length_reverse, hlen] at hlt
    have hdr := List.drop_eq_getElem_cons (l := (powE k).reverse) (i := i) (by rw [List.length_reverse, hlen]; exact hlt)
    rw [hrs, List.cons.injEq] at hdr
    have er : revE k i = (x', y') := by
      unfold revE
      rw [List.getD_eq_getElem?_getD, List.getElem?_eq_getElem (by rw [List.length_reverse, hlen]; exact hlt), ← hdr.1]
      rfl
    have ex : x = (qatE k j i).1 := congrArg Prod.fst hP
    have ey : y = (qatE k j i).2 := congrArg Prod.snd hP
    obtain ⟨q1, q2, q3⟩ := qat_ok k hk1 j hj i hlt
    have hst := qat_step k hk1 hk0 j hj i hlt
    unfold qmX qmY at hst
    unfold qmY at q2
    rw [← ex, ← ey, er] at hst
    rw [← ex, ← ey] at q2
    rw [← ey] at q1
    rw [er] at q3
    dsimp only at q3 hst
    have hpr := prim_ok j hj
    obtain ⟨hp1, hp2⟩ := hpr
    simp only [List.cons_append] at N9 hF
    try k_fold
    k_steps
    rename_i Dz tz uz cz hz tkz lz l8z hE FE NE
    have hoff' : ∀ p ∈ ((Dp, listOf vs.toArray cp) :: news) ++ ((Dz, tupO (addX (mulX x y (primE j) 1) (mulY x y (primE j) 1) x' y') tz (addY (mulX x y (primE j) 1) (mulY x y (primE j) 1) x' y') uz cz) :: tl), p.1 ≠ D1 := by
      intro p hp
      rcases List.mem_append.mp hp with hp | hp
      · exact hoff p (List.mem_append.mpr (.inl hp))
      · rcases List.mem_cons.mp hp with rfl | hp
        · exact Nat.ne_of_gt (lz (D1, it) (by walk_at "INS"))
        · exact hoff p (List.mem_append.mpr (.inr hp))
    refine ⟨hE, _, _, ((Dp, listOf vs.toArray cp) :: news) ++ ((Dz, tupO (addX (mulX x y (primE j) 1) (mulY x y (primE j) 1) x' y') tz (addY (mulX x y (primE j) 1) (mulY x y (primE j) 1) x' y') uz cz) :: tl), rfl, FE, cb_drop NE ?_, hoff', (Dz, _, _), _, rfl, hoff', tupA_new (List.mem_append.mpr (.inr (List.Mem.head _))), ?_, ?_, i + 1, hlt, ?_, hst⟩
    · walk_at "SUBS"
    · intro p hp; rw [List.mem_singleton.mp hp]; exact rfl
    · kst_same
    · rw [← hdr.2]; exact hT'
  case id =>
    rintro ⟨af, x, y⟩ tl u h9 tk9 hF ⟨i, hi, hT, hP⟩ F9 N9
    dsimp only [kstB] at F9
    dsimp only at hF hP
    have hlen := pow_len k hk1 hk0
    have ei : i = k + 2 := by
      have h := hT.length
      rw [List.length_drop, List.length_reverse, hlen] at h
      simp at h
      omega
    subst ei
    have ex : x = (qatE k j (k + 2)).1 := congrArg Prod.fst hP
    have ey : y = (qatE k j (k + 2)).2 := congrArg Prod.snd hP
    rw [ex, ey] at hF
    simp only [List.cons_append] at N9 hF
    try k_fold
    k_steps
    refine hret af tl _ _ (by k_asm) (cb_drop (by assumption) ?_) (hF.mono ?_)
    · walk_at "SUBS"
    · intro p hp
      rcases List.mem_cons.mp hp with rfl | hp
      · exact List.mem_append.mpr (.inl hm)
      · exact hp
end
end Mine
-- part S7
set_option maxHeartbeats 1000000
namespace Mine
-- the branch that the facts decide
local macro_rules | `(tactic| walk_at "ite") => `(tactic| (k_here; k_openite; first | (refine ite_neg (by (simp only [decide_eq_true_eq, beq_iff_eq, bne_iff_ne, ne_eq, gt_iff_lt, ge_iff_le]; omega)) ?_) | (refine ite_pos (by (simp only [decide_eq_true_eq, beq_iff_eq, bne_iff_ne, ne_eq, gt_iff_lt, ge_iff_le]; omega)) ?_)))
-- a tuple's items
local macro_rules | `(tactic| walk_at "subscriptTail") => `(tactic| (k_here; (with_reducible show wpAny _ _ (subscriptTail _ _ (Value.ref _) (Value.int 1 _)) _ _ _); k_dflt (refine' sub1 ?kT ?kX ?kF ?kN ?kS ?_ ?kB; (case kT => assumption); (case kF => k_asm); (case kX => k_asm); (case kN => k_asm); (case kS => kcj_all); (case kB => with_unfolding_all rfl); k_whole); intro t9; (try dsimp only)))
local macro_rules | `(tactic| walk_at "subscriptTail") => `(tactic| (k_here; (with_reducible show wpAny _ _ (subscriptTail _ _ (Value.ref _) (Value.int 0 _)) _ _ _); k_dflt (refine' sub0 ?kT ?kX ?kF ?kN ?kS ?_ ?kB; (case kT => assumption); (case kF => k_asm); (case kX => k_asm); (case kN => k_asm); (case kS => kcj_all); (case kB => with_unfolding_all rfl); k_whole); intro t9; (try dsimp only)))
-- the calls' common premises
local macro_rules | `(tactic| walk_at "ASK") => `(tactic| ((case k1 => k_asm); (case k2 => k_asm); (case k3 => k_asm); (case k4 => k_asm); (case k5 => k_asm); (case kK => first | exact rfl | assumption); (case kd => ktr_room); (case ku => ktr_units)))
local macro_rules | `(tactic| walk_at "TUP") => `(tactic| first | assumption | exact tupA_R0 _ _ | exact tupA_R1 _ _ | exact tupA_new (by k_mem) | (refine' TupA.mono (by assumption) ?kS; (case kS => kcj_all)))
local macro_rules | `(tactic| walk_at "call ref") => `(tactic| (k_here; (with_reducible show wpAny _ _ (PySem.call (Value.ref 41) _ _) _ _ _); k_dflt (refine' gcd_use ?k1 ?k2 ?k3 ?k4 ?k5 ?kK ?kd ?ku ?_; walk_at "ASK"; k_whole); intro t9 h9 tk9 F9 N9; (try dsimp only); (try k_fold)))
-- a tuple comes back
local macro_rules | `(tactic| walk_at "BACK") => `(tactic| (refine' retT_end (by assumption) ?ex ?ey ?ef ?en ?em ?es ?el; (case ef => k_asm); (case en => k_asm); (case em => k_mem); (case es => kcj_all); (case ex => exact rfl); (case ey => exact rfl); (case el => first | assumption | fail "BACK: order")))
-- steps up to a loop
local macro_rules | `(tactic| walk_at "UPTO") => `(tactic| repeat' ((fail_if_success (with_reducible show wpAny _ _ (pyIter (Value.ref _)) (fun it s₂ => LoopAtV _ _ _ _ _ _ _ _ _ it s₂) _ _)); first | (k_unfold; (try dsimp only)) | (k_end; wrow_close) | walk1 | (dsimp only; walk1) | (leave1; try dsimp only) | fail "no step"))
local macro_rules | `(tactic| walk_at "SUB") => `(tactic| first | kcj_all | kd_subs | ktd_sub)
local macro_rules | `(tactic| walk_at "TUP") => `(tactic| first | assumption | exact tupA_R0 _ _ | exact tupA_R1 _ _ | exact tupA_new (by k_mem) | (refine' TupA.mono (by assumption) ?kS; (case kS => walk_at "SUB")))
local macro_rules | `(tactic| walk_at "call ref") => `(tactic| (k_here; (with_reducible show wpAny _ _ (PySem.call (Value.ref 50) _ _) _ _ _); k_dflt (refine' rat_use ?k1 ?k2 ?k3 ?k4 ?k5 ?kK ?kd ?ku ?ky ?_; walk_at "ASK"; (case ky => first | assumption | omega | fail "RAT: the bottom"); k_whole); intro D9 t9 u9 c9 h9 tk9 F9 N9 l9; (have l8 := l9); (try k_lt l8); (try dsimp only); (try k_fold)))
local macro_rules | `(tactic| walk_at "call ref") => `(tactic| (k_here; (with_reducible show wpAny _ _ (PySem.call (Value.ref 57) _ _) _ _ _); k_dflt (refine' radd_use ?k1 ?k2 ?k3 ?k4 ?k5 ?kK ?kd ?ku ?kt ?kT ?ky ?kY ?_; walk_at "ASK"; (case kt => walk_at "TUP"); (case kT => walk_at "TUP"); (case ky => first | assumption | omega | fail "RADD: a bottom"); (case kY => first | assumption | omega | fail "RADD: a bottom"); k_whole); intro D9 t9 u9 c9 h9 tk9 F9 N9 l9; (have l8 := l9); (try k_lt l8); (try dsimp only); (try k_fold)))
local macro_rules | `(tactic| walk_at "call ref") => `(tactic| (k_here; (with_reducible show wpAny _ _ (PySem.call (Value.ref 64) _ _) _ _ _); k_dflt (refine' rmul_use ?k1 ?k2 ?k3 ?k4 ?k5 ?kK ?kd ?ku ?kt ?kT ?ky ?kY ?kX ?_; walk_at "ASK"; (case kt => walk_at "TUP"); (case kT => walk_at "TUP"); (case ky => first | assumption | omega | fail "RMUL: a bottom"); (case kY => first | assumption | omega | fail "RMUL: a bottom"); (case kX => first | assumption | omega | fail "RMUL: a top"); k_whole); intro D9 t9 u9 c9 h9 tk9 F9 N9 l9; (have l8 := l9); (try k_lt l8); (try dsimp only); (try k_fold)))
local macro_rules | `(tactic| walk_at "call ref") => `(tactic| (k_here; (with_reducible show wpAny _ _ (PySem.call (Value.ref 71) _ _) _ _ _); k_dflt (refine' rdiv_use ?k1 ?k2 ?k3 ?k4 ?k5 ?kK ?kd ?ku ?kt ?kT ?ky ?kX ?kY ?_; walk_at "ASK"; (case kt => walk_at "TUP"); (case kT => walk_at "TUP"); (case ky => first | assumption | omega | fail "RDIV: a bottom"); (case kY => first | assumption | omega | fail "RDIV: a bottom"); (case kX => first | assumption | omega | fail "RDIV: a top"); k_whole); intro D9 t9 u9 c9 h9 tk9 F9 N9 l9; (have l8 := l9); (try k_lt l8); (try dsimp only); (try k_fold)))
local macro_rules | `(tactic| walk_at "call ref") => `(tactic| (k_here; (with_reducible show wpAny _ _ (PySem.call (Value.ref 78) _ _) _ _ _); k_dflt (refine' rneg_use ?k1 ?k2 ?k3 ?k4 ?k5 ?kK ?kd ?ku ?kt ?_; walk_at "ASK"; (case kt => walk_at "TUP"); k_whole); intro D9 t9 u9 c9 h9 tk9 F9 N9 l9; (have l8 := l9); (try k_lt l8); (try dsimp only); (try k_fold)))
local macro_rules | `(tactic| walk_at "call ref") => `(tactic| (k_here; (with_reducible show wpAny _ _ (PySem.call (Value.ref 85) _ _) _ _ _); k_dflt (refine' binT_use ?k1 ?k2 ?k3 ?k4 ?k5 ?kK ?kd ?ku ?kn ?_; walk_at "ASK"; (case kn => first | assumption | omega | fail "BIN: n"); k_whole); intro D9 v9 c9 h9 tk9 i9 F9 N9 l9; (have l8 := l9); (try k_lt l8); (try dsimp only); (try k_fold)))
local macro_rules | `(tactic| walk_at "subscriptTail") => `(tactic| (k_here; (with_reducible show wpAny _ _ (subscriptTail _ _ (Value.ref _) (Value.int _ _)) _ _ _); k_dflt (refine' subL ?k1 ?k2 ?k3 ?k4 ?k5 ?k6 ?_ ?k7; (case k2 => k_asm); (case k1 => k_mem); (case k3 => assumption); (case k4 => first | assumption | omega); (case k5 => omega); (case k6 => assumption); (case k7 => with_unfolding_all rfl); k_whole); intro a9 t9; (try dsimp only)))
local macro_rules | `(tactic| walk_at "call ref") => `(tactic| (k_here; (with_reducible show wpAny _ _ (PySem.call (Value.ref 92) _ _) _ _ _); k_dflt (refine' bern_use ?k1 ?k2 ?k3 ?k4 ?k5 ?kK ?kd ?ku ?kn ?_; walk_at "ASK"; (case kn => first | assumption | omega | fail "BERN: n"); k_whole); intro D9 v9 c9 tl9 h9 tk9 i9 F9 N9; (try simp only [List.cons_append, List.append_assoc] at N9); (try simp only [List.cons_append, List.append_assoc] at i9); (try dsimp only); (try k_fold)))
local macro_rules | `(tactic| walk_at "INS") => `(tactic| ((try simp only [List.nil_append, List.append_nil] at *); simp only [List.mem_append, List.mem_cons, List.not_mem_nil, or_false, false_or, List.cons_append] at *; first | assumption | grind))
local macro_rules | `(tactic| walk_at "SUBS") => `(tactic| (intro p hp; simp only [List.mem_append, List.mem_cons, List.not_mem_nil, or_false, false_or, List.cons_append, List.nil_append, List.append_nil] at hp ⊢; first | assumption | grind))
-- a range as it stands, never value by value
local macro_rules | `(tactic| walk_at "call type:range") => `(tactic| (k_here; (rename Fr _ _ _ _ => fR'); (rename News _ _ _ _ => nR'); (with_unfolding_all first | refine range1_rows fR' nR' ?_ | refine range2_rows fR' nR' ?_); intro _ _ _ _ _ _ _ _ _))
section
variable {w : World} {mean : ExcName → Option Value} {mg mb : Str → Option Value} {dp un : Nat} {gd : Option (List Code)} {cn : Str} {cs : Scope} {a : Addr} {ccd : Value} {cl : List (Str × Addr)} {outer : List Env} {A₀ : Around} {base h₀ : Heap} {L : Addr} {m : Str → Option Value} {s : Shared} {Q E : Value → Shared → Prop} {news : List (Addr × Obj)}
theorem mod_in {x n : Int} (h : 0 < n) : 0 ≤ x.fmod n ∧ x.fmod n < n := by
  rw [Int.fmod_eq_emod_of_nonneg _ (Int.le_of_lt h)]
  exact ⟨Int.emod_nonneg _ (by omega), Int.emod_lt_of_pos _ h⟩
theorem draw_use {many spot : Int} {ts tm : Tok} {pl dl : Addr} {c cd : Nat} {ys : List Value} {ns : List Int} {rest : List (Addr × Obj)} (B : Below A₀ base outer h₀) (F : Fr h₀ L s.heap m) (X : (hd.heap_39 w.params).In h₀) (N : News h₀ L s.heap news) (T : Top hd.view_39 (looseW hd.view_39 []) mean mg mb h₀) (hk : cs.kind = .function) (hdp : dp + 1 < recursionLimit) (hu : un + 8 < cLine)
    (hsub : ∀ p ∈ (pl, listOf #[.ref dl, .int spot ts] c) :: rest, p ∈ news) (hoff : ∀ p ∈ rest, p.1 ≠ pl) (hdl : (dl, listOf ys.toArray cd) ∈ rest) (hI : IntsAre ys ns) (hlen : ns.length ≤ 4) (hmany : 0 < many ∧ many < 10) (hspot : 0 ≤ spot ∧ spot < 3)
    (hret : ∀ (v : Int) (t t' : Tok) (c' : Nat) (h' : Heap) (tk' : Nat), 0 ≤ v → v < many → Fr h₀ L h' m → News h₀ L h' ((pl, listOf #[.ref dl, .int (spot + 1) t'] c') :: rest) → Q (.int v t) { s with heap := h', toks := tk' }) : wpAny (model PySem.Challenge.rw_sa0076_01.row.prog w) (ktrTop dp un gd cn cs L a ccd cl outer) (call (.ref 113) [.ref pl, .int many tm]) Q E s := by
  revert X; k_fill; intro X; w_top off
  have N2 : News h₀ L s.heap ((pl, listOf #[.ref dl, .int spot ts] c) :: (dl, listOf ys.toArray cd) :: rest) := fun p hp => by
    rcases List.mem_cons.mp hp with rfl | hp
    · exact N _ (hsub _ (List.Mem.head _))
    · rcases List.mem_cons.mp hp with rfl | hp
      · exact N _ (hsub _ (List.Mem.tail _ hdl))
      · exact N p (hsub _ (List.Mem.tail _ hp))
  clear N
  have hne : dl ≠ pl := hoff _ hdl
  have ho : OwnOff rest [pl] := fun p hp b hb => by rw [List.mem_singleton.mp hb]; exact hoff p hp
  have kMark' := kdMark
  have hml := hI.length
  obtain ⟨hm0, hm1⟩ := hmany
  obtain ⟨hs0, hs1⟩ := hspot
  refine wpAny_call ?_
  k_dflt cell_enter
  k_steps
  all_goals (rename News h₀ L _ _ => NE; refine hret _ _ _ _ _ _ (mod_in hm0).1 (mod_in hm0).2 (by k_asm) (cb_drop NE (List.forall_mem_cons.mpr ⟨List.Mem.head _, fun p hp => List.Mem.tail _ (List.Mem.tail _ hp)⟩)))
end
end Mine
-- part S8a
set_option maxHeartbeats 1000000
namespace Mine
-- the branch that the facts decide
local macro_rules | `(tactic| walk_at "ite") => `(tactic| (k_here; k_openite; first | (refine ite_neg (by (simp only [decide_eq_true_eq, beq_iff_eq, bne_iff_ne, ne_eq, gt_iff_lt, ge_iff_le]; omega)) ?_) | (refine ite_pos (by (simp only [decide_eq_true_eq, beq_iff_eq, bne_iff_ne, ne_eq, gt_iff_lt, ge_iff_le]; omega)) ?_)))
-- a tuple's items
local macro_rules | `(tactic| walk_at "subscriptTail") => `(tactic| (k_here; (with_reducible show wpAny _ _ (subscriptTail _ _ (Value.ref _) (Value.int 1 _)) _ _ _); k_dflt (refine' sub1 ?kT ?kX ?kF ?kN ?kS ?_ ?kB; (case kT => assumption); (case kF => k_asm); (case kX => k_asm); (case kN => k_asm); (case kS => kcj_all); (case kB => with_unfolding_all rfl); k_whole); intro t9; (try dsimp only)))
local macro_rules | `(tactic| walk_at "subscriptTail") => `(tactic| (k_here; (with_reducible show wpAny _ _ (subscriptTail _ _ (Value.ref _) (Value.int 0 _)) _ _ _); k_dflt (refine' sub0 ?kT ?kX ?kF ?kN ?kS ?_ ?kB; (case kT => assumption); (case kF => k_asm); (case kX => k_asm); (case kN => k_asm); (case kS => kcj_all); (case kB => with_unfolding_all rfl); k_whole); intro t9; (try dsimp only)))
-- the calls' common premises
local macro_rules | `(tactic| walk_at "ASK") => `(tactic| ((case k1 => k_asm); (case k2 => k_asm); (case k3 => k_asm); (case k4 => k_asm); (case k5 => k_asm); (case kK => first | exact rfl | assumption); (case kd => ktr_room); (case ku => ktr_units)))
local macro_rules | `(tactic| walk_at "TUP") => `(tactic| first | assumption | exact tupA_R0 _ _ | exact tupA_R1 _ _ | exact tupA_new (by k_mem) | (refine' TupA.mono (by assumption) ?kS; (case kS => kcj_all)))
local macro_rules | `(tactic| walk_at "call ref") => `(tactic| (k_here; (with_reducible show wpAny _ _ (PySem.call (Value.ref 41) _ _) _ _ _); k_dflt (refine' gcd_use ?k1 ?k2 ?k3 ?k4 ?k5 ?kK ?kd ?ku ?_; walk_at "ASK"; k_whole); intro t9 h9 tk9 F9 N9; (try dsimp only); (try k_fold)))
-- a tuple comes back
local macro_rules | `(tactic| walk_at "BACK") => `(tactic| (refine' retT_end (by assumption) ?ex ?ey ?ef ?en ?em ?es ?el; (case ef => k_asm); (case en => k_asm); (case em => k_mem); (case es => kcj_all); (case ex => exact rfl); (case ey => exact rfl); (case el => first | assumption | fail "BACK: order")))
-- steps up to a loop
local macro_rules | `(tactic| walk_at "UPTO") => `(tactic| repeat' ((fail_if_success (with_reducible show wpAny _ _ (pyIter (Value.ref _)) (fun it s₂ => LoopAtV _ _ _ _ _ _ _ _ _ it s₂) _ _)); first | (k_unfold; (try dsimp only)) | (k_end; wrow_close) | walk1 | (dsimp only; walk1) | (leave1; try dsimp only) | fail "no step"))
local macro_rules | `(tactic| walk_at "SUB") => `(tactic| first | kcj_all | kd_subs | ktd_sub)
local macro_rules | `(tactic| walk_at "TUP") => `(tactic| first | assumption | exact tupA_R0 _ _ | exact tupA_R1 _ _ | exact tupA_new (by k_mem) | (refine' TupA.mono (by assumption) ?kS; (case kS => walk_at "SUB")))
local macro_rules | `(tactic| walk_at "call ref") => `(tactic| (k_here; (with_reducible show wpAny _ _ (PySem.call (Value.ref 50) _ _) _ _ _); k_dflt (refine' rat_use ?k1 ?k2 ?k3 ?k4 ?k5 ?kK ?kd ?ku ?ky ?_; walk_at "ASK"; (case ky => first | assumption | omega | fail "RAT: the bottom"); k_whole); intro D9 t9 u9 c9 h9 tk9 F9 N9 l9; (have l8 := l9); (try k_lt l8); (try dsimp only); (try k_fold)))
local macro_rules | `(tactic| walk_at "call ref") => `(tactic| (k_here; (with_reducible show wpAny _ _ (PySem.call (Value.ref 57) _ _) _ _ _); k_dflt (refine' radd_use ?k1 ?k2 ?k3 ?k4 ?k5 ?kK ?kd ?ku ?kt ?kT ?ky ?kY ?_; walk_at "ASK"; (case kt => walk_at "TUP"); (case kT => walk_at "TUP"); (case ky => first | assumption | omega | fail "RADD: a bottom"); (case kY => first | assumption | omega | fail "RADD: a bottom"); k_whole); intro D9 t9 u9 c9 h9 tk9 F9 N9 l9; (have l8 := l9); (try k_lt l8); (try dsimp only); (try k_fold)))
local macro_rules | `(tactic| walk_at "call ref") => `(tactic| (k_here; (with_reducible show wpAny _ _ (PySem.call (Value.ref 64) _ _) _ _ _); k_dflt (refine' rmul_use ?k1 ?k2 ?k3 ?k4 ?k5 ?kK ?kd ?ku ?kt ?kT ?ky ?kY ?kX ?_; walk_at "ASK"; (case kt => walk_at "TUP"); (case kT => walk_at "TUP"); (case ky => first | assumption | omega | fail "RMUL: a bottom"); (case kY => first | assumption | omega | fail "RMUL: a bottom"); (case kX => first | assumption | omega | fail "RMUL: a top"); k_whole); intro D9 t9 u9 c9 h9 tk9 F9 N9 l9; (have l8 := l9); (try k_lt l8); (try dsimp only); (try k_fold)))
local macro_rules | `(tactic| walk_at "call ref") => `(tactic| (k_here; (with_reducible show wpAny _ _ (PySem.call (Value.ref 71) _ _) _ _ _); k_dflt (refine' rdiv_use ?k1 ?k2 ?k3 ?k4 ?k5 ?kK ?kd ?ku ?kt ?kT ?ky ?kX ?kY ?_; walk_at "ASK"; (case kt => walk_at "TUP"); (case kT => walk_at "TUP"); (case ky => first | assumption | omega | fail "RDIV: a bottom"); (case kY => first | assumption | omega | fail "RDIV: a bottom"); (case kX => first | assumption | omega | fail "RDIV: a top"); k_whole); intro D9 t9 u9 c9 h9 tk9 F9 N9 l9; (have l8 := l9); (try k_lt l8); (try dsimp only); (try k_fold)))
local macro_rules | `(tactic| walk_at "call ref") => `(tactic| (k_here; (with_reducible show wpAny _ _ (PySem.call (Value.ref 78) _ _) _ _ _); k_dflt (refine' rneg_use ?k1 ?k2 ?k3 ?k4 ?k5 ?kK ?kd ?ku ?kt ?_; walk_at "ASK"; (case kt => walk_at "TUP"); k_whole); intro D9 t9 u9 c9 h9 tk9 F9 N9 l9; (have l8 := l9); (try k_lt l8); (try dsimp only); (try k_fold)))
local macro_rules | `(tactic| walk_at "call ref") => `(tactic| (k_here; (with_reducible show wpAny _ _ (PySem.call (Value.ref 85) _ _) _ _ _); k_dflt (refine' binT_use ?k1 ?k2 ?k3 ?k4 ?k5 ?kK ?kd ?ku ?kn ?_; walk_at "ASK"; (case kn => first | assumption | omega | fail "BIN: n"); k_whole); intro D9 v9 c9 h9 tk9 i9 F9 N9 l9; (have l8 := l9); (try k_lt l8); (try dsimp only); (try k_fold)))
local macro_rules | `(tactic| walk_at "subscriptTail") => `(tactic| (k_here; (with_reducible show wpAny _ _ (subscriptTail _ _ (Value.ref _) (Value.int _ _)) _ _ _); k_dflt (refine' subL ?k1 ?k2 ?k3 ?k4 ?k5 ?k6 ?_ ?k7; (case k2 => k_asm); (case k1 => k_mem); (case k3 => assumption); (case k4 => first | assumption | omega); (case k5 => omega); (case k6 => assumption); (case k7 => with_unfolding_all rfl); k_whole); intro a9 t9; (try dsimp only)))
local macro_rules | `(tactic| walk_at "call ref") => `(tactic| (k_here; (with_reducible show wpAny _ _ (PySem.call (Value.ref 92) _ _) _ _ _); k_dflt (refine' bern_use ?k1 ?k2 ?k3 ?k4 ?k5 ?kK ?kd ?ku ?kn ?_; walk_at "ASK"; (case kn => first | assumption | omega | fail "BERN: n"); k_whole); intro D9 v9 c9 tl9 h9 tk9 i9 F9 N9; (try simp only [List.cons_append, List.append_assoc] at N9); (try simp only [List.cons_append, List.append_assoc] at i9); (try dsimp only); (try k_fold)))
local macro_rules | `(tactic| walk_at "INS") => `(tactic| ((try simp only [List.nil_append, List.append_nil] at *); simp only [List.mem_append, List.mem_cons, List.not_mem_nil, or_false, false_or, List.cons_append] at *; first | assumption | grind))
local macro_rules | `(tactic| walk_at "SUBS") => `(tactic| (intro p hp; simp only [List.mem_append, List.mem_cons, List.not_mem_nil, or_false, false_or, List.cons_append, List.nil_append, List.append_nil] at hp ⊢; first | assumption | grind))
-- a range as it stands, never value by value
local macro_rules | `(tactic| walk_at "call type:range") => `(tactic| (k_here; (rename Fr _ _ _ _ => fR'); (rename News _ _ _ _ => nR'); (with_unfolding_all first | refine range1_rows fR' nR' ?_ | refine range2_rows fR' nR' ?_); intro _ _ _ _ _ _ _ _ _))
-- a def with captured names
local macro_rules | `(tactic| walk_at "ENTERC") => `(tactic| (refine' code_defC ?k1 ?k2 ?k3 ?k4 ?k5 ?kA ?kF ?kK ?k6 ?k7 ?k8 ?k9 ?kB ?kD ?_ ?c2 ?c3 ?c4; (case kA => exact rfl); (case kF => exact rfl); (case kK => assumption); (case k1 => k_asm); (case k2 => k_asm); (case k3 => k_asm); (case k4 => k_asm); (case k5 => k_asm); (case k6 => k_is); (case k7 => k_is); (case k8 => ktr_room); (case k9 => exact BindsTo.of_eq rfl); (case kB => exact rfl); (case kD => decide +kernel); (case c2 => exact rfl); (case c3 => exact rfl); (case c4 => exact rfl); k_whole; intro g' L' h' tk' cells' FG' F' N' Y' B' X' T' l1; (try k_lt l1); k_cells Y'; (try simp only [List.cons_append, List.nil_append] at N'); (try dsimp only); (try k_lift B'); (try k_fold)))
abbrev tupV (vs : List Value) (n : Nat) : Obj := { cls := .type "tuple", data := .seq vs.toArray n }
section
open LCg LCt PySem.Spec
variable {prog : Program} {w : World} {A : Around} {E : Value → Shared → Prop} {s : Shared} {env : Env} {h₀ : Heap} {L : Addr} {m : Str → Option Value}
theorem comp_tup {ct elt iter : Expr} {x y : Str} {px py : Pos} {scope : Scope} {cl : List (Str × Addr)} {pos spos : Pos} {Q : Flow → Shared → Prop} (hFq : Fr h₀ L s.heap m) (hLe : env.locals = L)
    (hsw : swapsWith (.ListComp elt [⟨.Name x px, iter, [ct], 0⟩] scope pos) (some (.Name y py)) spos.line env = pure true)
    (hclos : closureFor scope env = pure cl) (hcell : ∀ z ∈ scope.names, z.2 ≠ .cell) (hkind : scope.kind = .function)
    (hnames : ∀ z ∈ scope.names, z.2 = .local → scope.names.lookup z.1 = some .local) (hx : scope.names.lookup x = some .local)
    (hy : env.kindOf y = some .local) (hp : (env.scope.kind == .class || (env.scope.kind == .module && env.locals != env.globals)) = false)
    (h : wpAny (model prog w) A (eval iter env) (fun xv s₁ => ∃ (t : Addr) (vs : List Value) (n : Nat) (news : List (Addr × Obj)), xv = .ref t ∧ A.handled = none ∧ Fr h₀ L s₁.heap m ∧ News h₀ L s₁.heap news ∧ (t, tupV vs n) ∈ news ∧ vs.toArray.size ≤ sizeLine ∧
      ∀ g : Heap, CompRestT prog w A h₀ L m env ct elt x scope cl { s₁ with heap := g } (fun nw => (t, tupV vs n) ∈ nw) (fun i v => vs.toArray[i]? = some v) (FinA h₀ L m { s₁ with heap := g } y Q) vs.toArray.size 0 [] news) E s)
    (hs : ∀ x, foldedSetIterable iter env x = pure x := by intro _; rfl) :
    wpAny (model prog w) A (exec (.Assign [.Name y py] (.ListComp elt [⟨.Name x px, iter, [ct], 0⟩] scope pos) spos) env) Q E s := by
  subst hLe
  rw [exec_Assign_Name_used _ _ _ _ hsw]
  refine wpAny_bind (wpAny_standAt (wpAny_bind ?_))
  show wpAny _ A (do let _ ← comprehension (.ListComp elt [⟨.Name x px, iter, [ct], 0⟩] scope pos) scope env _ (newList []) false (eval iter env) (some (assign (.Name y py) env))) _ _ s
  refine wpAny_bind (wpAny_mono (wpAny_comprehension_free (use := some (assign (.Name y py) env)) (Q := fun _ s' => Q .next s') rfl hs hclos hkind hnames
    (wpAny_mono h (fun xv s₁ h₁ => ?_) fun _ _ e => e)) (fun _ s' hq => wpAny_pure (wpAny_pure hq)) fun _ _ e => e)
  obtain ⟨t, vs, n, news, rfl, hh, F, N, hm, hsz, R⟩ := h₁
  have hl : s₁.heap.IsTuple t vs.toArray := ⟨_, (N _ hm).1, rfl, n, rfl⟩
  have hlt : t < s₁.heap.objs.size := Heap.lt_size (N _ hm).1
  refine wpAny_pyIter_tuple hl ?_
  have up : ∀ b o, s₁.heap.get? b = some o → (s₁.heap.push { cls := .type "tuple_iterator", data := .fields #[.ref t, .int 0 0] }).get? b = some o := fun b o e => Heap.get?_push_of_some _ e
  refine block_T (Walks.tuple hh s₁.heap.objs.size t (Nat.ne_of_lt hlt) vs.toArray) hsz (fun i h st => by obtain ⟨o, e, _⟩ := st.1; exact ⟨o, e⟩) ?_ hcell hkind hx ⟨⟨_, Heap.get?_push_size _ rfl, rfl, rfl⟩, hl.at fun o e => up t o e⟩ (fun b hb => ?_)
    (F.keeps up) (N.grown up) (Nat.ne_of_lt F.ns.lt) (next_is_new F) (fun p hp => Nat.ne_of_lt (Heap.lt_size (N p hp).1)) hm (R _) ?_
  · rintro i h h' o nw ⟨⟨o', q, r⟩, -⟩ e e' _ N' hm'
    rw [e] at q; cases q
    exact ⟨⟨o, e', r⟩, ⟨_, (N' _ hm').1, rfl, n, rfl⟩⟩
  · show b < (s₁.heap.push _).objs.size
    rw [Heap.size_push]
    rcases List.mem_cons.mp hb with rfl | hb
    · exact Nat.lt_succ_self _
    · rw [List.mem_singleton.mp hb]; exact Nat.lt_succ_of_lt hlt
  · intro D C h' tk m' ys news' F' N' o1 hn hC₀ hD₀ hCL hDL hCD offC fin
    show wpAny _ A (assign (.Name y py) env (.ref D)) _ _ _
    refine wpAny_assign_Name (wpAny_storeName_local hy F'.ns (fun h₂ hn₂ hs₂ => ?_) hp)
    have hL₀ : h₀.get? env.locals = none := Heap.get?_none_of_le F'.above
    have F₂ : Fr h₀ env.locals h₂ (fun z => if z = y then some (.ref D) else m z) := ⟨hn₂, fun b o e => hs₂.extBut b o (fun q => by rw [q, hL₀] at e; cases e) (F'.keep b o e), F'.above⟩
    refine ⟨m', hn.sameBut hs₂ hCL, fun h'' hs'' => fin D h'' _ (F₂.change hs'' hCL hC₀) (fun p hp => ?_) o1⟩
    have z : h₂.get? p.1 = some p.2 := hs₂.extBut _ _ (N' p hp).2.1 (N' p hp).1
    refine ⟨hs''.extBut _ _ ?_ z, (N' p hp).2⟩
    rcases List.mem_cons.mp hp with rfl | hp
    · exact Ne.symm hCD
    · exact offC p hp
end
end Mine
-- part S8
set_option maxHeartbeats 1000000
namespace Mine
-- the branch that the facts decide
local macro_rules | `(tactic| walk_at "ite") => `(tactic| (k_here; k_openite; first | (refine ite_neg (by (simp only [decide_eq_true_eq, beq_iff_eq, bne_iff_ne, ne_eq, gt_iff_lt, ge_iff_le]; omega)) ?_) | (refine ite_pos (by (simp only [decide_eq_true_eq, beq_iff_eq, bne_iff_ne, ne_eq, gt_iff_lt, ge_iff_le]; omega)) ?_)))
-- a tuple's items
local macro_rules | `(tactic| walk_at "subscriptTail") => `(tactic| (k_here; (with_reducible show wpAny _ _ (subscriptTail _ _ (Value.ref _) (Value.int 1 _)) _ _ _); k_dflt (refine' sub1 ?kT ?kX ?kF ?kN ?kS ?_ ?kB; (case kT => assumption); (case kF => k_asm); (case kX => k_asm); (case kN => k_asm); (case kS => kcj_all); (case kB => with_unfolding_all rfl); k_whole); intro t9; (try dsimp only)))
local macro_rules | `(tactic| walk_at "subscriptTail") => `(tactic| (k_here; (with_reducible show wpAny _ _ (subscriptTail _ _ (Value.ref _) (Value.int 0 _)) _ _ _); k_dflt (refine' sub0 ?kT ?kX ?kF ?kN ?kS ?_ ?kB; (case kT => assumption); (case kF => k_asm); (case kX => k_asm); (case kN => k_asm); (case kS => kcj_all); (case kB => with_unfolding_all rfl); k_whole); intro t9; (try dsimp only)))
-- the calls' common premises
local macro_rules | `(tactic| walk_at "ASK") => `(tactic| ((case k1 => k_asm); (case k2 => k_asm); (case k3 => k_asm); (case k4 => k_asm); (case k5 => k_asm); (case kK => first | exact rfl | assumption); (case kd => ktr_room); (case ku => ktr_units)))
local macro_rules | `(tactic| walk_at "TUP") => `(tactic| first | assumption | exact tupA_R0 _ _ | exact tupA_R1 _ _ | exact tupA_new (by k_mem) | (refine' TupA.mono (by assumption) ?kS; (case kS => kcj_all)))
local macro_rules | `(tactic| walk_at "call ref") => `(tactic| (k_here; (with_reducible show wpAny _ _ (PySem.call (Value.ref 41) _ _) _ _ _); k_dflt (refine' gcd_use ?k1 ?k2 ?k3 ?k4 ?k5 ?kK ?kd ?ku ?_; walk_at "ASK"; k_whole); intro t9 h9 tk9 F9 N9; (try dsimp only); (try k_fold)))
-- a tuple comes back
local macro_rules | `(tactic| walk_at "BACK") => `(tactic| (refine' retT_end (by assumption) ?ex ?ey ?ef ?en ?em ?es ?el; (case ef => k_asm); (case en => k_asm); (case em => k_mem); (case es => kcj_all); (case ex => exact rfl); (case ey => exact rfl); (case el => first | assumption | fail "BACK: order")))
-- steps up to a loop
local macro_rules | `(tactic| walk_at "UPTO") => `(tactic| repeat' ((fail_if_success (with_reducible show wpAny _ _ (pyIter (Value.ref _)) (fun it s₂ => LoopAtV _ _ _ _ _ _ _ _ _ it s₂) _ _)); first | (k_unfold; (try dsimp only)) | (k_end; wrow_close) | walk1 | (dsimp only; walk1) | (leave1; try dsimp only) | fail "no step"))
local macro_rules | `(tactic| walk_at "SUB") => `(tactic| first | kcj_all | kd_subs | ktd_sub)
local macro_rules | `(tactic| walk_at "TUP") => `(tactic| first | assumption | exact tupA_R0 _ _ | exact tupA_R1 _ _ | exact tupA_new (by k_mem) | (refine' TupA.mono (by assumption) ?kS; (case kS => walk_at "SUB")))
local macro_rules | `(tactic| walk_at "call ref") => `(tactic| (k_here; (with_reducible show wpAny _ _ (PySem.call (Value.ref 50) _ _) _ _ _); k_dflt (refine' rat_use ?k1 ?k2 ?k3 ?k4 ?k5 ?kK ?kd ?ku ?ky ?_; walk_at "ASK"; (case ky => first | assumption | omega | fail "RAT: the bottom"); k_whole); intro D9 t9 u9 c9 h9 tk9 F9 N9 l9; (have l8 := l9); (try k_lt l8); (try dsimp only); (try k_fold)))
local macro_rules | `(tactic| walk_at "call ref") => `(tactic| (k_here; (with_reducible show wpAny _ _ (PySem.call (Value.ref 57) _ _) _ _ _); k_dflt (refine' radd_use ?k1 ?k2 ?k3 ?k4 ?k5 ?kK ?kd ?ku ?kt ?kT ?ky ?kY ?_; walk_at "ASK"; (case kt => walk_at "TUP"); (case kT => walk_at "TUP"); (case ky => first | assumption | omega | fail "RADD: a bottom"); (case kY => first | assumption | omega | fail "RADD: a bottom"); k_whole); intro D9 t9 u9 c9 h9 tk9 F9 N9 l9; (have l8 := l9); (try k_lt l8); (try dsimp only); (try k_fold)))
local macro_rules | `(tactic| walk_at "call ref") => `(tactic| (k_here; (with_reducible show wpAny _ _ (PySem.call (Value.ref 64) _ _) _ _ _); k_dflt (refine' rmul_use ?k1 ?k2 ?k3 ?k4 ?k5 ?kK ?kd ?ku ?kt ?kT ?ky ?kY ?kX ?_; walk_at "ASK"; (case kt => walk_at "TUP"); (case kT => walk_at "TUP"); (case ky => first | assumption | omega | fail "RMUL: a bottom"); (case kY => first | assumption | omega | fail "RMUL: a bottom"); (case kX => first | assumption | omega | fail "RMUL: a top"); k_whole); intro D9 t9 u9 c9 h9 tk9 F9 N9 l9; (have l8 := l9); (try k_lt l8); (try dsimp only); (try k_fold)))
local macro_rules | `(tactic| walk_at "call ref") => `(tactic| (k_here; (with_reducible show wpAny _ _ (PySem.call (Value.ref 71) _ _) _ _ _); k_dflt (refine' rdiv_use ?k1 ?k2 ?k3 ?k4 ?k5 ?kK ?kd ?ku ?kt ?kT ?ky ?kX ?kY ?_; walk_at "ASK"; (case kt => walk_at "TUP"); (case kT => walk_at "TUP"); (case ky => first | assumption | omega | fail "RDIV: a bottom"); (case kY => first | assumption | omega | fail "RDIV: a bottom"); (case kX => first | assumption | omega | fail "RDIV: a top"); k_whole); intro D9 t9 u9 c9 h9 tk9 F9 N9 l9; (have l8 := l9); (try k_lt l8); (try dsimp only); (try k_fold)))
local macro_rules | `(tactic| walk_at "call ref") => `(tactic| (k_here; (with_reducible show wpAny _ _ (PySem.call (Value.ref 78) _ _) _ _ _); k_dflt (refine' rneg_use ?k1 ?k2 ?k3 ?k4 ?k5 ?kK ?kd ?ku ?kt ?_; walk_at "ASK"; (case kt => walk_at "TUP"); k_whole); intro D9 t9 u9 c9 h9 tk9 F9 N9 l9; (have l8 := l9); (try k_lt l8); (try dsimp only); (try k_fold)))
local macro_rules | `(tactic| walk_at "call ref") => `(tactic| (k_here; (with_reducible show wpAny _ _ (PySem.call (Value.ref 85) _ _) _ _ _); k_dflt (refine' binT_use ?k1 ?k2 ?k3 ?k4 ?k5 ?kK ?kd ?ku ?kn ?_; walk_at "ASK"; (case kn => first | assumption | omega | fail "BIN: n"); k_whole); intro D9 v9 c9 h9 tk9 i9 F9 N9 l9; (have l8 := l9); (try k_lt l8); (try dsimp only); (try k_fold)))
local macro_rules | `(tactic| walk_at "subscriptTail") => `(tactic| (k_here; (with_reducible show wpAny _ _ (subscriptTail _ _ (Value.ref _) (Value.int _ _)) _ _ _); k_dflt (refine' subL ?k1 ?k2 ?k3 ?k4 ?k5 ?k6 ?_ ?k7; (case k2 => k_asm); (case k1 => k_mem); (case k3 => assumption); (case k4 => first | assumption | omega); (case k5 => omega); (case k6 => assumption); (case k7 => with_unfolding_all rfl); k_whole); intro a9 t9; (try dsimp only)))
local macro_rules | `(tactic| walk_at "call ref") => `(tactic| (k_here; (with_reducible show wpAny _ _ (PySem.call (Value.ref 92) _ _) _ _ _); k_dflt (refine' bern_use ?k1 ?k2 ?k3 ?k4 ?k5 ?kK ?kd ?ku ?kn ?_; walk_at "ASK"; (case kn => first | assumption | omega | fail "BERN: n"); k_whole); intro D9 v9 c9 tl9 h9 tk9 i9 F9 N9; (try simp only [List.cons_append, List.append_assoc] at N9); (try simp only [List.cons_append, List.append_assoc] at i9); (try dsimp only); (try k_fold)))
local macro_rules | `(tactic| walk_at "INS") => `(tactic| ((try simp only [List.nil_append, List.append_nil] at *); simp only [List.mem_append, List.mem_cons, List.not_mem_nil, or_false, false_or, List.cons_append] at *; first | assumption | grind))
local macro_rules | `(tactic| walk_at "SUBS") => `(tactic| (intro p hp; simp only [List.mem_append, List.mem_cons, List.not_mem_nil, or_false, false_or, List.cons_append, List.nil_append, List.append_nil] at hp ⊢; first | assumption | grind))
-- a range as it stands, never value by value
local macro_rules | `(tactic| walk_at "call type:range") => `(tactic| (k_here; (rename Fr _ _ _ _ => fR'); (rename News _ _ _ _ => nR'); (with_unfolding_all first | refine range1_rows fR' nR' ?_ | refine range2_rows fR' nR' ?_); intro _ _ _ _ _ _ _ _ _))
-- a def with captured names
local macro_rules | `(tactic| walk_at "ENTERC") => `(tactic| (refine' code_defC ?k1 ?k2 ?k3 ?k4 ?k5 ?kA ?kF ?kK ?k6 ?k7 ?k8 ?k9 ?kB ?kD ?_ ?c2 ?c3 ?c4; (case kA => exact rfl); (case kF => exact rfl); (case kK => assumption); (case k1 => k_asm); (case k2 => k_asm); (case k3 => k_asm); (case k4 => k_asm); (case k5 => k_asm); (case k6 => k_is); (case k7 => k_is); (case k8 => ktr_room); (case k9 => exact BindsTo.of_eq rfl); (case kB => exact rfl); (case kD => decide +kernel); (case c2 => exact rfl); (case c3 => exact rfl); (case c4 => exact rfl); k_whole; intro g' L' h' tk' cells' FG' F' N' Y' B' X' T' l1; (try k_lt l1); k_cells Y'; (try simp only [List.cons_append, List.nil_append] at N'); (try dsimp only); (try k_lift B'); (try k_fold)))
section
variable {w : World} {mean : ExcName → Option Value} {mg mb : Str → Option Value} {dp un : Nat} {gd : Option (List Code)} {cn : Str} {cs : Scope} {a : Addr} {ccd : Value} {cl : List (Str × Addr)} {outer : List Env} {A₀ : Around} {base h₀ : Heap} {L : Addr} {m : Str → Option Value} {s : Shared} {Q E : Value → Shared → Prop} {news : List (Addr × Obj)}
def claG (place : Int) (l : List Int) (k : Int) : List Int := if place.fmod (k - 1) = 0 then l ++ [k] else l
theorem claG_yes {place k : Int} {l : List Int} (h : place.fmod (k - 1) = 0) : claG place l k = l ++ [k] := if_pos h
theorem claG_no {place k : Int} {l : List Int} (h : ¬ place.fmod (k - 1) = 0) : claG place l k = l := if_neg h
def claL (place : Int) : List Int := [2, 3, 5, 7, 11, 13].foldl (claG place) []
theorem claL_in (place : Int) : ∀ k ∈ claL place, 2 ≤ k ∧ k ≤ 13 := by
  have key : ∀ (ks : List Int) (l : List Int), (∀ k ∈ ks, 2 ≤ k ∧ k ≤ 13) → (∀ k ∈ l, 2 ≤ k ∧ k ≤ 13) → ∀ k ∈ ks.foldl (claG place) l, 2 ≤ k ∧ k ≤ 13 := by
    intro ks
    induction ks with
    | nil => intro l _ hl; exact hl
    | cons a r ih =>
      intro l hk hl
      refine ih _ (fun k h => hk k (.tail _ h)) ?_
      intro k h
      unfold claG at h
      split at h
      · rcases List.mem_append.mp h with h | h
        · exact hl k h
        · rw [List.mem_singleton.mp h]; exact hk a (.head _)
      · exact hl k h
  exact key _ _ (by decide) (by intro k h; cases h)
theorem cla_map (place x : Int) : (claL place).map (fun k' => if 2 ≤ k' ∧ k' ≤ 13 then x.fdiv k' else k') = (claL place).map (fun p => x.fdiv p) :=
  List.map_congr_left fun k hk => if_pos (claL_in place k hk)
local macro_rules | `(tactic| walk_at "binaryOp FloorDiv int int") => `(tactic| (k_here; (have hkq := claL_in _ _ (by assumption)); (obtain ⟨hkq1, hkq2⟩ := hkq); (with_reducible refine floordiv_int (by omega) ?_ (Or.inl (PyProof.noPylong_small (by omega))))))
local macro_rules | `(tactic| walk_at "TOTUP") => `(tactic| repeat' ((with_reducible show wpAny _ _ _ _ _ _); first | walk1 | (dsimp only; walk1)))
theorem cla_use {place x y : Int} {tp : Tok} {an : Addr} (B : Below A₀ base outer h₀) (F : Fr h₀ L s.heap m) (X : (hd.heap_39 w.params).In h₀) (N : News h₀ L s.heap news) (T : Top hd.view_39 (looseW hd.view_39 []) mean mg mb h₀) (hk : cs.kind = .function) (hdp : dp + 1 < recursionLimit) (hu : un + 8 < cLine)
    (hA : TupA (hd.heap_39 w.params) news an x y) (hc1 : y = (claL place).foldl (· * ·) 1) (hc2 : 0 < y ∧ y < 32768) (hc3 : (x + ((claL place).map (fun p => y.fdiv p)).sum).fmod y = 0)
    (hret : RetB h₀ L m news s Q true) : wpAny (model PySem.Challenge.rw_sa0076_01.row.prog w) (ktrTop dp un gd cn cs L a ccd cl outer) (call (.ref 118) [.ref an, .int place tp]) Q E s := by
  revert X; k_fill; intro X; w_top off
  refine wpAny_call ?_
  k_dflt walk_at "ENTERC"
  rename ∀ p ∈ news, p.1 < _ => lLow
  have lLow1 := fun p hp => Nat.lt_succ_of_lt (lLow p hp)
  have lLow2 := fun p hp => Nat.lt_succ_of_lt (lLow1 p hp)
  have kMark' := kdMark
  walk1
  rename Fr _ _ _ _ => lF
  k_dflt refine comp_tup lF rfl (by with_unfolding_all rfl) (by with_unfolding_all rfl) (by decide) (by rfl) (by decide) (by rfl) (by rfl) (by rfl) ?_
  walk_at "TOTUP"
  rename Fr _ _ _ _ => lF2
  rename News _ _ _ _ => lN2
  k_dflt refine ⟨_, _, _, _, rfl, rfl, lF2, lN2, by k_mem, by exact Nat.le_of_ble_eq_true rfl, ?_⟩
  intro gg
  refine' kci_rest (ks := [2, 3, 5, 7, 11, 13]) (claG place) rfl ?hP (fun k' t' I' oI' C' oC' D' m' ys' l' h' tk' E' hk' hI' hC' hx' F' N' off' ne' hMark' => ?turn) ?fin ?hg
  case hP =>
    intro i v hi hv
    rcases i with _ | _ | _ | _ | _ | _ | i
    all_goals first
      | (simp only [List.getElem?_toArray, List.getElem?_cons_zero, List.getElem?_cons_succ, Option.some.injEq] at hv; exact ⟨_, _, rfl, hv.symm⟩)
      | (exfalso; revert hi; show ¬ _ < 6; omega)
  case hg => intro l k; unfold claG; split <;> simp
  case turn =>
    have hk2 : 2 ≤ k' ∧ k' ≤ 13 := by
      simp only [List.mem_cons, List.not_mem_nil, or_false] at hk'
      omega
    clear hk'
    (try simp only [LCg.Off3, and_true] at off')
    (try k_fold)
    k_steps
    all_goals (rename News _ _ _ _ => nE; refine' LCg.CompEnd.intro (by assumption) nE _ (fun _ hp => hp) ?_ ?_ ?_)
    all_goals first
      | (simp only [LCg.Off3, and_true]; assumption)
      | exact List.Mem.head _
      | exact kci_el (claG_yes (by simpa using ‹(_ : Int) = 0›)) rfl rfl
      | exact kci_no (claG_no (by simpa using ‹¬ (_ : Int) = 0›)) rfl
  case fin =>
    unfold KPfDone
    intro ys hI hlen
    unfold LCg.FinA
    intro D1 h1 tk1 F1 N1 o1
    (try simp only [LCg.Off1, and_true] at o1)
    (try dsimp only)
    (try k_fold)
    k_steps
    rename Fr _ _ _ _ => lF3
    with_unfolding_all refine' For_invVF lF3 ?k1 ?k2 ?_
    case k1 => exact rfl
    case k2 => exact rfl
    walk_at "UPTO"
    rename Fr _ _ _ _ => lF4
    rename News _ _ _ _ => lN4
    rename_i gq LL hq2 tkq FGq Bq Xq Tq oq1 oq2 dq1 dq2 Dt hq1 lq1 hq oq dq
    have hks : ∀ k ∈ claL place, 2 ≤ k ∧ k ≤ 13 := claL_in place
    have hylen : ys.length ≤ 6 := by simpa using hlen
    have lN5 := lN4
    refine' kd_listI (σ := Obj × Int × Tok) (nn := ys.length) (fun c => [(LL + 1 + 1, c.1)]) ((D1, LCg.lst ys) :: (Dt, tupV [Value.int 2 tkq, Value.int 3 (tkq + 1), Value.int 5 (tkq + 1 + 1), Value.int 7 (tkq + 1 + 1 + 1), Value.int 11 (tkq + 1 + 1 + 1 + 1), Value.int 13 (tkq + 1 + 1 + 1 + 1 + 1)] 0) :: (LL + 1, oq2) :: news) (fun _ => []) (fun _ c => c.1.data = .cell (some (.int c.2.1 c.2.2))) [] (fun pre c => c.2.1 = pre.foldl (· * ·) 1) ((LL + 1 + 1) :: D1 :: Dt :: (LL + 1) :: news.map (·.1)) (oq, 1, _) ?kh ?kl hI lF4 lN5 ?ki ?ka ?kf ?kk ?kp ?kt ?kd
    case kh => exact rfl
    case kl => exact List.Mem.head _
    case ki => walk_at "SUBS"
    case ka => intro c; rfl
    case kf => exact dq
    case kk => intro p hp; cases hp
    case kp => exact rfl
    case kt =>
      rintro ⟨o, x, tx⟩ tl pre post k t u h9 tk9 own hsplit hk9 hsep hoff hO hP F9 N9
      clear lF4 lN4 lN5
      have kMark := kstMark
      have o1' := hsep.one
      have o2' := hsep.two
      have o3' := hsep.three
      dsimp only [kstB] at F9
      dsimp only at N9 hO hP
      simp only [List.nil_append, List.cons_append] at N9
      have hk2 := hks k hk9
      obtain ⟨hk3, hk4⟩ := hk2
      try k_fold
      k_steps
    case kd =>
      rintro ⟨o, x', tx⟩ tl u h9 tk9 hoff hO hP F9 N9
      clear lF4 lN4 lN5
      dsimp only [kstB] at F9
      dsimp only at N9 hO hP
      simp only [List.nil_append, List.cons_append] at N9
      have hxy : y = x' := hc1.trans hP.symm
      obtain ⟨hy1, hy2⟩ := hc2
      rw [hxy] at hy1 hy2 hc3
      try k_fold
      k_steps
      rename News h₀ L _ _ => nE
      refine retB_end hret ?_ (by k_asm) nE ?_
      · rw [show List.foldl (claG place) [] [2, 3, 5, 7, 11, 13] = claL place from rfl, cla_map, hc3]
        rfl
      · intro p hp
        simp only [List.mem_append, List.mem_cons]
        simp only [hp, true_or, or_true]
end
end Mine
-- part S9
set_option maxHeartbeats 1000000
namespace Mine
-- the branch that the facts decide
local macro_rules | `(tactic| walk_at "ite") => `(tactic| (k_here; k_openite; first | (refine ite_neg (by (simp only [decide_eq_true_eq, beq_iff_eq, bne_iff_ne, ne_eq, gt_iff_lt, ge_iff_le]; omega)) ?_) | (refine ite_pos (by (simp only [decide_eq_true_eq, beq_iff_eq, bne_iff_ne, ne_eq, gt_iff_lt, ge_iff_le]; omega)) ?_)))
-- a tuple's items
local macro_rules | `(tactic| walk_at "subscriptTail") => `(tactic| (k_here; (with_reducible show wpAny _ _ (subscriptTail _ _ (Value.ref _) (Value.int 1 _)) _ _ _); k_dflt (refine' sub1 ?kT ?kX ?kF ?kN ?kS ?_ ?kB; (case kT => assumption); (case kF => k_asm); (case kX => k_asm); (case kN => k_asm); (case kS => kcj_all); (case kB => with_unfolding_all rfl); k_whole); intro t9; (try dsimp only)))
local macro_rules | `(tactic| walk_at "subscriptTail") => `(tactic| (k_here; (with_reducible show wpAny _ _ (subscriptTail _ _ (Value.ref _) (Value.int 0 _)) _ _ _); k_dflt (refine' sub0 ?kT ?kX ?kF ?kN ?kS ?_ ?kB; (case kT => assumption); (case kF => k_asm); (case kX => k_asm); (case kN => k_asm); (case kS => kcj_all); (case kB => with_unfolding_all rfl); k_whole); intro t9; (try dsimp only)))
-- the calls' common premises
local macro_rules | `(tactic| walk_at "ASK") => `(tactic| ((case k1 => k_asm); (case k2 => k_asm); (case k3 => k_asm); (case k4 => k_asm); (case k5 => k_asm); (case kK => first | exact rfl | assumption); (case kd => ktr_room); (case ku => ktr_units)))
local macro_rules | `(tactic| walk_at "TUP") => `(tactic| first | assumption | exact tupA_R0 _ _ | exact tupA_R1 _ _ | exact tupA_new (by k_mem) | (refine' TupA.mono (by assumption) ?kS; (case kS => kcj_all)))
local macro_rules | `(tactic| walk_at "call ref") => `(tactic| (k_here; (with_reducible show wpAny _ _ (PySem.call (Value.ref 41) _ _) _ _ _); k_dflt (refine' gcd_use ?k1 ?k2 ?k3 ?k4 ?k5 ?kK ?kd ?ku ?_; walk_at "ASK"; k_whole); intro t9 h9 tk9 F9 N9; (try dsimp only); (try k_fold)))
-- a tuple comes back
local macro_rules | `(tactic| walk_at "BACK") => `(tactic| (refine' retT_end (by assumption) ?ex ?ey ?ef ?en ?em ?es ?el; (case ef => k_asm); (case en => k_asm); (case em => k_mem); (case es => kcj_all); (case ex => exact rfl); (case ey => exact rfl); (case el => first | assumption | fail "BACK: order")))
-- steps up to a loop
local macro_rules | `(tactic| walk_at "UPTO") => `(tactic| repeat' ((fail_if_success (with_reducible show wpAny _ _ (pyIter (Value.ref _)) (fun it s₂ => LoopAtV _ _ _ _ _ _ _ _ _ it s₂) _ _)); first | (k_unfold; (try dsimp only)) | (k_end; wrow_close) | walk1 | (dsimp only; walk1) | (leave1; try dsimp only) | fail "no step"))
local macro_rules | `(tactic| walk_at "SUB") => `(tactic| first | kcj_all | kd_subs | ktd_sub)
local macro_rules | `(tactic| walk_at "TUP") => `(tactic| first | assumption | exact tupA_R0 _ _ | exact tupA_R1 _ _ | exact tupA_new (by k_mem) | (refine' TupA.mono (by assumption) ?kS; (case kS => walk_at "SUB")))
local macro_rules | `(tactic| walk_at "call ref") => `(tactic| (k_here; (with_reducible show wpAny _ _ (PySem.call (Value.ref 50) _ _) _ _ _); k_dflt (refine' rat_use ?k1 ?k2 ?k3 ?k4 ?k5 ?kK ?kd ?ku ?ky ?_; walk_at "ASK"; (case ky => first | assumption | omega | fail "RAT: the bottom"); k_whole); intro D9 t9 u9 c9 h9 tk9 F9 N9 l9; (have l8 := l9); (try k_lt l8); (try dsimp only); (try k_fold)))
local macro_rules | `(tactic| walk_at "call ref") => `(tactic| (k_here; (with_reducible show wpAny _ _ (PySem.call (Value.ref 57) _ _) _ _ _); k_dflt (refine' radd_use ?k1 ?k2 ?k3 ?k4 ?k5 ?kK ?kd ?ku ?kt ?kT ?ky ?kY ?_; walk_at "ASK"; (case kt => walk_at "TUP"); (case kT => walk_at "TUP"); (case ky => first | assumption | omega | fail "RADD: a bottom"); (case kY => first | assumption | omega | fail "RADD: a bottom"); k_whole); intro D9 t9 u9 c9 h9 tk9 F9 N9 l9; (have l8 := l9); (try k_lt l8); (try dsimp only); (try k_fold)))
local macro_rules | `(tactic| walk_at "call ref") => `(tactic| (k_here; (with_reducible show wpAny _ _ (PySem.call (Value.ref 64) _ _) _ _ _); k_dflt (refine' rmul_use ?k1 ?k2 ?k3 ?k4 ?k5 ?kK ?kd ?ku ?kt ?kT ?ky ?kY ?kX ?_; walk_at "ASK"; (case kt => walk_at "TUP"); (case kT => walk_at "TUP"); (case ky => first | assumption | omega | fail "RMUL: a bottom"); (case kY => first | assumption | omega | fail "RMUL: a bottom"); (case kX => first | assumption | omega | fail "RMUL: a top"); k_whole); intro D9 t9 u9 c9 h9 tk9 F9 N9 l9; (have l8 := l9); (try k_lt l8); (try dsimp only); (try k_fold)))
local macro_rules | `(tactic| walk_at "call ref") => `(tactic| (k_here; (with_reducible show wpAny _ _ (PySem.call (Value.ref 71) _ _) _ _ _); k_dflt (refine' rdiv_use ?k1 ?k2 ?k3 ?k4 ?k5 ?kK ?kd ?ku ?kt ?kT ?ky ?kX ?kY ?_; walk_at "ASK"; (case kt => walk_at "TUP"); (case kT => walk_at "TUP"); (case ky => first | assumption | omega | fail "RDIV: a bottom"); (case kY => first | assumption | omega | fail "RDIV: a bottom"); (case kX => first | assumption | omega | fail "RDIV: a top"); k_whole); intro D9 t9 u9 c9 h9 tk9 F9 N9 l9; (have l8 := l9); (try k_lt l8); (try dsimp only); (try k_fold)))
local macro_rules | `(tactic| walk_at "call ref") => `(tactic| (k_here; (with_reducible show wpAny _ _ (PySem.call (Value.ref 78) _ _) _ _ _); k_dflt (refine' rneg_use ?k1 ?k2 ?k3 ?k4 ?k5 ?kK ?kd ?ku ?kt ?_; walk_at "ASK"; (case kt => walk_at "TUP"); k_whole); intro D9 t9 u9 c9 h9 tk9 F9 N9 l9; (have l8 := l9); (try k_lt l8); (try dsimp only); (try k_fold)))
local macro_rules | `(tactic| walk_at "call ref") => `(tactic| (k_here; (with_reducible show wpAny _ _ (PySem.call (Value.ref 85) _ _) _ _ _); k_dflt (refine' binT_use ?k1 ?k2 ?k3 ?k4 ?k5 ?kK ?kd ?ku ?kn ?_; walk_at "ASK"; (case kn => first | assumption | omega | fail "BIN: n"); k_whole); intro D9 v9 c9 h9 tk9 i9 F9 N9 l9; (have l8 := l9); (try k_lt l8); (try dsimp only); (try k_fold)))
local macro_rules | `(tactic| walk_at "subscriptTail") => `(tactic| (k_here; (with_reducible show wpAny _ _ (subscriptTail _ _ (Value.ref _) (Value.int _ _)) _ _ _); k_dflt (refine' subL ?k1 ?k2 ?k3 ?k4 ?k5 ?k6 ?_ ?k7; (case k2 => k_asm); (case k1 => k_mem); (case k3 => assumption); (case k4 => first | assumption | omega); (case k5 => omega); (case k6 => assumption); (case k7 => with_unfolding_all rfl); k_whole); intro a9 t9; (try dsimp only)))
local macro_rules | `(tactic| walk_at "call ref") => `(tactic| (k_here; (with_reducible show wpAny _ _ (PySem.call (Value.ref 92) _ _) _ _ _); k_dflt (refine' bern_use ?k1 ?k2 ?k3 ?k4 ?k5 ?kK ?kd ?ku ?kn ?_; walk_at "ASK"; (case kn => first | assumption | omega | fail "BERN: n"); k_whole); intro D9 v9 c9 tl9 h9 tk9 i9 F9 N9; (try simp only [List.cons_append, List.append_assoc] at N9); (try simp only [List.cons_append, List.append_assoc] at i9); (try dsimp only); (try k_fold)))
local macro_rules | `(tactic| walk_at "INS") => `(tactic| ((try simp only [List.nil_append, List.append_nil] at *); simp only [List.mem_append, List.mem_cons, List.not_mem_nil, or_false, false_or, List.cons_append] at *; first | assumption | grind))
local macro_rules | `(tactic| walk_at "SUBS") => `(tactic| (intro p hp; simp only [List.mem_append, List.mem_cons, List.not_mem_nil, or_false, false_or, List.cons_append, List.nil_append, List.append_nil] at hp ⊢; first | assumption | grind))
-- a range as it stands, never value by value
local macro_rules | `(tactic| walk_at "call type:range") => `(tactic| (k_here; (rename Fr _ _ _ _ => fR'); (rename News _ _ _ _ => nR'); (with_unfolding_all first | refine range1_rows fR' nR' ?_ | refine range2_rows fR' nR' ?_); intro _ _ _ _ _ _ _ _ _))
-- a def with captured names
local macro_rules | `(tactic| walk_at "ENTERC") => `(tactic| (refine' code_defC ?k1 ?k2 ?k3 ?k4 ?k5 ?kA ?kF ?kK ?k6 ?k7 ?k8 ?k9 ?kB ?kD ?_ ?c2 ?c3 ?c4; (case kA => exact rfl); (case kF => exact rfl); (case kK => assumption); (case k1 => k_asm); (case k2 => k_asm); (case k3 => k_asm); (case k4 => k_asm); (case k5 => k_asm); (case k6 => k_is); (case k7 => k_is); (case k8 => ktr_room); (case k9 => exact BindsTo.of_eq rfl); (case kB => exact rfl); (case kD => decide +kernel); (case c2 => exact rfl); (case c3 => exact rfl); (case c4 => exact rfl); k_whole; intro g' L' h' tk' cells' FG' F' N' Y' B' X' T' l1; (try k_lt l1); k_cells Y'; (try simp only [List.cons_append, List.nil_append] at N'); (try dsimp only); (try k_lift B'); (try k_fold)))
theorem byp_turn {a b a0 b0 : Int} (ha : 0 ≤ a) (hb : 0 ≤ b) (h1 : a < 1073741824) (h2 : b < 1073741824) (h : gcdI a b = gcdI a0 b0) (hn : b ≠ 0) :
    0 ≤ b ∧ 0 ≤ a.fmod b ∧ (0 < b ∨ 0 < a.fmod b) ∧ b < 1073741824 ∧ a.fmod b < 1073741824 ∧ gcdI b (a.fmod b) = gcdI a0 b0 := by
  obtain ⟨g1, g2, g3⟩ := gcd_turn ha hb h hn
  have h3 : a.fmod b < b := by
    rw [Int.fmod_eq_emod_of_nonneg _ hb]
    exact Int.emod_lt_of_pos _ (by omega)
  exact ⟨g1, g2, .inl (by omega), h2, by omega, g3⟩
theorem byp_start {x q : Int} (hx : -1073741824 < x ∧ x < 1073741824) (hq : 0 < q) (hq' : q < 1073741824) : 0 ≤ absI x ∧ 0 ≤ q ∧ (0 < absI x ∨ 0 < q) ∧ absI x < 1073741824 ∧ q < 1073741824 ∧ gcdI (absI x) q = gcdI (absI x) q :=
  ⟨by unfold absI; split <;> omega, by omega, .inr hq, by unfold absI; split <;> omega, hq', rfl⟩
theorem byp_last {o y x q : Int} (ho : 0 ≤ o) (h : gcdI o y = gcdI (absI x) q) (hy : y = 0) : o = gcdI x q := by
  subst hy
  have e1 : gcdI o 0 = o := by unfold gcdI; rw [Int.gcd_zero]; omega
  rw [← e1, h]
  unfold gcdI absI Int.gcd
  congr 2
  split <;> simp
theorem byp_div {z o y x q : Int} (ho : 0 ≤ o) (h : gcdI o y = gcdI (absI x) q) (hy : y = 0) : z.fdiv o = z.fdiv (gcdI x q) := by rw [byp_last ho h hy]
section
variable {w : World} {mean : ExcName → Option Value} {mg mb : Str → Option Value} {dp un : Nat} {gd : Option (List Code)} {cn : Str} {cs : Scope} {a : Addr} {ccd : Value} {cl : List (Str × Addr)} {outer : List Env} {A₀ : Around} {base h₀ : Heap} {L : Addr} {m : Str → Option Value} {s : Shared} {Q E : Value → Shared → Prop} {news : List (Addr × Obj)}
theorem byp_use {place x y : Int} {tp : Tok} {an : Addr} (B : Below A₀ base outer h₀) (F : Fr h₀ L s.heap m) (X : (hd.heap_39 w.params).In h₀) (N : News h₀ L s.heap news) (T : Top hd.view_39 (looseW hd.view_39 []) mean mg mb h₀) (hk : cs.kind = .function) (hdp : dp + 1 < recursionLimit) (hu : un + 8 < cLine)
    (hA : TupA (hd.heap_39 w.params) news an x y) (hx : -1073741824 < x ∧ x < 1073741824) (hy : 0 < y ∧ y < 32768) (hpl : 0 < place ∧ place < 32768)
    (hret : RetT h₀ L m news s Q (ratX x (place * y)) (ratY x (place * y))) : wpAny (model PySem.Challenge.rw_sa0076_01.row.prog w) (ktrTop dp un gd cn cs L a ccd cl outer) (call (.ref 125) [.ref an, .int place tp]) Q E s := by
  revert X; k_fill; intro X; w_top off
  have hq := prodOk hpl hy
  obtain ⟨hq1, hq2⟩ := hq
  k_with "exec While Compare cons nil" => k_while_given ["one!", "other!"] (fun a0 b0 (_ : List Int) a b => 0 ≤ a ∧ 0 ≤ b ∧ (0 < a ∨ 0 < b) ∧ a < 1073741824 ∧ b < 1073741824 ∧ gcdI a b = gcdI a0 b0) (fun a0 b0 (_ : List Int) a b => b.toNat) "one" "other"
  k_with "state" => first | exact byp_turn (by assumption) (by assumption) (by assumption) (by assumption) (by assumption) (by first | assumption | omega) | exact byp_start (by assumption) (by assumption) (by assumption)
  k_with "measure" => exact gcd_less (by assumption) (by first | assumption | omega)
  refine wpAny_call ?_
  k_dflt cell_enter
  k_steps
  refine' retT_end hret ?ex ?ey ?ef ?en ?em ?es ?el
  case ef => k_asm
  case en => k_asm
  case em => k_mem
  case es => kcj_all
  case el => first | assumption | exact kst_ltOf (by assumption) | exact kst_ltOf (And.right (a := _ < _) (by assumption))
  case ex => exact byp_div (by assumption) (by assumption) (by assumption)
  case ey => exact byp_div (by assumption) (by assumption) (by assumption)
end
end Mine
-- part S10
set_option maxHeartbeats 1000000
namespace Mine
-- the branch that the facts decide
local macro_rules | `(tactic| walk_at "ite") => `(tactic| (k_here; k_openite; first | (refine ite_neg (by (simp only [decide_eq_true_eq, beq_iff_eq, bne_iff_ne, ne_eq, gt_iff_lt, ge_iff_le]; omega)) ?_) | (refine ite_pos (by (simp only [decide_eq_true_eq, beq_iff_eq, bne_iff_ne, ne_eq, gt_iff_lt, ge_iff_le]; omega)) ?_)))
-- a tuple's items
local macro_rules | `(tactic| walk_at "subscriptTail") => `(tactic| (k_here; (with_reducible show wpAny _ _ (subscriptTail _ _ (Value.ref _) (Value.int 1 _)) _ _ _); k_dflt (refine' sub1 ?kT ?kX ?kF ?kN ?kS ?_ ?kB; (case kT => assumption); (case kF => k_asm); (case kX => k_asm); (case kN => k_asm); (case kS => kcj_all); (case kB => with_unfolding_all rfl); k_whole); intro t9; (try dsimp only)))
local macro_rules | `(tactic| walk_at "subscriptTail") => `(tactic| (k_here; (with_reducible show wpAny _ _ (subscriptTail _ _ (Value.ref _) (Value.int 0 _)) _ _ _); k_dflt (refine' sub0 ?kT ?kX ?kF ?kN ?kS ?_ ?kB; (case kT => assumption); (case kF => k_asm); (case kX => k_asm); (case kN => k_asm); (case kS => kcj_all); (case kB => with_unfolding_all rfl); k_whole); intro t9; (try dsimp only)))
-- the calls' common premises
local macro_rules | `(tactic| walk_at "ASK") => `(tactic| ((case k1 => k_asm); (case k2 => k_asm); (case k3 => k_asm); (case k4 => k_asm); (case k5 => k_asm); (case kK => first | exact rfl | assumption); (case kd => ktr_room); (case ku => ktr_units)))
local macro_rules | `(tactic| walk_at "TUP") => `(tactic| first | assumption | exact tupA_R0 _ _ | exact tupA_R1 _ _ | exact tupA_new (by k_mem) | (refine' TupA.mono (by assumption) ?kS; (case kS => kcj_all)))
local macro_rules | `(tactic| walk_at "call ref") => `(tactic| (k_here; (with_reducible show wpAny _ _ (PySem.call (Value.ref 41) _ _) _ _ _); k_dflt (refine' gcd_use ?k1 ?k2 ?k3 ?k4 ?k5 ?kK ?kd ?ku ?_; walk_at "ASK"; k_whole); intro t9 h9 tk9 F9 N9; (try dsimp only); (try k_fold)))
-- a tuple comes back
local macro_rules | `(tactic| walk_at "BACK") => `(tactic| (refine' retT_end (by assumption) ?ex ?ey ?ef ?en ?em ?es ?el; (case ef => k_asm); (case en => k_asm); (case em => k_mem); (case es => kcj_all); (case ex => exact rfl); (case ey => exact rfl); (case el => first | assumption | fail "BACK: order")))
-- steps up to a loop
local macro_rules | `(tactic| walk_at "UPTO") => `(tactic| repeat' ((fail_if_success (with_reducible show wpAny _ _ (pyIter (Value.ref _)) (fun it s₂ => LoopAtV _ _ _ _ _ _ _ _ _ it s₂) _ _)); first | (k_unfold; (try dsimp only)) | (k_end; wrow_close) | walk1 | (dsimp only; walk1) | (leave1; try dsimp only) | fail "no step"))
local macro_rules | `(tactic| walk_at "SUB") => `(tactic| first | kcj_all | kd_subs | ktd_sub)
local macro_rules | `(tactic| walk_at "TUP") => `(tactic| first | assumption | exact tupA_R0 _ _ | exact tupA_R1 _ _ | exact tupA_new (by k_mem) | (refine' TupA.mono (by assumption) ?kS; (case kS => walk_at "SUB")))
local macro_rules | `(tactic| walk_at "call ref") => `(tactic| (k_here; (with_reducible show wpAny _ _ (PySem.call (Value.ref 50) _ _) _ _ _); k_dflt (refine' rat_use ?k1 ?k2 ?k3 ?k4 ?k5 ?kK ?kd ?ku ?ky ?_; walk_at "ASK"; (case ky => first | assumption | omega | fail "RAT: the bottom"); k_whole); intro D9 t9 u9 c9 h9 tk9 F9 N9 l9; (have l8 := l9); (try k_lt l8); (try dsimp only); (try k_fold)))
local macro_rules | `(tactic| walk_at "call ref") => `(tactic| (k_here; (with_reducible show wpAny _ _ (PySem.call (Value.ref 57) _ _) _ _ _); k_dflt (refine' radd_use ?k1 ?k2 ?k3 ?k4 ?k5 ?kK ?kd ?ku ?kt ?kT ?ky ?kY ?_; walk_at "ASK"; (case kt => walk_at "TUP"); (case kT => walk_at "TUP"); (case ky => first | assumption | omega | fail "RADD: a bottom"); (case kY => first | assumption | omega | fail "RADD: a bottom"); k_whole); intro D9 t9 u9 c9 h9 tk9 F9 N9 l9; (have l8 := l9); (try k_lt l8); (try dsimp only); (try k_fold)))
local macro_rules | `(tactic| walk_at "call ref") => `(tactic| (k_here; (with_reducible show wpAny _ _ (PySem.call (Value.ref 64) _ _) _ _ _); k_dflt (refine' rmul_use ?k1 ?k2 ?k3 ?k4 ?k5 ?kK ?kd ?ku ?kt ?kT ?ky ?kY ?kX ?_; walk_at "ASK"; (case kt => walk_at "TUP"); (case kT => walk_at "TUP"); (case ky => first | assumption | omega | fail "RMUL: a bottom"); (case kY => first | assumption | omega | fail "RMUL: a bottom"); (case kX => first | assumption | omega | fail "RMUL: a top"); k_whole); intro D9 t9 u9 c9 h9 tk9 F9 N9 l9; (have l8 := l9); (try k_lt l8); (try dsimp only); (try k_fold)))
local macro_rules | `(tactic| walk_at "call ref") => `(tactic| (k_here; (with_reducible show wpAny _ _ (PySem.call (Value.ref 71) _ _) _ _ _); k_dflt (refine' rdiv_use ?k1 ?k2 ?k3 ?k4 ?k5 ?kK ?kd ?ku ?kt ?kT ?ky ?kX ?kY ?_; walk_at "ASK"; (case kt => walk_at "TUP"); (case kT => walk_at "TUP"); (case ky => first | assumption | omega | fail "RDIV: a bottom"); (case kY => first | assumption | omega | fail "RDIV: a bottom"); (case kX => first | assumption | omega | fail "RDIV: a top"); k_whole); intro D9 t9 u9 c9 h9 tk9 F9 N9 l9; (have l8 := l9); (try k_lt l8); (try dsimp only); (try k_fold)))
local macro_rules | `(tactic| walk_at "call ref") => `(tactic| (k_here; (with_reducible show wpAny _ _ (PySem.call (Value.ref 78) _ _) _ _ _); k_dflt (refine' rneg_use ?k1 ?k2 ?k3 ?k4 ?k5 ?kK ?kd ?ku ?kt ?_; walk_at "ASK"; (case kt => walk_at "TUP"); k_whole); intro D9 t9 u9 c9 h9 tk9 F9 N9 l9; (have l8 := l9); (try k_lt l8); (try dsimp only); (try k_fold)))
local macro_rules | `(tactic| walk_at "call ref") => `(tactic| (k_here; (with_reducible show wpAny _ _ (PySem.call (Value.ref 85) _ _) _ _ _); k_dflt (refine' binT_use ?k1 ?k2 ?k3 ?k4 ?k5 ?kK ?kd ?ku ?kn ?_; walk_at "ASK"; (case kn => first | assumption | omega | fail "BIN: n"); k_whole); intro D9 v9 c9 h9 tk9 i9 F9 N9 l9; (have l8 := l9); (try k_lt l8); (try dsimp only); (try k_fold)))
local macro_rules | `(tactic| walk_at "subscriptTail") => `(tactic| (k_here; (with_reducible show wpAny _ _ (subscriptTail _ _ (Value.ref _) (Value.int _ _)) _ _ _); k_dflt (refine' subL ?k1 ?k2 ?k3 ?k4 ?k5 ?k6 ?_ ?k7; (case k2 => k_asm); (case k1 => k_mem); (case k3 => assumption); (case k4 => first | assumption | omega); (case k5 => omega); (case k6 => assumption); (case k7 => with_unfolding_all rfl); k_whole); intro a9 t9; (try dsimp only)))
local macro_rules | `(tactic| walk_at "call ref") => `(tactic| (k_here; (with_reducible show wpAny _ _ (PySem.call (Value.ref 92) _ _) _ _ _); k_dflt (refine' bern_use ?k1 ?k2 ?k3 ?k4 ?k5 ?kK ?kd ?ku ?kn ?_; walk_at "ASK"; (case kn => first | assumption | omega | fail "BERN: n"); k_whole); intro D9 v9 c9 tl9 h9 tk9 i9 F9 N9; (try simp only [List.cons_append, List.append_assoc] at N9); (try simp only [List.cons_append, List.append_assoc] at i9); (try dsimp only); (try k_fold)))
local macro_rules | `(tactic| walk_at "INS") => `(tactic| ((try simp only [List.nil_append, List.append_nil] at *); simp only [List.mem_append, List.mem_cons, List.not_mem_nil, or_false, false_or, List.cons_append] at *; first | assumption | grind))
local macro_rules | `(tactic| walk_at "SUBS") => `(tactic| (intro p hp; simp only [List.mem_append, List.mem_cons, List.not_mem_nil, or_false, false_or, List.cons_append, List.nil_append, List.append_nil] at hp ⊢; first | assumption | grind))
-- a range as it stands, never value by value
local macro_rules | `(tactic| walk_at "call type:range") => `(tactic| (k_here; (rename Fr _ _ _ _ => fR'); (rename News _ _ _ _ => nR'); (with_unfolding_all first | refine range1_rows fR' nR' ?_ | refine range2_rows fR' nR' ?_); intro _ _ _ _ _ _ _ _ _))
-- a def with captured names
local macro_rules | `(tactic| walk_at "ENTERC") => `(tactic| (refine' code_defC ?k1 ?k2 ?k3 ?k4 ?k5 ?kA ?kF ?kK ?k6 ?k7 ?k8 ?k9 ?kB ?kD ?_ ?c2 ?c3 ?c4; (case kA => exact rfl); (case kF => exact rfl); (case kK => assumption); (case k1 => k_asm); (case k2 => k_asm); (case k3 => k_asm); (case k4 => k_asm); (case k5 => k_asm); (case k6 => k_is); (case k7 => k_is); (case k8 => ktr_room); (case k9 => exact BindsTo.of_eq rfl); (case kB => exact rfl); (case kD => decide +kernel); (case c2 => exact rfl); (case c3 => exact rfl); (case c4 => exact rfl); k_whole; intro g' L' h' tk' cells' FG' F' N' Y' B' X' T' l1; (try k_lt l1); k_cells Y'; (try simp only [List.cons_append, List.nil_append] at N'); (try dsimp only); (try k_lift B'); (try k_fold)))
def herX (i : Nat) : Int := ratX (bernE (2 * i + 2)).1 ((2 * (i : Int) + 2) * (bernE (2 * i + 2)).2)
def herY (i : Nat) : Int := ratY (bernE (2 * i + 2)).1 ((2 * (i : Int) + 2) * (bernE (2 * i + 2)).2)
theorem her_ok : ∀ i : Nat, i < 6 → (0 < herY i ∧ herY i < 32768) ∧ (-1073741824 < herX i ∧ herX i < 1073741824) := by decide +kernel
theorem kum_ok : ∀ j : Nat, j < 6 → ∀ i : Nat, i < 6 → ¬ (2 * (i : Int) + 2).fmod (primE j - 1) = 0 → ¬ (herY i).fmod (primE j) = 0 ∧
    ∀ i₂ : Nat, i₂ < 6 → (2 * (i₂ : Int) + 2).fmod (primE j - 1) = (2 * (i : Int) + 2).fmod (primE j - 1) → (herX i * herY i₂ - herX i₂ * herY i).fmod (primE j) = 0 := by decide +kernel
/-- what a number under a key is good for -/
def kumG (j : Nat) (key x y : Int) : Prop := ∀ i : Nat, i < 6 → (2 * (i : Int) + 2).fmod (primE j - 1) = key → (x * herY i - herX i * y).fmod (primE j) = 0
section
variable {K : Type} [DecidableEq K]
theorem mem_stored {kvs : List (K × Value)} {k : K} {v : Value} {kv : K × Value} (h : kv ∈ PySem.stored kvs k v) : kv ∈ kvs ∨ kv = (k, v) := by
  unfold PySem.stored at h
  split at h
  · obtain ⟨q, hq, e⟩ := List.mem_map.mp h
    by_cases hk : q.1 = k
    · rw [if_pos hk] at e
      exact .inr (by rw [← e, hk])
    · rw [if_neg hk] at e
      exact .inl (e ▸ hq)
  · rcases List.mem_append.mp h with h | h
    · exact .inl h
    · exact .inr (List.mem_singleton.mp h)
theorem len_stored {kvs : List (K × Value)} {k : K} {v : Value} : (PySem.stored kvs k v).length ≤ kvs.length + 1 := by
  unfold PySem.stored
  split
  · rw [List.length_map]; omega
  · rw [List.length_append, List.length_singleton]; omega
theorem mem_valueAt {kvs : List (K × Value)} {k : K} {v : Value} (h : PySem.valueAt kvs k = some v) : (k, v) ∈ kvs := by
  unfold PySem.valueAt at h
  cases e : kvs.find? fun kv => decide (kv.1 = k) with
  | none => rw [e] at h; cases h
  | some q =>
    rw [e] at h
    have h1 : q.2 = v := Option.some.inj h
    have h2 : q.1 = k := by simpa using List.find?_some e
    rw [← h1, ← h2]
    exact List.mem_of_find?_eq_some e
end
theorem bern_take14 : ∀ m : Nat, m < 14 → ∀ k : Nat, k < m → (bernT.take m)[k]? = some ((bernE k).1, (bernE k).2) := by decide +kernel
/-- the numbers met so far -/
def Met (K : Frag) (news : List (Addr × Obj)) (j : Nat) (kvs : List (Int × Value)) : Prop := ∀ kv ∈ kvs, ∃ a x y, kv.2 = Value.ref a ∧ TupA K news a x y ∧ kumG j kv.1 x y
section
variable {prog : Program} {w : World} {A : Around} {E : Value → Shared → Prop} {s : Shared} {env : Env} {h₀ : Heap} {x : Str} {body : List Stmt} {Q : Flow → Shared → Prop}
/-- a loop over a range by steps -/
theorem kd_steps {σ : Type} {r : Addr} {a₀ b₀ c₁ : Int} {t₀ u₀ v₀ : Tok} {n : Nat} {m₀ : Str → Option Value} {news : List (Addr × Obj)} (Led : σ → List (Addr × Obj)) (cst : List (Addr × Obj)) (ps : σ → List (Str × Value)) (Facts : List (Addr × Obj) → σ → Prop) (stored : List Str) (P : Nat → σ → Prop) (adr : List Addr) (c₀ : σ)
    (hh : A.handled = none) (hr : IsRange s.heap r a₀ b₀ c₁ t₀ u₀ v₀) (hsmall : Builtin.Range.small a₀ b₀ c₁ = true) (hsz : Builtin.Range.rangeSize a₀ b₀ c₁ = (n : Int)) (F : Fr h₀ env.locals s.heap m₀) (N : News h₀ env.locals s.heap news) (hn : ∀ p ∈ Led c₀ ++ (cst ++ []), p ∈ news) (hadr : ∀ c, (Led c ++ cst).map (·.1) = adr) (hf : Facts (cst ++ []) c₀) (hk : ∀ p ∈ ps c₀, m₀ p.1 = some p.2) (hp : P 0 c₀)
    (turn : ∀ (c : σ) tl (i : Nat) (k : Int) t (u : Str → Option Value) h tk own, k = a₀ + (i : Int) * c₁ → i < n → KdSep own tl adr → OwnOff (tl ++ own) adr → Facts (cst ++ tl) c → P i c →
      Fr h₀ env.locals h (fun y => if y = x then some (.int k t) else kstB (fun z => if stored.contains z then u z else m₀ z) (ps c) y) → News h₀ env.locals h (Led c ++ (cst ++ (tl ++ own))) →
      wpAny (model prog w) A (execs body env) (InvPostG h₀ env.locals (KdS Led cst ps Facts x stored m₀ P adr (i + 1)) own { s with heap := h, toks := tk } Q) E { s with heap := h, toks := tk })
    (done : ∀ (c : σ) tl (u : Str → Option Value) h tk, OwnOff tl adr → Facts (cst ++ tl) c → P n c → Fr h₀ env.locals h (fun y => if y = x then u y else kstB (fun z => if stored.contains z then u z else m₀ z) (ps c) y) → News h₀ env.locals h (Led c ++ (cst ++ tl)) → Q .next { s with heap := h, toks := tk }) :
    wpAny (model prog w) A (pyIter (.ref r)) (fun it s₂ => LoopAtV prog w A h₀ env x body Q E it s₂) E s := by
  refine wpAny_pyIter_range hr hsmall ?_
  have W : Walks prog w A s.heap.objs.size [s.heap.objs.size] [s.heap.objs.size] n (fun i v => i < n ∧ ∃ t, v = .int (a₀ + i * c₁) t)
      (fun i h => IsRangeIter h s.heap.objs.size (a₀ + (i : Nat) * c₁) ((n : Int) - (i : Nat)) c₁) := (Walks.range hh _ a₀ c₁ n).bound
  refine kdr_loop (fun i m nx => KdS Led cst ps Facts x stored m₀ P adr i m nx) W (fun _ h => h) (fun _ h => h) ?_ ?_ ?_ ?_ (by show IsRangeIter _ _ _ _ _; rw [hsz]; simpa using Heap.get?_push_size _ rfl) (F.push _) (fun p hp => ⟨Heap.get?_push_of_some _ (N p (hn p hp)).1, (N p (hn p hp)).2⟩) ⟨c₀, [], rfl, fun _ hp => (nomatch hp), hf, hk, fun _ _ _ _ => rfl, hp⟩ ?_ ?_
  · intro i h hi b hb
    rw [List.mem_singleton.mp hb]
    exact ⟨_, hi⟩
  · intro hm
    exact absurd F.ns.lt ((List.mem_singleton.mp hm) ▸ Nat.lt_irrefl _)
  · intro b hb
    rw [List.mem_singleton.mp hb]
    exact next_is_new F
  · intro p hp hI
    exact absurd (Heap.lt_size (N p (hn p hp)).1) ((List.mem_singleton.mp hI) ▸ Nat.lt_irrefl _)
  · rintro i v m₁ nx h tk own hi ⟨_, t, rfl⟩ hoff ⟨c, tl, rfl, ht, hf', h1, h2, hp'⟩ F₁ N₁
    obtain ⟨o1, o2⟩ := kd_split (hadr c) hoff
    rw [List.append_assoc, List.append_assoc] at N₁
    exact turn c tl i _ t m₁ h tk own rfl hi ⟨o1, o2, ht⟩ (kd_off o1 ht) hf' hp' (kst_fr h1 h2 F₁) N₁
  · rintro m₁ nx h tk ⟨c, tl, rfl, ht, hf', h1, h2, hp'⟩ F₁ N₁
    exact done c tl m₁ h tk ht hf' hp' (kst_frOut h1 h2 F₁) N₁
end
section
variable {prog : Program} {w : World} {A : Around} {E : Value → Shared → Prop} {s : Shared} {h₀ : Heap} {L d : Addr} {m : Str → Option Value} {news nw : List (Addr × Obj)} {o : Obj} {kvs : List (Int × Value)} {k : Int} {tk : Tok} {K : Frag}
theorem lenL {l : Addr} {us : List Value} {n : Nat} {Q : Value → Shared → Prop} (N : News h₀ L s.heap news) (hm : (l, listOf us.toArray n) ∈ news) (hfit : us.length < 1000)
    (h : Q (.int (us.length : Int) (s.toks + 1)) { s with toks := s.toks + 1 + 1 }) : wpAny (model prog w) A (call (.builtin "len") [.ref l]) Q E s := by
  have hl : s.heap.IsList l us.toArray := ⟨_, (N _ hm).1, rfl, n, rfl⟩
  have e : us.toArray.size = us.length := List.size_toArray ..
  exact len_list hl (by rw [e]; omega) (by rw [e]; exact h)
theorem met_get {Q : Value → Shared → Prop} {j : Nat} {a₀ : Addr} {x₀ y₀ : Int} {t₀ u₀ : Tok} {c₀ : Nat} (N : News h₀ L s.heap news) (hp : (d, o) ∈ news) (hd : o.IsDictOf (intKind prog w) kvs) (lo : (d == sysModules) = false) (hM : Met K nw j kvs) (hAq : (a₀, tupO x₀ t₀ y₀ u₀ c₀) ∈ news) (hG : kumG j k x₀ y₀)
    (hI : ∀ x y, kumG j k x y → (x * y₀ - x₀ * y).fmod (primE j) = 0)
    (h : ∀ a x y, TupA K ((a₀, tupO x₀ t₀ y₀ u₀ c₀) :: nw) a x y → kumG j k x y → (x * y₀ - x₀ * y).fmod (primE j) = 0 → Q (.ref a) { s with toks := s.toks + 1 }) : wpAny (model prog w) A (call (.builtin "dict.get") [.ref d, .int k tk, .ref a₀]) Q E s := by
  refine kdg_get2 (knd := intKind prog w) N hp hd lo (intKind_is _ _ _ _) _ rfl ?_
  cases e : PySem.valueAt kvs k with
  | none => exact h a₀ x₀ y₀ (tupA_new (List.Mem.head _)) hG (hI _ _ hG)
  | some v =>
    obtain ⟨a, x, y, rfl, hT, hG'⟩ := hM _ (mem_valueAt e)
    exact h a x y (hT.mono fun p hp => .tail _ hp) hG' (hI _ _ hG')
end
end Mine
-- part S11
set_option maxHeartbeats 1000000
namespace Mine
-- the branch that the facts decide
local macro_rules | `(tactic| walk_at "ite") => `(tactic| (k_here; k_openite; first | (refine ite_neg (by (simp only [decide_eq_true_eq, beq_iff_eq, bne_iff_ne, ne_eq, gt_iff_lt, ge_iff_le]; omega)) ?_) | (refine ite_pos (by (simp only [decide_eq_true_eq, beq_iff_eq, bne_iff_ne, ne_eq, gt_iff_lt, ge_iff_le]; omega)) ?_)))
-- a tuple's items
local macro_rules | `(tactic| walk_at "subscriptTail") => `(tactic| (k_here; (with_reducible show wpAny _ _ (subscriptTail _ _ (Value.ref _) (Value.int 1 _)) _ _ _); k_dflt (refine' sub1 ?kT ?kX ?kF ?kN ?kS ?_ ?kB; (case kT => assumption); (case kF => k_asm); (case kX => k_asm); (case kN => k_asm); (case kS => first | kcj_all | walk_at "SUBS"); (case kB => with_unfolding_all rfl); k_whole); intro t9; (try dsimp only)))
local macro_rules | `(tactic| walk_at "subscriptTail") => `(tactic| (k_here; (with_reducible show wpAny _ _ (subscriptTail _ _ (Value.ref _) (Value.int 0 _)) _ _ _); k_dflt (refine' sub0 ?kT ?kX ?kF ?kN ?kS ?_ ?kB; (case kT => assumption); (case kF => k_asm); (case kX => k_asm); (case kN => k_asm); (case kS => first | kcj_all | walk_at "SUBS"); (case kB => with_unfolding_all rfl); k_whole); intro t9; (try dsimp only)))
-- the calls' common premises
local macro_rules | `(tactic| walk_at "ASK") => `(tactic| ((case k1 => k_asm); (case k2 => k_asm); (case k3 => k_asm); (case k4 => k_asm); (case k5 => k_asm); (case kK => first | exact rfl | assumption); (case kd => ktr_room); (case ku => ktr_units)))
local macro_rules | `(tactic| walk_at "TUP") => `(tactic| first | assumption | exact tupA_R0 _ _ | exact tupA_R1 _ _ | exact tupA_new (by k_mem) | (refine' TupA.mono (by assumption) ?kS; (case kS => kcj_all)))
local macro_rules | `(tactic| walk_at "call ref") => `(tactic| (k_here; (with_reducible show wpAny _ _ (PySem.call (Value.ref 41) _ _) _ _ _); k_dflt (refine' gcd_use ?k1 ?k2 ?k3 ?k4 ?k5 ?kK ?kd ?ku ?_; walk_at "ASK"; k_whole); intro t9 h9 tk9 F9 N9; (try dsimp only); (try k_fold)))
-- a tuple comes back
local macro_rules | `(tactic| walk_at "BACK") => `(tactic| (refine' retT_end (by assumption) ?ex ?ey ?ef ?en ?em ?es ?el; (case ef => k_asm); (case en => k_asm); (case em => k_mem); (case es => kcj_all); (case ex => exact rfl); (case ey => exact rfl); (case el => first | assumption | fail "BACK: order")))
-- steps up to a loop
local macro_rules | `(tactic| walk_at "UPTO") => `(tactic| repeat' ((fail_if_success (with_reducible show wpAny _ _ (pyIter (Value.ref _)) (fun it s₂ => LoopAtV _ _ _ _ _ _ _ _ _ it s₂) _ _)); first | (k_unfold; (try dsimp only)) | (k_end; wrow_close) | walk1 | (dsimp only; walk1) | (leave1; try dsimp only) | fail "no step"))
-- steps up to a turn's end
local macro_rules | `(tactic| walk_at "TOEND") => `(tactic| repeat' ((fail_if_success (with_reducible show InvEndG _ _ _ _ _ _)); first | (k_unfold; (try dsimp only)) | (k_end; wrow_close) | walk1 | (dsimp only; walk1) | (leave1; try dsimp only) | fail "no step"))
local macro_rules | `(tactic| walk_at "SUB") => `(tactic| first | kcj_all | kd_subs | ktd_sub | walk_at "SUBS")
local macro_rules | `(tactic| walk_at "TUP") => `(tactic| first | assumption | exact tupA_R0 _ _ | exact tupA_R1 _ _ | exact tupA_new (by k_mem) | (refine' TupA.mono (by assumption) ?kS; (case kS => walk_at "SUB")))
local macro_rules | `(tactic| walk_at "call ref") => `(tactic| (k_here; (with_reducible show wpAny _ _ (PySem.call (Value.ref 50) _ _) _ _ _); k_dflt (refine' rat_use ?k1 ?k2 ?k3 ?k4 ?k5 ?kK ?kd ?ku ?ky ?_; walk_at "ASK"; (case ky => first | assumption | omega | fail "RAT: the bottom"); k_whole); intro D9 t9 u9 c9 h9 tk9 F9 N9 l9; (have l8 := l9); (try k_lt l8); (try dsimp only); (try k_fold)))
local macro_rules | `(tactic| walk_at "call ref") => `(tactic| (k_here; (with_reducible show wpAny _ _ (PySem.call (Value.ref 57) _ _) _ _ _); k_dflt (refine' radd_use ?k1 ?k2 ?k3 ?k4 ?k5 ?kK ?kd ?ku ?kt ?kT ?ky ?kY ?_; walk_at "ASK"; (case kt => walk_at "TUP"); (case kT => walk_at "TUP"); (case ky => first | assumption | omega | fail "RADD: a bottom"); (case kY => first | assumption | omega | fail "RADD: a bottom"); k_whole); intro D9 t9 u9 c9 h9 tk9 F9 N9 l9; (have l8 := l9); (try k_lt l8); (try dsimp only); (try k_fold)))
local macro_rules | `(tactic| walk_at "call ref") => `(tactic| (k_here; (with_reducible show wpAny _ _ (PySem.call (Value.ref 64) _ _) _ _ _); k_dflt (refine' rmul_use ?k1 ?k2 ?k3 ?k4 ?k5 ?kK ?kd ?ku ?kt ?kT ?ky ?kY ?kX ?_; walk_at "ASK"; (case kt => walk_at "TUP"); (case kT => walk_at "TUP"); (case ky => first | assumption | omega | fail "RMUL: a bottom"); (case kY => first | assumption | omega | fail "RMUL: a bottom"); (case kX => first | assumption | omega | fail "RMUL: a top"); k_whole); intro D9 t9 u9 c9 h9 tk9 F9 N9 l9; (have l8 := l9); (try k_lt l8); (try dsimp only); (try k_fold)))
local macro_rules | `(tactic| walk_at "call ref") => `(tactic| (k_here; (with_reducible show wpAny _ _ (PySem.call (Value.ref 71) _ _) _ _ _); k_dflt (refine' rdiv_use ?k1 ?k2 ?k3 ?k4 ?k5 ?kK ?kd ?ku ?kt ?kT ?ky ?kX ?kY ?_; walk_at "ASK"; (case kt => walk_at "TUP"); (case kT => walk_at "TUP"); (case ky => first | assumption | omega | fail "RDIV: a bottom"); (case kY => first | assumption | omega | fail "RDIV: a bottom"); (case kX => first | assumption | omega | fail "RDIV: a top"); k_whole); intro D9 t9 u9 c9 h9 tk9 F9 N9 l9; (have l8 := l9); (try k_lt l8); (try dsimp only); (try k_fold)))
local macro_rules | `(tactic| walk_at "call ref") => `(tactic| (k_here; (with_reducible show wpAny _ _ (PySem.call (Value.ref 78) _ _) _ _ _); k_dflt (refine' rneg_use ?k1 ?k2 ?k3 ?k4 ?k5 ?kK ?kd ?ku ?kt ?_; walk_at "ASK"; (case kt => walk_at "TUP"); k_whole); intro D9 t9 u9 c9 h9 tk9 F9 N9 l9; (have l8 := l9); (try k_lt l8); (try dsimp only); (try k_fold)))
local macro_rules | `(tactic| walk_at "call ref") => `(tactic| (k_here; (with_reducible show wpAny _ _ (PySem.call (Value.ref 85) _ _) _ _ _); k_dflt (refine' binT_use ?k1 ?k2 ?k3 ?k4 ?k5 ?kK ?kd ?ku ?kn ?_; walk_at "ASK"; (case kn => first | assumption | omega | fail "BIN: n"); k_whole); intro D9 v9 c9 h9 tk9 i9 F9 N9 l9; (have l8 := l9); (try k_lt l8); (try dsimp only); (try k_fold)))
local macro_rules | `(tactic| walk_at "subscriptTail") => `(tactic| (k_here; (with_reducible show wpAny _ _ (subscriptTail _ _ (Value.ref _) (Value.int _ _)) _ _ _); k_dflt (refine' subL ?k1 ?k2 ?k3 ?k4 ?k5 ?k6 ?_ ?k7; (case k2 => k_asm); (case k1 => k_mem); (case k3 => assumption); (case k4 => first | assumption | omega); (case k5 => omega); (case k6 => assumption); (case k7 => with_unfolding_all rfl); k_whole); intro a9 t9; (try dsimp only)))
local macro_rules | `(tactic| walk_at "call ref") => `(tactic| (k_here; (with_reducible show wpAny _ _ (PySem.call (Value.ref 92) _ _) _ _ _); k_dflt (refine' bern_use ?k1 ?k2 ?k3 ?k4 ?k5 ?kK ?kd ?ku ?kn ?_; walk_at "ASK"; (case kn => first | assumption | omega | fail "BERN: n"); k_whole); intro D9 v9 c9 tl9 h9 tk9 i9 F9 N9; (try simp only [List.cons_append, List.append_assoc] at N9); (try simp only [List.cons_append, List.append_assoc] at i9); (try dsimp only); (try k_fold)))
local macro_rules | `(tactic| walk_at "INS") => `(tactic| ((try simp only [List.nil_append, List.append_nil] at *); simp only [List.mem_append, List.mem_cons, List.not_mem_nil, or_false, false_or, List.cons_append] at *; first | assumption | grind))
local macro_rules | `(tactic| walk_at "SUBS") => `(tactic| (intro p hp; simp only [List.mem_append, List.mem_cons, List.not_mem_nil, or_false, false_or, List.cons_append, List.nil_append, List.append_nil] at hp ⊢; first | assumption | grind))
-- a range as it stands, never value by value
local macro_rules | `(tactic| walk_at "call type:range") => `(tactic| (k_here; (rename Fr _ _ _ _ => fR'); (rename News _ _ _ _ => nR'); (with_unfolding_all first | refine range1_rows fR' nR' ?_ | refine range2_rows fR' nR' ?_); intro _ _ _ _ _ _ _ _ _))
-- a def with captured names
local macro_rules | `(tactic| walk_at "ENTERC") => `(tactic| (refine' code_defC ?k1 ?k2 ?k3 ?k4 ?k5 ?kA ?kF ?kK ?k6 ?k7 ?k8 ?k9 ?kB ?kD ?_ ?c2 ?c3 ?c4; (case kA => exact rfl); (case kF => exact rfl); (case kK => assumption); (case k1 => k_asm); (case k2 => k_asm); (case k3 => k_asm); (case k4 => k_asm); (case k5 => k_asm); (case k6 => k_is); (case k7 => k_is); (case k8 => ktr_room); (case k9 => exact BindsTo.of_eq rfl); (case kB => exact rfl); (case kD => decide +kernel); (case c2 => exact rfl); (case c3 => exact rfl); (case c4 => exact rfl); k_whole; intro g' L' h' tk' cells' FG' F' N' Y' B' X' T' l1; (try k_lt l1); k_cells Y'; (try simp only [List.cons_append, List.nil_append] at N'); (try dsimp only); (try k_lift B'); (try k_fold)))
local macro_rules | `(tactic| walk_at "call ref") => `(tactic| (k_here; (with_reducible show wpAny _ _ (PySem.call (Value.ref 125) _ _) _ _ _); k_dflt (refine' byp_use ?k1 ?k2 ?k3 ?k4 ?k5 ?kK ?kd ?ku ?kt ?kx ?ky ?kp ?_; walk_at "ASK"; (case kt => walk_at "TUP"); (case kx => first | assumption | omega | fail "BYP: a top"); (case ky => first | assumption | omega | fail "BYP: a bottom"); (case kp => first | assumption | omega | fail "BYP: the place"); k_whole); intro D9 t9 u9 c9 h9 tk9 F9 N9 l9; (have l8 := l9); (try k_lt l8); (try dsimp only); (try k_fold)))
-- a range by steps
local macro_rules | `(tactic| walk_at "call type:range") => `(tactic| (k_here; (with_reducible show wpAny _ _ (PySem.call (Value.type _) [_, _, _] _) _ _ _); (rename Fr _ _ _ _ => fR'); (rename News _ _ _ _ => nR'); (with_unfolding_all refine range3_rows fR' nR' (by decide) ?_); intro _ _ _ _ _ _ _ _ _))
-- the length of a list of numbers
local macro_rules | `(tactic| walk_at "call builtin:len") => `(tactic| (k_here; (with_reducible show wpAny _ _ (PySem.call (Value.builtin "len") [Value.ref _] _) _ _ _); k_dflt (refine' lenL ?k1 ?k2 ?k3 ?_; (case k1 => k_asm); (case k2 => k_mem); (case k3 => omega); k_whole)))
-- the dict of the numbers met
local macro_rules | `(tactic| walk_at "getMethod ref") => `(tactic| (k_here; (with_reducible show wpAny _ _ (getMethod (Value.ref _) (Str.ofString "get") _) _ _ _); k_dflt (refine' kdg_method (knd := PySem.intKind _ _) ?k1 ?k2 ?k3 ?_; (case k1 => k_asm); (case k2 => k_mem); (case k3 => k_asm))))
local macro_rules | `(tactic| walk_at "call builtin:dict.get") => `(tactic| (k_here; k_dflt (refine' met_get ?kN ?kp ?kd ?kl ?kM ?kA ?kG ?kI ?_; (case kN => k_asm); (case kp => k_mem); (case kd => k_asm); (case kl => k_asm); (case kM => k_asm); (case kA => k_mem); (case kG => k_asm); (case kI => k_asm); k_whole); intro a9 x9 y9 h9 g9 z9; (try dsimp only)))
local macro_rules | `(tactic| walk_at "setItem ref int") => `(tactic| (k_here; k_dflt (refine' kda_set (knd := PySem.intKind _ _) ?F ?N ?U ?d (intKind_is _ _ _ _) ?z ?_; (case F => k_asm); (case N => k_asm); (case U => k_updF); (case d => k_asm); (case z => rw [sizeLine_eq]; omega)); intro h' o' F' N' hd'; (try dsimp only at N')))
section
variable {w : World} {mean : ExcName → Option Value} {mg mb : Str → Option Value} {dp un : Nat} {gd : Option (List Code)} {cn : Str} {cs : Scope} {a : Addr} {ccd : Value} {cl : List (Str × Addr)} {outer : List Env} {A₀ : Around} {base h₀ : Heap} {L : Addr} {m : Str → Option Value} {s : Shared} {Q E : Value → Shared → Prop} {news : List (Addr × Obj)}
theorem kum_use {j q : Nat} {vs : List Value} {Dr : Addr} {cr : Nat} {tp : Tok} (B : Below A₀ base outer h₀) (F : Fr h₀ L s.heap m) (X : (hd.heap_39 w.params).In h₀) (N : News h₀ L s.heap news) (T : Top hd.view_39 (looseW hd.view_39 []) mean mg mb h₀) (hk : cs.kind = .function) (hdp : dp + 2 < recursionLimit) (hu : un + 16 < cLine)
    (hm : (Dr, listOf vs.toArray cr) ∈ news) (hL : TupL (hd.heap_39 w.params) news vs (bernT.take (2 * q + 1))) (hq : 1 ≤ q ∧ q ≤ 6) (hj : j < 6)
    (hret : RetB h₀ L m news s Q true) : wpAny (model PySem.Challenge.rw_sa0076_01.row.prog w) (ktrTop dp un gd cn cs L a ccd cl outer) (call (.ref 132) [.ref Dr, .int (primE j) tp]) Q E s := by
  revert X; k_fill; intro X; w_top off
  have N2 : News h₀ L s.heap ((Dr, listOf vs.toArray cr) :: news) := fun p hp => by
    rcases List.mem_cons.mp hp with rfl | hp
    · exact N _ hm
    · exact N p hp
  clear N
  obtain ⟨hq0, hq1⟩ := hq
  have hpr := prim_ok j hj
  obtain ⟨hp1, hp2⟩ := hpr
  have hvl : vs.length = 2 * q + 1 := by
    rw [hL.length, List.length_take]
    show min (2 * q + 1) 13 = _
    omega
  refine wpAny_call ?_
  k_dflt cell_enter
  walk_at "UPTO"
  rename Fr _ _ _ _ => lF
  rename News _ _ _ _ => lN
  rename IsRange _ _ _ _ _ _ _ _ => rgX
  rename_i dm hh1 od lod hsd fsd hid fid l1 hh2 fR nR hh3 tkq tq uq vq ax
  have lN2 := lN
  have hrs : Builtin.Range.rangeSize 2 (vs.length : Int) 2 = (q : Int) := by
    rw [hvl]
    rcases (show q = 1 ∨ q = 2 ∨ q = 3 ∨ q = 4 ∨ q = 5 ∨ q = 6 by omega) with rfl | rfl | rfl | rfl | rfl | rfl <;> decide
  have hsm : Builtin.Range.small 2 (vs.length : Int) 2 = true := by
    rw [hvl]
    rcases (show q = 1 ∨ q = 2 ∨ q = 3 ∨ q = 4 ∨ q = 5 ∨ q = 6 by omega) with rfl | rfl | rfl | rfl | rfl | rfl <;> decide
  refine' kd_steps (σ := Obj × List (Int × Value)) (fun c => [(dm, c.1)]) ((Dr, listOf vs.toArray cr) :: news) (fun _ => []) (fun l c => c.1.IsDictOf (intKind PySem.Challenge.rw_sa0076_01.row.prog w) c.2 ∧ Met (hd.heap_39 w.params) l j c.2) [Str.ofString "here", Str.ofString "first"] (fun i c => c.2.length ≤ i) (dm :: Dr :: news.map (·.1)) (od, []) ?kh rgX hsm hrs lF lN2 ?ki ?ka ?kf ?kk ?kp ?kt ?kd
  case kh => exact rfl
  case ki => walk_at "SUBS"
  case ka => intro c; rfl
  case kf => exact ⟨hid, fun kv hkv => by cases hkv⟩
  case kk => intro p hp; cases hp
  case kp => exact Nat.le_refl 0
  case kt =>
    rintro ⟨o, kvs⟩ tl i k t u h9 tk9 own hk9 hi hsep hoff ⟨hD, hMt⟩ hP F9 N9
    clear lF lN lN2 rgX fR nR
    have kMark := kstMark
    have kMark' := kdMark
    have o1 := hsep.one
    have o2 := hsep.two
    have o3 := hsep.three
    dsimp only [kstB] at F9
    dsimp only at N9 hD hMt hP
    simp only [List.nil_append, List.cons_append] at N9 hMt
    have ek : k = 2 * (i : Int) + 2 := by omega
    have ekn : k.toNat = 2 * i + 2 := by omega
    have hf : (bernT.take (2 * q + 1))[k.toNat]? = some ((bernE (2 * i + 2)).1, (bernE (2 * i + 2)).2) := by
      rw [ekn]
      exact bern_take14 _ (by omega) _ (by omega)
    have hb := bern_ok (2 * i + 2) (by omega)
    obtain ⟨hb1, hb2⟩ := hb
    have eX : ratX (bernE (2 * i + 2)).1 (k * (bernE (2 * i + 2)).2) = herX i := by rw [ek]; rfl
    have eY : ratY (bernE (2 * i + 2)).1 (k * (bernE (2 * i + 2)).2) = herY i := by rw [ek]; rfl
    have her := her_ok i (by omega)
    obtain ⟨her1, her2⟩ := her
    rw [← eY] at her1
    rw [← eX] at her2
    by_cases hz : k.fmod (primE j - 1) = 0
    · try k_fold
      walk_at "TOEND"
      rename Fr _ _ _ _ => FE
      rename News _ _ _ _ => NE
      refine kd_end (σ := Obj × List (Int × Value)) (o, kvs) [] hsep FE NE (by walk_at "SUBS") (fun p hp => ?_) rfl (fun q hq => by cases hq) (fun q hq => by cases hq) (fun p hp => by cases hp) (by kst_same) ⟨hD, hMt⟩ (Nat.le_succ_of_le hP)
      walk_at "INS"
    · have hku := kum_ok j hj i (by omega) (by rw [← ek]; exact hz)
      obtain ⟨hku1, hku2⟩ := hku
      have hG : kumG j (k.fmod (primE j - 1)) (herX i) (herY i) := fun i₂ hi₂ e => hku2 i₂ hi₂ (by rw [e, ek])
      have hI : ∀ x y, kumG j (k.fmod (primE j - 1)) x y → (x * herY i - herX i * y).fmod (primE j) = 0 := fun x y g => g i (by omega) (by rw [ek])
      rw [← eY] at hku1
      rw [← eX, ← eY] at hG hI
      try k_fold
      walk_at "TOEND"
      rename Fr _ _ _ _ => FE
      rename News _ _ _ _ => NE
      rename_i D9 tD uD cD hD9 tkD lD l8D hq2 tq1 tq2 aF xF yF hAF gF zF hq1 Fq Nq tq3 hE oN hdN tA tB
      refine kd_end1 (σ := Obj × List (Int × Value)) (oN, PySem.stored kvs (k.fmod (primE j - 1)) (.ref aF)) D9 (tupO (ratX (bernE (2 * i + 2)).1 (k * (bernE (2 * i + 2)).2)) tD (ratY (bernE (2 * i + 2)).1 (k * (bernE (2 * i + 2)).2)) uD cD) hsep FE NE (by k_mem) (by walk_at "SUBS") rfl (fun b hb => ?_) (fun p hp => lD p (by walk_at "INS")) (fun p hp => by cases hp) (by kst_same) ⟨hdN, fun kv hkv => ?_⟩ (Nat.le_trans len_stored (Nat.succ_le_succ hP))
      · rcases List.mem_cons.mp hb with rfl | hb
        · exact lD (b, o) (List.Mem.head _)
        · obtain ⟨p, hp, rfl⟩ := List.mem_map.mp (show b ∈ ((Dr, listOf vs.toArray cr) :: news).map (·.1) from hb)
          exact lD p (by walk_at "INS")
      · rcases mem_stored hkv with h | rfl
        · obtain ⟨a, x, y, e, hT, hG'⟩ := hMt kv h
          exact ⟨a, x, y, e, hT.mono (by walk_at "SUBS"), hG'⟩
        · exact ⟨aF, xF, yF, rfl, hAF.mono (by walk_at "SUBS"), gF⟩
  case kd =>
    rintro ⟨o, kvs⟩ tl u h9 tk9 hoff hO hP F9 N9
    clear lF lN lN2 rgX fR nR
    dsimp only [kstB] at F9
    dsimp only at N9 hP
    simp only [List.nil_append, List.cons_append] at N9
    try k_fold
    k_steps
    rename News h₀ L _ _ => nE
    refine retB_end hret rfl (by k_asm) nE ?_
    intro p hp
    simp only [List.mem_append, List.mem_cons]
    simp only [hp, true_or, or_true]
end
end Mine
-- part W2
set_option maxHeartbeats 1000000
namespace Mine
-- the branch that the facts decide
local macro_rules | `(tactic| walk_at "ite") => `(tactic| (k_here; k_openite; first | (refine ite_neg (by (simp only [decide_eq_true_eq, beq_iff_eq, bne_iff_ne, ne_eq, gt_iff_lt, ge_iff_le]; omega)) ?_) | (refine ite_pos (by (simp only [decide_eq_true_eq, beq_iff_eq, bne_iff_ne, ne_eq, gt_iff_lt, ge_iff_le]; omega)) ?_)))
-- a tuple's items
local macro_rules | `(tactic| walk_at "subscriptTail") => `(tactic| (k_here; (with_reducible show wpAny _ _ (subscriptTail _ _ (Value.ref _) (Value.int 1 _)) _ _ _); k_dflt (refine' sub1 ?kT ?kX ?kF ?kN ?kS ?_ ?kB; (case kT => assumption); (case kF => k_asm); (case kX => k_asm); (case kN => k_asm); (case kS => first | kcj_all | walk_at "SUBS"); (case kB => with_unfolding_all rfl); k_whole); intro t9; (try dsimp only)))
local macro_rules | `(tactic| walk_at "subscriptTail") => `(tactic| (k_here; (with_reducible show wpAny _ _ (subscriptTail _ _ (Value.ref _) (Value.int 0 _)) _ _ _); k_dflt (refine' sub0 ?kT ?kX ?kF ?kN ?kS ?_ ?kB; (case kT => assumption); (case kF => k_asm); (case kX => k_asm); (case kN => k_asm); (case kS => first | kcj_all | walk_at "SUBS"); (case kB => with_unfolding_all rfl); k_whole); intro t9; (try dsimp only)))
-- the calls' common premises
local macro_rules | `(tactic| walk_at "ASK") => `(tactic| ((case k2 => k_asm); (case k1 => k_asm); (case k3 => k_asm); (case k4 => k_asm); (case k5 => k_asm); (case kK => first | exact rfl | assumption); (case kd => ktr_room); (case ku => ktr_units)))
local macro_rules | `(tactic| walk_at "TUP") => `(tactic| first | assumption | exact tupA_R0 _ _ | exact tupA_R1 _ _ | exact tupA_new (by k_mem) | (refine' TupA.mono (by assumption) ?kS; (case kS => kcj_all)))
local macro_rules | `(tactic| walk_at "call ref") => `(tactic| (k_here; (with_reducible show wpAny _ _ (PySem.call (Value.ref 41) _ _) _ _ _); k_dflt (refine' gcd_use ?k1 ?k2 ?k3 ?k4 ?k5 ?kK ?kd ?ku ?_; walk_at "ASK"; k_whole); intro t9 h9 tk9 F9 N9; (try dsimp only); (try k_fold)))
-- a tuple comes back
local macro_rules | `(tactic| walk_at "BACK") => `(tactic| (refine' retT_end (by assumption) ?ex ?ey ?ef ?en ?em ?es ?el; (case ef => k_asm); (case en => k_asm); (case em => k_mem); (case es => kcj_all); (case ex => exact rfl); (case ey => exact rfl); (case el => first | assumption | fail "BACK: order")))
-- steps up to a loop
local macro_rules | `(tactic| walk_at "UPTO") => `(tactic| repeat' ((fail_if_success (with_reducible show wpAny _ _ (pyIter (Value.ref _)) (fun it s₂ => LoopAtV _ _ _ _ _ _ _ _ _ it s₂) _ _)); first | (k_unfold; (try dsimp only)) | (k_end; wrow_close) | walk1 | (dsimp only; walk1) | (leave1; try dsimp only) | fail "no step"))
-- steps up to a turn's end
local macro_rules | `(tactic| walk_at "TOEND") => `(tactic| repeat' ((fail_if_success (with_reducible show InvEndG _ _ _ _ _ _)); first | (k_unfold; (try dsimp only)) | (k_end; wrow_close) | walk1 | (dsimp only; walk1) | (leave1; try dsimp only) | fail "no step"))
local macro_rules | `(tactic| walk_at "SUB") => `(tactic| first | kcj_all | kd_subs | ktd_sub | walk_at "SUBS")
local macro_rules | `(tactic| walk_at "TUP") => `(tactic| first | assumption | exact tupA_R0 _ _ | exact tupA_R1 _ _ | exact tupA_new (by k_mem) | (refine' TupA.mono (by assumption) ?kS; (case kS => walk_at "SUB")))
local macro_rules | `(tactic| walk_at "call ref") => `(tactic| (k_here; (with_reducible show wpAny _ _ (PySem.call (Value.ref 50) _ _) _ _ _); k_dflt (refine' rat_use ?k1 ?k2 ?k3 ?k4 ?k5 ?kK ?kd ?ku ?ky ?_; walk_at "ASK"; (case ky => first | assumption | omega | fail "RAT: the bottom"); k_whole); intro D9 t9 u9 c9 h9 tk9 F9 N9 l9; (have l8 := l9); (try k_lt l8); (try dsimp only); (try k_fold)))
local macro_rules | `(tactic| walk_at "call ref") => `(tactic| (k_here; (with_reducible show wpAny _ _ (PySem.call (Value.ref 57) _ _) _ _ _); k_dflt (refine' radd_use ?k1 ?k2 ?k3 ?k4 ?k5 ?kK ?kd ?ku ?kt ?kT ?ky ?kY ?_; walk_at "ASK"; (case kt => walk_at "TUP"); (case kT => walk_at "TUP"); (case ky => first | assumption | omega | fail "RADD: a bottom"); (case kY => first | assumption | omega | fail "RADD: a bottom"); k_whole); intro D9 t9 u9 c9 h9 tk9 F9 N9 l9; (have l8 := l9); (try k_lt l8); (try dsimp only); (try k_fold)))
local macro_rules | `(tactic| walk_at "call ref") => `(tactic| (k_here; (with_reducible show wpAny _ _ (PySem.call (Value.ref 64) _ _) _ _ _); k_dflt (refine' rmul_use ?k1 ?k2 ?k3 ?k4 ?k5 ?kK ?kd ?ku ?kt ?kT ?ky ?kY ?kX ?_; walk_at "ASK"; (case kt => walk_at "TUP"); (case kT => walk_at "TUP"); (case ky => first | assumption | omega | fail "RMUL: a bottom"); (case kY => first | assumption | omega | fail "RMUL: a bottom"); (case kX => first | assumption | omega | fail "RMUL: a top"); k_whole); intro D9 t9 u9 c9 h9 tk9 F9 N9 l9; (have l8 := l9); (try k_lt l8); (try dsimp only); (try k_fold)))
local macro_rules | `(tactic| walk_at "call ref") => `(tactic| (k_here; (with_reducible show wpAny _ _ (PySem.call (Value.ref 71) _ _) _ _ _); k_dflt (refine' rdiv_use ?k1 ?k2 ?k3 ?k4 ?k5 ?kK ?kd ?ku ?kt ?kT ?ky ?kX ?kY ?_; walk_at "ASK"; (case kt => walk_at "TUP"); (case kT => walk_at "TUP"); (case ky => first | assumption | omega | fail "RDIV: a bottom"); (case kY => first | assumption | omega | fail "RDIV: a bottom"); (case kX => first | assumption | omega | fail "RDIV: a top"); k_whole); intro D9 t9 u9 c9 h9 tk9 F9 N9 l9; (have l8 := l9); (try k_lt l8); (try dsimp only); (try k_fold)))
local macro_rules | `(tactic| walk_at "call ref") => `(tactic| (k_here; (with_reducible show wpAny _ _ (PySem.call (Value.ref 78) _ _) _ _ _); k_dflt (refine' rneg_use ?k1 ?k2 ?k3 ?k4 ?k5 ?kK ?kd ?ku ?kt ?_; walk_at "ASK"; (case kt => walk_at "TUP"); k_whole); intro D9 t9 u9 c9 h9 tk9 F9 N9 l9; (have l8 := l9); (try k_lt l8); (try dsimp only); (try k_fold)))
local macro_rules | `(tactic| walk_at "call ref") => `(tactic| (k_here; (with_reducible show wpAny _ _ (PySem.call (Value.ref 85) _ _) _ _ _); k_dflt (refine' binT_use ?k1 ?k2 ?k3 ?k4 ?k5 ?kK ?kd ?ku ?kn ?_; walk_at "ASK"; (case kn => first | assumption | omega | fail "BIN: n"); k_whole); intro D9 v9 c9 h9 tk9 i9 F9 N9 l9; (have l8 := l9); (try k_lt l8); (try dsimp only); (try k_fold)))
local macro_rules | `(tactic| walk_at "subscriptTail") => `(tactic| (k_here; (with_reducible show wpAny _ _ (subscriptTail _ _ (Value.ref _) (Value.int _ _)) _ _ _); k_dflt (refine' subL ?k1 ?k2 ?k3 ?k4 ?k5 ?k6 ?_ ?k7; (case k2 => k_asm); (case k1 => k_mem); (case k3 => assumption); (case k4 => first | assumption | omega); (case k5 => omega); (case k6 => assumption); (case k7 => with_unfolding_all rfl); k_whole); intro a9 t9; (try dsimp only)))
local macro_rules | `(tactic| walk_at "call ref") => `(tactic| (k_here; (with_reducible show wpAny _ _ (PySem.call (Value.ref 92) _ _) _ _ _); k_dflt (refine' bern_use ?k1 ?k2 ?k3 ?k4 ?k5 ?kK ?kd ?ku ?kn ?_; walk_at "ASK"; (case kn => first | assumption | omega | fail "BERN: n"); k_whole); intro D9 v9 c9 tl9 h9 tk9 i9 F9 N9; (try simp only [List.cons_append, List.append_assoc] at N9); (try simp only [List.cons_append, List.append_assoc] at i9); (try dsimp only); (try k_fold)))
local macro_rules | `(tactic| walk_at "INS") => `(tactic| ((try simp only [List.nil_append, List.append_nil] at *); simp only [List.mem_append, List.mem_cons, List.not_mem_nil, or_false, false_or, List.cons_append] at *; first | assumption | grind))
local macro_rules | `(tactic| walk_at "SUBS") => `(tactic| (intro p hp; simp only [List.mem_append, List.mem_cons, List.not_mem_nil, or_false, false_or, List.cons_append, List.nil_append, List.append_nil] at hp ⊢; first | assumption | grind))
-- a range as it stands, never value by value
local macro_rules | `(tactic| walk_at "call type:range") => `(tactic| (k_here; (rename Fr _ _ _ _ => fR'); (rename News _ _ _ _ => nR'); (with_unfolding_all first | refine range1_rows fR' nR' ?_ | refine range2_rows fR' nR' ?_); intro _ _ _ _ _ _ _ _ _))
-- a def with captured names
local macro_rules | `(tactic| walk_at "ENTERC") => `(tactic| (refine' code_defC ?k1 ?k2 ?k3 ?k4 ?k5 ?kA ?kF ?kK ?k6 ?k7 ?k8 ?k9 ?kB ?kD ?_ ?c2 ?c3 ?c4; (case kA => exact rfl); (case kF => exact rfl); (case kK => assumption); (case k1 => k_asm); (case k2 => k_asm); (case k3 => k_asm); (case k4 => k_asm); (case k5 => k_asm); (case k6 => k_is); (case k7 => k_is); (case k8 => ktr_room); (case k9 => exact BindsTo.of_eq rfl); (case kB => exact rfl); (case kD => decide +kernel); (case c2 => exact rfl); (case c3 => exact rfl); (case c4 => exact rfl); k_whole; intro g' L' h' tk' cells' FG' F' N' Y' B' X' T' l1; (try k_lt l1); k_cells Y'; (try simp only [List.cons_append, List.nil_append] at N'); (try dsimp only); (try k_lift B'); (try k_fold)))
local macro_rules | `(tactic| walk_at "call ref") => `(tactic| (k_here; (with_reducible show wpAny _ _ (PySem.call (Value.ref 125) _ _) _ _ _); k_dflt (refine' byp_use ?k1 ?k2 ?k3 ?k4 ?k5 ?kK ?kd ?ku ?kt ?kx ?ky ?kp ?_; walk_at "ASK"; (case kt => walk_at "TUP"); (case kx => first | assumption | omega | fail "BYP: a top"); (case ky => first | assumption | omega | fail "BYP: a bottom"); (case kp => first | assumption | omega | fail "BYP: the place"); k_whole); intro D9 t9 u9 c9 h9 tk9 F9 N9 l9; (have l8 := l9); (try k_lt l8); (try dsimp only); (try k_fold)))
-- a range by steps
local macro_rules | `(tactic| walk_at "call type:range") => `(tactic| (k_here; (with_reducible show wpAny _ _ (PySem.call (Value.type _) [_, _, _] _) _ _ _); (rename Fr _ _ _ _ => fR'); (rename News _ _ _ _ => nR'); (with_unfolding_all refine range3_rows fR' nR' (by decide) ?_); intro _ _ _ _ _ _ _ _ _))
-- the length of a list of numbers
local macro_rules | `(tactic| walk_at "call builtin:len") => `(tactic| (k_here; (with_reducible show wpAny _ _ (PySem.call (Value.builtin "len") [Value.ref _] _) _ _ _); k_dflt (refine' lenL ?k1 ?k2 ?k3 ?_; (case k1 => k_asm); (case k2 => k_mem); (case k3 => omega); k_whole)))
-- the dict of the numbers met
local macro_rules | `(tactic| walk_at "getMethod ref") => `(tactic| (k_here; (with_reducible show wpAny _ _ (getMethod (Value.ref _) (Str.ofString "get") _) _ _ _); k_dflt (refine' kdg_method (knd := PySem.intKind _ _) ?k1 ?k2 ?k3 ?_; (case k1 => k_asm); (case k2 => k_mem); (case k3 => k_asm))))
local macro_rules | `(tactic| walk_at "call builtin:dict.get") => `(tactic| (k_here; k_dflt (refine' met_get ?kN ?kp ?kd ?kl ?kM ?kA ?kG ?kI ?_; (case kN => k_asm); (case kp => k_mem); (case kd => k_asm); (case kl => k_asm); (case kM => k_asm); (case kA => k_mem); (case kG => k_asm); (case kI => k_asm); k_whole); intro a9 x9 y9 h9 g9 z9; (try dsimp only)))
local macro_rules | `(tactic| walk_at "setItem ref int") => `(tactic| (k_here; k_dflt (refine' kda_set (knd := PySem.intKind _ _) ?F ?N ?U ?d (intKind_is _ _ _ _) ?z ?_; (case F => k_asm); (case N => k_asm); (case U => k_updF); (case d => k_asm); (case z => rw [sizeLine_eq]; omega)); intro h' o' F' N' hd'; (try dsimp only at N')))
local macro_rules | `(tactic| walk_at "LSUB") => `(tactic| (refine' TupL.mono (by assumption) ?kS; (case kS => walk_at "SUB")))
local macro_rules | `(tactic| walk_at "call ref") => `(tactic| (k_here; (with_reducible show wpAny _ _ (PySem.call (Value.ref 99) _ _) _ _ _); k_dflt (refine' pow_use ?k1 ?k2 ?k3 ?k4 ?k5 ?kK ?kd ?ku ?kn ?_; walk_at "ASK"; (case kn => first | assumption | omega | fail "POW: k"); k_whole); intro D9 v9 c9 tl9 h9 tk9 i9 F9 N9; (try simp only [List.cons_append, List.append_assoc] at N9); (try simp only [List.cons_append, List.append_assoc] at i9); (try dsimp only); (try k_fold)))
local macro_rules | `(tactic| walk_at "call ref") => `(tactic| (k_here; (with_reducible show wpAny _ _ (PySem.call (Value.ref 118) _ _) _ _ _); k_dflt (refine' cla_use ?k1 ?k2 ?k3 ?k4 ?k5 ?kK ?kd ?ku ?kt ?kx ?ky ?kz ?_; walk_at "ASK"; (case kt => walk_at "TUP"); (case kx => assumption); (case ky => assumption); (case kz => assumption); k_whole); intro h9 tk9 F9 N9; (try dsimp only); (try k_fold)))
def claS (y : Int) (place : Int) : Int := ((claL place).map (fun p => y.fdiv p)).sum
theorem cla_ok : ∀ i : Nat, i < 6 → (bernE (2 * i + 2)).2 = (claL (2 * (i : Int) + 2)).foldl (· * ·) 1 ∧ ((bernE (2 * i + 2)).1 + ((claL (2 * (i : Int) + 2)).map (fun p => (bernE (2 * i + 2)).2.fdiv p)).sum).fmod (bernE (2 * i + 2)).2 = 0 := by decide +kernel
theorem sgn_ok : ∀ i : Nat, i < 6 → ((2 * (i : Int) + 2).fmod 4 = 2 → 0 < (bernE (2 * i + 2)).1) ∧ (¬ (2 * (i : Int) + 2).fmod 4 = 2 → (bernE (2 * i + 2)).1 < 0) := by decide +kernel
theorem fin_ok : ∀ k : Nat, k < 5 → 0 < k → ∀ j : Nat, j < 6 → (qatE k j (k + 2)).2 = 1 ∧ ((k : Int).fmod (primE j - 1) = 0 → (qatE k j (k + 2)).1.fmod (primE j) = primE j - 1) ∧ (¬ (k : Int).fmod (primE j - 1) = 0 → (qatE k j (k + 2)).1.fmod (primE j) = 0) := by decide +kernel
section
variable {prog : Program} {w : World} {A : Around} {E : Value → Shared → Prop} {s : Shared} {value slice : PySem.Expr} {a : Addr} {k : Int} {u t0 t1 t2 t3 t4 t5 : Tok} {Q : Value → Shared → Prop}
theorem menu_item (hT : IsTup s.heap a [Value.int 2 t0, Value.int 3 t1, Value.int 7 t2, Value.int 5 t3, Value.int 11 t4, Value.int 13 t5].toArray) (h0 : 0 ≤ k) (h1 : k < 6) (h : ∀ t, Q (.int (primE k.toNat) t) s)
    (hb : ∀ k u, subscripted slice false (.ref a) (.int k u) = operate [.ref a, .int k u] (getItem (.ref a) (.int k u)) := by intro _ _; with_unfolding_all rfl) :
    wpAny (model prog w) A (subscriptTail value slice (.ref a) (.int k u)) Q E s := by
  rcases (show k = 0 ∨ k = 1 ∨ k = 2 ∨ k = 3 ∨ k = 4 ∨ k = 5 by omega) with rfl | rfl | rfl | rfl | rfl | rfl
  · exact item_tupleT (j := 0) hT (by decide) (by decide) rfl rfl (h _) (hb _ _)
  · exact item_tupleT (j := 1) hT (by decide) (by decide) rfl rfl (h _) (hb _ _)
  · exact item_tupleT (j := 2) hT (by decide) (by decide) rfl rfl (h _) (hb _ _)
  · exact item_tupleT (j := 3) hT (by decide) (by decide) rfl rfl (h _) (hb _ _)
  · exact item_tupleT (j := 4) hT (by decide) (by decide) rfl rfl (h _) (hb _ _)
  · exact item_tupleT (j := 5) hT (by decide) (by decide) rfl rfl (h _) (hb _ _)
end
-- steps up to a draw, to the row, or to a loop
local macro_rules | `(tactic| walk_at "STOPS") => `(tactic| repeat' ((fail_if_success (with_reducible show wpAny _ _ (PySem.call (Value.ref 113) _ _) _ _ _)); (fail_if_success (with_reducible show wpAny _ _ (PySem.call (Value.ref 92) _ _) _ _ _)); (fail_if_success (with_reducible show wpAny _ _ (PySem.call (Value.ref 106) _ _) _ _ _)); (fail_if_success (with_reducible show wpAny _ _ (PySem.call (Value.ref 132) _ _) _ _ _)); (fail_if_success (with_reducible show wpAny _ _ (subscriptTail (PySem.Expr.Tuple _ _ _) _ (Value.ref _) (Value.int _ _)) _ _ _)); (fail_if_success (with_reducible show wpAny _ _ (pyIter (Value.ref _)) (fun it s₂ => LoopAtV _ _ _ _ _ _ _ _ _ it s₂) _ _)); first | (k_unfold; (try dsimp only)) | (k_end; wrow_close) | walk1 | (dsimp only; walk1) | (leave1; try dsimp only) | fail "no step"))
set_option maxHeartbeats 2000000
local macro_rules | `(tactic| walk_at "LAST") => `(tactic| (k_dflt (refine' kum_use ?k1 ?k2 ?k3 ?k4 ?k5 ?kK ?kd ?ku ?qm ?ql ?qq ?qj ?_; walk_at "ASK"; (case qm => k_mem); (case ql => walk_at "LSUB"); (case qq => omega); (case qj => omega)); intro hZ tkZ FZ NZ; (try dsimp only); (try k_fold); k_steps))
abbrev menuO (t : Nat) : Obj := tupV [Value.int 2 (t + 1 + 1), Value.int 3 (t + 1 + 1 + 1), Value.int 7 (t + 1 + 1 + 1 + 1), Value.int 5 (t + 1 + 1 + 1 + 1 + 1), Value.int 11 (t + 1 + 1 + 1 + 1 + 1 + 1), Value.int 13 (t + 1 + 1 + 1 + 1 + 1 + 1 + 1)] 0
theorem len4 (l : List Int) : (List.map (fun k' : Int => k') (List.take 4 l)).length ≤ 4 := by rw [List.length_map, List.length_take]; exact Nat.min_le_left _ _
theorem law_holds : PySem.Challenge.rw_sa0076_01.Holds := hd (by
  k_go0
  all_goals try k_fold
  walk_at "STOPS"
  rename Fr _ _ _ _ => F1
  rename News _ _ _ _ => N1
  rename_i Ds wsl hq3 hI' hC' hL' l1a hkl1 hkl gq hI8 hL8 Dl hq2 tk2 ols lp hq1 l1b hq0
  k_dflt (refine' draw_use (pl := lp) (dl := Dl) (c := 0) (cd := ys.length) (spot := 0) (rest := [(Dl, LCg.lst ys), (Ds, listOf wsl.toArray 0)]) ?k1 ?k2 ?k3 ?k4 ?k5 ?kK ?kd ?ku ?ks ?ko ?kl hI8 ?ke ?km ?kp ?_; walk_at "ASK"; (case ks => exact fun _ h => h); (case ko => k_all); (case kl => exact List.Mem.head _); (case ke => exact len4 _); (case km => decide); (case kp => decide))
  intro v1 tv1 tp1 c1 h1 tk1 hv10 hv11 F2 N2
  (try dsimp only)
  (try k_fold)
  walk_at "STOPS"
  rename Fr _ _ _ _ => F3
  rename News _ _ _ _ => N3
  rename_i Dt hr1 lt1
  k_dflt (refine' draw_use (pl := lp) (dl := Dl) (c := c1) (cd := ys.length) (spot := 0 + 1) (rest := [(Dt, menuO tk1), (Dl, LCg.lst ys), (Ds, listOf wsl.toArray 0)]) ?k1 ?k2 ?k3 ?k4 ?k5 ?kK ?kd ?ku ?ks ?ko ?kl hI8 ?ke ?km ?kp ?_; walk_at "ASK"; (case ks => exact List.forall_mem_cons.mpr ⟨List.Mem.tail _ (List.Mem.head _), List.forall_mem_cons.mpr ⟨List.Mem.head _, fun _ h => List.Mem.tail _ (List.Mem.tail _ h)⟩⟩); (case ko => k_all); (case kl => exact List.Mem.tail _ (List.Mem.head _)); (case ke => exact len4 _); (case km => decide); (case kp => decide))
  intro v2 tv2 tp2 c2 h2 tk2' hv20 hv21 F4 N4
  (try dsimp only)
  (try k_fold)
  walk_at "STOPS"
  refine' menu_item (News.isTup N4 (List.Mem.tail _ (List.Mem.head _))) hv20 hv21 ?_
  intro tme
  (try dsimp only)
  (try k_fold)
  walk_at "STOPS"
  rename Fr _ _ _ _ => F5
  rename News _ _ _ _ => N5
  k_dflt (refine' draw_use (pl := lp) (dl := Dl) (c := c2) (cd := ys.length) (spot := 0 + 1 + 1) (rest := [(Dt, menuO tk1), (Dl, LCg.lst ys), (Ds, listOf wsl.toArray 0)]) ?k1 ?k2 ?k3 ?k4 ?k5 ?kK ?kd ?ku ?ks ?ko ?kl hI8 ?ke ?km ?kp ?_; walk_at "ASK"; (case ks => exact fun _ h => h); (case ko => k_all); (case kl => exact List.Mem.tail _ (List.Mem.head _)); (case ke => exact len4 _); (case km => decide); (case kp => decide))
  intro v3 tv3 tp3 c3 h3 tk3' hv30 hv31 F6 N6
  (try dsimp only)
  (try k_fold)
  walk_at "STOPS"
  rename Fr _ _ _ _ => F7
  rename News _ _ _ _ => N7
  k_dflt (refine' bern_use ?k1 ?k2 ?k3 ?k4 ?k5 ?kK ?kd ?ku ?kn ?_; walk_at "ASK"; (case kn => omega))
  intro Dr vr cr tlr hr tkr iL F8 N8
  obtain ⟨NR, iL, N8⟩ : ∃ NR, TupL _ NR vr (bernT.take ((2 + 2 * v1).toNat + 1)) ∧ News _ _ hr ((Dr, listOf vr.toArray cr) :: NR) := ⟨_, iL, N8⟩
  clear N7 F7
  have eq1 : (2 + 2 * v1).toNat + 1 = 2 * (v1.toNat + 1) + 1 := by omega
  rw [eq1] at iL
  have hvl : vr.length = 2 * (v1.toNat + 1) + 1 := by
    rw [iL.length, List.length_take]
    show min _ 13 = _
    omega
  (try dsimp only)
  (try k_fold)
  walk_at "STOPS"
  rename Fr _ _ _ _ => F9
  rename News _ _ _ _ => N9
  rename IsRange _ _ _ _ _ _ _ _ => rgX
  have hrs : Builtin.Range.rangeSize 2 (2 + 2 * v1 + 1) 2 = ((v1.toNat + 1 : Nat) : Int) := by
    rcases (show v1 = 0 ∨ v1 = 1 ∨ v1 = 2 ∨ v1 = 3 ∨ v1 = 4 ∨ v1 = 5 by omega) with rfl | rfl | rfl | rfl | rfl | rfl <;> decide
  have hsm : Builtin.Range.small 2 (2 + 2 * v1 + 1) 2 = true := by
    rcases (show v1 = 0 ∨ v1 = 1 ∨ v1 = 2 ∨ v1 = 3 ∨ v1 = 4 ∨ v1 = 5 by omega) with rfl | rfl | rfl | rfl | rfl | rfl <;> decide
  have lN9 := N9
  refine' kd_steps (σ := Unit) (fun _ => []) ((Dr, listOf vr.toArray cr) :: NR) (fun _ => []) (fun _ _ => True) [] (fun _ _ => True) (Dr :: NR.map (·.1)) () ?mh rgX hsm hrs F9 lN9 ?mi ?ma trivial ?mk trivial ?mt ?md
  case mh => exact rfl
  case mi => walk_at "SUBS"
  case ma => intro c; rfl
  case mk => intro p hp; cases hp
  case mt =>
    rintro ⟨⟩ tl i k t u h9 tk9 own hk9 hi hsep hoff - - FT NT
    clear F9 N9 lN9 rgX
    have kMark := kstMark
    have kMark' := kdMark
    have o1 := hsep.one
    have o2 := hsep.two
    have o3 := hsep.three
    (try dsimp only [kstB] at FT)
    (try dsimp only at NT)
    (try simp only [List.nil_append, List.cons_append] at NT)
    have ek : k = 2 * (i : Int) + 2 := by omega
    have ekn : k.toNat = 2 * i + 2 := by omega
    have hf : (bernT.take (2 * (v1.toNat + 1) + 1))[k.toNat]? = some ((bernE (2 * i + 2)).1, (bernE (2 * i + 2)).2) := by
      rw [ekn]
      exact bern_take14 _ (by omega) _ (by omega)
    have hb := bern_ok (2 * i + 2) (by omega)
    obtain ⟨hb1, hb2⟩ := hb
    have hcl := cla_ok i (by omega)
    rw [← ek] at hcl
    obtain ⟨hcl1, hcl2⟩ := hcl
    have hsg := sgn_ok i (by omega)
    rw [← ek] at hsg
    obtain ⟨hsg1, hsg2⟩ := hsg
    by_cases hs : k.fmod 4 = 2
    · have hs1 := hsg1 hs
      clear hsg1 hsg2
      try k_fold
      walk_at "TOEND"
      rename Fr _ _ _ _ => FE
      rename News _ _ _ _ => NE
      refine kd_end (σ := Unit) () [] hsep FE NE (by walk_at "SUBS") (fun p hp => ?_) rfl (fun q hq => by cases hq) (fun q hq => by cases hq) (fun p hp => by cases hp) (by kst_same) trivial trivial
      walk_at "INS"
    · have hs1 := hsg2 hs
      clear hsg1 hsg2
      try k_fold
      walk_at "TOEND"
      rename Fr _ _ _ _ => FE
      rename News _ _ _ _ => NE
      refine kd_end (σ := Unit) () [] hsep FE NE (by walk_at "SUBS") (fun p hp => ?_) rfl (fun q hq => by cases hq) (fun q hq => by cases hq) (fun p hp => by cases hp) (by kst_same) trivial trivial
      walk_at "INS"
  case md =>
    rintro ⟨⟩ tl u h9 tk9 hoff - - FT NT
    clear F9 N9 lN9 rgX
    (try dsimp only [kstB] at FT)
    (try dsimp only at NT)
    (try simp only [List.nil_append, List.cons_append] at NT)
    try k_fold
    walk_at "STOPS"
    rename Fr _ _ _ _ => FQ
    rename News _ _ _ _ => NQ
    k_dflt (refine' qat_use (k := (1 + v3).toNat) (j := v2.toNat) ?k1 ?k2 ?k3 ?k4 ?k5 ?kK ?kd ?ku ?qm ?ql ?qa ?q0 ?q1 ?qj ?_; walk_at "ASK"; (case qm => k_mem); (case ql => walk_at "LSUB"); (case qa => exact tupA_new (by k_mem)); (case q0 => omega); (case q1 => omega); (case qj => omega))
    intro Dq tlq hq tkq FQ2 NQ2 AQ
    obtain ⟨tq1, tq2, IQ⟩ := AQ.is (by k_asm) FQ2 NQ2 (fun _ h => h)
    have hfin := fin_ok (1 + v3).toNat (by omega) (by omega) v2.toNat (by omega)
    rw [show (((1 + v3).toNat : Nat) : Int) = 1 + v3 by omega] at hfin
    obtain ⟨hf1, hf2, hf3⟩ := hfin
    have hpr := prim_ok v2.toNat (by omega)
    obtain ⟨hp1, hp2⟩ := hpr
    try simp only [List.cons_append] at NQ2
    by_cases hkp : (1 + v3).fmod (primE v2.toNat - 1) = 0
    · have hf4 := hf2 hkp
      clear hf2 hf3
      (try dsimp only)
      (try k_fold)
      walk_at "STOPS"
      walk_at "LAST"
    · have hf4 := hf3 hkp
      clear hf2 hf3
      (try dsimp only)
      (try k_fold)
      walk_at "STOPS"
      walk_at "LAST")
end Mine
set_option maxHeartbeats 1000000
theorem PySem.Challenge.cw_sa0076_01_holds : PySem.Challenge.rw_sa0076_01.Holds := by
  exact Mine.law_holds
