import PyProof.Rows.All
import Wide.All
import OpenK.AllK
import Wide.FinOn
import PySem.Challenge.RW_xm0058_01
open PySem PySem.W PyProof.Rows
set_option Elab.async false
set_option maxRecDepth 100000
set_option maxHeartbeats 8000000
set_option compiler.extract_closed false
set_option linter.all false
namespace Mine
local macro_rules | `(tactic| walk_at "mine std") => `(tactic| ((case k1 => k_asm); (case k2 => k_asm); (case k3 => k_asm); (case k5 => k_asm); (case kK => first | exact rfl | assumption); (case kd => ktr_room); (case ku => ktr_units)))
-- part Hd
open_top hd for PySem.Challenge.rw_xm0058_01
theorem top_off : True := by
  w_top off
  trivial
-- part Base
abbrev Led := List (Addr × Obj)
def CallOk (w : World) (f : Addr) (vs : List Value) (d : Nat) (news : Led) (Ret : Led → Value → Prop) : Prop :=
  ∀ (p : Program) (loose : List Str) (mean : ExcName → Option Value) (mg mb : Str → Option Value) (dp un : Nat) (gd : Option (List Code)) (cn : Str) (cs : Scope) (a : Addr) (ccd : Value) (cl : List (Str × Addr)) (outer : List Env) (A₀ : Around) (base h₀ : Heap) (L : Addr) (m : Str → Option Value) (hpA : Heap) (gsA : Array GenState) (drA : Drawn) (tkA : Nat) (osA : OsState)
    (Q E : Value → Shared → Prop),
    Below A₀ base outer h₀ → Fr h₀ L hpA m → (Mine.hd.heap_39 w.params).In h₀ → News h₀ L hpA news → Top p loose mean mg mb h₀ → cs.kind = .function → dp + d < recursionLimit → un + 8 * d < cLine →
    (∀ r tl h' tk', Fr h₀ L h' m → News h₀ L h' (tl ++ news) → (∀ q ∈ tl, AllLt q.1 news) → Ret tl r → Q r ⟨h', gsA, drA, tk', osA⟩) →
    wpAny (model PySem.Challenge.rw_xm0058_01.row.toRowW.prog w) (ktrTop dp un gd cn cs L a ccd cl outer) (call (.ref f) vs) Q E ⟨hpA, gsA, drA, tkA, osA⟩
theorem use {w : World} {f : Addr} {vs : List Value} {d : Nat} {news : Led} {Ret : Led → Value → Prop}
    {p : Program} {loose : List Str} {mean : ExcName → Option Value} {mg mb : Str → Option Value} {dp un : Nat} {gd : Option (List Code)} {cn : Str} {cs : Scope} {a : Addr} {ccd : Value} {cl : List (Str × Addr)} {outer : List Env} {A₀ : Around} {base h₀ : Heap} {L : Addr} {m : Str → Option Value} {hpA : Heap} {gsA : Array GenState} {drA : Drawn} {tkA : Nat} {osA : OsState}
    {Q E : Value → Shared → Prop}
    (C : CallOk w f vs d news Ret) (B : Below A₀ base outer h₀) (F : Fr h₀ L hpA m) (X : (Mine.hd.heap_39 w.params).In h₀) (N : News h₀ L hpA news) (T : Top p loose mean mg mb h₀) (hk : cs.kind = .function)
    (hd : dp + d < recursionLimit) (hu : un + 8 * d < cLine)
    (ret : ∀ r tl h' tk', Fr h₀ L h' m → News h₀ L h' (tl ++ news) → (∀ q ∈ tl, AllLt q.1 news) → Ret tl r → Q r ⟨h', gsA, drA, tk', osA⟩) :
    wpAny (model PySem.Challenge.rw_xm0058_01.row.toRowW.prog w) (ktrTop dp un gd cn cs L a ccd cl outer) (call (.ref f) vs) Q E ⟨hpA, gsA, drA, tkA, osA⟩ := C _ _ _ _ _ _ _ _ _ _ _ _ _ _ _ _ _ _ _ _ _ _ _ _ _ _ B F X N T hk hd hu ret
theorem sub_nil {news : Led} : ∀ q ∈ ([] : Led), AllLt q.1 news := fun _ h => nomatch h
theorem sub_one {news : Led} {a : Addr} {o : Obj} (h : AllLt a news) : ∀ q ∈ [(a, o)], AllLt q.1 news := fun q hq => by rw [List.mem_singleton.mp hq]; exact h
abbrev fr (q : Rat) (u1 u2 : Tok) (c : Nat) : Obj := { cls := .type "tuple", data := .seq #[.int q.num u1, .int (q.den : Int) u2] c }
theorem wpN {α : Type} {M : Model} {A : Around} {t : Sem α} {Q : α → Shared → Prop} {E : Value → Shared → Prop} {s : Shared} (h : wpAny M A t Q E s) : wpAny M A t Q E s := h
theorem r2 {a b X : Prop} (h : a ∧ b ∧ X) : X := h.2.2
theorem r3 {a b c X : Prop} (h : a ∧ b ∧ c ∧ X) : X := h.2.2.2
theorem r4 {a b c d X : Prop} (h : a ∧ b ∧ c ∧ d ∧ X) : X := h.2.2.2.2
theorem r5 {a b c d e X : Prop} (h : a ∧ b ∧ c ∧ d ∧ e ∧ X) : X := h.2.2.2.2.2
theorem r6 {a b c d e f X : Prop} (h : a ∧ b ∧ c ∧ d ∧ e ∧ f ∧ X) : X := h.2.2.2.2.2.2
theorem r7 {a b c d e f g X : Prop} (h : a ∧ b ∧ c ∧ d ∧ e ∧ f ∧ g ∧ X) : X := h.2.2.2.2.2.2.2
theorem r8 {a b c d e f g h X : Prop} (h : a ∧ b ∧ c ∧ d ∧ e ∧ f ∧ g ∧ h ∧ X) : X := h.2.2.2.2.2.2.2.2
theorem len1 {α : Type} {n : Nat} {vs : List α} (h : vs.length = n + 1) : ∃ a r, vs = a :: r ∧ r.length = n := by
  cases vs with
  | nil => cases h
  | cons a r => exact ⟨a, r, rfl, Nat.succ.inj h⟩
theorem len3 {α : Type} {vs : List α} (h : vs.length = 3) : ∃ a b c, vs = [a, b, c] := by
  obtain ⟨a, r, rfl, h1⟩ := len1 h
  obtain ⟨b, r, rfl, h2⟩ := len1 h1
  obtain ⟨c, r, rfl, h3⟩ := len1 h2
  exact ⟨a, b, c, by rw [List.eq_nil_of_length_eq_zero h3]⟩
theorem len4 {α : Type} {vs : List α} (h : vs.length = 4) : ∃ a b c d, vs = [a, b, c, d] := by
  obtain ⟨a, r, rfl, h1⟩ := len1 h
  obtain ⟨b, c, d, rfl⟩ := len3 h1
  exact ⟨a, b, c, d, rfl⟩
theorem get3 {α : Type} {a b c v : α} {i : Nat} (h : [a, b, c][i]? = some v) : (i = 0 ∧ v = a) ∨ (i = 1 ∧ v = b) ∨ (i = 2 ∧ v = c) := by
  rcases i with _ | _ | _ | n
  · exact .inl ⟨rfl, (Option.some.inj h).symm⟩
  · exact .inr (.inl ⟨rfl, (Option.some.inj h).symm⟩)
  · exact .inr (.inr ⟨rfl, (Option.some.inj h).symm⟩)
  · simp at h
theorem ints_cons {n : Nat} {zs : List Value} {xs : List Int} (h : IntsAre zs xs) (hl : zs.length = n + 1) : ∃ x t zs' xs', zs = .int x t :: zs' ∧ xs = x :: xs' ∧ IntsAre zs' xs' ∧ zs'.length = n := by
  cases h with
  | nil => cases hl
  | cons x t k => exact ⟨x, t, _, _, rfl, rfl, k, Nat.succ.inj hl⟩
theorem ex1 {α : Type} {P : α → Prop} {G : Prop} (h : ∃ x, P x) (H : ∀ x, P x → G) : G := h.elim H
theorem gen_tk {α : Type} {M : Model} {A : Around} {t : Sem α} {Q : α → Shared → Prop} {E : Value → Shared → Prop} {h g d tk o} (H : ∀ tk0, wpAny M A t Q E ⟨h, g, d, tk0, o⟩) : wpAny M A t Q E ⟨h, g, d, tk, o⟩ := H tk
theorem put_eq {m : Str → Option Value} {k : Str} {v : Value} (e : m k = some v) : (fun y => if y = k then some v else m y) = m := funext fun y => by
  split
  · rename_i h; rw [h, e]
  · rfl
theorem fr_open1 {G : Prop} {h₀ h : Heap} {L : Addr} {m : Str → Option Value} (k1 : Str) {v1 : Value} (F : Fr h₀ L h m) (e1 : m k1 = some v1)
    (H : ∀ mb : Str → Option Value, Fr h₀ L h (fun y => if y = k1 then some v1 else mb y) → G) : G := by
  have q1 := put_eq e1
  refine H m ?_
  rw [q1]
  exact F
theorem fr_open2 {G : Prop} {h₀ h : Heap} {L : Addr} {m : Str → Option Value} (k1 k2 : Str) {v1 v2 : Value} (F : Fr h₀ L h m) (e1 : m k1 = some v1) (e2 : m k2 = some v2)
    (H : ∀ mb : Str → Option Value, Fr h₀ L h (fun y => if y = k1 then some v1 else if y = k2 then some v2 else mb y) → G) : G := by
  have q2 := put_eq e2
  have q1 := put_eq (m := fun y => if y = k2 then some v2 else m y) ((congrFun q2 k1).trans (e1))
  refine H m ?_
  rw [q1, q2]
  exact F
theorem fr_open3 {G : Prop} {h₀ h : Heap} {L : Addr} {m : Str → Option Value} (k1 k2 k3 : Str) {v1 v2 v3 : Value} (F : Fr h₀ L h m) (e1 : m k1 = some v1) (e2 : m k2 = some v2) (e3 : m k3 = some v3)
    (H : ∀ mb : Str → Option Value, Fr h₀ L h (fun y => if y = k1 then some v1 else if y = k2 then some v2 else if y = k3 then some v3 else mb y) → G) : G := by
  have q3 := put_eq e3
  have q2 := put_eq (m := fun y => if y = k3 then some v3 else m y) ((congrFun q3 k2).trans (e2))
  have q1 := put_eq (m := fun y => if y = k2 then some v2 else if y = k3 then some v3 else m y) ((congrFun q2 k1).trans ((congrFun q3 k1).trans (e1)))
  refine H m ?_
  rw [q1, q2, q3]
  exact F
theorem fr_open4 {G : Prop} {h₀ h : Heap} {L : Addr} {m : Str → Option Value} (k1 k2 k3 k4 : Str) {v1 v2 v3 v4 : Value} (F : Fr h₀ L h m) (e1 : m k1 = some v1) (e2 : m k2 = some v2) (e3 : m k3 = some v3) (e4 : m k4 = some v4)
    (H : ∀ mb : Str → Option Value, Fr h₀ L h (fun y => if y = k1 then some v1 else if y = k2 then some v2 else if y = k3 then some v3 else if y = k4 then some v4 else mb y) → G) : G := by
  have q4 := put_eq e4
  have q3 := put_eq (m := fun y => if y = k4 then some v4 else m y) ((congrFun q4 k3).trans (e3))
  have q2 := put_eq (m := fun y => if y = k3 then some v3 else if y = k4 then some v4 else m y) ((congrFun q3 k2).trans ((congrFun q4 k2).trans (e2)))
  have q1 := put_eq (m := fun y => if y = k2 then some v2 else if y = k3 then some v3 else if y = k4 then some v4 else m y) ((congrFun q2 k1).trans ((congrFun q3 k1).trans ((congrFun q4 k1).trans (e1))))
  refine H m ?_
  rw [q1, q2, q3, q4]
  exact F
-- part F1
theorem gcd_step {a b : Int} (ha : 0 ≤ a) (hb : 0 < b) : Int.gcd b (a.fmod b) = Int.gcd a b := by
  rw [Int.fmod_eq_emod_of_nonneg _ (by omega), Int.gcd_comm b, ]
  rw [Int.gcd, Int.natAbs_emod_of_nonneg ha, Int.gcd, Nat.gcd_comm a.natAbs, Nat.gcd_rec b.natAbs]
theorem gcd_start (x y : Int) : Int.gcd (if x < 0 then -x else x) (if y < 0 then -y else y) = Int.gcd x y := by
  split <;> split <;> simp
theorem gcd_start3 (x y : Int) : 0 ≤ (if x < 0 then -x else x) ∧ 0 ≤ (if y < 0 then -y else y) ∧ Int.gcd (if x < 0 then -x else x) (if y < 0 then -y else y) = Int.gcd x y :=
  ⟨by split <;> omega, by split <;> omega, gcd_start x y⟩
theorem gcd_turn {a b x y : Int} (h : 0 ≤ a ∧ 0 ≤ b ∧ Int.gcd a b = Int.gcd x y) (hb : 0 < b) : 0 ≤ b ∧ 0 ≤ a.fmod b ∧ Int.gcd b (a.fmod b) = Int.gcd x y :=
  ⟨h.2.1, by rw [Int.fmod_eq_emod_of_nonneg _ h.2.1]; exact Int.emod_nonneg _ (by omega), (gcd_step h.1 hb).trans h.2.2⟩
theorem gcd_less {a b : Int} (hb : 0 < b) : (a.fmod b).toNat < b.toNat := by
  have h1 := Int.emod_nonneg a (show b ≠ 0 by omega)
  have h2 := Int.emod_lt_of_pos a hb
  rw [Int.fmod_eq_emod_of_nonneg _ (by omega)]
  omega
theorem gcd_ret {a b x y : Int} {t : Tok} (ha : 0 ≤ a) (hb0 : 0 ≤ b) (hg : Int.gcd a b = Int.gcd x y) (hb : ¬ 0 < b) : Value.int a t = Value.int (Int.gcd x y : Int) t := by
  obtain rfl : b = 0 := by omega
  rw [← hg, Int.gcd_zero_right]; congr 1; omega
local macro_rules | `(tactic| walk_at "execs cons") => `(tactic| ((fail_if_success k_extra "two"); (refine wpAny_execs_cons ?_; refine wpN ?_; k_fold)))
local macro_rules | `(tactic| walk_at "exec While Compare cons nil") => `(tactic| ((fail_if_success k_extra "two"); k_extra "while"))
theorem gcd_call (w : World) (x y : Int) (t1 t2 : Tok) (news) : CallOk w 21 [.int x t1, .int y t2] 1 news (fun tl r => tl = [] ∧ ∃ t, r = .int (Int.gcd x y) t) := by
  unfold CallOk
  k_fill
  intro p loose mean mg mb dp un gd cn cs a ccd cl outer A₀ base h₀ L m hpA gsA drA tkA osA Q E B F X N T hk hd hu hret
  refine wpAny_call ?_
  k_dflt ktr_enter
  refine gen_tk fun tk0 => ?_
  rename Fr _ _ _ _ => kF0
  refine fr_open2 (Str.ofString "one") (Str.ofString "other") kF0 (by with_unfolding_all rfl) (by with_unfolding_all rfl) fun mb kF1 => ?_
  clear kF0
  refine wpN ?_
  k_with "state" => first | exact gcd_start3 x y | exact gcd_turn ⟨by assumption, by assumption, by assumption⟩ (by assumption)
  k_with "measure" => exact gcd_less (by assumption)
  k_with "while" => k_while (fun (_ : List Int) (a b : Int) => 0 ≤ a ∧ 0 ≤ b ∧ Int.gcd a b = Int.gcd x y) (fun (_ : List Int) (_ : Int) (b : Int) => b.toNat) "one" "other"
  k_steps
  rename Fr h₀ L _ m => kF
  rename News h₀ L _ _ => kN
  exact hret _ [] _ _ kF (cb_drop kN (fun p hp => List.mem_cons_of_mem _ hp)) sub_nil ⟨rfl, _, gcd_ret (by assumption) (by assumption) (by assumption) (by assumption)⟩
theorem nd_pos {a b : Int} (hb : 0 < b) : a.fdiv (Int.gcd a b) = (Rat.divInt a b).num ∧ b.fdiv (Int.gcd a b) = ((Rat.divInt a b).den : Int) := by
  have hg : (0 : Int) ≤ Int.gcd a b := by omega
  rw [Rat.num_divInt, Rat.den_divInt, if_neg (by omega), Int.sign_eq_one_of_pos hb, Int.one_mul, Int.fdiv_eq_ediv_of_nonneg _ hg, Int.fdiv_eq_ediv_of_nonneg _ hg, Int.gcd_comm b a]
  refine ⟨rfl, ?_⟩
  rw [Int.natCast_ediv, Int.natAbs_of_nonneg (by omega)]
theorem nd_neg {a b : Int} (hb : b < 0) : a.fdiv (-(Int.gcd a b : Int)) = (Rat.divInt a b).num ∧ b.fdiv (-(Int.gcd a b : Int)) = ((Rat.divInt a b).den : Int) := by
  have hg : (0 : Int) ≤ Int.gcd a b := by omega
  have e : ∀ x : Int, x.fdiv (-(Int.gcd a b : Int)) = (-x).fdiv (Int.gcd a b) := fun x => by
    rw [← Int.neg_neg x, Int.neg_fdiv_neg, Int.neg_neg]
  rw [e, e, Rat.num_divInt, Rat.den_divInt, if_neg (by omega), Int.sign_eq_neg_one_of_neg hb, Int.fdiv_eq_ediv_of_nonneg _ hg, Int.fdiv_eq_ediv_of_nonneg _ hg, Int.gcd_comm b a]
  refine ⟨by rw [Int.neg_mul, Int.one_mul], ?_⟩
  rw [Int.natCast_ediv]
  congr 1
  omega
-- part F2
theorem gcd_ne {x y : Int} (hy : y ≠ 0) : (Int.gcd x y : Int) ≠ 0 := by
  have := Int.gcd_pos_of_ne_zero_right x hy
  omega
theorem gcd_ne' {x y : Int} (hy : y ≠ 0) : (-(Int.gcd x y : Int)) ≠ 0 := by
  have := gcd_ne (x := x) hy
  omega
/-- the int's size in bits -/
def Sm (n : Nat) (y : Int) : Prop := y.natAbs < 2 ^ n
theorem gcd_room {x y : Int} (hy : y ≠ 0) (hb : Sm 9000 y) (g : Int) (hg : g.natAbs = Int.gcd x y) : g.natAbs.log2 < 9000 := by
  rw [hg]
  have h0 : Int.gcd x y ≠ 0 := by have := gcd_ne (x := x) hy; omega
  have h1 : Int.gcd x y ≤ y.natAbs := Nat.le_of_dvd (by omega) (Nat.gcd_dvd_right _ _)
  exact (Nat.log2_lt h0).mpr (Nat.lt_of_le_of_lt h1 hb)
theorem noP {x y : Int} (hy : y ≠ 0) (hb : Sm 9000 y) (z : Int) : Builtin.divisionGoesByPylong z (Int.gcd x y) = false := PyProof.noPylong_of_log2 (gcd_room (x := x) hy hb _ (by simp))
theorem noP' {x y : Int} (hy : y ≠ 0) (hb : Sm 9000 y) (z : Int) : Builtin.divisionGoesByPylong z (-(Int.gcd x y : Int)) = false := PyProof.noPylong_of_log2 (gcd_room (x := x) hy hb _ (by simp))
theorem pair_pos {x y : Int} (hy : 0 < y) (u1 u2 : Tok) : (⟨Value.type "tuple", none, .seq #[.int (x.fdiv (Int.gcd x y)) u1, .int (y.fdiv (Int.gcd x y)) u2] 0, #[]⟩ : Obj) = fr (Rat.divInt x y) u1 u2 0 := by
  rw [(nd_pos hy).1, (nd_pos hy).2]
theorem pair_neg {x y : Int} (hy : y < 0) (u1 u2 : Tok) : (⟨Value.type "tuple", none, .seq #[.int (x.fdiv (-(Int.gcd x y : Int))) u1, .int (y.fdiv (-(Int.gcd x y : Int))) u2] 0, #[]⟩ : Obj) = fr (Rat.divInt x y) u1 u2 0 := by
  rw [(nd_neg hy).1, (nd_neg hy).2]
local macro_rules | `(tactic| walk_at "binaryOp FloorDiv int int") => `(tactic| ((fail_if_success k_extra "two"); first | (refine floordiv_int (gcd_ne (by assumption)) ?_ (Or.inl (noP (by assumption) (by assumption) _))) | (refine floordiv_int (gcd_ne' (by assumption)) ?_ (Or.inl (noP' (by assumption) (by assumption) _)))))
local macro_rules | `(tactic| walk_at "call ref") => `(tactic| ((fail_if_success k_extra "two"); k_extra "callF"))
theorem frac_call (w : World) (x y : Int) (t1 t2 : Tok) (news) (hy : y ≠ 0) (hb : Sm 9000 y) : CallOk w 28 [.int x t1, .int y t2] 2 news (fun tl r => ∃ D u1 u2 c, r = .ref D ∧ tl = [(D, fr (Rat.divInt x y) u1 u2 c)]) := by
  unfold CallOk
  k_fill
  intro p loose mean mg mb dp un gd cn cs a ccd cl outer A₀ base h₀ L m hpA gsA drA tkA osA Q E B F X N T hk hd hu hret
  refine wpAny_call ?_
  k_dflt ktr_enter
  refine gen_tk fun tk0 => ?_
  rename Fr _ _ _ _ => kF0
  refine fr_open2 (Str.ofString "above") (Str.ofString "below") kF0 (by with_unfolding_all rfl) (by with_unfolding_all rfl) fun mb kF1 => ?_
  clear kF0
  refine wpN ?_
  k_with "callF" => (k_here; k_dflt (refine' use (gcd_call _ _ _ _ _ _) ?k1 ?k2 ?k3 ?k4 ?k5 ?kK ?kd ?ku ?_; (case k1 => k_asm); (case k2 => k_asm); (case k3 => k_asm); (case k4 => k_asm); (case k5 => k_asm); (case kK => first | exact rfl | assumption); (case kd => ktr_room); (case ku => ktr_units)); intro r9 tl9 h9 tk9 F9 N9 hl9 ho9; (obtain ⟨e1, t9, e2⟩ := ho9); (subst e1); (subst e2); (simp only [List.nil_append] at N9); (clear hl9); (try k_sweep))
  k_steps
  · rename Fr h₀ L _ m => kF
    rename News h₀ L _ _ => kN
    rename ∀ p ∈ news, _ => hl
    exact hret _ [_] _ _ kF kN (sub_one (allLt_of hl)) ⟨_, _, _, _, rfl, congrArg (fun o => [(_, o)]) (pair_pos (by assumption) _ _)⟩
  · rename Fr h₀ L _ m => kF
    rename News h₀ L _ _ => kN
    rename ∀ p ∈ news, _ => hl
    exact hret _ [_] _ _ kF kN (sub_one (allLt_of hl)) ⟨_, _, _, _, rfl, congrArg (fun o => [(_, o)]) (pair_neg (by omega) _ _)⟩
-- part F3
theorem Sm.mono {n k : Nat} {x : Int} (h : Sm n x) (hk : n ≤ k) : Sm k x := Nat.lt_of_lt_of_le h (Nat.pow_le_pow_right (by decide) hk)
theorem Sm.mul {n k : Nat} {x y : Int} (h : Sm n x) (hk : Sm k y) : Sm (n + k) (x * y) := by
  unfold Sm at *
  rw [Int.natAbs_mul, Nat.pow_add]
  exact Nat.mul_lt_mul'' h hk
theorem Sm.sub {n k : Nat} {x y : Int} (h : Sm n x) (hk : Sm n y) (e : n + 1 ≤ k) : Sm k (x - y) := by
  refine Sm.mono (n := n + 1) ?_ e
  unfold Sm at *
  rw [Nat.pow_succ]
  generalize 2 ^ n = b at *
  omega
theorem Sm.of_le {n : Nat} {x y : Int} (h : Sm n x) (hy : y.natAbs ≤ x.natAbs) : Sm n y := Nat.lt_of_le_of_lt hy h
theorem Sm.bits {n : Nat} {x : Int} (h : Sm n x) (hn : n ≤ 2 ^ 20) : Builtin.Int.intBits x ≤ 2 ^ 20 := Nat.le_trans (PyProof.Rows.intBits_le h) hn
theorem Sm.mulOk {x y : Int} (h : Sm 4000 x) (hk : Sm 4000 y) : IntMulOk x y := IntMulOk.of_bits (h.bits (by decide)) (hk.bits (by decide))
/-- a rational whose parts have so many bits -/
def Bd (n : Nat) (q : Rat) : Prop := Sm n q.num ∧ Sm n (q.den : Int)
theorem Bd.mono {n k : Nat} {x : Rat} (h : Bd n x) (hk : n ≤ k) : Bd k x := ⟨h.1.mono hk, h.2.mono hk⟩
theorem Bd.divInt {n : Nat} {a b : Int} (hb : b ≠ 0) (ha : Sm n a) (h : Sm n b) : Bd n (Rat.divInt a b) := by
  refine ⟨ha.of_le ?_, h.of_le ?_⟩
  · rw [Rat.num_divInt, Int.natAbs_ediv_of_dvd]
    · rw [Int.natAbs_mul, Int.natAbs_sign_of_ne_zero hb, Nat.one_mul]
      exact Nat.div_le_self _ _
    · exact Int.dvd_mul_of_dvd_right (Int.gcd_dvd_right _ _)
  · rw [Rat.den_divInt, if_neg hb]
    simp only [Int.natAbs_natCast]
    exact Nat.div_le_self _ _
theorem Bd.intCast {n : Nat} {x : Int} (h : Sm (n + 1) x) : Bd (n + 1) (x : Rat) := by
  refine ⟨by simpa using h, ?_⟩
  show Sm (n + 1) (((x : Rat).den : Nat) : Int)
  rw [Rat.den_intCast]
  unfold Sm
  show 1 < _
  exact Nat.one_lt_two_pow (by omega)
theorem den_ne (q : Rat) : (q.den : Int) ≠ 0 := by have := q.den_nz; omega
theorem Bd.mul {n k j : Nat} {x y : Rat} (h : Bd n x) (hk : Bd k y) (e : n + k ≤ j) : Bd j (x * y) := by
  rw [← Rat.num_divInt_den x, ← Rat.num_divInt_den y, Rat.divInt_mul_divInt]
  exact (Bd.divInt (Int.mul_ne_zero (den_ne x) (den_ne y)) (h.1.mul hk.1) (h.2.mul hk.2)).mono e
theorem Bd.sub {n k j : Nat} {x y : Rat} (h : Bd n x) (hk : Bd k y) (e : n + k + 1 ≤ j) : Bd j (x - y) := by
  rw [← Rat.num_divInt_den x, ← Rat.num_divInt_den y, Rat.divInt_sub_divInt _ _ (den_ne x) (den_ne y)]
  exact (Bd.divInt (Int.mul_ne_zero (den_ne x) (den_ne y)) ((h.1.mul hk.2).sub ((hk.1.mul h.2).mono (by omega)) (Nat.le_refl _)) ((h.2.mul hk.2).mono (by omega))).mono e
theorem divInt_div {a b c d : Int} : Rat.divInt a b / Rat.divInt c d = Rat.divInt (a * d) (b * c) := by
  rw [Rat.div_def, Rat.inv_divInt, Rat.divInt_mul_divInt]
theorem num_ne {q : Rat} (h : q ≠ 0) : q.num ≠ 0 := fun e => h (Rat.num_eq_zero.mp e)
theorem Bd.div {n k j : Nat} {x y : Rat} (hy : y ≠ 0) (h : Bd n x) (hk : Bd k y) (e : n + k ≤ j) : Bd j (x / y) := by
  rw [← Rat.num_divInt_den x, ← Rat.num_divInt_den y, divInt_div]
  exact (Bd.divInt (Int.mul_ne_zero (den_ne x) (num_ne hy)) (h.1.mul hk.2) (h.2.mul hk.1)).mono e
theorem Bd.neg {n : Nat} {x : Rat} (h : Bd n x) : Bd n (-x) := by
  refine ⟨?_, ?_⟩
  · exact h.1.of_le (show (-x.num).natAbs ≤ _ by omega)
  · exact h.2
theorem Bd.add {n k j : Nat} {x y : Rat} (h : Bd n x) (hk : Bd k y) (e : n + k + 1 ≤ j) : Bd j (x + y) := by
  have e1 : x + y = x - (-y) := by grind
  rw [e1]
  exact h.sub hk.neg e
abbrev tup2 (a b : Int) (u1 u2 : Tok) (c : Nat) : Obj := { cls := .type "tuple", data := .seq #[.int a u1, .int b u2] c }
/-- a pair of ints stands for the rational, within so many bits -/
def Pr (n : Nat) (a b : Int) (q : Rat) : Prop := 0 < b ∧ Sm n a ∧ Sm n b ∧ Rat.divInt a b = q
theorem Pr.of {n : Nat} {q : Rat} (h : Bd n q) : Pr n q.num (q.den : Int) q := ⟨by have := q.den_nz; omega, h.1, h.2, Rat.num_divInt_den q⟩
theorem Pr.int {n : Nat} {x : Int} (h : Sm (n + 1) x) : Pr (n + 1) x 1 (x : Rat) := ⟨by decide, h, Nat.one_lt_two_pow (by omega), by rw [Rat.divInt_eq_div]; grind⟩
theorem Pr.bd {n : Nat} {a b : Int} {q : Rat} (h : Pr n a b q) : Bd n q := by
  obtain ⟨h1, h2, h3, rfl⟩ := h
  exact Bd.divInt (by omega) h2 h3
abbrev FrRet (q : Rat) (tl : Led) (r : Value) : Prop := ∃ D u1 u2 c, r = .ref D ∧ tl = [(D, fr q u1 u2 c)]
theorem fr_use {w : World} {f : Addr} {vs : List Value} {d : Nat} {news : Led} {q q' : Rat}
    {p : Program} {loose : List Str} {mean : ExcName → Option Value} {mg mb : Str → Option Value} {dp un : Nat} {gd : Option (List Code)} {cn : Str} {cs : Scope} {a : Addr} {ccd : Value} {cl : List (Str × Addr)} {outer : List Env} {A₀ : Around} {base h₀ : Heap} {L : Addr} {m : Str → Option Value} {hpA : Heap} {gsA : Array GenState} {drA : Drawn} {tkA : Nat} {osA : OsState}
    {Q E : Value → Shared → Prop}
    (C : CallOk w f vs d news (FrRet q)) (B : Below A₀ base outer h₀) (F : Fr h₀ L hpA m) (X : (Mine.hd.heap_39 w.params).In h₀) (N : News h₀ L hpA news) (T : Top p loose mean mg mb h₀) (hk : cs.kind = .function)
    (hd : dp + d < recursionLimit) (hu : un + 8 * d < cLine) (e : q = q') {n : Nat} (hb : Bd n q')
    (ret : ∀ D u1 u2 c h' tk', Fr h₀ L h' m → News h₀ L h' ((D, fr q' u1 u2 c) :: news) → AllLt D news → Bd n q' → Q (.ref D) ⟨h', gsA, drA, tk', osA⟩) :
    wpAny (model PySem.Challenge.rw_xm0058_01.row.toRowW.prog w) (ktrTop dp un gd cn cs L a ccd cl outer) (call (.ref f) vs) Q E ⟨hpA, gsA, drA, tkA, osA⟩ := by
  subst e
  refine use C B F X N T hk hd hu fun r tl h' tk' F' N' hl hr => ?_
  obtain ⟨D, u1, u2, c, rfl, rfl⟩ := hr
  exact ret D u1 u2 c h' tk' F' N' (hl _ (List.mem_singleton.mpr rfl)) hb
theorem allLt_sub {d : Addr} {l news : Led} (h : AllLt d l) (hs : ∀ p ∈ news, p ∈ l) : AllLt d news := allLt_of fun p hp => ktn_ltOf h p (hs p hp)
theorem fr_ret {news l l' : Led} {h₀ h' : Heap} {L D : Addr} {m : Str → Option Value} {gsA : Array GenState} {drA : Drawn} {osA : OsState} {Q : Value → Shared → Prop} {q q' : Rat} {u1 u2 : Tok} {c tk' : Nat}
    (hret : ∀ r tl h' tk', Fr h₀ L h' m → News h₀ L h' (tl ++ news) → (∀ q ∈ tl, AllLt q.1 news) → FrRet q' tl r → Q r ⟨h', gsA, drA, tk', osA⟩)
    (F : Fr h₀ L h' m) (N : News h₀ L h' l) (hm : (D, fr q u1 u2 c) ∈ l) (hs : ∀ p ∈ news, p ∈ l) (hl : AllLt D l') (hs' : ∀ p ∈ news, p ∈ l') (e : q = q') : Q (.ref D) ⟨h', gsA, drA, tk', osA⟩ := by
  subst e
  refine hret _ [(D, fr q u1 u2 c)] _ _ F ?_ (sub_one (allLt_sub hl hs')) ⟨D, u1, u2, c, rfl, rfl⟩
  intro p hp
  rcases List.mem_cons.mp hp with rfl | hp
  · exact N _ hm
  · exact N p (hs p hp)
theorem sub_refl {l : Led} : ∀ p ∈ l, p ∈ l := fun _ h => h
theorem sub_skip {l l' : Led} {x : Addr × Obj} (h : ∀ p ∈ l, p ∈ l') : ∀ p ∈ l, p ∈ x :: l' := fun p hp => List.mem_cons_of_mem _ (h p hp)
-- part F4
local macro_rules | `(tactic| walk_at "binaryOp Mult int int") => `(tactic| ((fail_if_success k_extra "two"); (refine mul_int ?_ (Sm.mulOk (by assumption) (by assumption)))))
theorem times_call (w : World) (news) {n k : Nat} {D1 D2 a1 b1 a2 b2 u1 v1 c1 u2 v2 c2} {q r : Rat} (hm1 : (D1, tup2 a1 b1 u1 v1 c1) ∈ news) (hm2 : (D2, tup2 a2 b2 u2 v2 c2) ∈ news) (hq : Pr n a1 b1 q) (hr : Pr k a2 b2 r) (hn : n ≤ 4000) (hk : k ≤ 4000) : CallOk w 35 [.ref D1, .ref D2] 3 news (FrRet (q * r)) := by
  obtain ⟨hp1, hs1, ht1, rfl⟩ := hq
  obtain ⟨hp2, hs2, ht2, rfl⟩ := hr
  replace hs1 := hs1.mono hn
  replace hs2 := hs2.mono hk
  replace ht1 := ht1.mono hn
  replace ht2 := ht2.mono hk
  clear hn hk n k
  unfold CallOk
  k_fill
  intro p loose mean mg mb dp un gd cn cs a ccd cl outer A₀ base h₀ L m hpA gsA drA tkA osA Q E B F X N T hk hd hu hret
  refine wpAny_call ?_
  k_dflt ktr_enter
  refine gen_tk fun tk0 => ?_
  rename Fr _ _ _ _ => kF0
  refine fr_open2 (Str.ofString "one") (Str.ofString "other") kF0 (by with_unfolding_all rfl) (by with_unfolding_all rfl) fun mb kF1 => ?_
  clear kF0
  refine wpN ?_
  k_with_none
  k_with "ne" => exact Int.mul_ne_zero (by omega) (by omega)
  k_with "small" => exact (ht1.mul ht2).mono (by decide)
  k_with "callF" => (k_here; k_dflt (refine' use (frac_call _ _ _ _ _ _ ?kn ?kb) ?k1 ?k2 ?k3 ?k4 ?k5 ?kK ?kd ?ku ?_; (case kn => k_extra "ne"); (case kb => k_extra "small"); (case k1 => k_asm); (case k2 => k_asm); (case k3 => k_asm); (case k4 => k_asm); (case k5 => k_asm); (case kK => first | exact rfl | assumption); (case kd => ktr_room); (case ku => ktr_units)); intro r9 tl9 h9 tk9 F9 N9 hl9 ho9; (obtain ⟨D9, u9, v9, c9, e1, e2⟩ := ho9); (subst e1); (subst e2); (replace hl9 := hl9 _ (List.mem_singleton.mpr rfl)); (simp only [List.nil_append, List.cons_append] at N9); (try k_sweep))
  k_steps
  rename Fr h₀ L _ m => kF
  rename News h₀ L _ _ => kN
  exact hret _ [_] _ _ kF kN (sub_one (by assumption)) ⟨_, _, _, _, rfl, congrArg (fun q => [(_, fr q _ _ _)]) (Rat.divInt_mul_divInt _ _).symm⟩
theorem less_call (w : World) (news) {n k : Nat} {D1 D2 a1 b1 a2 b2 u1 v1 c1 u2 v2 c2} {q r : Rat} (hm1 : (D1, tup2 a1 b1 u1 v1 c1) ∈ news) (hm2 : (D2, tup2 a2 b2 u2 v2 c2) ∈ news) (hq : Pr n a1 b1 q) (hr : Pr k a2 b2 r) (hn : n ≤ 4000) (hk : k ≤ 4000) : CallOk w 42 [.ref D1, .ref D2] 3 news (FrRet (q - r)) := by
  obtain ⟨hp1, hs1, ht1, rfl⟩ := hq
  obtain ⟨hp2, hs2, ht2, rfl⟩ := hr
  replace hs1 := hs1.mono hn
  replace hs2 := hs2.mono hk
  replace ht1 := ht1.mono hn
  replace ht2 := ht2.mono hk
  clear hn hk n k
  unfold CallOk
  k_fill
  intro p loose mean mg mb dp un gd cn cs a ccd cl outer A₀ base h₀ L m hpA gsA drA tkA osA Q E B F X N T hk hd hu hret
  refine wpAny_call ?_
  k_dflt ktr_enter
  refine gen_tk fun tk0 => ?_
  rename Fr _ _ _ _ => kF0
  refine fr_open2 (Str.ofString "one") (Str.ofString "other") kF0 (by with_unfolding_all rfl) (by with_unfolding_all rfl) fun mb kF1 => ?_
  clear kF0
  refine wpN ?_
  k_with_none
  k_with "ne" => exact Int.mul_ne_zero (by omega) (by omega)
  k_with "small" => exact (ht1.mul ht2).mono (by decide)
  k_with "callF" => (k_here; k_dflt (refine' use (frac_call _ _ _ _ _ _ ?kn ?kb) ?k1 ?k2 ?k3 ?k4 ?k5 ?kK ?kd ?ku ?_; (case kn => k_extra "ne"); (case kb => k_extra "small"); (case k1 => k_asm); (case k2 => k_asm); (case k3 => k_asm); (case k4 => k_asm); (case k5 => k_asm); (case kK => first | exact rfl | assumption); (case kd => ktr_room); (case ku => ktr_units)); intro r9 tl9 h9 tk9 F9 N9 hl9 ho9; (obtain ⟨D9, u9, v9, c9, e1, e2⟩ := ho9); (subst e1); (subst e2); (replace hl9 := hl9 _ (List.mem_singleton.mpr rfl)); (simp only [List.nil_append, List.cons_append] at N9); (try k_sweep))
  k_steps
  rename Fr h₀ L _ m => kF
  rename News h₀ L _ _ => kN
  exact hret _ [_] _ _ kF kN (sub_one (by assumption)) ⟨_, _, _, _, rfl, congrArg (fun q => [(_, fr q _ _ _)]) (Rat.divInt_sub_divInt _ _ (by omega) (by omega)).symm⟩
theorem by_call (w : World) (news) {n k : Nat} {D1 D2 a1 b1 a2 b2 u1 v1 c1 u2 v2 c2} {q r : Rat} (hm1 : (D1, tup2 a1 b1 u1 v1 c1) ∈ news) (hm2 : (D2, tup2 a2 b2 u2 v2 c2) ∈ news) (hq : Pr n a1 b1 q) (hr : Pr k a2 b2 r) (hn : n ≤ 4000) (hk : k ≤ 4000) (hr0 : r ≠ 0) : CallOk w 49 [.ref D1, .ref D2] 3 news (FrRet (q / r)) := by
  obtain ⟨hp1, hs1, ht1, rfl⟩ := hq
  obtain ⟨hp2, hs2, ht2, rfl⟩ := hr
  replace hs1 := hs1.mono hn
  replace hs2 := hs2.mono hk
  replace ht1 := ht1.mono hn
  replace ht2 := ht2.mono hk
  clear hn hk n k
  have ha2 : a2 ≠ 0 := fun e => hr0 (by rw [e, Rat.zero_divInt])
  unfold CallOk
  k_fill
  intro p loose mean mg mb dp un gd cn cs a ccd cl outer A₀ base h₀ L m hpA gsA drA tkA osA Q E B F X N T hk hd hu hret
  refine wpAny_call ?_
  k_dflt ktr_enter
  refine gen_tk fun tk0 => ?_
  rename Fr _ _ _ _ => kF0
  refine fr_open2 (Str.ofString "one") (Str.ofString "other") kF0 (by with_unfolding_all rfl) (by with_unfolding_all rfl) fun mb kF1 => ?_
  clear kF0
  refine wpN ?_
  k_with_none
  k_with "ne" => exact Int.mul_ne_zero (by omega) ha2
  k_with "small" => exact (ht1.mul hs2).mono (by decide)
  k_with "callF" => (k_here; k_dflt (refine' use (frac_call _ _ _ _ _ _ ?kn ?kb) ?k1 ?k2 ?k3 ?k4 ?k5 ?kK ?kd ?ku ?_; (case kn => k_extra "ne"); (case kb => k_extra "small"); (case k1 => k_asm); (case k2 => k_asm); (case k3 => k_asm); (case k4 => k_asm); (case k5 => k_asm); (case kK => first | exact rfl | assumption); (case kd => ktr_room); (case ku => ktr_units)); intro r9 tl9 h9 tk9 F9 N9 hl9 ho9; (obtain ⟨D9, u9, v9, c9, e1, e2⟩ := ho9); (subst e1); (subst e2); (replace hl9 := hl9 _ (List.mem_singleton.mpr rfl)); (simp only [List.nil_append, List.cons_append] at N9); (try k_sweep))
  k_steps
  rename Fr h₀ L _ m => kF
  rename News h₀ L _ _ => kN
  exact hret _ [_] _ _ kF kN (sub_one (by assumption)) ⟨_, _, _, _, rfl, congrArg (fun q => [(_, fr q _ _ _)]) divInt_div.symm⟩
theorem times_use {w : World} {news : Led} {n k : Nat} {D1 D2 a1 b1 a2 b2 u1 v1 c1 u2 v2 c2} {q r : Rat}
    {p : Program} {loose : List Str} {mean : ExcName → Option Value} {mg mb : Str → Option Value} {dp un : Nat} {gd : Option (List Code)} {cn : Str} {cs : Scope} {a : Addr} {ccd : Value} {cl : List (Str × Addr)} {outer : List Env} {A₀ : Around} {base h₀ : Heap} {L : Addr} {m : Str → Option Value} {hpA : Heap} {gsA : Array GenState} {drA : Drawn} {tkA : Nat} {osA : OsState}
    {Q E : Value → Shared → Prop}
    (hm1 : (D1, tup2 a1 b1 u1 v1 c1) ∈ news) (hm2 : (D2, tup2 a2 b2 u2 v2 c2) ∈ news) (hq : Pr n a1 b1 q) (hr : Pr k a2 b2 r) (hn : n ≤ 4000) (hk : k ≤ 4000)
    (B : Below A₀ base outer h₀) (F : Fr h₀ L hpA m) (X : (Mine.hd.heap_39 w.params).In h₀) (N : News h₀ L hpA news) (T : Top p loose mean mg mb h₀) (hkf : cs.kind = .function)
    (hd : dp + 3 < recursionLimit) (hu : un + 8 * 3 < cLine)
    (ret : ∀ D u1 u2 c h' tk', Fr h₀ L h' m → News h₀ L h' ((D, fr (q * r) u1 u2 c) :: news) → AllLt D news → Bd (n + k) (q * r) → Q (.ref D) ⟨h', gsA, drA, tk', osA⟩) :
    wpAny (model PySem.Challenge.rw_xm0058_01.row.toRowW.prog w) (ktrTop dp un gd cn cs L a ccd cl outer) (call (.ref 35) [.ref D1, .ref D2]) Q E ⟨hpA, gsA, drA, tkA, osA⟩ :=
  fr_use (times_call w news hm1 hm2 hq hr hn hk) B F X N T hkf hd hu rfl (Bd.mul hq.bd hr.bd (Nat.le_refl _)) ret
theorem less_use {w : World} {news : Led} {n k : Nat} {D1 D2 a1 b1 a2 b2 u1 v1 c1 u2 v2 c2} {q r : Rat}
    {p : Program} {loose : List Str} {mean : ExcName → Option Value} {mg mb : Str → Option Value} {dp un : Nat} {gd : Option (List Code)} {cn : Str} {cs : Scope} {a : Addr} {ccd : Value} {cl : List (Str × Addr)} {outer : List Env} {A₀ : Around} {base h₀ : Heap} {L : Addr} {m : Str → Option Value} {hpA : Heap} {gsA : Array GenState} {drA : Drawn} {tkA : Nat} {osA : OsState}
    {Q E : Value → Shared → Prop}
    (hm1 : (D1, tup2 a1 b1 u1 v1 c1) ∈ news) (hm2 : (D2, tup2 a2 b2 u2 v2 c2) ∈ news) (hq : Pr n a1 b1 q) (hr : Pr k a2 b2 r) (hn : n ≤ 4000) (hk : k ≤ 4000)
    (B : Below A₀ base outer h₀) (F : Fr h₀ L hpA m) (X : (Mine.hd.heap_39 w.params).In h₀) (N : News h₀ L hpA news) (T : Top p loose mean mg mb h₀) (hkf : cs.kind = .function)
    (hd : dp + 3 < recursionLimit) (hu : un + 8 * 3 < cLine)
    (ret : ∀ D u1 u2 c h' tk', Fr h₀ L h' m → News h₀ L h' ((D, fr (q - r) u1 u2 c) :: news) → AllLt D news → Bd (n + k + 1) (q - r) → Q (.ref D) ⟨h', gsA, drA, tk', osA⟩) :
    wpAny (model PySem.Challenge.rw_xm0058_01.row.toRowW.prog w) (ktrTop dp un gd cn cs L a ccd cl outer) (call (.ref 42) [.ref D1, .ref D2]) Q E ⟨hpA, gsA, drA, tkA, osA⟩ :=
  fr_use (less_call w news hm1 hm2 hq hr hn hk) B F X N T hkf hd hu rfl (Bd.sub hq.bd hr.bd (Nat.le_refl _)) ret
theorem by_use {w : World} {news : Led} {n k : Nat} {D1 D2 a1 b1 a2 b2 u1 v1 c1 u2 v2 c2} {q r : Rat}
    {p : Program} {loose : List Str} {mean : ExcName → Option Value} {mg mb : Str → Option Value} {dp un : Nat} {gd : Option (List Code)} {cn : Str} {cs : Scope} {a : Addr} {ccd : Value} {cl : List (Str × Addr)} {outer : List Env} {A₀ : Around} {base h₀ : Heap} {L : Addr} {m : Str → Option Value} {hpA : Heap} {gsA : Array GenState} {drA : Drawn} {tkA : Nat} {osA : OsState}
    {Q E : Value → Shared → Prop}
    (hm1 : (D1, tup2 a1 b1 u1 v1 c1) ∈ news) (hm2 : (D2, tup2 a2 b2 u2 v2 c2) ∈ news) (hq : Pr n a1 b1 q) (hr : Pr k a2 b2 r) (hn : n ≤ 4000) (hk : k ≤ 4000) (hr0 : r ≠ 0)
    (B : Below A₀ base outer h₀) (F : Fr h₀ L hpA m) (X : (Mine.hd.heap_39 w.params).In h₀) (N : News h₀ L hpA news) (T : Top p loose mean mg mb h₀) (hkf : cs.kind = .function)
    (hd : dp + 3 < recursionLimit) (hu : un + 8 * 3 < cLine)
    (ret : ∀ D u1 u2 c h' tk', Fr h₀ L h' m → News h₀ L h' ((D, fr (q / r) u1 u2 c) :: news) → AllLt D news → Bd (n + k) (q / r) → Q (.ref D) ⟨h', gsA, drA, tk', osA⟩) :
    wpAny (model PySem.Challenge.rw_xm0058_01.row.toRowW.prog w) (ktrTop dp un gd cn cs L a ccd cl outer) (call (.ref 49) [.ref D1, .ref D2]) Q E ⟨hpA, gsA, drA, tkA, osA⟩ :=
  fr_use (by_call w news hm1 hm2 hq hr hn hk hr0) B F X N T hkf hd hu rfl (Bd.div hr0 hq.bd hr.bd (Nat.le_refl _)) ret
-- part F5
local macro_rules | `(tactic| k_mem) => `(tactic| assumption)
local macro_rules | `(tactic| walk_at "mine s0") => `(tactic| first | exact Pr.of (by assumption) | assumption | exact Pr.int (by assumption) | exact Pr.int (n := 0) (by (unfold Sm; decide)))
local macro_rules | `(tactic| walk_at "mine pr") => `(tactic| walk_at "mine s0")
local macro_rules | `(tactic| walk_at "mine asm") => `(tactic| ((case k4 => k_asm); (case m1 | m2 => k_mem); (case p1 | p2 => walk_at "mine pr"); (case n1 | n2 => first | decide | omega); walk_at "mine std"))
local macro_rules | `(tactic| walk_at "mine sub") => `(tactic| (repeat (first | exact sub_refl | refine sub_skip ?_)))
theorem plus_call (w : World) (news) {n k : Nat} {D1 D2 a1 b1 a2 b2 u1 v1 c1 u2 v2 c2} {q r : Rat} (hm1 : (D1, tup2 a1 b1 u1 v1 c1) ∈ news) (hm2 : (D2, tup2 a2 b2 u2 v2 c2) ∈ news) (hq : Pr n a1 b1 q) (hr : Pr k a2 b2 r) (hn : n ≤ 3900) (hk : k ≤ 3900) : CallOk w 80 [.ref D1, .ref D2] 4 news (FrRet (q + r)) := by
  unfold CallOk
  k_fill
  intro p loose mean mg mb dp un gd cn cs a ccd cl outer A₀ base h₀ L m hpA gsA drA tkA osA Q E B F X N T hkf hd hu hret
  refine wpAny_call ?_
  k_dflt ktr_enter
  refine gen_tk fun tk0 => ?_
  rename Fr _ _ _ _ => kF0
  refine fr_open2 (Str.ofString "one") (Str.ofString "other") kF0 (by with_unfolding_all rfl) (by with_unfolding_all rfl) fun mb kF1 => ?_
  clear kF0
  refine wpN ?_
  k_with_none
  k_with "callF" => (k_here; k_dflt (first | (refine' times_use ?m1 ?m2 ?p1 ?p2 ?n1 ?n2 ?k1 ?k2 ?k3 ?k4 ?k5 ?kK ?kd ?ku ?_) | (refine' less_use ?m1 ?m2 ?p1 ?p2 ?n1 ?n2 ?k1 ?k2 ?k3 ?k4 ?k5 ?kK ?kd ?ku ?_) | (refine' by_use ?m1 ?m2 ?p1 ?p2 ?n1 ?n2 ?z ?k1 ?k2 ?k3 ?k4 ?k5 ?kK ?kd ?ku ?_)); (k_dflt walk_at "mine asm"); (try (case z => k_extra "ne")); intro D9 u9 v9 c9 h9 tk9 F9 N9 hl9 hb9; (try k_sweep))
  k_steps
  rename Fr h₀ L _ m => kF
  rename News h₀ L _ _ => kN
  rename AllLt _ _ => kL
  exact fr_ret hret kF kN (by k_mem) (by walk_at "mine sub") kL (by walk_at "mine sub") (by grind)
theorem plus_use {w : World} {news : Led} {n k : Nat} {D1 D2 a1 b1 a2 b2 u1 v1 c1 u2 v2 c2} {q r : Rat}
    {p : Program} {loose : List Str} {mean : ExcName → Option Value} {mg mb : Str → Option Value} {dp un : Nat} {gd : Option (List Code)} {cn : Str} {cs : Scope} {a : Addr} {ccd : Value} {cl : List (Str × Addr)} {outer : List Env} {A₀ : Around} {base h₀ : Heap} {L : Addr} {m : Str → Option Value} {hpA : Heap} {gsA : Array GenState} {drA : Drawn} {tkA : Nat} {osA : OsState}
    {Q E : Value → Shared → Prop}
    (hm1 : (D1, tup2 a1 b1 u1 v1 c1) ∈ news) (hm2 : (D2, tup2 a2 b2 u2 v2 c2) ∈ news) (hq : Pr n a1 b1 q) (hr : Pr k a2 b2 r) (hn : n ≤ 3900) (hk : k ≤ 3900)
    (B : Below A₀ base outer h₀) (F : Fr h₀ L hpA m) (X : (Mine.hd.heap_39 w.params).In h₀) (N : News h₀ L hpA news) (T : Top p loose mean mg mb h₀) (hkf : cs.kind = .function)
    (hd : dp + 4 < recursionLimit) (hu : un + 8 * 4 < cLine)
    (ret : ∀ D u1 u2 c h' tk', Fr h₀ L h' m → News h₀ L h' ((D, fr (q + r) u1 u2 c) :: news) → AllLt D news → Bd (n + k + 1) (q + r) → Q (.ref D) ⟨h', gsA, drA, tk', osA⟩) :
    wpAny (model PySem.Challenge.rw_xm0058_01.row.toRowW.prog w) (ktrTop dp un gd cn cs L a ccd cl outer) (call (.ref 80) [.ref D1, .ref D2]) Q E ⟨hpA, gsA, drA, tkA, osA⟩ :=
  fr_use (plus_call w news hm1 hm2 hq hr hn hk) B F X N T hkf hd hu rfl (Bd.add hq.bd hr.bd (Nat.le_refl _)) ret
-- part L1
abbrev lst (vs : List Value) (n : Nat) : Obj := { cls := .type "list", data := .seq vs.toArray n }
/-- a ledger without one entry -/
inductive Rem (I : Addr) (it : Obj) : Led → Led → Prop
  | here {r : Led} : (∀ p ∈ r, p.1 ≠ I) → Rem I it ((I, it) :: r) r
  | skip {p : Addr × Obj} {r r' : Led} : p.1 ≠ I → Rem I it r r' → Rem I it (p :: r) (p :: r')
theorem Rem.off {I : Addr} {it : Obj} {l l' : Led} (h : Rem I it l l') : ∀ p ∈ l', p.1 ≠ I := by
  induction h with
  | here h => exact h
  | skip h _ ih => intro p hp; rcases List.mem_cons.mp hp with rfl | hp; exact h; exact ih p hp
theorem Rem.sub {I : Addr} {it : Obj} {l l' : Led} (h : Rem I it l l') : ∀ p ∈ (I, it) :: l', p ∈ l := by
  induction h with
  | here h => exact fun p hp => hp
  | skip h _ ih =>
    intro p hp
    rcases List.mem_cons.mp hp with rfl | hp
    · exact List.mem_cons_of_mem _ (ih _ (List.mem_cons_self ..))
    · rcases List.mem_cons.mp hp with rfl | hp
      · exact List.mem_cons_self ..
      · exact List.mem_cons_of_mem _ (ih _ (List.mem_cons_of_mem _ hp))
theorem unr_end {h₀ : Heap} {L I : Addr} {it : Obj} {rest : (Str → Option Value) → Led → Prop} {s₁ : Shared} {h' : Heap} {tk : Nat} {m' : Str → Option Value} {all news' : Led} (F : Fr h₀ L h' m') (N : News h₀ L h' all)
    (R : Rem I it all news') (r : rest m' news') : UnrEnd h₀ L s₁ I it rest { s₁ with heap := h', toks := tk } := UnrEnd.intro F N news' R.sub R.off r
theorem off_of {d : Addr} {l : Led} (h : AllLt d l) : ∀ p ∈ l, p.1 ≠ d := fun p hp => Nat.ne_of_lt (ktn_ltOf h p hp)
theorem off_of1 {d : Nat} {l : Led} (h : AllLt d l) : ∀ p ∈ l, p.1 ≠ d + 1 := fun p hp => Nat.ne_of_lt (Nat.lt_succ_of_lt (ktn_ltOf h p hp))
theorem unr_endW1 {h₀ : Heap} {L I : Addr} {o : Obj} {rest : (Str → Option Value) → Led → Prop} {s₁ : Shared} {h' : Heap} {tk : Nat} {m' : Str → Option Value} {all news' : Led} (F : Fr h₀ L h' m') (N : News h₀ L h' all)
    (R : Rem I o all news') (r : rest m' news') : UnrEndW h₀ L s₁ [(I, o)] rest { s₁ with heap := h', toks := tk } :=
  ⟨h', tk, m', news', rfl, F, fun p hp => N p (R.sub p hp), fun p hp q hq => by rw [List.mem_singleton.mp hq]; exact R.off p hp, r⟩
theorem unr_endW2 {h₀ : Heap} {L I J : Addr} {o o' : Obj} {rest : (Str → Option Value) → Led → Prop} {s₁ : Shared} {h' : Heap} {tk : Nat} {m' : Str → Option Value} {all l news' : Led} (F : Fr h₀ L h' m') (N : News h₀ L h' all)
    (R : Rem I o all l) (R' : Rem J o' l news') (r : rest m' news') : UnrEndW h₀ L s₁ [(I, o), (J, o')] rest { s₁ with heap := h', toks := tk } := by
  refine ⟨h', tk, m', news', rfl, F, fun p hp => ?_, fun p hp q hq => ?_, r⟩
  · rcases List.mem_cons.mp hp with rfl | hp
    · exact N _ (R.sub _ (List.mem_cons_self ..))
    · exact N p (R.sub p (List.mem_cons_of_mem _ (R'.sub p hp)))
  · rcases List.mem_cons.mp hq with rfl | hq
    · exact R.off p (R'.sub p (List.mem_cons_of_mem _ hp))
    · rw [List.mem_singleton.mp hq]; exact R'.off p hp
section
variable {prog : Program} {w : World} {A : Around} {E : Value → Shared → Prop} {s : Shared} {env : Env} {h₀ : Heap} {body : List Stmt} {Q : Flow → Shared → Prop}
theorem enum3 {elts : List Expr} {k : Nat} {pos : Pos} {l : Addr} {lo : Obj} {v0 v1 v2 : Value} {n : Nat} {m₀ : Str → Option Value} {news : Led}
    (hh : A.handled = none) (F : Fr h₀ env.locals s.heap m₀) (N : News h₀ env.locals s.heap news) (hm : (l, lo) ∈ news) (hc : lo.cls = .type "list") (hd : lo.data = .seq [v0, v1, v2].toArray n)
    (rest₀ : ∀ I : Addr, (∀ p ∈ news, p.1 < I) → ItemsRest prog w A E h₀ env (.Tuple elts k pos) body Q s [(I + 1, "enumerate"), (I, "list_iterator")] [(l, lo)] [.pair (fun t => .int 0 t) v0, .pair (fun t => .int 1 t) v1, .pair (fun t => .int 2 t) v2] m₀ news) :
    wpAny (model prog w) A (call (.type "enumerate") [.ref l]) (fun xv s₁ => wpAny (model prog w) A (pyIter xv) (fun it s₂ => TurnsAt prog w A h₀ env (.Tuple elts k pos) body Q E it s₂) E s₁) E s :=
  ktu_enum hh F N hm hc hd rfl rest₀
end
section
variable {prog : Program} {w : World} {A : Around} {E : Value → Shared → Prop} {s : Shared} {h₀ : Heap} {L l : Addr} {lo : Obj} {news : Led}
theorem lst_item {value slice : Expr} {vs : List Value} {k : Int} {u : Tok} {v : Value} {n : Nat} {Q : Value → Shared → Prop}
    (N : News h₀ L s.heap news) (hm : (l, lo) ∈ news) (hc : lo.cls = .type "list") (hd : lo.data = .seq vs.toArray n) (h0 : 0 ≤ k) (hhi : k < 2 ^ 63) (hx : vs[k.toNat]? = some v) (h : Q v s)
    (hs : subscripted slice false (.ref l) (.int k u) = operate [.ref l, .int k u] (getItem (.ref l) (.int k u)) := by with_unfolding_all rfl) :
    wpAny (model prog w) A (subscriptTail value slice (.ref l) (.int k u)) Q E s :=
  item_litK ⟨lo, (N _ hm).1, hc, n, hd⟩ h0 hhi hx h hs
end
-- part F6
local macro_rules | `(tactic| walk_at "mine s1") => `(tactic| first | assumption | exact And.right (by assumption) | exact r2 (by assumption) | exact r3 (by assumption) | exact r4 (by assumption) | exact r5 (by assumption) | exact r6 (by assumption) | exact r7 (by assumption))
local macro_rules | `(tactic| walk_at "mine l0") => `(tactic| walk_at "mine s1")
local macro_rules | `(tactic| walk_at "mine s2") => `(tactic| first | assumption | exact allLt_of (by assumption) | walk_at "mine l0" | exact r8 (by walk_at "mine l0") | exact r8 (r8 (by walk_at "mine l0")) | exact r8 (r8 (r8 (by walk_at "mine l0"))) | exact r8 (r8 (r8 (r8 (by walk_at "mine l0")))) | exact r8 (r8 (r8 (r8 (r8 (by walk_at "mine l0"))))))
local macro_rules | `(tactic| walk_at "mine lt") => `(tactic| walk_at "mine s2")
local macro_rules | `(tactic| k_all) => `(tactic| exact off_of (by walk_at "mine lt"))
local macro_rules | `(tactic| walk_at "mine s3") => `(tactic| first | (refine' List.forall_mem_cons.mpr ⟨?a, ?b⟩; (case a => k_ne); (case b => walk_at "mine rall")) | exact List.forall_mem_nil _ | assumption | exact off_of (by walk_at "mine lt") | exact off_of1 (by walk_at "mine lt"))
local macro_rules | `(tactic| walk_at "mine rall") => `(tactic| walk_at "mine s3")
local macro_rules | `(tactic| walk_at "mine s4") => `(tactic| first | (refine' Rem.here ?ra; (case ra => walk_at "mine rall")) | (refine' Rem.skip ?rb ?rc; (case rb => k_ne); (case rc => walk_at "mine rem")))
local macro_rules | `(tactic| walk_at "mine rem") => `(tactic| walk_at "mine s4")
local macro_rules | `(tactic| walk_at "mine s5") => `(tactic| (k_here; (rename Fr _ _ _ _ => lF'); (with_unfolding_all refine' For_invVF lF' ?k1 ?k2 ?_; (case k1 | k2 => exact rfl); k_whole)))
local macro_rules | `(tactic| walk_at "exec For Name Subscript cons nil") => `(tactic| walk_at "mine s5")
local macro_rules | `(tactic| walk_at "mine s6") => `(tactic| ((with_reducible show wpAny _ _ (pyIter (Value.ref _)) (fun it s₂ => LoopAtV _ _ _ _ _ _ _ _ _ it s₂) _ _); (rename Fr _ _ _ _ => lF'); (rename News _ _ _ _ => lN'); (with_unfolding_all refine' iter_listUnr (by rfl) lF' lN' ?hm ?hc ?hd ?_; (case hm => k_mem); (case hc | hd => rfl)); clear lF'; intro i' l1; (k_lt l1)))
local macro_rules | `(tactic| walk_at "pyIter ref") => `(tactic| walk_at "mine s6")
local macro_rules | `(tactic| walk_at "mine s7") => `(tactic| k_dflt ((rename Fr _ _ _ _ => lF'); (rename News _ _ _ _ => lN'); refine' unr_end lF' lN' ?R ⟨?m, ?_⟩; (case R => walk_at "mine rem"); (case m => k_mem)))
local macro_rules | `(tactic| walk_at "UnrEnd") => `(tactic| walk_at "mine s7")
theorem intc_ne {x y : Int} (h : x ≠ y) : ((y - x : Int) : Rat) ≠ 0 := by
  intro e
  have : y - x = 0 := by exact_mod_cast e
  omega
theorem slope_call (w : World) (news) {n k j : Nat} {D1 D2 a1 b1 a2 b2 u1 v1 c1 u2 v2 c2} {q r : Rat} {x y : Int} {tx ty : Tok} (hm1 : (D1, tup2 a1 b1 u1 v1 c1) ∈ news) (hm2 : (D2, tup2 a2 b2 u2 v2 c2) ∈ news) (hq : Pr n a1 b1 q) (hr : Pr k a2 b2 r) (hn : n ≤ 1000) (hk : k ≤ 1000) (hxy : x ≠ y) (hs : Sm (j + 1) (y - x)) (hj : j ≤ 1000) :
    CallOk w 99 [.ref D1, .ref D2, .int x tx, .int y ty] 5 news (FrRet ((r - q) / (((y - x : Int)) : Rat))) := by
  unfold CallOk
  k_fill
  intro p loose mean mg mb dp un gd cn cs a ccd cl outer A₀ base h₀ L m hpA gsA drA tkA osA Q E B F X N T hkf hd hu hret
  refine wpAny_call ?_
  k_dflt ktr_enter
  refine gen_tk fun tk0 => ?_
  rename Fr _ _ _ _ => kF0
  refine fr_open4 (Str.ofString "one") (Str.ofString "other") (Str.ofString "first") (Str.ofString "last") kF0 (by with_unfolding_all rfl) (by with_unfolding_all rfl) (by with_unfolding_all rfl) (by with_unfolding_all rfl) fun mb kF1 => ?_
  clear kF0
  refine wpN ?_
  k_with_none
  k_with "ne" => exact intc_ne hxy
  k_with "callF" => (k_here; k_dflt (first | (refine' times_use ?m1 ?m2 ?p1 ?p2 ?n1 ?n2 ?k1 ?k2 ?k3 ?k4 ?k5 ?kK ?kd ?ku ?_) | (refine' less_use ?m1 ?m2 ?p1 ?p2 ?n1 ?n2 ?k1 ?k2 ?k3 ?k4 ?k5 ?kK ?kd ?ku ?_) | (refine' plus_use ?m1 ?m2 ?p1 ?p2 ?n1 ?n2 ?k1 ?k2 ?k3 ?k4 ?k5 ?kK ?kd ?ku ?_) | (refine' by_use ?m1 ?m2 ?p1 ?p2 ?n1 ?n2 ?z ?k1 ?k2 ?k3 ?k4 ?k5 ?kK ?kd ?ku ?_)); (k_dflt walk_at "mine asm"); (try (case z => k_extra "ne")); intro D9 u9 v9 c9 h9 tk9 F9 N9 hl9 hb9; (try simp only [AllLt, and_true] at hl9); (try k_sweep))
  k_steps
  rename Fr h₀ L _ m => kF
  rename News h₀ L _ _ => kN
  exact fr_ret hret kF kN (by k_mem) (by walk_at "mine sub") (by walk_at "mine lt") sub_refl rfl
theorem slope_use {w : World} {news : Led} {p : Program} {loose : List Str} {mean : ExcName → Option Value} {mg mb : Str → Option Value} {dp un : Nat} {gd : Option (List Code)} {cn : Str} {cs : Scope} {a : Addr} {ccd : Value} {cl : List (Str × Addr)} {outer : List Env} {A₀ : Around} {base h₀ : Heap} {L : Addr} {m : Str → Option Value} {hpA : Heap} {gsA : Array GenState} {drA : Drawn} {tkA : Nat} {osA : OsState}
    {Q E : Value → Shared → Prop}
    {n k j : Nat} {D1 D2 a1 b1 a2 b2 u1 v1 c1 u2 v2 c2} {q r : Rat} {x y : Int} {tx ty : Tok} (hm1 : (D1, tup2 a1 b1 u1 v1 c1) ∈ news) (hm2 : (D2, tup2 a2 b2 u2 v2 c2) ∈ news) (hq : Pr n a1 b1 q) (hr : Pr k a2 b2 r) (hn : n ≤ 1000) (hk : k ≤ 1000) (hxy : x ≠ y) (hs : Sm (j + 1) (y - x)) (hj : j ≤ 1000)
    (B : Below A₀ base outer h₀) (F : Fr h₀ L hpA m) (X : (Mine.hd.heap_39 w.params).In h₀) (N : News h₀ L hpA news) (T : Top p loose mean mg mb h₀) (hkf : cs.kind = .function)
    (hd : dp + 5 < recursionLimit) (hu : un + 8 * 5 < cLine)
    (ret : ∀ D u1 u2 c h' tk', Fr h₀ L h' m → News h₀ L h' ((D, fr ((r - q) / (((y - x : Int)) : Rat)) u1 u2 c) :: news) → AllLt D news → Bd (k + n + 1 + (j + 1)) ((r - q) / (((y - x : Int)) : Rat)) → Q (.ref D) ⟨h', gsA, drA, tk', osA⟩) :
    wpAny (model PySem.Challenge.rw_xm0058_01.row.toRowW.prog w) (ktrTop dp un gd cn cs L a ccd cl outer) (call (.ref 99) [.ref D1, .ref D2, .int x tx, .int y ty]) Q E ⟨hpA, gsA, drA, tkA, osA⟩ :=
  fr_use (slope_call w news hm1 hm2 hq hr hn hk hxy hs hj) B F X N T hkf hd hu rfl (Bd.div (intc_ne hxy) (Bd.sub hr.bd hq.bd (Nat.le_refl _)) (Bd.intCast hs) (Nat.le_refl _)) ret
theorem at_call (w : World) (news) {n j : Nat} {DL D0 D1 D2 a0 b0 a1 b1 a2 b2 u0 v0 c0 u1 v1 c1 u2 v2 c2 cL} {q0 q1 q2 : Rat} {x : Int} {tx : Tok}
    (hmL : (DL, lst [.ref D0, .ref D1, .ref D2] cL) ∈ news) (hm0 : (D0, tup2 a0 b0 u0 v0 c0) ∈ news) (hm1 : (D1, tup2 a1 b1 u1 v1 c1) ∈ news) (hm2 : (D2, tup2 a2 b2 u2 v2 c2) ∈ news)
    (hq0 : Pr n a0 b0 q0) (hq1 : Pr n a1 b1 q1) (hq2 : Pr n a2 b2 q2) (hn : n ≤ 700) (hs : Sm (j + 1) x) (hj : j ≤ 100) :
    CallOk w 92 [.ref DL, .int x tx] 6 news (FrRet (q0 + q1 * x + q2 * x * x)) := by
  unfold CallOk
  k_fill
  intro p loose mean mg mb dp un gd cn cs a ccd cl outer A₀ base h₀ L m hpA gsA drA tkA osA Q E B F X N T hkf hd hu hret
  refine wpAny_call ?_
  k_dflt ktr_enter
  refine gen_tk fun tk0 => ?_
  rename Fr _ _ _ _ => kF0
  refine fr_open2 (Str.ofString "numbers") (Str.ofString "here") kF0 (by with_unfolding_all rfl) (by with_unfolding_all rfl) fun mb kF1 => ?_
  clear kF0
  refine wpN ?_
  k_with_none
  k_with "callF" => (k_here; k_dflt (first | (refine' times_use ?m1 ?m2 ?p1 ?p2 ?n1 ?n2 ?k1 ?k2 ?k3 ?k4 ?k5 ?kK ?kd ?ku ?_) | (refine' less_use ?m1 ?m2 ?p1 ?p2 ?n1 ?n2 ?k1 ?k2 ?k3 ?k4 ?k5 ?kK ?kd ?ku ?_) | (refine' plus_use ?m1 ?m2 ?p1 ?p2 ?n1 ?n2 ?k1 ?k2 ?k3 ?k4 ?k5 ?kK ?kd ?ku ?_) | (refine' by_use ?m1 ?m2 ?p1 ?p2 ?n1 ?n2 ?z ?k1 ?k2 ?k3 ?k4 ?k5 ?kK ?kd ?ku ?_)); (k_dflt walk_at "mine asm"); (try (case z => k_extra "ne")); intro D9 u9 v9 c9 h9 tk9 F9 N9 hl9 hb9; (try simp only [AllLt, and_true] at hl9); (try k_sweep))
  k_steps
  rename Fr h₀ L _ m => kF
  rename News h₀ L _ _ => kN
  exact fr_ret hret kF kN (by k_mem) (by walk_at "mine sub") (by walk_at "mine lt") sub_refl (by grind)
-- part F7
theorem Sm.mulOk2 {x y : Int} {n : Nat} (h : Sm n x) (hk : Sm n y) (hn : n ≤ 4000 := by decide) : IntMulOk x y := Sm.mulOk (h.mono hn) (hk.mono hn)
local macro_rules | `(tactic| walk_at "binaryOp Mult int int") => `(tactic| (refine mul_int ?_ (Sm.mulOk2 (by assumption) (by assumption))))
abbrev tupo (x : Int) (D : Addr) (u : Tok) (c : Nat) : Obj := { cls := .type "tuple", data := .seq #[.int x u, .ref D] c }
/-- Newton's form -/
def newton (a b c x : Int) (p q r : Rat) : Rat :=
  p + (q - p) / ((b - a : Int) : Rat) * ((x - a : Int) : Rat) + ((r - q) / ((c - b : Int) : Rat) - (q - p) / ((b - a : Int) : Rat)) / ((c - a : Int) : Rat) * (((x - a) * (x - b) : Int) : Rat)
theorem diff_call (w : World) (news) {n : Nat} {DL P0 P1 P2 D0 D1 D2 a0 b0 a1 b1 a2 b2 u0 v0 c0 u1 v1 c1 u2 v2 c2 cL t0 t1 t2 e0 e1 e2} {q0 q1 q2 : Rat} {x0 x1 x2 x : Int} {tx : Tok}
    (hmL : (DL, lst [.ref P0, .ref P1, .ref P2] cL) ∈ news) (hp0 : (P0, tupo x0 D0 t0 e0) ∈ news) (hp1 : (P1, tupo x1 D1 t1 e1) ∈ news) (hp2 : (P2, tupo x2 D2 t2 e2) ∈ news)
    (hm0 : (D0, tup2 a0 b0 u0 v0 c0) ∈ news) (hm1 : (D1, tup2 a1 b1 u1 v1 c1) ∈ news) (hm2 : (D2, tup2 a2 b2 u2 v2 c2) ∈ news)
    (hq0 : Pr n a0 b0 q0) (hq1 : Pr n a1 b1 q1) (hq2 : Pr n a2 b2 q2) (hn : n ≤ 100) (hs0 : Sm 10 x0) (hs1 : Sm 10 x1) (hs2 : Sm 10 x2) (hs : Sm 10 x) (h01 : x0 ≠ x1) (h02 : x0 ≠ x2) (h12 : x1 ≠ x2) :
    CallOk w 106 [.ref DL, .int x tx] 8 news (FrRet (newton x0 x1 x2 x q0 q1 q2)) := by
  have s1 : Sm 11 (x1 - x0) := hs1.sub hs0 (by decide)
  have s2 : Sm 11 (x2 - x1) := hs2.sub hs1 (by decide)
  have s3 : Sm 11 (x2 - x0) := hs2.sub hs0 (by decide)
  have s4 : Sm 11 (x - x0) := hs.sub hs0 (by decide)
  have s5 : Sm 11 (x - x1) := hs.sub hs1 (by decide)
  have s6 : Sm 22 ((x - x0) * (x - x1)) := s4.mul s5
  unfold CallOk
  k_fill
  intro p loose mean mg mb dp un gd cn cs a ccd cl outer A₀ base h₀ L m hpA gsA drA tkA osA Q E B F X N T hkf hd hu hret
  refine wpAny_call ?_
  k_dflt ktr_enter
  refine gen_tk fun tk0 => ?_
  rename Fr _ _ _ _ => kF0
  refine fr_open2 (Str.ofString "points") (Str.ofString "here") kF0 (by with_unfolding_all rfl) (by with_unfolding_all rfl) fun mb kF1 => ?_
  clear kF0
  refine wpN ?_
  k_with_none
  k_with "callF" => (k_here; k_dflt (first | (refine' times_use ?m1 ?m2 ?p1 ?p2 ?n1 ?n2 ?k1 ?k2 ?k3 ?k4 ?k5 ?kK ?kd ?ku ?_) | (refine' less_use ?m1 ?m2 ?p1 ?p2 ?n1 ?n2 ?k1 ?k2 ?k3 ?k4 ?k5 ?kK ?kd ?ku ?_) | (refine' slope_use ?m1 ?m2 ?p1 ?p2 ?n1 ?n2 ?x1 ?x2 ?n3 ?k1 ?k2 ?k3 ?k4 ?k5 ?kK ?kd ?ku ?_) | (refine' plus_use ?m1 ?m2 ?p1 ?p2 ?n1 ?n2 ?k1 ?k2 ?k3 ?k4 ?k5 ?kK ?kd ?ku ?_) | (refine' by_use ?m1 ?m2 ?p1 ?p2 ?n1 ?n2 ?z ?k1 ?k2 ?k3 ?k4 ?k5 ?kK ?kd ?ku ?_)); (k_dflt walk_at "mine asm"); (try (case z => k_extra "ne")); (try (case x1 => first | assumption | (exact Ne.symm (by assumption)))); (try (case x2 => assumption)); (try (case n3 => decide)); intro D9 u9 v9 c9 h9 tk9 F9 N9 hl9 hb9; (try simp only [AllLt, and_true] at hl9); (try k_sweep))
  k_steps
  rename Fr h₀ L _ m => kF
  rename News h₀ L _ _ => kN
  exact fr_ret hret kF kN (by k_mem) (by walk_at "mine sub") (by walk_at "mine lt") sub_refl rfl
theorem fracq_call (w : World) (news) {n : Nat} {x y : Int} {t1 t2 : Tok} (hy : y ≠ 0) (hb : Sm n y) (hn : n ≤ 9000) : CallOk w 28 [.int x t1, .int y t2] 2 news (FrRet ((x : Rat) / (y : Rat))) := by
  have h := frac_call w x y t1 t2 news hy (hb.mono hn)
  rw [Rat.divInt_eq_div] at h
  exact h
theorem fracq_use {w : World} {news : Led} {p : Program} {loose : List Str} {mean : ExcName → Option Value} {mg mb : Str → Option Value} {dp un : Nat} {gd : Option (List Code)} {cn : Str} {cs : Scope} {a : Addr} {ccd : Value} {cl : List (Str × Addr)} {outer : List Env} {A₀ : Around} {base h₀ : Heap} {L : Addr} {m : Str → Option Value} {hpA : Heap} {gsA : Array GenState} {drA : Drawn} {tkA : Nat} {osA : OsState}
    {Q E : Value → Shared → Prop}
    {n : Nat} {x y : Int} {t1 t2 : Tok} (hy : y ≠ 0) (hx : Sm n x) (hb : Sm n y) (hn : n ≤ 9000)
    (B : Below A₀ base outer h₀) (F : Fr h₀ L hpA m) (X : (Mine.hd.heap_39 w.params).In h₀) (N : News h₀ L hpA news) (T : Top p loose mean mg mb h₀) (hkf : cs.kind = .function)
    (hd : dp + 2 < recursionLimit) (hu : un + 8 * 2 < cLine)
    (ret : ∀ D u1 u2 c h' tk', Fr h₀ L h' m → News h₀ L h' ((D, fr ((x : Rat) / (y : Rat)) u1 u2 c) :: news) → AllLt D news → Bd (n) ((x : Rat) / (y : Rat)) → Q (.ref D) ⟨h', gsA, drA, tk', osA⟩) :
    wpAny (model PySem.Challenge.rw_xm0058_01.row.toRowW.prog w) (ktrTop dp un gd cn cs L a ccd cl outer) (call (.ref 28) [.int x t1, .int y t2]) Q E ⟨hpA, gsA, drA, tkA, osA⟩ :=
  fr_use (fracq_call w news hy hb hn) B F X N T hkf hd hu rfl ((Rat.divInt_eq_div x y) ▸ Bd.divInt hy hx hb) ret
-- part F8
local macro_rules | `(tactic| walk_at "mine f1") => `(tactic| ((try (case z => k_extra "ne")); k_whole; intro D9 u9 v9 c9 h9 tk9 F9 N9 hl9 hb9; (try simp only [AllLt, and_true] at hl9); (try k_sweep)))
local macro_rules | `(tactic| walk_at "call ref") => `(tactic| ((fail_if_success k_extra "two"); (k_here; k_dflt (k_extra "u8"); (k_dflt k_extra "asm8"); walk_at "mine f1")))
local macro_rules | `(tactic| walk_at "mine s8") => `(tactic| first | exact off_of (by walk_at "mine lt") | exact off_of1 (by walk_at "mine lt"))
local macro_rules | `(tactic| k_all) => `(tactic| walk_at "mine s8")
local macro_rules | `(tactic| walk_at "mine s9") => `(tactic| (k_here; (rename Fr _ _ _ _ => lF'); (with_unfolding_all refine' For_turns lF' ?_; k_whole)))
local macro_rules | `(tactic| walk_at "exec For Tuple Call cons nil") => `(tactic| walk_at "mine s9")
local macro_rules | `(tactic| walk_at "mine s10") => `(tactic| (k_here; (rename Fr _ _ _ _ => lF'); (rename News _ _ _ _ => lN'); (with_unfolding_all refine' enum3 (by rfl) lF' lN' ?hm ?hc ?hd ?_; (case hm => k_mem); (case hc | hd => rfl)); clear lF'; intro i' l1; (k_lt l1)))
local macro_rules | `(tactic| walk_at "call type:enumerate") => `(tactic| walk_at "mine s10")
local macro_rules | `(tactic| walk_at "mine s11") => `(tactic| ((rename Fr _ _ _ _ => lF'); (rename News _ _ _ _ => lN'); first | (refine' unr_endW2 lF' lN' ?R ?S ⟨⟨?m, trivial⟩, ?_⟩; (case R | S => walk_at "mine rem"); (case m => k_mem)) | (refine' unr_endW1 lF' lN' ?R ⟨⟨?m, trivial⟩, ?_⟩; (case R => walk_at "mine rem"); (case m => k_mem))))
local macro_rules | `(tactic| walk_at "UnrEndW") => `(tactic| walk_at "mine s11")
local macro_rules | `(tactic| walk_at "mine s12") => `(tactic| (k_here; (rename News _ _ _ _ => lN'); (with_unfolding_all refine' lst_item lN' ?hm ?hc ?hd (by decide) (by decide) ?hx ?_ ; (case hm => k_mem); (case hc | hd | hx => rfl))))
local macro_rules | `(tactic| walk_at "subscriptTail Name Name ref int") => `(tactic| walk_at "mine s12")
/-- a place's own product -/
def share (i : Int) (x0 x1 x2 x : Int) : Rat :=
  if i = 0 then ((x - x1 : Int) : Rat) / ((x0 - x1 : Int) : Rat) * (((x - x2 : Int) : Rat) / ((x0 - x2 : Int) : Rat))
  else if i = 1 then ((x - x0 : Int) : Rat) / ((x1 - x0 : Int) : Rat) * (((x - x2 : Int) : Rat) / ((x1 - x2 : Int) : Rat))
  else ((x - x0 : Int) : Rat) / ((x2 - x0 : Int) : Rat) * (((x - x1 : Int) : Rat) / ((x2 - x1 : Int) : Rat))
theorem share0_call (w : World) (news) {DL P0 P1 P2 D0 D1 D2 cL t0 t1 t2 e0 e1 e2} {x0 x1 x2 x : Int} {tx ti : Tok}
    (hmL : (DL, lst [.ref P0, .ref P1, .ref P2] cL) ∈ news) (hp0 : (P0, tupo x0 D0 t0 e0) ∈ news) (hp1 : (P1, tupo x1 D1 t1 e1) ∈ news) (hp2 : (P2, tupo x2 D2 t2 e2) ∈ news)
    (hs0 : Sm 10 x0) (hs1 : Sm 10 x1) (hs2 : Sm 10 x2) (hs : Sm 10 x) (h01 : x0 ≠ x1) (h02 : x0 ≠ x2) (h12 : x1 ≠ x2) :
    CallOk w 113 [.ref DL, .int 0 ti, .int x tx] 5 news (FrRet (share 0 x0 x1 x2 x)) := by
  have s1 : Sm 11 (x0 - x1) := hs0.sub hs1 (by decide)
  have s2 : Sm 11 (x0 - x2) := hs0.sub hs2 (by decide)
  have s4 : Sm 11 (x - x1) := hs.sub hs1 (by decide)
  have s5 : Sm 11 (x - x2) := hs.sub hs2 (by decide)
  unfold CallOk
  k_fill
  intro p loose mean mg mb dp un gd cn cs a ccd cl outer A₀ base h₀ L m hpA gsA drA tkA osA Q E B F X N T hkf hd hu hret
  refine wpAny_call ?_
  k_dflt ktr_enter
  refine gen_tk fun tk0 => ?_
  rename Fr _ _ _ _ => kF0
  refine fr_open3 (Str.ofString "points") (Str.ofString "at") (Str.ofString "here") kF0 (by with_unfolding_all rfl) (by with_unfolding_all rfl) (by with_unfolding_all rfl) fun mb kF1 => ?_
  clear kF0
  refine wpN ?_
  k_with_none
  k_with "ne" => omega
  k_with "u8" => first | (refine' times_use ?m1 ?m2 ?p1 ?p2 ?n1 ?n2 ?k1 ?k2 ?k3 ?k4 ?k5 ?kK ?kd ?ku ?_) | (refine' less_use ?m1 ?m2 ?p1 ?p2 ?n1 ?n2 ?k1 ?k2 ?k3 ?k4 ?k5 ?kK ?kd ?ku ?_) | (refine' slope_use ?m1 ?m2 ?p1 ?p2 ?n1 ?n2 ?x1 ?x2 ?n3 ?k1 ?k2 ?k3 ?k4 ?k5 ?kK ?kd ?ku ?_) | (refine' fracq_use ?z ?x1 ?x2 ?n1 ?k1 ?k2 ?k3 ?k4 ?k5 ?kK ?kd ?ku ?_) | (refine' plus_use ?m1 ?m2 ?p1 ?p2 ?n1 ?n2 ?k1 ?k2 ?k3 ?k4 ?k5 ?kK ?kd ?ku ?_) | (refine' by_use ?m1 ?m2 ?p1 ?p2 ?n1 ?n2 ?z ?k1 ?k2 ?k3 ?k4 ?k5 ?kK ?kd ?ku ?_)
  k_with "asm8" => ((case k4 => k_asm); (try (case m1 => k_mem)); (try (case m2 => k_mem)); (try (case p1 => walk_at "mine pr")); (try (case p2 => walk_at "mine pr")); (try (case x1 => first | assumption | (exact Ne.symm (by assumption)))); (try (case x2 => assumption)); (try (case n1 => first | decide | omega)); (try (case n2 => first | decide | omega)); (try (case n3 => first | decide | omega)); (case k1 => k_asm); (case k2 => k_asm); (case k3 => k_asm); (case k5 => k_asm); (case kK => first | exact rfl | assumption); (case kd => ktr_room); (case ku => ktr_units))
  k_steps
  rename Fr h₀ L _ m => kF
  rename News h₀ L _ _ => kN
  exact fr_ret hret kF kN (by k_mem) (by walk_at "mine sub") (by walk_at "mine lt") sub_refl (by simp only [share]; grind)
theorem share1_call (w : World) (news) {DL P0 P1 P2 D0 D1 D2 cL t0 t1 t2 e0 e1 e2} {x0 x1 x2 x : Int} {tx ti : Tok}
    (hmL : (DL, lst [.ref P0, .ref P1, .ref P2] cL) ∈ news) (hp0 : (P0, tupo x0 D0 t0 e0) ∈ news) (hp1 : (P1, tupo x1 D1 t1 e1) ∈ news) (hp2 : (P2, tupo x2 D2 t2 e2) ∈ news)
    (hs0 : Sm 10 x0) (hs1 : Sm 10 x1) (hs2 : Sm 10 x2) (hs : Sm 10 x) (h01 : x0 ≠ x1) (h02 : x0 ≠ x2) (h12 : x1 ≠ x2) :
    CallOk w 113 [.ref DL, .int 1 ti, .int x tx] 5 news (FrRet (share 1 x0 x1 x2 x)) := by
  have s1 : Sm 11 (x1 - x0) := hs1.sub hs0 (by decide)
  have s2 : Sm 11 (x1 - x2) := hs1.sub hs2 (by decide)
  have s4 : Sm 11 (x - x0) := hs.sub hs0 (by decide)
  have s5 : Sm 11 (x - x2) := hs.sub hs2 (by decide)
  unfold CallOk
  k_fill
  intro p loose mean mg mb dp un gd cn cs a ccd cl outer A₀ base h₀ L m hpA gsA drA tkA osA Q E B F X N T hkf hd hu hret
  refine wpAny_call ?_
  k_dflt ktr_enter
  refine gen_tk fun tk0 => ?_
  rename Fr _ _ _ _ => kF0
  refine fr_open3 (Str.ofString "points") (Str.ofString "at") (Str.ofString "here") kF0 (by with_unfolding_all rfl) (by with_unfolding_all rfl) (by with_unfolding_all rfl) fun mb kF1 => ?_
  clear kF0
  refine wpN ?_
  k_with_none
  k_with "ne" => omega
  k_with "u8" => first | (refine' times_use ?m1 ?m2 ?p1 ?p2 ?n1 ?n2 ?k1 ?k2 ?k3 ?k4 ?k5 ?kK ?kd ?ku ?_) | (refine' less_use ?m1 ?m2 ?p1 ?p2 ?n1 ?n2 ?k1 ?k2 ?k3 ?k4 ?k5 ?kK ?kd ?ku ?_) | (refine' slope_use ?m1 ?m2 ?p1 ?p2 ?n1 ?n2 ?x1 ?x2 ?n3 ?k1 ?k2 ?k3 ?k4 ?k5 ?kK ?kd ?ku ?_) | (refine' fracq_use ?z ?x1 ?x2 ?n1 ?k1 ?k2 ?k3 ?k4 ?k5 ?kK ?kd ?ku ?_) | (refine' plus_use ?m1 ?m2 ?p1 ?p2 ?n1 ?n2 ?k1 ?k2 ?k3 ?k4 ?k5 ?kK ?kd ?ku ?_) | (refine' by_use ?m1 ?m2 ?p1 ?p2 ?n1 ?n2 ?z ?k1 ?k2 ?k3 ?k4 ?k5 ?kK ?kd ?ku ?_)
  k_with "asm8" => ((case k4 => k_asm); (try (case m1 => k_mem)); (try (case m2 => k_mem)); (try (case p1 => walk_at "mine pr")); (try (case p2 => walk_at "mine pr")); (try (case x1 => first | assumption | (exact Ne.symm (by assumption)))); (try (case x2 => assumption)); (try (case n1 => first | decide | omega)); (try (case n2 => first | decide | omega)); (try (case n3 => first | decide | omega)); (case k1 => k_asm); (case k2 => k_asm); (case k3 => k_asm); (case k5 => k_asm); (case kK => first | exact rfl | assumption); (case kd => ktr_room); (case ku => ktr_units))
  k_steps
  rename Fr h₀ L _ m => kF
  rename News h₀ L _ _ => kN
  exact fr_ret hret kF kN (by k_mem) (by walk_at "mine sub") (by walk_at "mine lt") sub_refl (by simp only [share]; grind)
theorem share2_call (w : World) (news) {DL P0 P1 P2 D0 D1 D2 cL t0 t1 t2 e0 e1 e2} {x0 x1 x2 x : Int} {tx ti : Tok}
    (hmL : (DL, lst [.ref P0, .ref P1, .ref P2] cL) ∈ news) (hp0 : (P0, tupo x0 D0 t0 e0) ∈ news) (hp1 : (P1, tupo x1 D1 t1 e1) ∈ news) (hp2 : (P2, tupo x2 D2 t2 e2) ∈ news)
    (hs0 : Sm 10 x0) (hs1 : Sm 10 x1) (hs2 : Sm 10 x2) (hs : Sm 10 x) (h01 : x0 ≠ x1) (h02 : x0 ≠ x2) (h12 : x1 ≠ x2) :
    CallOk w 113 [.ref DL, .int 2 ti, .int x tx] 5 news (FrRet (share 2 x0 x1 x2 x)) := by
  have s1 : Sm 11 (x2 - x0) := hs2.sub hs0 (by decide)
  have s2 : Sm 11 (x2 - x1) := hs2.sub hs1 (by decide)
  have s4 : Sm 11 (x - x0) := hs.sub hs0 (by decide)
  have s5 : Sm 11 (x - x1) := hs.sub hs1 (by decide)
  unfold CallOk
  k_fill
  intro p loose mean mg mb dp un gd cn cs a ccd cl outer A₀ base h₀ L m hpA gsA drA tkA osA Q E B F X N T hkf hd hu hret
  refine wpAny_call ?_
  k_dflt ktr_enter
  refine gen_tk fun tk0 => ?_
  rename Fr _ _ _ _ => kF0
  refine fr_open3 (Str.ofString "points") (Str.ofString "at") (Str.ofString "here") kF0 (by with_unfolding_all rfl) (by with_unfolding_all rfl) (by with_unfolding_all rfl) fun mb kF1 => ?_
  clear kF0
  refine wpN ?_
  k_with_none
  k_with "ne" => omega
  k_with "u8" => first | (refine' times_use ?m1 ?m2 ?p1 ?p2 ?n1 ?n2 ?k1 ?k2 ?k3 ?k4 ?k5 ?kK ?kd ?ku ?_) | (refine' less_use ?m1 ?m2 ?p1 ?p2 ?n1 ?n2 ?k1 ?k2 ?k3 ?k4 ?k5 ?kK ?kd ?ku ?_) | (refine' slope_use ?m1 ?m2 ?p1 ?p2 ?n1 ?n2 ?x1 ?x2 ?n3 ?k1 ?k2 ?k3 ?k4 ?k5 ?kK ?kd ?ku ?_) | (refine' fracq_use ?z ?x1 ?x2 ?n1 ?k1 ?k2 ?k3 ?k4 ?k5 ?kK ?kd ?ku ?_) | (refine' plus_use ?m1 ?m2 ?p1 ?p2 ?n1 ?n2 ?k1 ?k2 ?k3 ?k4 ?k5 ?kK ?kd ?ku ?_) | (refine' by_use ?m1 ?m2 ?p1 ?p2 ?n1 ?n2 ?z ?k1 ?k2 ?k3 ?k4 ?k5 ?kK ?kd ?ku ?_)
  k_with "asm8" => ((case k4 => k_asm); (try (case m1 => k_mem)); (try (case m2 => k_mem)); (try (case p1 => walk_at "mine pr")); (try (case p2 => walk_at "mine pr")); (try (case x1 => first | assumption | (exact Ne.symm (by assumption)))); (try (case x2 => assumption)); (try (case n1 => first | decide | omega)); (try (case n2 => first | decide | omega)); (try (case n3 => first | decide | omega)); (case k1 => k_asm); (case k2 => k_asm); (case k3 => k_asm); (case k5 => k_asm); (case kK => first | exact rfl | assumption); (case kd => ktr_room); (case ku => ktr_units))
  k_steps
  rename Fr h₀ L _ m => kF
  rename News h₀ L _ _ => kN
  exact fr_ret hret kF kN (by k_mem) (by walk_at "mine sub") (by walk_at "mine lt") sub_refl (by simp only [share]; grind)
theorem share_bd {i x0 x1 x2 x : Int} (hi : i = 0 ∨ i = 1 ∨ i = 2) (hs0 : Sm 10 x0) (hs1 : Sm 10 x1) (hs2 : Sm 10 x2) (hs : Sm 10 x) (h01 : x0 ≠ x1) (h02 : x0 ≠ x2) (h12 : x1 ≠ x2) : Bd 22 (share i x0 x1 x2 x) := by
  have d : ∀ a b c : Int, Sm 10 a → Sm 10 b → Sm 10 c → b ≠ c → Bd 11 (((a - c : Int) : Rat) / ((b - c : Int) : Rat)) := fun a b c ha hb hc h => by
    rw [← Rat.divInt_eq_div]
    exact Bd.divInt (by omega) (ha.sub hc (by decide)) (hb.sub hc (by decide))
  rcases hi with rfl | rfl | rfl
  · exact Bd.mul (d _ _ _ hs hs0 hs1 h01) (d _ _ _ hs hs0 hs2 h02) (by decide)
  · exact Bd.mul (d _ _ _ hs hs1 hs0 (Ne.symm h01)) (d _ _ _ hs hs1 hs2 h12) (by decide)
  · exact Bd.mul (d _ _ _ hs hs2 hs0 (Ne.symm h02)) (d _ _ _ hs hs2 hs1 (Ne.symm h12)) (by decide)
theorem share_call (w : World) (news) {DL P0 P1 P2 D0 D1 D2 cL t0 t1 t2 e0 e1 e2} {i x0 x1 x2 x : Int} {tx ti : Tok} (hi : i = 0 ∨ i = 1 ∨ i = 2)
    (hmL : (DL, lst [.ref P0, .ref P1, .ref P2] cL) ∈ news) (hp0 : (P0, tupo x0 D0 t0 e0) ∈ news) (hp1 : (P1, tupo x1 D1 t1 e1) ∈ news) (hp2 : (P2, tupo x2 D2 t2 e2) ∈ news)
    (hs0 : Sm 10 x0) (hs1 : Sm 10 x1) (hs2 : Sm 10 x2) (hs : Sm 10 x) (h01 : x0 ≠ x1) (h02 : x0 ≠ x2) (h12 : x1 ≠ x2) :
    CallOk w 113 [.ref DL, .int i ti, .int x tx] 5 news (FrRet (share i x0 x1 x2 x)) := by
  rcases hi with rfl | rfl | rfl
  · exact share0_call w news hmL hp0 hp1 hp2 hs0 hs1 hs2 hs h01 h02 h12
  · exact share1_call w news hmL hp0 hp1 hp2 hs0 hs1 hs2 hs h01 h02 h12
  · exact share2_call w news hmL hp0 hp1 hp2 hs0 hs1 hs2 hs h01 h02 h12
theorem share_use {w : World} {news : Led} {p : Program} {loose : List Str} {mean : ExcName → Option Value} {mg mb : Str → Option Value} {dp un : Nat} {gd : Option (List Code)} {cn : Str} {cs : Scope} {a : Addr} {ccd : Value} {cl : List (Str × Addr)} {outer : List Env} {A₀ : Around} {base h₀ : Heap} {L : Addr} {m : Str → Option Value} {hpA : Heap} {gsA : Array GenState} {drA : Drawn} {tkA : Nat} {osA : OsState}
    {Q E : Value → Shared → Prop}
    {DL P0 P1 P2 D0 D1 D2 cL t0 t1 t2 e0 e1 e2} {i x0 x1 x2 x : Int} {tx ti : Tok}
    (hmL : (DL, lst [.ref P0, .ref P1, .ref P2] cL) ∈ news) (hp0 : (P0, tupo x0 D0 t0 e0) ∈ news) (hp1 : (P1, tupo x1 D1 t1 e1) ∈ news) (hp2 : (P2, tupo x2 D2 t2 e2) ∈ news) (hi : i = 0 ∨ i = 1 ∨ i = 2)
    (hs0 : Sm 10 x0) (hs1 : Sm 10 x1) (hs2 : Sm 10 x2) (hs : Sm 10 x) (h01 : x0 ≠ x1) (h02 : x0 ≠ x2) (h12 : x1 ≠ x2)
    (B : Below A₀ base outer h₀) (F : Fr h₀ L hpA m) (X : (Mine.hd.heap_39 w.params).In h₀) (N : News h₀ L hpA news) (T : Top p loose mean mg mb h₀) (hkf : cs.kind = .function)
    (hd : dp + 5 < recursionLimit) (hu : un + 8 * 5 < cLine)
    (ret : ∀ D u1 u2 c h' tk', Fr h₀ L h' m → News h₀ L h' ((D, fr (share i x0 x1 x2 x) u1 u2 c) :: news) → AllLt D news → Bd (22) (share i x0 x1 x2 x) → Q (.ref D) ⟨h', gsA, drA, tk', osA⟩) :
    wpAny (model PySem.Challenge.rw_xm0058_01.row.toRowW.prog w) (ktrTop dp un gd cn cs L a ccd cl outer) (call (.ref 113) [.ref DL, .int i ti, .int x tx]) Q E ⟨hpA, gsA, drA, tkA, osA⟩ :=
  fr_use (share_call w news hi hmL hp0 hp1 hp2 hs0 hs1 hs2 hs h01 h02 h12) B F X N T hkf hd hu rfl (share_bd hi hs0 hs1 hs2 hs h01 h02 h12) ret
-- part L2
open PySem.Spec PySem.Calls PyProof.Rows.LCg
section
variable {prog : Program} {w : World} {A : Around} {E : Value → Shared → Prop} {s : Shared} {h₀ : Heap} {L : Addr} {m : Str → Option Value} {env : Env}
/-- a source that a comprehension's turns run through: what the iterator hands on, and what the target's names hold behind it -/
structure CSrc (prog : Program) (w : World) (A : Around) (env : Env) (scope : Scope) (cl : List (Str × Addr)) (target : PySem.Expr) (I : Addr) (fp wr : List Addr) (n : Nat) (P Md : Nat → Value → Heap → Prop) (St : Nat → Heap → Prop) (B : Nat → (Str → Option Value) → Prop) : Prop where
  W : KTurns prog w A target I fp wr n P Md St
  bind : ∀ i v C m' (s : Shared) (Q : Unit → Shared → Prop) (E : Value → Shared → Prop), P i v s.heap → s.heap.Ns C m' →
    (∀ h' tk m₂, h'.Ns C m₂ → B i m₂ → (∀ c o, c ≠ C → s.heap.get? c = some o → h'.get? c = some o) → Q () { s with heap := h', toks := tk }) →
    wpAny (model prog w) A (assign target (compEnvC scope cl C env) v) Q E s
  there : ∀ i h, St i h → ∀ b ∈ wr, ∃ o, h.get? b = some o
  self : ∀ (s : Shared) (Q : Value → Shared → Prop) (E : Value → Shared → Prop), St 0 s.heap → Q (.ref I) s → wpAny (model prog w) A (pyIter (.ref I)) Q E s
/-- the end of one element's evaluation: the ledger has grown, nothing else is touched -/
def CEnd (h₀ : Heap) (L : Addr) (m : Str → Option Value) (s₂ : Shared) (C : Addr) (oC : Obj) (N T : Led) (Jn : Value → Led → Prop) (y : Value) (s' : Shared) : Prop :=
  ∃ h' tk' tl, s' = { s₂ with heap := h', toks := tk' } ∧ Fr h₀ L h' m ∧ News h₀ L h' (tl ++ ((C, oC) :: N)) ∧ (∀ q ∈ tl, AllLt q.1 ((C, oC) :: N)) ∧ Jn y (tl ++ T)
def CTurn (prog : Program) (w : World) (A : Around) (h₀ : Heap) (L : Addr) (m : Str → Option Value) (env : Env) (elt : PySem.Expr) (scope : Scope) (cl : List (Str × Addr)) (s₂ : Shared) (news : Led) (n : Nat) (B : Nat → (Str → Option Value) → Prop) (J : Nat → List Value → Led → Prop) : Prop :=
  ∀ i outs T C oC m₂ N h tk (E' : Value → Shared → Prop), i < n → NsObj oC m₂ → B i m₂ → Fr h₀ L h m → News h₀ L h ((C, oC) :: N) → (∀ q ∈ T ++ news, q ∈ N) → J i outs T →
    wpAny (model prog w) A (eval elt (compEnvC scope cl C env)) (CEnd h₀ L m s₂ C oC N T fun y T' => J (i + 1) (outs ++ [y]) T') E' { s₂ with heap := h, toks := tk }
theorem comp_block {elt iter target : PySem.Expr} {scope : Scope} {cl : List (Str × Addr)} {pos : Pos} {s₂ : Shared} {I : Addr} {fp wr : List Addr} {n : Nat} {P Md : Nat → Value → Heap → Prop} {St : Nat → Heap → Prop} {B : Nat → (Str → Option Value) → Prop} {news : Led}
    {J : Nat → List Value → Led → Prop} {RR : Value → Addr → Result → Shared → Prop}
    (S : CSrc prog w A env scope cl target I fp wr n P Md St B) (hsz : n ≤ sizeLine) (hcell : ∀ y ∈ scope.names, y.2 ≠ .cell) (hkind : scope.kind = .function)
    (hst : St 0 s₂.heap) (hfp : ∀ b ∈ fp, b < s₂.heap.objs.size) (hwr : ∀ b ∈ wr, h₀.get? b = none) (F : Fr h₀ L s₂.heap m) (N : News h₀ L s₂.heap news) (hL : L ∉ fp) (off : ∀ p ∈ news, p.1 ∉ wr)
    (J0 : J 0 [] []) (turn : CTurn prog w A h₀ L m env elt scope cl s₂ news n B J)
    (hRR : ∀ D C h tk m' outs T, Fr h₀ L h m → News h₀ L h ((D, LCg.lst outs) :: (T ++ news)) → (∀ q ∈ T ++ news, q.1 ≠ D) → AllLt D news → (∀ q ∈ T, AllLt q.1 news) → h.Ns C m' → h₀.get? C = none → h₀.get? D = none → C ≠ L → D ≠ L → C ≠ D → (∀ q ∈ T ++ news, q.1 ≠ C) → J n outs T →
      RR (.ref D) C (.ok .next) { s₂ with heap := h, toks := tk }) :
    wpAny (model prog w) A (newList []) (fun acc s₃ => wpAny (model prog w) A (newFunctionEnv scope env.globals cl [] env.qual none .none (some env)) (fun cenv s₄ =>
      codeAny (model prog w) A (.compStart (.ListComp elt [⟨target, iter, [], 0⟩] scope pos) 0 (.ref I) acc { cenv with scope := relabel scope env }) (RR acc cenv.locals) s₄) E s₃) E s₂ := by
  refine wpAny_newObj_type (wpAny_newFunctionEnv hcell (by intro y hy; simp at hy) (fun h₁ hns₁ hsb₁ => ?_) hkind)
  dsimp only at hns₁ hsb₁ ⊢
  generalize hH2 : s₂.heap.push { cls := .type "list", dict := none, data := .seq ([] : List Value).toArray } = H2 at hns₁ hsb₁ ⊢
  generalize hd : s₂.heap.objs.size = D at *
  have hC : H2.objs.size = D + 1 := by rw [← hH2, Heap.size_push, hd]
  generalize H2.objs.size = C at *
  subst hC
  have hDC : D ≠ D + 1 := Nat.ne_of_lt (Nat.lt_succ_self _)
  have fresh₀ : ∀ a, D ≤ a → h₀.get? a = none := fun a ha => by
    cases e : h₀.get? a with
    | none => rfl
    | some o' => exact absurd (Heap.lt_size (F.keep a o' e)) (by rw [hd]; exact Nat.not_lt.mpr ha)
  have hD₀ : h₀.get? D = none := fresh₀ _ (Nat.le_refl _)
  have hC₀ : h₀.get? (D + 1) = none := fresh₀ _ (Nat.le_succ _)
  have hLlt : L < D := hd ▸ F.ns.lt
  have hDL : D ≠ L := Nat.ne_of_gt hLlt
  have hCL : D + 1 ≠ L := Nat.ne_of_gt (Nat.lt_succ_of_lt hLlt)
  have hDf : D ∉ fp := fun hm => Nat.lt_irrefl _ (hfp _ hm)
  have hCf : D + 1 ∉ fp := fun hm => absurd (hfp _ hm) (Nat.not_lt.mpr (Nat.le_succ _))
  have old : ∀ b o, s₂.heap.get? b = some o → h₁.get? b = some o := fun b o e => hsb₁.extBut b o (Nat.ne_of_lt (Nat.lt_succ_of_lt (hd ▸ Heap.lt_size e))) (Heap.get?_push_of_some _ (hH2 ▸ Heap.get?_push_of_some _ e))
  have hacc : h₁.get? D = some (LCg.lst []) := hsb₁.extBut _ _ hDC (Heap.get?_push_of_some _ (hH2 ▸ hd ▸ Heap.get?_push_size _ rfl))
  have hst₁ : St 0 h₁ := S.W.frame _ _ _ hst fun b _ o e => old b o e
  have hlt : ∀ q ∈ news, q.1 < D := fun q hq => hd ▸ Heap.lt_size (N q hq).1
  have loop : ∀ s₃ : Shared, s₃ = { s₂ with heap := h₁, toks := s₂.toks + ([] : List (Str × Value)).length } →
      codeAny (model prog w) A (.compLoop (.ListComp elt [⟨target, iter, [], 0⟩] scope pos) 0 (.ref I) (.ref D) (compEnvC scope cl (D + 1) env)) (RR (.ref D) (D + 1)) s₃ := by
    rintro s₃ rfl
    refine kcp_loop
      (fun k s' => ∃ h' tk i outs m' T, s' = { s₂ with heap := h', toks := tk } ∧ i ≤ n ∧ k = n + 1 - i ∧ outs.length = i ∧ St i h' ∧ Fr h₀ L h' m ∧ h'.Ns (D + 1) m' ∧ News h₀ L h' ((D, LCg.lst outs) :: (T ++ news)) ∧
        (∀ q ∈ T ++ news, q.1 ∉ wr ∧ q.1 ≠ D ∧ q.1 ≠ D + 1) ∧ (∀ q ∈ T, AllLt q.1 news) ∧ J i outs T) ?_ (n + 1)
      ⟨h₁, _, 0, [], _, [], rfl, Nat.zero_le _, rfl, rfl, hst₁, F.keeps old, hns₁, fun p hp => ?_, fun q hq => ⟨off q hq, Nat.ne_of_lt (hlt q hq), Nat.ne_of_lt (Nat.lt_succ_of_lt (hlt q hq))⟩, (fun q hq => nomatch hq), J0⟩
    · rintro k s' ⟨h', tk, i, outs, m', T, rfl, hi, rfl, hyl, hst', F', hn', N', offs, hT, hJ⟩
      by_cases hin : i < n
      · refine S.W.item i _ _ _ hin hst' fun v h₂ tk₂ hMd hk₂ => ?_
        refine S.W.go i v _ _ _ hMd fun h₃ hP hst₃ hk₃ => ?_
        have hCw : D + 1 ∉ wr := fun q => hCf (S.W.sub _ q)
        have up₃ : ∀ c o, c ∉ wr → h'.get? c = some o → h₃.get? c = some o := fun c o hc e => hk₃ c o hc (hk₂ c o hc e)
        refine S.bind i v (D + 1) m' _ _ _ hP (hn'.at' fun o e => up₃ _ o hCw e) fun h₄ tk₄ m₂ hn₄ hB hs₄ => ?_
        have up : ∀ c o, c ∉ wr → c ≠ D + 1 → h'.get? c = some o → h₄.get? c = some o := fun c o h1 h2 e => hs₄ c o h2 (up₃ c o h1 e)
        have hst₄ : St (i + 1) h₄ := S.W.frame _ _ _ hst₃ fun b hb o e => hs₄ b o (fun q => hCf (q ▸ hb)) e
        obtain ⟨oC, heC, hoC⟩ := ns_obj hn₄
        have hLw : L ∉ wr := fun q => hL (S.W.sub _ q)
        have F₄ : Fr h₀ L h₄ m := ⟨F'.ns.at' fun o e => up _ o hLw (Ne.symm hCL) e, fun c o e => up c o (fun q => by rw [hwr c q] at e; cases e) (fun q => by rw [q, hC₀] at e; cases e) (F'.keep c o e), F'.above⟩
        have hDw : D ∉ wr := fun q => hDf (S.W.sub _ q)
        have N₄ : News h₀ L h₄ ((D, LCg.lst outs) :: (T ++ news)) := fun q hq => by
          have z := N' q hq
          refine ⟨up _ _ ?_ ?_ z.1, z.2⟩
          · rcases List.mem_cons.mp hq with rfl | hq
            · exact hDw
            · exact (offs q hq).1
          · rcases List.mem_cons.mp hq with rfl | hq
            · exact hDC
            · exact (offs q hq).2.2
        have Nown : News h₀ L h₄ (PyProof.Rows.ownOf h₀ fp h₄) := news_ownOf hL
        have NC : News h₀ L h₄ ((D + 1, oC) :: (PyProof.Rows.ownOf h₀ fp h₄ ++ (D, LCg.lst outs) :: (T ++ news))) := fun q hq => by
          rcases List.mem_cons.mp hq with rfl | hq
          · exact ⟨heC, hCL, hC₀⟩
          · rcases List.mem_append.mp hq with hq | hq
            · exact Nown q hq
            · exact N₄ q hq
        refine wpAny_mono (turn i outs T (D + 1) oC m₂ _ h₄ tk₄ _ hin hoC hB F₄ NC (fun q hq => List.mem_append_right _ (List.mem_cons_of_mem _ hq)) hJ) (fun y s₅ h₅ => ?_) fun _ _ e => e
        obtain ⟨h₅, tk₅, tl, rfl, F₅, N₅, hlt₅, hJ₅⟩ := h₅
        have zC := (N₅ (D + 1, oC) (List.mem_append_right _ (List.mem_cons_self ..))).1
        have zD := (N₅ (D, LCg.lst outs) (List.mem_append_right _ (List.mem_cons_of_mem _ (List.mem_append_right _ (List.mem_cons_self ..))))).1
        have hst₅ : St (i + 1) h₅ := S.W.frame _ _ _ hst₄ fun b hb o e => by
          cases hnn : h₀.get? b with
          | some o₀ =>
            have q := F₄.keep b o₀ hnn
            rw [e] at q
            cases q
            exact F₅.keep b o hnn
          | none => exact (N₅ (b, o) (List.mem_append_right _ (List.mem_cons_of_mem _ (List.mem_append_left _ (mem_ownOf hb hnn e))))).1
        refine append_at (hsz := by show outs.toArray.size ≤ sizeLine; rw [List.size_toArray, hyl]; exact Nat.le_trans hi hsz) zD fun h₆ hs₆ hD₆ => ?_
        have above : ∀ q ∈ tl, q.1 ∉ wr ∧ q.1 ≠ D ∧ q.1 ≠ D + 1 := fun q hq => by
          have a := ktn_ltOf (hlt₅ q hq)
          refine ⟨fun hm => ?_, ?_, ?_⟩
          · obtain ⟨o, ho⟩ := S.there _ _ hst₄ _ hm
            have z := a (q.1, o) (List.mem_cons_of_mem _ (List.mem_append_left _ (mem_ownOf (S.W.sub _ hm) (hwr _ hm) ho)))
            exact Nat.lt_irrefl _ z
          · have z := a (D, LCg.lst outs) (List.mem_cons_of_mem _ (List.mem_append_right _ (List.mem_cons_self ..)))
            exact Nat.ne_of_gt z
          · have z := a (D + 1, oC) (List.mem_cons_self ..)
            exact Nat.ne_of_gt z
        refine ⟨n + 1 - (i + 1), by omega, h₆, tk₅, i + 1, outs ++ [y], _, tl ++ T, rfl, hin, rfl, by rw [List.length_append, List.length_singleton, hyl], S.W.frame _ _ _ hst₅ fun b hb o e => hs₆.extBut b o (fun q => hDf (q ▸ hb)) e, F₅.change hs₆ hDL hD₀,
          (hoC.ns zC).sameBut hs₆ (Ne.symm hDC), fun q hq => ?_, fun q hq => ?_, fun q hq => ?_, hJ₅⟩
        · rcases List.mem_cons.mp hq with rfl | hq
          · exact ⟨hD₆.trans (congrArg some (lst_snoc outs y)), hDL, hD₀⟩
          · have hq' : q ∈ tl ++ ((D + 1, oC) :: (PyProof.Rows.ownOf h₀ fp h₄ ++ (D, LCg.lst outs) :: (T ++ news))) := by
              rw [List.append_assoc] at hq
              rcases List.mem_append.mp hq with hq | hq
              · exact List.mem_append_left _ hq
              · exact List.mem_append_right _ (List.mem_cons_of_mem _ (List.mem_append_right _ (List.mem_cons_of_mem _ hq)))
            have hqD : q.1 ≠ D := by
              rw [List.append_assoc] at hq
              rcases List.mem_append.mp hq with hq | hq
              · exact (above q hq).2.1
              · exact (offs q hq).2.1
            exact ⟨hs₆.extBut _ _ hqD (N₅ q hq').1, (N₅ q hq').2⟩
        · rw [List.append_assoc] at hq
          rcases List.mem_append.mp hq with hq | hq
          · exact above q hq
          · exact offs q hq
        · rcases List.mem_append.mp hq with hq | hq
          · exact allLt_sub (hlt₅ q hq) fun p hp => List.mem_cons_of_mem _ (List.mem_append_right _ (List.mem_cons_of_mem _ (List.mem_append_right _ hp)))
          · exact hT q hq
      · obtain rfl : i = n := Nat.le_antisymm hi (Nat.not_lt.mp hin)
        refine S.W.done _ _ _ hst' fun h₂ tk₂ hk₂ => ?_
        have hLw : L ∉ wr := fun q => hL (S.W.sub _ q)
        have hDw : D ∉ wr := fun q => hDf (S.W.sub _ q)
        have hCw : D + 1 ∉ wr := fun q => hCf (S.W.sub _ q)
        refine hRR D (D + 1) h₂ tk₂ _ outs T ⟨F'.ns.at' fun o e => hk₂ _ o hLw e, fun c o e => hk₂ c o (fun q => by rw [hwr c q] at e; cases e) (F'.keep c o e), F'.above⟩ (fun q hq => ?_) (fun q hq => (offs q hq).2.1) (allLt_of hlt) hT
          (hn'.at' fun o e => hk₂ _ o hCw e) hC₀ hD₀ hCL hDL (Ne.symm hDC) (fun q hq => (offs q hq).2.2) hJ
        have z := N' q hq
        refine ⟨hk₂ _ _ ?_ z.1, z.2⟩
        rcases List.mem_cons.mp hq with rfl | hq
        · exact hDw
        · exact (offs q hq).1
    · rcases List.mem_cons.mp hp with rfl | hp
      · exact ⟨hacc, hDL, hD₀⟩
      · exact ⟨old _ _ (N p hp).1, (N p hp).2⟩
  exact codeAny_compStart_list (loop _ rfl) (S.self _ _ _ hst₁ (loop _ rfl))
end
-- part L3
open PySem.Spec PySem.Calls PyProof.Rows.LCg
section
variable {prog : Program} {w : World} {A : Around} {E : Value → Shared → Prop} {s : Shared} {h₀ : Heap} {L : Addr} {m : Str → Option Value} {env : Env}
theorem turns_add {target : PySem.Expr} {I : Addr} {fp wr fp' : List Addr} {n : Nat} {P Md : Nat → Value → Heap → Prop} {St : Nat → Heap → Prop} (W : KTurns prog w A target I fp wr n P Md St) {X : Heap → Prop}
    (hX : ∀ h h', X h → (∀ b ∈ fp', ∀ o, h.get? b = some o → h'.get? b = some o) → X h') (apart : ∀ b ∈ fp', b ∉ wr) :
    KTurns prog w A target I (fp ++ fp') wr n (fun i v h => P i v h ∧ X h) (fun i v h => Md i v h ∧ X h) (fun i h => St i h ∧ X h) where
  sub := fun b hb => List.mem_append_left _ (W.sub b hb)
  frame := fun i h h' st hk => ⟨W.frame i h h' st.1 fun b hb o e => hk b (List.mem_append_left _ hb) o e, hX h h' st.2 fun b hb o e => hk b (List.mem_append_right _ hb) o e⟩
  item := fun i s Q E hi st hQ => W.item i s Q E hi st.1 fun v h' tk hm hk => hQ v h' tk ⟨hm, hX _ _ st.2 fun b hb o e => hk b o (apart b hb) e⟩ hk
  go := fun i v s Q E hm hQ => W.go i v s Q E hm.1 fun h' hp st hk => hQ h' ⟨hp, hX _ _ hm.2 fun b hb o e => hk b o (apart b hb) e⟩ ⟨st, hX _ _ hm.2 fun b hb o e => hk b o (apart b hb) e⟩ hk
  done := fun s Q E st hQ => W.done s Q E st.1 hQ
theorem csrc_list {scope : Scope} {cl : List (Str × Addr)} {x : Str} {px : Pos} {I ax : Addr} {vs : List Value} (hh : A.handled = none) (hne : ax ≠ I) (hkind : scope.kind = .function) (hx : scope.names.lookup x = some .local) :
    CSrc prog w A env scope cl (.Name x px) I [I, ax] [I] vs.length (fun i v _ => vs.toArray[i]? = some v) (fun i v h => vs.toArray[i]? = some v ∧ (h.IsListIter I ax (i + 1) ∧ h.IsList ax vs.toArray)) (fun i h => h.IsListIter I ax i ∧ h.IsList ax vs.toArray)
      (fun i m₂ => ∃ v, vs[i]? = some v ∧ m₂ x = some v) where
  W := by
    have W := KTurns.ofWalks (target := .Name x px) (Walks.list (prog := prog) (w := w) hh I ax hne vs.toArray) fun i v s Q E st q => letGo_listiter st.1 q
    rw [List.size_toArray] at W
    exact W
  bind := fun i v C m' s Q E hP hn h => by
    refine wpAny_assign_Name (wpAny_storeName_local (lookup_relabel_local hx) hn (fun h' hn' hs' => ?_) (by simp [compEnvC, relabel, hkind]))
    exact h h' _ _ hn' ⟨v, by simpa using hP, by simp⟩ fun c o hc e => hs'.extBut c o hc e
  there := fun i h st b hb => by
    rw [List.mem_singleton.mp hb]
    obtain ⟨o, e, _⟩ := st.1
    exact ⟨o, e⟩
  self := fun s Q E st hQ => wpAny_pyIter_listiter st.1 hQ
/-- all the tuples lie there -/
def TupsAt (ts : List (Addr × Value × Value)) (h : Heap) : Prop := ∀ p ∈ ts, h.IsTuple p.1 #[p.2.1, p.2.2]
theorem csrc_pairs {scope : Scope} {cl : List (Str × Addr)} {a b : Str} {pa pb tp : Pos} {kk : Nat} {I ax : Addr} {ts : List (Addr × Value × Value)} (hh : A.handled = none) (hne : ax ≠ I) (hts : ∀ p ∈ ts, p.1 ≠ I) (hkind : scope.kind = .function)
    (ha : scope.names.lookup a = some .local) (hb : scope.names.lookup b = some .local) (hab : ¬ a = b) :
    CSrc prog w A env scope cl (.Tuple [.Name a pa, .Name b pb] kk tp) I ([I, ax] ++ ts.map (·.1)) [I] ts.length
      (fun i v h => (ts.map fun p => Value.ref p.1).toArray[i]? = some v ∧ TupsAt ts h)
      (fun i v h => ((ts.map fun p => Value.ref p.1).toArray[i]? = some v ∧ (h.IsListIter I ax (i + 1) ∧ h.IsList ax (ts.map fun p => Value.ref p.1).toArray)) ∧ TupsAt ts h)
      (fun i h => (h.IsListIter I ax i ∧ h.IsList ax (ts.map fun p => Value.ref p.1).toArray) ∧ TupsAt ts h)
      (fun i m₂ => ∃ p, ts[i]? = some p ∧ m₂ a = some p.2.1 ∧ m₂ b = some p.2.2) where
  W := by
    have W := KTurns.ofWalks (target := .Tuple [.Name a pa, .Name b pb] kk tp) (Walks.list (prog := prog) (w := w) hh I ax hne (ts.map fun p => Value.ref p.1).toArray) fun i v s Q E st q => letGo_listiter st.1 q
    rw [List.size_toArray, List.length_map] at W
    refine turns_add W (fun h h' hx hk p hp => ?_) (fun b hb hm => ?_)
    · exact (hx p hp).at fun o e => hk p.1 (List.mem_map.mpr ⟨p, hp, rfl⟩) o e
    · obtain ⟨p, hp, rfl⟩ := List.mem_map.mp hb
      exact hts p hp (List.mem_singleton.mp hm)
  bind := fun i v C m' s Q E hP hn h => by
    obtain ⟨hv, hx⟩ := hP
    have hv' : (ts.map fun p => Value.ref p.1)[i]? = some v := by simpa using hv
    rw [List.getElem?_map] at hv'
    obtain ⟨p, hp, rfl⟩ := Option.map_eq_some_iff.mp hv'
    refine kcp_assign (env := compEnvC scope cl C env) hh (hx p (List.mem_of_getElem? hp)) (lookup_relabel_local ha) (lookup_relabel_local hb) (by simp [compEnvC, relabel, hkind]) hn fun h' tk hn' hk' => ?_
    exact h h' tk _ hn' ⟨p, hp, by simp [hab], by simp⟩ hk'
  there := fun i h st b hb => by
    rw [List.mem_singleton.mp hb]
    obtain ⟨o, e, _⟩ := st.1.1
    exact ⟨o, e⟩
  self := fun s Q E st hQ => wpAny_pyIter_listiter st.1.1 hQ
theorem csrc_zip {scope : Scope} {cl : List (Str × Addr)} {a b : Str} {pa pb tp : Pos} {kk : Nat} {z TI TO i1 i2 l1 l2 : Addr} {xs ys : List Value} (hh : A.handled = none) (D : ZipApart z TI TO i1 i2 l1 l2) (hlen : ys.length = xs.length) (hkind : scope.kind = .function)
    (ha : scope.names.lookup a = some .local) (hb : scope.names.lookup b = some .local) (hab : ¬ a = b) :
    ∃ Md : Nat → Value → Heap → Prop, CSrc prog w A env scope cl (.Tuple [.Name a pa, .Name b pb] kk tp) z [z, TI, TO, i1, i2, l1, l2] [z, TO, i1, i2] xs.length
      (fun i v h => ∃ T vals, v = .ref T ∧ (∃ x y, xs.toArray[i]? = some x ∧ ys.toArray[i]? = some y ∧ vals = #[x, y]) ∧ h.IsTuple T vals) Md
      (fun i h => IsZip h z TI TO .none ∧ IsPair h TI (.ref i1) (.ref i2) ∧ (∃ a b, IsPair h TO a b) ∧ h.IsListIter i1 l1 i ∧ h.IsListIter i2 l2 i ∧ h.IsList l1 xs.toArray ∧ h.IsList l2 ys.toArray)
      (fun i m₂ => ∃ x y, xs[i]? = some x ∧ ys[i]? = some y ∧ m₂ a = some x ∧ m₂ b = some y) := by
  have U := (WalksT.zip2 (prog := prog) (w := w) hh z TI TO i1 i2 l1 l2 D xs.toArray ys.toArray).toU
  have W := KTurns.ofWalksU (elts := [.Name a pa, .Name b pb]) (k := kk) (pos := tp) U
  have e : min xs.toArray.size ys.toArray.size = xs.length := by simp [hlen]
  rw [e] at W U
  refine ⟨_, W, ?_, ?_, ?_⟩
  · intro i v C m' s Q E hP hn h
    obtain ⟨T, vals, rfl, ⟨x, y, hx, hy, rfl⟩, hT⟩ := hP
    refine kcp_assign (env := compEnvC scope cl C env) hh hT (lookup_relabel_local ha) (lookup_relabel_local hb) (by simp [compEnvC, relabel, hkind]) hn fun h' tk hn' hk' => ?_
    exact h h' tk _ hn' ⟨x, y, by simpa using hx, by simpa using hy, by simp [hab], by simp⟩ hk'
  · rintro i h ⟨hz, hTI, ⟨a, b, hTO⟩, ⟨o1, ho1, _⟩, ⟨o2, ho2, _⟩, _⟩ c hc
    simp at hc
    rcases hc with rfl | rfl | rfl | rfl
    · exact ⟨_, hz⟩
    · exact ⟨_, hTO⟩
    · exact ⟨_, ho1⟩
    · exact ⟨_, ho2⟩
  · exact fun s Q E st hQ => U.self 0 s Q E st hQ
/-- what is left of a comprehension behind its source -/
def CGo (prog : Program) (w : World) (A : Around) (E : Value → Shared → Prop) (env : Env) (elt iter target : PySem.Expr) (scope : Scope) (cl : List (Str × Addr)) (pos : Pos) (use : Option (Value → Sem Unit)) (Q : Value → Shared → Prop) (xv : Value) (s₁ : Shared) : Prop :=
  wpAny (model prog w) A (pyIter xv) (fun it s₂ => wpAny (model prog w) A (newList []) (fun acc s₃ => wpAny (model prog w) A (newFunctionEnv scope env.globals cl [] env.qual none .none (some env)) (fun cenv s₄ =>
    codeAny (model prog w) A (.compStart (.ListComp elt [⟨target, iter, [], 0⟩] scope pos) 0 it acc { cenv with scope := relabel scope env }) (compPost (model prog w) A E use Q acc cenv.locals) s₄) E s₃) E s₂) E s₁
theorem ListComp_go {elt iter target : PySem.Expr} {scope : Scope} {cl : List (Str × Addr)} {pos : Pos} {Q : Value → Shared → Prop}
    (hclos : closureFor scope env = pure cl) (hkind : scope.kind = .function) (hnames : ∀ y ∈ scope.names, y.2 = .local → scope.names.lookup y.1 = some .local)
    (h : wpAny (model prog w) A (eval iter env) (CGo prog w A E env elt iter target scope cl pos none Q) E s)
    (hs : ∀ x, foldedSetIterable iter env x = pure x := by intro _; rfl) :
    wpAny (model prog w) A (eval (.ListComp elt [⟨target, iter, [], 0⟩] scope pos) env) Q E s := by
  rw [eval_ListComp]
  exact wpAny_comprehension_free (use := none) rfl hs hclos hkind hnames (wpAny_mono h (fun _ _ h₁ => h₁) fun _ _ e => e)
/-- what holds behind a comprehension -/
def CFin (h₀ : Heap) (L : Addr) (m : Str → Option Value) (s₁ : Shared) (news : Led) (n : Nat) (J : Nat → List Value → Led → Prop) (Q : Value → Shared → Prop) : Prop :=
  ∀ D h tk T outs, Fr h₀ L h m → News h₀ L h ((D, lst outs outs.length) :: (T ++ news)) → (∀ q ∈ T ++ news, q.1 ≠ D) → AllLt D news → (∀ q ∈ T, AllLt q.1 news) → J n outs T → Q (.ref D) { s₁ with heap := h, toks := tk }
theorem post_of {s₂ : Shared} {D C : Addr} {h : Heap} {tk : Nat} {m' : Str → Option Value} {outs : List Value} {T news : Led} {n : Nat} {J : Nat → List Value → Led → Prop} {Q : Value → Shared → Prop} (fin : CFin h₀ L m s₂ news n J Q)
    (F : Fr h₀ L h m) (N : News h₀ L h ((D, LCg.lst outs) :: (T ++ news))) (o1 : ∀ q ∈ T ++ news, q.1 ≠ D) (o2 : AllLt D news) (o3 : ∀ q ∈ T, AllLt q.1 news) (hn : h.Ns C m') (hC₀ : h₀.get? C = none) (hCL : C ≠ L) (hCD : C ≠ D) (offC : ∀ q ∈ T ++ news, q.1 ≠ C) (hJ : J n outs T) :
    compPost (model prog w) A E none Q (.ref D) C (.ok .next) { s₂ with heap := h, toks := tk } := by
  refine ⟨m', hn, fun h'' hs'' => fin D h'' tk T outs (F.change hs'' hCL hC₀) (fun p hp => ?_) o1 o2 o3 hJ⟩
  refine ⟨hs''.extBut _ _ ?_ (N p hp).1, (N p hp).2⟩
  rcases List.mem_cons.mp hp with rfl | hp
  · exact Ne.symm hCD
  · exact offC p hp
theorem go_list {elt iter : PySem.Expr} {x : Str} {px : Pos} {scope : Scope} {cl : List (Str × Addr)} {pos : Pos} {Q : Value → Shared → Prop} {ax : Addr} {lo : Obj} {vs : List Value} {c : Nat} {news : Led} {J : Nat → List Value → Led → Prop} {s₁ : Shared}
    (hh : A.handled = none) (F : Fr h₀ L s₁.heap m) (N : News h₀ L s₁.heap news) (hm : (ax, lo) ∈ news) (hc : lo.cls = .type "list") (hd : lo.data = .seq vs.toArray c)
    (hsz : vs.length ≤ sizeLine) (hcell : ∀ y ∈ scope.names, y.2 ≠ .cell) (hkind : scope.kind = .function) (hx : scope.names.lookup x = some .local)
    (J0 : J 0 [] []) (turn : ∀ g, CTurn prog w A h₀ L m env elt scope cl { s₁ with heap := g } news vs.length (fun i m₂ => ∃ v, vs[i]? = some v ∧ m₂ x = some v) J)
    (fin : ∀ g, CFin h₀ L m { s₁ with heap := g } news vs.length J Q) :
    CGo prog w A E env elt iter (.Name x px) scope cl pos none Q (.ref ax) s₁ := by
  have hl : s₁.heap.IsList ax vs.toArray := ⟨lo, (N _ hm).1, hc, c, hd⟩
  have hlt : ax < s₁.heap.objs.size := Heap.lt_size (N _ hm).1
  refine wpAny_pyIter_list hl ?_
  have up : ∀ b o, s₁.heap.get? b = some o → (s₁.heap.push { cls := .type "list_iterator", data := .fields #[.ref ax, .int 0 0] }).get? b = some o := fun b o e => Heap.get?_push_of_some _ e
  refine comp_block (csrc_list (vs := vs) hh (Nat.ne_of_lt hlt) hkind hx) hsz hcell hkind ⟨⟨_, Heap.get?_push_size _ rfl, rfl, rfl⟩, hl.push _⟩ (fun b hb => ?_) (fun b hb => ?_) (F.keeps up) (N.grown up) (fun hL => ?_) (fun p hp hI => ?_) J0 (turn _)
    (fun D C h tk m' outs T F' N' o1 o2 o3 hn hC₀ _ hCL _ hCD offC hJ => post_of (fin _) F' N' o1 o2 o3 hn hC₀ hCL hCD offC hJ)
  · show b < (s₁.heap.push _).objs.size
    rw [Heap.size_push]
    rcases List.mem_cons.mp hb with rfl | hb
    · exact Nat.lt_succ_self _
    · rw [List.mem_singleton.mp hb]; exact Nat.lt_succ_of_lt hlt
  · rw [List.mem_singleton.mp hb]; exact next_is_new F
  · rcases List.mem_cons.mp hL with e | hL
    · exact absurd F.ns.lt (e ▸ Nat.lt_irrefl _)
    · exact (N _ hm).2.1 (List.mem_singleton.mp hL).symm
  · exact absurd (Heap.lt_size (N p hp).1) ((List.mem_singleton.mp hI) ▸ Nat.lt_irrefl _)
theorem go_pairs {elt iter : PySem.Expr} {a b : Str} {pa pb tp : Pos} {kk : Nat} {scope : Scope} {cl : List (Str × Addr)} {pos : Pos} {Q : Value → Shared → Prop} {ax : Addr} {lo : Obj} (ts : List (Addr × Value × Value)) {c : Nat} {news : Led} {J : Nat → List Value → Led → Prop} {s₁ : Shared}
    (hh : A.handled = none) (F : Fr h₀ L s₁.heap m) (N : News h₀ L s₁.heap news) (hm : (ax, lo) ∈ news) (hc : lo.cls = .type "list") (hd : lo.data = .seq (ts.map fun p => Value.ref p.1).toArray c)
    (hts : ∀ p ∈ ts, ∃ o : Obj, (p.1, o) ∈ news ∧ o.cls = .type "tuple" ∧ ∃ k, o.data = .seq #[p.2.1, p.2.2] k)
    (hsz : ts.length ≤ sizeLine) (hcell : ∀ y ∈ scope.names, y.2 ≠ .cell) (hkind : scope.kind = .function) (ha : scope.names.lookup a = some .local) (hb : scope.names.lookup b = some .local) (hab : ¬ a = b)
    (J0 : J 0 [] []) (turn : ∀ g, CTurn prog w A h₀ L m env elt scope cl { s₁ with heap := g } news ts.length (fun i m₂ => ∃ p, ts[i]? = some p ∧ m₂ a = some p.2.1 ∧ m₂ b = some p.2.2) J)
    (fin : ∀ g, CFin h₀ L m { s₁ with heap := g } news ts.length J Q) :
    CGo prog w A E env elt iter (.Tuple [.Name a pa, .Name b pb] kk tp) scope cl pos none Q (.ref ax) s₁ := by
  have hl : s₁.heap.IsList ax (ts.map fun p => Value.ref p.1).toArray := ⟨lo, (N _ hm).1, hc, c, hd⟩
  have hlt : ax < s₁.heap.objs.size := Heap.lt_size (N _ hm).1
  have htup : ∀ p ∈ ts, s₁.heap.IsTuple p.1 #[p.2.1, p.2.2] := fun p hp => by
    obtain ⟨o, hm', hc', k, hd'⟩ := hts p hp
    exact ⟨o, (N _ hm').1, hc', k, hd'⟩
  have htlt : ∀ p ∈ ts, p.1 < s₁.heap.objs.size := fun p hp => by
    obtain ⟨o, e, _⟩ := htup p hp
    exact Heap.lt_size e
  refine wpAny_pyIter_list hl ?_
  have up : ∀ b o, s₁.heap.get? b = some o → (s₁.heap.push { cls := .type "list_iterator", data := .fields #[.ref ax, .int 0 0] }).get? b = some o := fun b o e => Heap.get?_push_of_some _ e
  refine comp_block (csrc_pairs (ts := ts) hh (Nat.ne_of_lt hlt) (fun p hp => Nat.ne_of_lt (htlt p hp)) hkind ha hb hab) hsz hcell hkind ⟨⟨⟨_, Heap.get?_push_size _ rfl, rfl, rfl⟩, hl.push _⟩, fun p hp => (htup p hp).at fun o e => up _ _ e⟩ (fun b hb => ?_) (fun b hb => ?_) (F.keeps up) (N.grown up) (fun hL => ?_) (fun p hp hI => ?_) J0 (turn _)
    (fun D C h tk m' outs T F' N' o1 o2 o3 hn hC₀ _ hCL _ hCD offC hJ => post_of (fin _) F' N' o1 o2 o3 hn hC₀ hCL hCD offC hJ)
  · show b < (s₁.heap.push _).objs.size
    rw [Heap.size_push]
    rcases List.mem_append.mp hb with hb | hb
    · rcases List.mem_cons.mp hb with rfl | hb
      · exact Nat.lt_succ_self _
      · rw [List.mem_singleton.mp hb]; exact Nat.lt_succ_of_lt hlt
    · obtain ⟨p, hp, rfl⟩ := List.mem_map.mp hb
      exact Nat.lt_succ_of_lt (htlt p hp)
  · rw [List.mem_singleton.mp hb]; exact next_is_new F
  · rcases List.mem_append.mp hL with hL | hL
    · rcases List.mem_cons.mp hL with e | hL
      · exact absurd F.ns.lt (e ▸ Nat.lt_irrefl _)
      · exact (N _ hm).2.1 (List.mem_singleton.mp hL).symm
    · obtain ⟨p, hp, e⟩ := List.mem_map.mp hL
      obtain ⟨o, hm', _⟩ := hts p hp
      exact (N _ hm').2.1 e
  · exact absurd (Heap.lt_size (N p hp).1) ((List.mem_singleton.mp hI) ▸ Nat.lt_irrefl _)
theorem call_zip_go {elt iter : PySem.Expr} {a b : Str} {pa pb tp : Pos} {kk : Nat} {scope : Scope} {cl : List (Str × Addr)} {pos : Pos} {Q : Value → Shared → Prop} {l1 l2 : Addr} {lo1 lo2 : Obj} {xs ys : List Value} {c1 c2 : Nat} {news : Led} {J : Nat → List Value → Led → Prop}
    (hh : A.handled = none) (F : Fr h₀ L s.heap m) (N : News h₀ L s.heap news) (hm1 : (l1, lo1) ∈ news) (hc1 : lo1.cls = .type "list") (hd1 : lo1.data = .seq xs.toArray c1) (hm2 : (l2, lo2) ∈ news) (hc2 : lo2.cls = .type "list") (hd2 : lo2.data = .seq ys.toArray c2)
    (hlen : ys.length = xs.length) (hsz : xs.length ≤ sizeLine) (hcell : ∀ y ∈ scope.names, y.2 ≠ .cell) (hkind : scope.kind = .function) (ha : scope.names.lookup a = some .local) (hb : scope.names.lookup b = some .local) (hab : ¬ a = b)
    (J0 : J 0 [] []) (turn : ∀ g, CTurn prog w A h₀ L m env elt scope cl { s with heap := g } news xs.length (fun i m₂ => ∃ x y, xs[i]? = some x ∧ ys[i]? = some y ∧ m₂ a = some x ∧ m₂ b = some y) J)
    (fin : ∀ g, CFin h₀ L m { s with heap := g } news xs.length J Q) :
    wpAny (model prog w) A (call (.type "zip") [.ref l1, .ref l2]) (CGo prog w A E env elt iter (.Tuple [.Name a pa, .Name b pb] kk tp) scope cl pos none Q) E s := by
  have hl1 : s.heap.IsList l1 xs.toArray := ⟨lo1, (N _ hm1).1, hc1, c1, hd1⟩
  have hl2 : s.heap.IsList l2 ys.toArray := ⟨lo2, (N _ hm2).1, hc2, c2, hd2⟩
  have hlt1 : l1 < s.heap.objs.size := Heap.lt_size (N _ hm1).1
  have hlt2 : l2 < s.heap.objs.size := Heap.lt_size (N _ hm2).1
  have hLs : L < s.heap.objs.size := F.ns.lt
  have D : ZipApart (s.heap.objs.size + 4) (s.heap.objs.size + 2) (s.heap.objs.size + 3) s.heap.objs.size (s.heap.objs.size + 1) l1 l2 := ktu_apart _ _ _ hlt1 hlt2
  refine call_zip_2 hl1 hl2 fun h' hz hTI hTO hi1 hi2 hsz' hk => ?_
  refine wpAny_pyIter_zip hz ?_
  obtain ⟨Md, S⟩ := csrc_zip (prog := prog) (w := w) (env := env) (cl := cl) (pa := pa) (pb := pb) (tp := tp) (kk := kk) (xs := xs) (ys := ys) hh D hlen hkind ha hb hab
  refine comp_block S hsz hcell hkind ⟨hz, hTI, ⟨_, _, hTO⟩, hi1, hi2, hl1.at fun o e => hk l1 o e, hl2.at fun o e => hk l2 o e⟩ (fun c hc => ?_) (fun c hc => ?_) (F.keeps hk) (N.grown hk) (fun hL => ?_) (fun p hp hI => ?_) J0 (turn _)
    (fun D C h tk m' outs T F' N' o1 o2 o3 hn hC₀ _ hCL _ hCD offC hJ => post_of (fin _) F' N' o1 o2 o3 hn hC₀ hCL hCD offC hJ)
  · show c < h'.objs.size
    rw [hsz']
    simp at hc
    generalize s.heap.objs.size = z at *
    have lt : ∀ q : Nat, q < z → q < z + 5 := fun q hq => Nat.lt_of_lt_of_le hq (Nat.le_add_right _ _)
    rcases hc with rfl | rfl | rfl | rfl | rfl | rfl | rfl
    · exact Nat.add_lt_add_left (by decide) _
    · exact Nat.add_lt_add_left (by decide) _
    · exact Nat.add_lt_add_left (by decide) _
    · exact Nat.lt_add_of_pos_right (by decide)
    · exact Nat.add_lt_add_left (by decide) _
    · exact lt _ hlt1
    · exact lt _ hlt2
  · refine ktu_new F ?_
    simp at hc
    rcases hc with rfl | rfl | rfl | rfl
    · exact Nat.le_add_right _ _
    · exact Nat.le_add_right _ _
    · exact Nat.le_refl _
    · exact Nat.le_add_right _ _
  · simp at hL
    rcases hL with e | e | e | e | e | e | e
    · exact ktu_ne 4 hLs e
    · exact ktu_ne 2 hLs e
    · exact ktu_ne 3 hLs e
    · exact Nat.ne_of_lt hLs e
    · exact ktu_ne 1 hLs e
    · exact (N _ hm1).2.1 e.symm
    · exact (N _ hm2).2.1 e.symm
  · have hlp := Heap.lt_size (N p hp).1
    simp at hI
    rcases hI with e | e | e | e
    · exact ktu_ne 4 hlp e
    · exact ktu_ne 3 hlp e
    · exact Nat.ne_of_lt hlp e
    · exact ktu_ne 1 hlp e
end
-- part L4
/-- the value is the pair of the rational's own parts -/
def Cell (news : Led) (v : Value) (q : Rat) : Prop := ∃ D u1 u2 c, v = .ref D ∧ (D, fr q u1 u2 c) ∈ news
theorem Cell.mono {news news' : Led} {v : Value} {q : Rat} (h : Cell news v q) (hs : ∀ p ∈ news, p ∈ news') : Cell news' v q := by
  obtain ⟨D, u1, u2, c, e, hm⟩ := h
  exact ⟨D, u1, u2, c, e, hs _ hm⟩
theorem Cell.of {news : Led} {D : Addr} {q : Rat} {u1 u2 : Tok} {c : Nat} (h : (D, fr q u1 u2 c) ∈ news) : Cell news (.ref D) q := ⟨D, u1, u2, c, rfl, h⟩
def Cells (news : Led) (vs : List Value) (qs : List Rat) : Prop := vs.length = qs.length ∧ ∀ (i : Nat) (v : Value) (q : Rat), vs[i]? = some v → qs[i]? = some q → Cell news v q
def BdAll (n : Nat) (qs : List Rat) : Prop := ∀ (i : Nat) (q : Rat), qs[i]? = some q → Bd n q
theorem BdAll.mono {n k : Nat} {qs : List Rat} (h : BdAll n qs) (hk : n ≤ k) : BdAll k qs := fun i q e => (h i q e).mono hk
theorem Cells.mono {news news' : Led} {vs : List Value} {qs : List Rat} (h : Cells news vs qs) (hs : ∀ p ∈ news, p ∈ news') : Cells news' vs qs := ⟨h.1, fun i v q a b => (h.2 i v q a b).mono hs⟩
theorem Cells.nil {news : Led} : Cells news [] [] := ⟨rfl, fun i v q a _ => by simp at a⟩
theorem Cells.at {news : Led} {i : Nat} {vs : List Value} {qs : List Rat} {v : Value} (h : Cells news vs qs) (hv : vs[i]? = some v) : ∃ q, qs[i]? = some q ∧ Cell news v q := by
  have hi : i < qs.length := by
    rw [← h.1]
    exact (List.getElem?_eq_some_iff.mp hv).1
  exact ⟨qs[i], List.getElem?_eq_getElem hi, h.2 i v _ hv (List.getElem?_eq_getElem hi)⟩
theorem Cells.snoc {news : Led} {i : Nat} {outs : List Value} {qs : List Rat} {y : Value} {q : Rat} (h : Cells news outs (qs.take i)) (hq : qs[i]? = some q) (hc : Cell news y q) : Cells news (outs ++ [y]) (qs.take (i + 1)) := by
  have hi : i < qs.length := (List.getElem?_eq_some_iff.mp hq).1
  have e : qs.take (i + 1) = qs.take i ++ [q] := by rw [List.take_add_one, hq]; rfl
  have hl : outs.length = (qs.take i).length := h.1
  rw [e]
  refine ⟨by rw [List.length_append, List.length_append, hl]; rfl, fun j v r hv hr => ?_⟩
  rcases Nat.lt_or_ge j outs.length with hj | hj
  · rw [List.getElem?_append_left hj] at hv
    rw [List.getElem?_append_left (hl ▸ hj)] at hr
    exact h.2 j v r hv hr
  · rw [List.getElem?_append_right hj] at hv
    rw [List.getElem?_append_right (hl ▸ hj)] at hr
    rw [← hl] at hr
    cases ej : j - outs.length with
    | zero =>
      rw [ej] at hv hr
      simp at hv hr
      subst hv hr
      exact hc
    | succ k => rw [ej] at hv; simp at hv
/-- a new list of pairs comes back -/
abbrev RowRet (qs : List Rat) (tl : Led) (r : Value) : Prop := ∃ D c outs, r = .ref D ∧ (D, lst outs c) ∈ tl ∧ Cells tl outs qs
theorem order1 {l : Led} {D1 : Addr} {o1 : Obj} (h1 : AllLt D1 l) : ∀ q ∈ [(D1, o1)], AllLt q.1 l := fun q hq => by rw [List.mem_singleton.mp hq]; exact h1
theorem order2 {l : Led} {D1 D2 : Addr} {o1 o2 : Obj} (h1 : AllLt D1 l) (h2 : AllLt D2 l) : ∀ q ∈ [(D1, o1), (D2, o2)], AllLt q.1 l := fun q hq => by
  rcases List.mem_cons.mp hq with rfl | hq
  · exact h1
  · rw [List.mem_singleton.mp hq]; exact h2
theorem Cells.four {news : Led} {vs : List Value} {a b c d : Rat} (h : Cells news vs [a, b, c, d]) : ∃ v0 v1 v2 v3, vs = [v0, v1, v2, v3] ∧ Cell news v0 a ∧ Cell news v1 b ∧ Cell news v2 c ∧ Cell news v3 d := by
  obtain ⟨hl, h⟩ := h
  obtain ⟨v0, v1, v2, v3, rfl⟩ := len4 hl
  exact ⟨v0, v1, v2, v3, rfl, h 0 _ _ rfl rfl, h 1 _ _ rfl rfl, h 2 _ _ rfl rfl, h 3 _ _ rfl rfl⟩
theorem Cells.open4 {news : Led} {vs : List Value} {a b c d : Rat} {G : Prop} (h : Cells news vs [a, b, c, d])
    (H : ∀ D0 u0 w0 c0 D1 u1 w1 c1 D2 u2 w2 c2 D3 u3 w3 c3, (D0, fr a u0 w0 c0) ∈ news → (D1, fr b u1 w1 c1) ∈ news → (D2, fr c u2 w2 c2) ∈ news → (D3, fr d u3 w3 c3) ∈ news → vs = [.ref D0, .ref D1, .ref D2, .ref D3] → G) : G := by
  obtain ⟨v0, v1, v2, v3, rfl, ⟨D0, u0, w0, c0, rfl, h0⟩, ⟨D1, u1, w1, c1, rfl, h1⟩, ⟨D2, u2, w2, c2, rfl, h2⟩, ⟨D3, u3, w3, c3, rfl, h3⟩⟩ := h.four
  exact H _ _ _ _ _ _ _ _ _ _ _ _ _ _ _ _ h0 h1 h2 h3 rfl
theorem Cells.at_open {news : Led} {i : Nat} {vs : List Value} {qs : List Rat} {v : Value} {G : Prop} (h : Cells news vs qs) (hv : vs[i]? = some v)
    (H : ∀ q D u w c, qs[i]? = some q → (D, fr q u w c) ∈ news → v = .ref D → G) : G := by
  obtain ⟨q, hq, D, u, w, c, rfl, hm⟩ := h.at hv
  exact H q D u w c hq hm rfl
theorem Cells.of4 {news : Led} {v0 v1 v2 v3 : Value} {a b c d : Rat} (h0 : Cell news v0 a) (h1 : Cell news v1 b) (h2 : Cell news v2 c) (h3 : Cell news v3 d) : Cells news [v0, v1, v2, v3] [a, b, c, d] := by
  refine ⟨rfl, fun i v q hv hq => ?_⟩
  match i with
  | 0 => simp at hv hq; subst hv hq; exact h0
  | 1 => simp at hv hq; subst hv hq; exact h1
  | 2 => simp at hv hq; subst hv hq; exact h2
  | 3 => simp at hv hq; subst hv hq; exact h3
  | n + 4 => simp at hv
/-- the value is a list of such pairs -/
def Row (news : Led) (v : Value) (qs : List Rat) : Prop := ∃ D c vs, v = .ref D ∧ (D, lst vs c) ∈ news ∧ Cells news vs qs
theorem Row.mono {news news' : Led} {v : Value} {qs : List Rat} (h : Row news v qs) (hs : ∀ p ∈ news, p ∈ news') : Row news' v qs := by
  obtain ⟨D, c, vs, e, hm, hc⟩ := h
  exact ⟨D, c, vs, e, hs _ hm, hc.mono hs⟩
theorem BdAll.four {n : Nat} {a b c d : Rat} (h : BdAll n [a, b, c, d]) : Bd n a ∧ Bd n b ∧ Bd n c ∧ Bd n d := ⟨h 0 _ rfl, h 1 _ rfl, h 2 _ rfl, h 3 _ rfl⟩
theorem BdAll.of4 {n : Nat} {a b c d : Rat} (h0 : Bd n a) (h1 : Bd n b) (h2 : Bd n c) (h3 : Bd n d) : BdAll n [a, b, c, d] := by
  intro i q hq
  match i with
  | 0 => simp at hq; subst hq; exact h0
  | 1 => simp at hq; subst hq; exact h1
  | 2 => simp at hq; subst hq; exact h2
  | 3 => simp at hq; subst hq; exact h3
  | n + 4 => simp at hq
-- part G1
local macro_rules | `(tactic| walk_at "mine f0") => `(tactic| (k_whole; intro g' L' h' tk' cells' FG' F' N' Y' B' X' T' l1; (try k_lt l1); k_cells Y'; (try simp only [List.cons_append, List.nil_append] at N'); (try dsimp only); (try (refine wpN ?_; k_fold))))
local macro_rules | `(tactic| walk_at "mine enterC") => `(tactic| (k_extra "ec"; walk_at "mine f0"))
local macro_rules | `(tactic| walk_at "eval ListComp") => `(tactic| ((fail_if_success k_extra "two"); (k_here; k_dflt (refine ListComp_go (by with_unfolding_all rfl) (by rfl) (by decide) ?_))))
local macro_rules | `(tactic| walk_at "CGo") => `(tactic| k_extra "go")
local macro_rules | `(tactic| walk_at "call type:zip") => `(tactic| k_extra "go")
theorem cleared_call (w : World) (news) {n k : Nat} {DL DM DF cL cM} {vs us : List Value} {qs rs : List Rat} {f : Rat}
    (hmL : (DL, lst vs cL) ∈ news) (hmM : (DM, lst us cM) ∈ news) (hf : Cell news (.ref DF) f) (hvs : Cells news vs qs) (hus : Cells news us rs) (hbf : Bd n f) (hbq : BdAll n qs) (hbr : BdAll k rs) (hlen : rs.length = qs.length) (hsz : qs.length ≤ 100) (hn : n ≤ 1000) (hk : k ≤ 1000) :
    CallOk w 61 [.ref DL, .ref DM, .ref DF] 8 news (RowRet (List.zipWith (fun q r => q - f * r) qs rs)) := by
  unfold CallOk
  k_fill
  intro p loose mean mg mb dp un gd cn cs a ccd cl outer A₀ base h₀ L m hpA gsA drA tkA osA Q E B F X N T hkf hd hu hret
  refine wpAny_call ?_
  k_with "ec" => refine' code_defC ?k1 ?k2 ?k3 ?k4 ?k5 ?kA ?kF ?kK ?k6 ?k7 ?k8 ?k9 ?kB ?kD ?_ ?c2 ?c3 ?c4; (case kA => exact rfl); (case kF => exact rfl); (case kK => first | exact rfl | assumption); (case k1 => k_asm); (case k2 => k_asm); (case k3 => k_asm); (case k4 => k_asm); (case k5 => k_asm); (case k6 => k_is); (case k7 => k_is); (case k8 => ktr_room); (case k9 => exact BindsTo.of_eq rfl); (case kB => exact rfl); (case kD => decide +kernel); (case c2 => exact rfl); (case c3 => exact rfl); (case c4 => exact rfl)
  k_dflt walk_at "mine enterC"
  refine gen_tk fun tk0 => ?_
  rename Fr _ _ _ _ => kF0
  refine fr_open2 (Str.ofString "row") (Str.ofString "by") kF0 (by with_unfolding_all rfl) (by with_unfolding_all rfl) fun mb kF1 => ?_
  clear kF0
  refine wpN ?_
  k_with_none
  k_with "u8" => first | (refine' times_use ?m1 ?m2 ?p1 ?p2 ?n1 ?n2 ?k1 ?k2 ?k3 ?k4 ?k5 ?kK ?kd ?ku ?_) | (refine' less_use ?m1 ?m2 ?p1 ?p2 ?n1 ?n2 ?k1 ?k2 ?k3 ?k4 ?k5 ?kK ?kd ?ku ?_) | (refine' slope_use ?m1 ?m2 ?p1 ?p2 ?n1 ?n2 ?x1 ?x2 ?n3 ?k1 ?k2 ?k3 ?k4 ?k5 ?kK ?kd ?ku ?_) | (refine' fracq_use ?z ?x1 ?x2 ?n1 ?k1 ?k2 ?k3 ?k4 ?k5 ?kK ?kd ?ku ?_) | (refine' plus_use ?m1 ?m2 ?p1 ?p2 ?n1 ?n2 ?k1 ?k2 ?k3 ?k4 ?k5 ?kK ?kd ?ku ?_) | (refine' by_use ?m1 ?m2 ?p1 ?p2 ?n1 ?n2 ?z ?k1 ?k2 ?k3 ?k4 ?k5 ?kK ?kd ?ku ?_)
  k_with "asm8" => ((case k4 => k_asm); (try (case m1 => k_mem)); (try (case m2 => k_mem)); (try (case p1 => walk_at "mine pr")); (try (case p2 => walk_at "mine pr")); (try (case x1 => first | assumption | (exact Ne.symm (by assumption)))); (try (case x2 => assumption)); (try (case n1 => first | decide | omega)); (try (case n2 => first | decide | omega)); (try (case n3 => first | decide | omega)); (case k1 => k_asm); (case k2 => k_asm); (case k3 => k_asm); (case k5 => k_asm); (case kK => first | exact rfl | assumption); (case kd => ktr_room); (case ku => ktr_units))
  k_steps
  rename Fr _ _ _ _ => lF
  rename News _ _ _ _ => lN
  have hlv : us.length = vs.length := by rw [hvs.1, hus.1, hlen]
  k_dflt (refine' call_zip_go (J := fun i outs T => Cells T outs ((List.zipWith (fun q r => q - f * r) qs rs).take i)) ?hh lF lN ?m1 ?c1 ?d1 ?m2 ?c2 ?d2 hlv ?sz ?hcell ?hkind ?ha ?hb ?hab ?J0 ?turn ?fin)
  case hh => rfl
  case m1 => exact List.mem_cons_of_mem _ hmL
  case c1 => rfl
  case d1 => rfl
  case m2 => exact List.mem_cons_of_mem _ hmM
  case c2 => rfl
  case d2 => rfl
  case sz => rw [hvs.1]; exact Nat.le_trans hsz (by decide)
  case hcell => decide
  case hkind => rfl
  case ha => rfl
  case hb => rfl
  case hab => decide
  case J0 => exact Cells.nil
  case turn =>
    intro g i outs T C oC m₂ N₁ h₁ tk₁ E' hi hC hB F₁ N₁' hT hJ
    obtain ⟨x, y, hx, hy, ma, mb'⟩ := hB
    obtain ⟨q, hq, Dx, ux, vx, cx, rfl, hmx⟩ := hvs.at hx
    obtain ⟨r, hr, Dy, uy, vy, cy, rfl, hmy⟩ := hus.at hy
    obtain ⟨Df, uf, vf, cf, ef, hmf⟩ := hf
    have bq := hbq _ _ hq
    have br := hbr _ _ hr
    cases ef
    have up : ∀ p ∈ news, p ∈ N₁ := fun p hp => hT p (List.mem_append_right _ (List.mem_cons_of_mem _ hp))
    have hcell := hT _ (List.mem_append_right _ (List.mem_cons_self ..))
    have kmx := up _ hmx
    have kmy := up _ hmy
    have kmf := up _ hmf
    k_steps
    rename Fr _ _ _ _ => kF
    rename News _ _ _ _ => kN
    refine ⟨_, _, [_, _], rfl, kF, kN, order2 (by walk_at "mine lt") (by walk_at "mine lt"), Cells.snoc (hJ.mono fun p hp => List.mem_append_right _ hp) ?_ (Cell.of (List.mem_cons_self ..))⟩
    rw [List.getElem?_zipWith, hq, hr]
  case fin =>
    intro g D h₁ tk₁ T outs F₁ N₁ o1 o2 o3 hJ
    k_steps
    rename Fr h₀ L _ m => kF
    rename News h₀ L _ _ => kN
    have e : (List.zipWith (fun q r => q - f * r) qs rs).take vs.length = List.zipWith (fun q r => q - f * r) qs rs := List.take_of_length_le (by simp [hvs.1, hlen])
    rw [e] at hJ
    refine hret _ ((D, lst outs outs.length) :: T) _ _ kF (fun p hp => kN p ?_) (fun q hq => ?_) ⟨D, _, outs, rfl, List.mem_cons_self .., hJ.mono fun p hp => List.mem_cons_of_mem _ hp⟩
    · rcases List.mem_cons.mp hp with rfl | hp
      · exact List.mem_cons_self ..
      · refine List.mem_cons_of_mem _ ?_
        rcases List.mem_append.mp hp with hp | hp
        · exact List.mem_append_left _ hp
        · exact List.mem_append_right _ (List.mem_cons_of_mem _ hp)
    · rcases List.mem_cons.mp hq with rfl | hq
      · exact o2.2
      · exact (o3 q hq).2
-- part G2
local macro_rules | `(tactic| walk_at "mine asm") => `(tactic| ((case k4 => k_asm); (try (case m1 => k_mem)); (try (case m2 => k_mem)); (try (case p1 => walk_at "mine pr")); (try (case p2 => walk_at "mine pr")); (try (case x1 => first | assumption | (exact Ne.symm (by assumption)))); (try (case x2 => assumption)); (try (case n1 => first | decide | omega)); (try (case n2 => first | decide | omega)); (try (case n3 => first | decide | omega)); walk_at "mine std"))
local macro_rules | `(tactic| walk_at "call ref") => `(tactic| ((fail_if_success k_extra "two"); (k_here; k_dflt (first | (refine' times_use ?m1 ?m2 ?p1 ?p2 ?n1 ?n2 ?k1 ?k2 ?k3 ?k4 ?k5 ?kK ?kd ?ku ?_) | (refine' less_use ?m1 ?m2 ?p1 ?p2 ?n1 ?n2 ?k1 ?k2 ?k3 ?k4 ?k5 ?kK ?kd ?ku ?_) | (refine' slope_use ?m1 ?m2 ?p1 ?p2 ?n1 ?n2 ?x1 ?x2 ?n3 ?k1 ?k2 ?k3 ?k4 ?k5 ?kK ?kd ?ku ?_) | (refine' fracq_use ?z ?x1 ?x2 ?n1 ?k1 ?k2 ?k3 ?k4 ?k5 ?kK ?kd ?ku ?_) | (refine' plus_use ?m1 ?m2 ?p1 ?p2 ?n1 ?n2 ?k1 ?k2 ?k3 ?k4 ?k5 ?kK ?kd ?ku ?_) | (refine' by_use ?m1 ?m2 ?p1 ?p2 ?n1 ?n2 ?z ?k1 ?k2 ?k3 ?k4 ?k5 ?kK ?kd ?ku ?_)); (k_dflt walk_at "mine asm"); walk_at "mine f1")))
local macro_rules | `(tactic| walk_at "mine enterC") => `(tactic| (refine' code_defC ?k1 ?k2 ?k3 ?k4 ?k5 ?kA ?kF ?kK ?k6 ?k7 ?k8 ?k9 ?kB ?kD ?_ ?c2 ?c3 ?c4; (case kA | kF => exact rfl); (case kK => first | exact rfl | assumption); (case k1 | k2 | k3 | k4 | k5 => k_asm); (case k6 | k7 => k_is); (case k8 => ktr_room); (case k9 => exact BindsTo.of_eq rfl); (case kB => exact rfl); (case kD => decide +kernel); (case c2 | c3 | c4 => exact rfl); walk_at "mine f0"))
theorem pivot0_call (w : World) (news) {RL RR D c cL : Nat} {v2 v3 : Value} {vs : List Value} {a b u1 u2 cc} {t : Tok}
    (hmL : (RL, lst [.ref RR, v2, v3] cL) ∈ news) (hmR : (RR, lst (.ref D :: vs) c) ∈ news) (hmD : (D, tup2 a b u1 u2 cc) ∈ news) (ha : a ≠ 0) :
    CallOk w 56 [.ref RL, .int 0 t] 4 news (fun tl r => tl = [] ∧ ∃ t', r = .int 0 t') := by
  unfold CallOk
  k_fill
  intro p loose mean mg mb dp un gd cn cs a ccd cl outer A₀ base h₀ L m hpA gsA drA tkA osA Q E B F X N T hkf hd hu hret
  refine wpAny_call ?_
  k_dflt ktr_enter
  refine gen_tk fun tk0 => ?_
  rename Fr _ _ _ _ => kF0
  refine fr_open2 (Str.ofString "rows") (Str.ofString "at") kF0 (by with_unfolding_all rfl) (by with_unfolding_all rfl) fun mb kF1 => ?_
  clear kF0
  refine wpN ?_
  k_with_none
  k_steps
  · rename Fr h₀ L _ m => kF
    rename News h₀ L _ _ => kN
    exact hret _ [] _ _ kF (cb_drop kN (by walk_at "mine sub")) sub_nil ⟨rfl, _, rfl⟩
  · exfalso
    simp_all
theorem pivot1_call (w : World) (news) {RL RR D c cL : Nat} {v1 v3 w0 : Value} {vs : List Value} {a b u1 u2 cc} {t : Tok}
    (hmL : (RL, lst [v1, .ref RR, v3] cL) ∈ news) (hmR : (RR, lst (w0 :: .ref D :: vs) c) ∈ news) (hmD : (D, tup2 a b u1 u2 cc) ∈ news) (ha : a ≠ 0) :
    CallOk w 56 [.ref RL, .int 1 t] 4 news (fun tl r => tl = [] ∧ ∃ t', r = .int 1 t') := by
  unfold CallOk
  k_fill
  intro p loose mean mg mb dp un gd cn cs a ccd cl outer A₀ base h₀ L m hpA gsA drA tkA osA Q E B F X N T hkf hd hu hret
  refine wpAny_call ?_
  k_dflt ktr_enter
  refine gen_tk fun tk0 => ?_
  rename Fr _ _ _ _ => kF0
  refine fr_open2 (Str.ofString "rows") (Str.ofString "at") kF0 (by with_unfolding_all rfl) (by with_unfolding_all rfl) fun mb kF1 => ?_
  clear kF0
  refine wpN ?_
  k_with_none
  k_steps
  · rename Fr h₀ L _ m => kF
    rename News h₀ L _ _ => kN
    exact hret _ [] _ _ kF (cb_drop kN (by walk_at "mine sub")) sub_nil ⟨rfl, _, rfl⟩
  · exfalso
    simp_all
theorem pivot2_call (w : World) (news) {RL RR D c cL : Nat} {v1 v2 w0 w1 : Value} {vs : List Value} {a b u1 u2 cc} {t : Tok}
    (hmL : (RL, lst [v1, v2, .ref RR] cL) ∈ news) (hmR : (RR, lst (w0 :: w1 :: .ref D :: vs) c) ∈ news) (hmD : (D, tup2 a b u1 u2 cc) ∈ news) (ha : a ≠ 0) :
    CallOk w 56 [.ref RL, .int 2 t] 4 news (fun tl r => tl = [] ∧ ∃ t', r = .int 2 t') := by
  unfold CallOk
  k_fill
  intro p loose mean mg mb dp un gd cn cs a ccd cl outer A₀ base h₀ L m hpA gsA drA tkA osA Q E B F X N T hkf hd hu hret
  refine wpAny_call ?_
  k_dflt ktr_enter
  refine gen_tk fun tk0 => ?_
  rename Fr _ _ _ _ => kF0
  refine fr_open2 (Str.ofString "rows") (Str.ofString "at") kF0 (by with_unfolding_all rfl) (by with_unfolding_all rfl) fun mb kF1 => ?_
  clear kF0
  refine wpN ?_
  k_with_none
  k_steps
  · rename Fr h₀ L _ m => kF
    rename News h₀ L _ _ => kN
    exact hret _ [] _ _ kF (cb_drop kN (by walk_at "mine sub")) sub_nil ⟨rfl, _, rfl⟩
  · exfalso
    simp_all
-- part L5
/-- a ledger's rest lies off an address -/
def Off (a : Addr) (l : Led) : Prop := ∀ p ∈ l, p.1 ≠ a
def Sub (l l' : Led) : Prop := ∀ p ∈ l, p ∈ l'
/-- the ledger has grown upward -/
def Grow (l l' : Led) : Prop := Sub l l' ∧ ∀ q ∈ l', q ∈ l ∨ AllLt q.1 l
theorem Grow.refl {l : Led} : Grow l l := ⟨fun _ h => h, fun _ h => .inl h⟩
theorem Grow.trans {a b c : Led} (h : Grow a b) (k : Grow b c) : Grow a c := ⟨fun p hp => k.1 p (h.1 p hp), fun q hq => by
  rcases k.2 q hq with hb | hb
  · exact h.2 q hb
  · exact .inr (allLt_sub hb h.1)⟩
theorem Grow.app {a tl : Led} (h : ∀ q ∈ tl, AllLt q.1 a) : Grow a (tl ++ a) := ⟨fun _ hp => List.mem_append_right _ hp, fun q hq => by
  rcases List.mem_append.mp hq with hq | hq
  · exact .inr (h q hq)
  · exact .inl hq⟩
theorem Grow.cons {a b : Led} {x : Addr × Obj} (h : Grow a b) (hx : AllLt x.1 a) : Grow a (x :: b) := ⟨fun p hp => List.mem_cons_of_mem _ (h.1 p hp), fun q hq => by
  rcases List.mem_cons.mp hq with rfl | hq
  · exact .inr hx
  · exact h.2 q hq⟩
/-- a contract whose ledger grows, whatever it is behind -/
def GCallOk (w : World) (f : Addr) (vs : List Value) (d : Nat) (news : Led) (Ret : Led → Value → Prop) : Prop :=
  ∀ (p : Program) (loose : List Str) (mean : ExcName → Option Value) (mg mb : Str → Option Value) (dp un : Nat) (gd : Option (List Code)) (cn : Str) (cs : Scope) (a : Addr) (ccd : Value) (cl : List (Str × Addr)) (outer : List Env) (A₀ : Around) (base h₀ : Heap) (L : Addr) (m : Str → Option Value) (hpA : Heap) (gsA : Array GenState) (drA : Drawn) (tkA : Nat) (osA : OsState)
    (Q E : Value → Shared → Prop),
    Below A₀ base outer h₀ → Fr h₀ L hpA m → (Mine.hd.heap_39 w.params).In h₀ → News h₀ L hpA news → Top p loose mean mg mb h₀ → cs.kind = .function → dp + d < recursionLimit → un + 8 * d < cLine →
    (∀ r nw h' tk', Fr h₀ L h' m → News h₀ L h' nw → Grow news nw → Ret nw r → Q r ⟨h', gsA, drA, tk', osA⟩) →
    wpAny (model PySem.Challenge.rw_xm0058_01.row.toRowW.prog w) (ktrTop dp un gd cn cs L a ccd cl outer) (call (.ref f) vs) Q E ⟨hpA, gsA, drA, tkA, osA⟩
theorem guse {w : World} {f : Addr} {vs : List Value} {d : Nat} {news : Led} {Ret : Led → Value → Prop}
    {p : Program} {loose : List Str} {mean : ExcName → Option Value} {mg mb : Str → Option Value} {dp un : Nat} {gd : Option (List Code)} {cn : Str} {cs : Scope} {a : Addr} {ccd : Value} {cl : List (Str × Addr)} {outer : List Env} {A₀ : Around} {base h₀ : Heap} {L : Addr} {m : Str → Option Value} {hpA : Heap} {gsA : Array GenState} {drA : Drawn} {tkA : Nat} {osA : OsState}
    {Q E : Value → Shared → Prop}
    (C : GCallOk w f vs d news Ret) (B : Below A₀ base outer h₀) (F : Fr h₀ L hpA m) (X : (Mine.hd.heap_39 w.params).In h₀) (N : News h₀ L hpA news) (T : Top p loose mean mg mb h₀) (hk : cs.kind = .function)
    (hd : dp + d < recursionLimit) (hu : un + 8 * d < cLine)
    (ret : ∀ r nw h' tk', Fr h₀ L h' m → News h₀ L h' nw → Grow news nw → Ret nw r → Q r ⟨h', gsA, drA, tk', osA⟩) :
    wpAny (model PySem.Challenge.rw_xm0058_01.row.toRowW.prog w) (ktrTop dp un gd cn cs L a ccd cl outer) (call (.ref f) vs) Q E ⟨hpA, gsA, drA, tkA, osA⟩ := C _ _ _ _ _ _ _ _ _ _ _ _ _ _ _ _ _ _ _ _ _ _ _ _ _ _ B F X N T hk hd hu ret
/-- the end of a statement that may put another row into the list of rows -/
def JEnd (h₀ : Heap) (L : Addr) (m : Str → Option Value) (gsA : Array GenState) (drA : Drawn) (osA : OsState) (x1 x3 : Addr × Obj) (RL : Addr) (x4 : Addr × Obj) (news : Led) (q0 q1 q2 : List Rat) (f : Flow) (s' : Shared) : Prop :=
  f = .next ∧ ∃ h' tk' news' v0 v1 v2 c, s' = ⟨h', gsA, drA, tk', osA⟩ ∧ Fr h₀ L h' m ∧ News h₀ L h' (x1 :: x3 :: (RL, lst [v0, v1, v2] c) :: x4 :: news') ∧ Grow news news' ∧
    (Off x1.1 news' ∧ Off x3.1 news' ∧ Off RL news' ∧ Off x4.1 news') ∧ Row news' v0 q0 ∧ Row news' v1 q1 ∧ Row news' v2 q2
theorem join_if {prog : Program} {w : World} {A : Around} {E : Value → Shared → Prop} {t : Sem Flow} {Q : Flow → Shared → Prop} {hpA : Heap} {gsA : Array GenState} {drA : Drawn} {tkA : Nat} {osA : OsState} {h₀ : Heap} {L : Addr} {m : Str → Option Value} {x1 x3 : Addr × Obj} {RL : Addr} {o : Obj} {x4 : Addr × Obj} {news : Led} (q0 q1 q2 : List Rat)
    (FU : Fr h₀ L hpA m) (NU : News h₀ L hpA (x1 :: x3 :: (RL, o) :: x4 :: news))
    (walk : wpAny (model prog w) A t (JEnd h₀ L m gsA drA osA x1 x3 RL x4 news q0 q1 q2) E ⟨hpA, gsA, drA, tkA, osA⟩)
    (cont : ∀ h' tk' news' X0 X1 X2 k0 k1 k2 w0 w1 w2 c, Fr h₀ L h' m → News h₀ L h' (x1 :: x3 :: (RL, lst [.ref X0, .ref X1, .ref X2] c) :: x4 :: news') → Grow news news' → Off x1.1 news' → Off x3.1 news' → Off RL news' → Off x4.1 news' →
      (X0, lst w0 k0) ∈ news' → (X1, lst w1 k1) ∈ news' → (X2, lst w2 k2) ∈ news' → Cells news' w0 q0 → Cells news' w1 q1 → Cells news' w2 q2 → Q .next ⟨h', gsA, drA, tk', osA⟩) :
    wpAny (model prog w) A t Q E ⟨hpA, gsA, drA, tkA, osA⟩ := by
  refine wpAny_mono walk (fun f s' hj => ?_) fun _ _ e => e
  obtain ⟨rfl, h', tk', news', v0, v1, v2, c, rfl, F', N', hs, ⟨o1, o2, o3, o4⟩, ⟨X0, k0, w0, rfl, a0, b0⟩, ⟨X1, k1, w1, rfl, a1, b1⟩, ⟨X2, k2, w2, rfl, a2, b2⟩⟩ := hj
  exact cont h' tk' news' X0 X1 X2 k0 k1 k2 w0 w1 w2 c F' N' hs o1 o2 o3 o4 a0 a1 a2 b0 b1 b2
theorem off_app {x : Addr × Obj} {l news tl : Led} (hx : x ∈ l) (ho : Off x.1 news) (ht : ∀ q ∈ tl, AllLt q.1 l) : Off x.1 (tl ++ news) := fun p hp => by
  rcases List.mem_append.mp hp with hp | hp
  · exact Nat.ne_of_gt (ktn_ltOf (ht p hp) x hx)
  · exact ho p hp
theorem row_use4 {w : World} {f : Addr} {vs : List Value} {d : Nat} {x1 x2 x3 x4 : Addr × Obj} {news : Led} {qs qs' : List Rat}
    {p : Program} {loose : List Str} {mean : ExcName → Option Value} {mg mb : Str → Option Value} {dp un : Nat} {gd : Option (List Code)} {cn : Str} {cs : Scope} {a : Addr} {ccd : Value} {cl : List (Str × Addr)} {outer : List Env} {A₀ : Around} {base h₀ : Heap} {L : Addr} {m : Str → Option Value} {hpA : Heap} {gsA : Array GenState} {drA : Drawn} {tkA : Nat} {osA : OsState}
    {Q E : Value → Shared → Prop}
    (C : CallOk w f vs d (x1 :: x2 :: x3 :: x4 :: news) (RowRet qs)) (B : Below A₀ base outer h₀) (F : Fr h₀ L hpA m) (X : (Mine.hd.heap_39 w.params).In h₀) (N : News h₀ L hpA (x1 :: x2 :: x3 :: x4 :: news)) (T : Top p loose mean mg mb h₀) (hk : cs.kind = .function)
    (hd : dp + d < recursionLimit) (hu : un + 8 * d < cLine) (e : qs = qs') (o1 : Off x1.1 news) (o2 : Off x2.1 news) (o3 : Off x3.1 news) (o4 : Off x4.1 news)
    (ret : ∀ D news' h' tk', Fr h₀ L h' m → News h₀ L h' (x1 :: x2 :: x3 :: x4 :: news') → Grow news news' → Off x1.1 news' → Off x2.1 news' → Off x3.1 news' → Off x4.1 news' → Row news' (.ref D) qs' → Q (.ref D) ⟨h', gsA, drA, tk', osA⟩) :
    wpAny (model PySem.Challenge.rw_xm0058_01.row.toRowW.prog w) (ktrTop dp un gd cn cs L a ccd cl outer) (call (.ref f) vs) Q E ⟨hpA, gsA, drA, tkA, osA⟩ := by
  subst e
  refine use C B F X N T hk hd hu fun r tl h' tk' F' N' hl hr => ?_
  obtain ⟨D, c, outs, rfl, hm, hc⟩ := hr
  refine ret D (tl ++ news) h' tk' F' (fun p hp => N' p ?_) (Grow.app fun q hq => (hl q hq).2.2.2.2) (off_app (by simp) o1 hl) (off_app (by simp) o2 hl) (off_app (by simp) o3 hl) (off_app (by simp) o4 hl)
    ⟨D, c, outs, rfl, List.mem_append_left _ hm, hc.mono fun p hp => List.mem_append_left _ hp⟩
  simp only [List.mem_cons, List.mem_append] at hp ⊢
  rcases hp with h | h | h | h | h | h <;> simp [h]
/-- behind a comprehension: its list and what it made go into the rest -/
theorem regroup {h₀ h : Heap} {L D : Addr} {o : Obj} {T l news : Led} (N : News h₀ L h ((D, o) :: (T ++ (l ++ news)))) (o2 : AllLt D (l ++ news)) (o3 : ∀ q ∈ T, AllLt q.1 (l ++ news)) :
    News h₀ L h (l ++ ((D, o) :: (T ++ news))) ∧ Grow news ((D, o) :: (T ++ news)) ∧ ∀ x ∈ l, Off x.1 news → Off x.1 ((D, o) :: (T ++ news)) := by
  refine ⟨fun p hp => N p ?_, Grow.cons (Grow.app fun q hq => allLt_sub (o3 q hq) fun p hp => List.mem_append_right _ hp) (allLt_sub o2 fun p hp => List.mem_append_right _ hp), fun x hx ho p hp => ?_⟩
  · rcases List.mem_append.mp hp with hp | hp
    · exact List.mem_cons_of_mem _ (List.mem_append_right _ (List.mem_append_left _ hp))
    · rcases List.mem_cons.mp hp with rfl | hp
      · exact List.mem_cons_self ..
      · rcases List.mem_append.mp hp with hp | hp
        · exact List.mem_cons_of_mem _ (List.mem_append_left _ hp)
        · exact List.mem_cons_of_mem _ (List.mem_append_right _ (List.mem_append_right _ hp))
  · rcases List.mem_cons.mp hp with rfl | hp
    · exact Nat.ne_of_gt (ktn_ltOf o2 x (List.mem_append_left _ hx))
    · rcases List.mem_append.mp hp with hp | hp
      · exact Nat.ne_of_gt (ktn_ltOf (o3 p hp) x (List.mem_append_left _ hx))
      · exact ho p hp
theorem regroup_open {h₀ h : Heap} {L D : Addr} {o : Obj} {T l news : Led} {G : Prop} (N : News h₀ L h ((D, o) :: (T ++ (l ++ news)))) (o2 : AllLt D (l ++ news)) (o3 : ∀ q ∈ T, AllLt q.1 (l ++ news))
    (H : ∀ nw, News h₀ L h (l ++ nw) → Grow news nw → (∀ x ∈ l, Off x.1 news → Off x.1 nw) → (D, o) ∈ nw → (∀ p ∈ T, p ∈ nw) → G) : G :=
  have q := regroup N o2 o3
  H _ q.1 q.2.1 q.2.2 (List.mem_cons_self ..) fun _ hp => List.mem_cons_of_mem _ (List.mem_append_left _ hp)
theorem pickA {h₀ h : Heap} {L : Addr} {x0 x1 x2 x3 x4 x5 : Addr × Obj} {news : Led} (N : News h₀ L h (x0 :: x1 :: x2 :: x3 :: x4 :: x5 :: news)) (g0 : AllLt x0.1 news) (g3 : AllLt x3.1 news) (g4 : AllLt x4.1 news)
    (a1 : x0.1 ≠ x1.1 ∧ x3.1 ≠ x1.1 ∧ x4.1 ≠ x1.1 ∧ Off x1.1 news) (a2 : x0.1 ≠ x2.1 ∧ x3.1 ≠ x2.1 ∧ x4.1 ≠ x2.1 ∧ Off x2.1 news) (a5 : x0.1 ≠ x5.1 ∧ x3.1 ≠ x5.1 ∧ x4.1 ≠ x5.1 ∧ Off x5.1 news) :
    ∃ nw, News h₀ L h ([x1, x2, x5] ++ nw) ∧ Grow news nw ∧ x0 ∈ nw ∧ Off x1.1 nw ∧ Off x2.1 nw ∧ Off x5.1 nw := by
  refine ⟨x0 :: x3 :: x4 :: news, fun p hp => N p ?_, Grow.cons (Grow.cons (Grow.cons Grow.refl g4) g3) g0, List.mem_cons_self .., ?_, ?_, ?_⟩
  · simp only [List.mem_cons, List.mem_append, List.not_mem_nil, or_false] at hp ⊢
    rcases hp with (h | h | h) | h | h | h | h <;> simp [h]
  · exact List.forall_mem_cons.mpr ⟨a1.1, List.forall_mem_cons.mpr ⟨a1.2.1, List.forall_mem_cons.mpr ⟨a1.2.2.1, a1.2.2.2⟩⟩⟩
  · exact List.forall_mem_cons.mpr ⟨a2.1, List.forall_mem_cons.mpr ⟨a2.2.1, List.forall_mem_cons.mpr ⟨a2.2.2.1, a2.2.2.2⟩⟩⟩
  · exact List.forall_mem_cons.mpr ⟨a5.1, List.forall_mem_cons.mpr ⟨a5.2.1, List.forall_mem_cons.mpr ⟨a5.2.2.1, a5.2.2.2⟩⟩⟩
theorem pickB {h₀ h : Heap} {L : Addr} {x0 x1 x2 x3 : Addr × Obj} {news : Led} (N : News h₀ L h (x0 :: x1 :: x2 :: x3 :: news)) (g0 : AllLt x0.1 news)
    (a1 : x0.1 ≠ x1.1 ∧ Off x1.1 news) (a2 : x0.1 ≠ x2.1 ∧ Off x2.1 news) (a3 : x0.1 ≠ x3.1 ∧ Off x3.1 news) :
    ∃ nw, News h₀ L h ([x1, x2, x3] ++ nw) ∧ Grow news nw ∧ x0 ∈ nw ∧ Off x1.1 nw ∧ Off x2.1 nw ∧ Off x3.1 nw := by
  refine ⟨x0 :: news, fun p hp => N p ?_, Grow.cons Grow.refl g0, List.mem_cons_self .., ?_, ?_, ?_⟩
  · simp only [List.mem_cons, List.mem_append, List.not_mem_nil, or_false] at hp ⊢
    rcases hp with (h | h | h) | h | h <;> simp [h]
  · exact List.forall_mem_cons.mpr a1
  · exact List.forall_mem_cons.mpr a2
  · exact List.forall_mem_cons.mpr a3
-- the rows' own arithmetic
theorem BdAll.over {n : Nat} {a b c d p : Rat} (h : BdAll n [a, b, c, d]) (hp : p ≠ 0) (bp : Bd n p) : BdAll (n + n) ([a, b, c, d].map (fun q => q / p)) := by
  obtain ⟨h0, h1, h2, h3⟩ := h.four
  exact BdAll.of4 (Bd.div hp h0 bp (Nat.le_refl _)) (Bd.div hp h1 bp (Nat.le_refl _)) (Bd.div hp h2 bp (Nat.le_refl _)) (Bd.div hp h3 bp (Nat.le_refl _))
theorem BdAll.less {n k : Nat} {a b c d r0 r1 r2 r3 f : Rat} (h : BdAll n [a, b, c, d]) (hr : BdAll k [r0, r1, r2, r3]) (bf : Bd n f) : BdAll (n + (n + k) + 1) (List.zipWith (fun q r => q - f * r) [a, b, c, d] [r0, r1, r2, r3]) := by
  obtain ⟨h0, h1, h2, h3⟩ := h.four
  obtain ⟨g0, g1, g2, g3⟩ := hr.four
  exact BdAll.of4 (Bd.sub h0 (Bd.mul bf g0 (Nat.le_refl _)) (Nat.le_refl _)) (Bd.sub h1 (Bd.mul bf g1 (Nat.le_refl _)) (Nat.le_refl _)) (Bd.sub h2 (Bd.mul bf g2 (Nat.le_refl _)) (Nat.le_refl _)) (Bd.sub h3 (Bd.mul bf g3 (Nat.le_refl _)) (Nat.le_refl _))
theorem zip0 {a b c d r0 r1 r2 r3 f : Rat} (hf : f.num = 0) : [a, b, c, d] = List.zipWith (fun q r => q - f * r) [a, b, c, d] [r0, r1, r2, r3] := by
  have e : f = 0 := Rat.num_eq_zero.mp hf
  subst e
  simp only [List.zipWith, List.cons.injEq, and_true]
  (repeat' (refine And.intro ?_ ?_)) <;> grind
section
variable {x0 x1 x2 y0 y1 y2 s t : Rat}
theorem e_p0 : [1, x0, x0 * x0, y0].map (fun q => q / 1) = [1, x0, x0 * x0, y0] := by simp only [List.map_cons, List.map_nil, List.cons.injEq, and_true]; (repeat' (refine And.intro ?_ ?_)) <;> grind
theorem e_01 : List.zipWith (fun q r => q - 1 * r) [1, x1, x1 * x1, y1] [1, x0, x0 * x0, y0] = [0, x1 - x0, x1 * x1 - x0 * x0, y1 - y0] := by simp only [List.zipWith, List.cons.injEq, and_true]; (repeat' (refine And.intro ?_ ?_)) <;> grind
theorem e_p1 (h : x1 - x0 ≠ 0) (hs : s = (y1 - y0) / (x1 - x0)) : [0, x1 - x0, x1 * x1 - x0 * x0, y1 - y0].map (fun q => q / (x1 - x0)) = [0, 1, x1 + x0, s] := by simp only [List.map_cons, List.map_nil, List.cons.injEq, and_true]; (repeat' (refine And.intro ?_ ?_)) <;> grind
theorem e_10 : List.zipWith (fun q r => q - x0 * r) [1, x0, x0 * x0, y0] [0, 1, x1 + x0, s] = [1, 0, -(x0 * x1), y0 - x0 * s] := by simp only [List.zipWith, List.cons.injEq, and_true]; (repeat' (refine And.intro ?_ ?_)) <;> grind
theorem e_12 : List.zipWith (fun q r => q - (x2 - x0) * r) [0, x2 - x0, x2 * x2 - x0 * x0, y2 - y0] [0, 1, x1 + x0, s] = [0, 0, (x2 - x0) * (x2 - x1), (y2 - y0) - (x2 - x0) * s] := by simp only [List.zipWith, List.cons.injEq, and_true]; (repeat' (refine And.intro ?_ ?_)) <;> grind
theorem e_p2 (h : (x2 - x0) * (x2 - x1) ≠ 0) (ht : t = ((y2 - y0) - (x2 - x0) * s) / ((x2 - x0) * (x2 - x1))) : [0, 0, (x2 - x0) * (x2 - x1), (y2 - y0) - (x2 - x0) * s].map (fun q => q / ((x2 - x0) * (x2 - x1))) = [0, 0, 1, t] := by simp only [List.map_cons, List.map_nil, List.cons.injEq, and_true]; (repeat' (refine And.intro ?_ ?_)) <;> grind
theorem e_20 : List.zipWith (fun q r => q - (-(x0 * x1)) * r) [1, 0, -(x0 * x1), y0 - x0 * s] [0, 0, 1, t] = [1, 0, 0, y0 - x0 * s + x0 * x1 * t] := by simp only [List.zipWith, List.cons.injEq, and_true]; (repeat' (refine And.intro ?_ ?_)) <;> grind
theorem e_21 : List.zipWith (fun q r => q - (x1 + x0) * r) [0, 1, x1 + x0, s] [0, 0, 1, t] = [0, 1, 0, s - (x1 + x0) * t] := by simp only [List.zipWith, List.cons.injEq, and_true]; (repeat' (refine And.intro ?_ ?_)) <;> grind
end
theorem drop3 {h₀ h : Heap} {L : Addr} {x y z : Addr × Obj} {l : Led} (N : News h₀ L h (x :: y :: z :: l)) : News h₀ L h (x :: y :: l) := fun p hp => N p (by
  rcases List.mem_cons.mp hp with rfl | hp
  · exact List.mem_cons_self ..
  · rcases List.mem_cons.mp hp with rfl | hp
    · exact List.mem_cons_of_mem _ (List.mem_cons_self ..)
    · exact List.mem_cons_of_mem _ (List.mem_cons_of_mem _ (List.mem_cons_of_mem _ hp)))
/-- what solved_rows hands back: the rows and a number -/
def SolRet (q0 q1 q2 : List Rat) (nw : Led) (r : Value) : Prop :=
  ∃ D k RL cR Dt X0 X1 X2 k0 k1 k2 w0 w1 w2, r = .ref D ∧ (D, ({ cls := .type "tuple", data := .seq #[.ref RL, .ref Dt] k } : Obj)) ∈ nw ∧ (RL, lst [.ref X0, .ref X1, .ref X2] cR) ∈ nw ∧
    (X0, lst w0 k0) ∈ nw ∧ (X1, lst w1 k1) ∈ nw ∧ (X2, lst w2 k2) ∈ nw ∧ Cells nw w0 q0 ∧ Cells nw w1 q1 ∧ Cells nw w2 q2
-- part L6
open PySem.Spec PySem.Calls PyProof.Rows.LCg
section
variable {prog : Program} {w : World} {A : Around} {E : Value → Shared → Prop} {s : Shared} {h₀ : Heap} {L : Addr} {m : Str → Option Value} {env : Env}
/-- what is left of an assigned comprehension behind its source -/
def CGoA (prog : Program) (w : World) (A : Around) (E : Value → Shared → Prop) (env : Env) (elt iter target : PySem.Expr) (scope : Scope) (cl : List (Str × Addr)) (pos : Pos) (y : Str) (py : Pos) (Q : Flow → Shared → Prop) (xv : Value) (s₁ : Shared) : Prop :=
  CGo prog w A E env elt iter target scope cl pos (some (assign (.Name y py) env)) (fun _ s' => Q .next s') xv s₁
theorem Assign_go {elt iter target : PySem.Expr} {y : Str} {py : Pos} {scope : Scope} {cl : List (Str × Addr)} {pos spos : Pos} {Q : Flow → Shared → Prop}
    (hsw : swapsWith (.ListComp elt [⟨target, iter, [], 0⟩] scope pos) (some (.Name y py)) spos.line env = pure true)
    (hclos : closureFor scope env = pure cl) (hkind : scope.kind = .function) (hnames : ∀ z ∈ scope.names, z.2 = .local → scope.names.lookup z.1 = some .local)
    (h : wpAny (model prog w) A (eval iter env) (CGoA prog w A E env elt iter target scope cl pos y py Q) E s)
    (hs : ∀ x, foldedSetIterable iter env x = pure x := by intro _; rfl) :
    wpAny (model prog w) A (exec (.Assign [.Name y py] (.ListComp elt [⟨target, iter, [], 0⟩] scope pos) spos) env) Q E s := by
  rw [exec_Assign_Name_used _ _ _ _ hsw]
  refine wpAny_bind (wpAny_standAt (wpAny_bind ?_))
  show wpAny _ A (do let _ ← comprehension (.ListComp elt [⟨target, iter, [], 0⟩] scope pos) scope env _ (newList []) false (eval iter env) (some (assign (.Name y py) env))) _ _ s
  refine wpAny_bind (wpAny_mono (wpAny_comprehension_free (use := some (assign (.Name y py) env)) (Q := fun _ s' => Q .next s') rfl hs hclos hkind hnames
    (wpAny_mono h (fun _ _ h₁ => h₁) fun _ _ e => e)) (fun _ s' hq => wpAny_pure (wpAny_pure hq)) fun _ _ e => e)
/-- what holds behind an assigned comprehension -/
def CFinA (h₀ : Heap) (L : Addr) (m : Str → Option Value) (s₁ : Shared) (news : Led) (n : Nat) (J : Nat → List Value → Led → Prop) (y : Str) (Q : Flow → Shared → Prop) : Prop :=
  ∀ D h tk T outs, Fr h₀ L h (fun z => if z = y then some (.ref D) else m z) → News h₀ L h ((D, lst outs outs.length) :: (T ++ news)) → (∀ q ∈ T ++ news, q.1 ≠ D) → AllLt D news → (∀ q ∈ T, AllLt q.1 news) → J n outs T → Q .next { s₁ with heap := h, toks := tk }
theorem post_ofA {s₂ : Shared} {D C : Addr} {h : Heap} {tk : Nat} {m' : Str → Option Value} {outs : List Value} {T news : Led} {n : Nat} {J : Nat → List Value → Led → Prop} {y : Str} {py : Pos} {Q : Flow → Shared → Prop} (hLe : env.locals = L)
    (hy : env.kindOf y = some .local) (hp : (env.scope.kind == .class || (env.scope.kind == .module && env.locals != env.globals)) = false) (fin : CFinA h₀ L m s₂ news n J y Q)
    (F : Fr h₀ L h m) (N : News h₀ L h ((D, LCg.lst outs) :: (T ++ news))) (o1 : ∀ q ∈ T ++ news, q.1 ≠ D) (o2 : AllLt D news) (o3 : ∀ q ∈ T, AllLt q.1 news) (hn : h.Ns C m') (hC₀ : h₀.get? C = none) (hCL : C ≠ L) (hCD : C ≠ D) (offC : ∀ q ∈ T ++ news, q.1 ≠ C) (hJ : J n outs T) :
    compPost (model prog w) A E (some (assign (.Name y py) env)) (fun _ s' => Q .next s') (.ref D) C (.ok .next) { s₂ with heap := h, toks := tk } := by
  subst hLe
  show wpAny _ A (assign (.Name y py) env (.ref D)) _ _ _
  refine wpAny_assign_Name (wpAny_storeName_local hy F.ns (fun h₂ hn₂ hs₂ => ?_) hp)
  have hL₀ : h₀.get? env.locals = none := Heap.get?_none_of_le F.above
  have F₂ : Fr h₀ env.locals h₂ (fun z => if z = y then some (.ref D) else m z) := ⟨hn₂, fun b o e => hs₂.extBut b o (fun q => by rw [q, hL₀] at e; cases e) (F.keep b o e), F.above⟩
  refine ⟨m', hn.sameBut hs₂ hCL, fun h'' hs'' => fin D h'' _ T outs (F₂.change hs'' hCL hC₀) (fun p hp => ?_) o1 o2 o3 hJ⟩
  have z : h₂.get? p.1 = some p.2 := hs₂.extBut _ _ (N p hp).2.1 (N p hp).1
  refine ⟨hs''.extBut _ _ ?_ z, (N p hp).2⟩
  rcases List.mem_cons.mp hp with rfl | hp
  · exact Ne.symm hCD
  · exact offC p hp
theorem goA_list {elt iter : PySem.Expr} {x y : Str} {px py : Pos} {scope : Scope} {cl : List (Str × Addr)} {pos : Pos} {Q : Flow → Shared → Prop} {ax : Addr} {lo : Obj} {vs : List Value} {c : Nat} {news : Led} {J : Nat → List Value → Led → Prop} {s₁ : Shared}
    (hh : A.handled = none) (F : Fr h₀ L s₁.heap m) (N : News h₀ L s₁.heap news) (hm : (ax, lo) ∈ news) (hc : lo.cls = .type "list") (hd : lo.data = .seq vs.toArray c)
    (hsz : vs.length ≤ sizeLine) (hcell : ∀ y ∈ scope.names, y.2 ≠ .cell) (hkind : scope.kind = .function) (hx : scope.names.lookup x = some .local) (hLe : env.locals = L) (hy : env.kindOf y = some .local) (hp : (env.scope.kind == .class || (env.scope.kind == .module && env.locals != env.globals)) = false)
    (J0 : J 0 [] []) (turn : ∀ g, CTurn prog w A h₀ L m env elt scope cl { s₁ with heap := g } news vs.length (fun i m₂ => ∃ v, vs[i]? = some v ∧ m₂ x = some v) J)
    (fin : ∀ g, CFinA h₀ L m { s₁ with heap := g } news vs.length J y Q) :
    CGoA prog w A E env elt iter (.Name x px) scope cl pos y py Q (.ref ax) s₁ := by
  have hl : s₁.heap.IsList ax vs.toArray := ⟨lo, (N _ hm).1, hc, c, hd⟩
  have hlt : ax < s₁.heap.objs.size := Heap.lt_size (N _ hm).1
  refine wpAny_pyIter_list hl ?_
  have up : ∀ b o, s₁.heap.get? b = some o → (s₁.heap.push { cls := .type "list_iterator", data := .fields #[.ref ax, .int 0 0] }).get? b = some o := fun b o e => Heap.get?_push_of_some _ e
  refine comp_block (csrc_list (vs := vs) hh (Nat.ne_of_lt hlt) hkind hx) hsz hcell hkind ⟨⟨_, Heap.get?_push_size _ rfl, rfl, rfl⟩, hl.push _⟩ (fun b hb => ?_) (fun b hb => ?_) (F.keeps up) (N.grown up) (fun hL => ?_) (fun p hp hI => ?_) J0 (turn _)
    (fun D C h tk m' outs T F' N' o1 o2 o3 hn hC₀ _ hCL _ hCD offC hJ => post_ofA hLe hy hp (fin _) F' N' o1 o2 o3 hn hC₀ hCL hCD offC hJ)
  · show b < (s₁.heap.push _).objs.size
    rw [Heap.size_push]
    rcases List.mem_cons.mp hb with rfl | hb
    · exact Nat.lt_succ_self _
    · rw [List.mem_singleton.mp hb]; exact Nat.lt_succ_of_lt hlt
  · rw [List.mem_singleton.mp hb]; exact next_is_new F
  · rcases List.mem_cons.mp hL with e | hL
    · exact absurd F.ns.lt (e ▸ Nat.lt_irrefl _)
    · exact (N _ hm).2.1 (List.mem_singleton.mp hL).symm
  · exact absurd (Heap.lt_size (N p hp).1) ((List.mem_singleton.mp hI) ▸ Nat.lt_irrefl _)
theorem goA_pairs {elt iter : PySem.Expr} {a b y : Str} {pa pb tp py : Pos} {kk : Nat} {scope : Scope} {cl : List (Str × Addr)} {pos : Pos} {Q : Flow → Shared → Prop} {ax : Addr} {lo : Obj} (ts : List (Addr × Value × Value)) {c : Nat} {news : Led} {J : Nat → List Value → Led → Prop} {s₁ : Shared}
    (hh : A.handled = none) (F : Fr h₀ L s₁.heap m) (N : News h₀ L s₁.heap news) (hm : (ax, lo) ∈ news) (hc : lo.cls = .type "list") (hd : lo.data = .seq (ts.map fun p => Value.ref p.1).toArray c)
    (hts : ∀ p ∈ ts, ∃ o : Obj, (p.1, o) ∈ news ∧ o.cls = .type "tuple" ∧ ∃ k, o.data = .seq #[p.2.1, p.2.2] k)
    (hsz : ts.length ≤ sizeLine) (hcell : ∀ y ∈ scope.names, y.2 ≠ .cell) (hkind : scope.kind = .function) (ha : scope.names.lookup a = some .local) (hb : scope.names.lookup b = some .local) (hab : ¬ a = b)
    (hLe : env.locals = L) (hy : env.kindOf y = some .local) (hp : (env.scope.kind == .class || (env.scope.kind == .module && env.locals != env.globals)) = false)
    (J0 : J 0 [] []) (turn : ∀ g, CTurn prog w A h₀ L m env elt scope cl { s₁ with heap := g } news ts.length (fun i m₂ => ∃ p, ts[i]? = some p ∧ m₂ a = some p.2.1 ∧ m₂ b = some p.2.2) J)
    (fin : ∀ g, CFinA h₀ L m { s₁ with heap := g } news ts.length J y Q) :
    CGoA prog w A E env elt iter (.Tuple [.Name a pa, .Name b pb] kk tp) scope cl pos y py Q (.ref ax) s₁ := by
  have hl : s₁.heap.IsList ax (ts.map fun p => Value.ref p.1).toArray := ⟨lo, (N _ hm).1, hc, c, hd⟩
  have hlt : ax < s₁.heap.objs.size := Heap.lt_size (N _ hm).1
  have htup : ∀ p ∈ ts, s₁.heap.IsTuple p.1 #[p.2.1, p.2.2] := fun p hp => by
    obtain ⟨o, hm', hc', k, hd'⟩ := hts p hp
    exact ⟨o, (N _ hm').1, hc', k, hd'⟩
  have htlt : ∀ p ∈ ts, p.1 < s₁.heap.objs.size := fun p hp => by
    obtain ⟨o, e, _⟩ := htup p hp
    exact Heap.lt_size e
  refine wpAny_pyIter_list hl ?_
  have up : ∀ b o, s₁.heap.get? b = some o → (s₁.heap.push { cls := .type "list_iterator", data := .fields #[.ref ax, .int 0 0] }).get? b = some o := fun b o e => Heap.get?_push_of_some _ e
  refine comp_block (csrc_pairs (ts := ts) hh (Nat.ne_of_lt hlt) (fun p hp => Nat.ne_of_lt (htlt p hp)) hkind ha hb hab) hsz hcell hkind ⟨⟨⟨_, Heap.get?_push_size _ rfl, rfl, rfl⟩, hl.push _⟩, fun p hp => (htup p hp).at fun o e => up _ _ e⟩ (fun b hb => ?_) (fun b hb => ?_) (F.keeps up) (N.grown up) (fun hL => ?_) (fun p hp hI => ?_) J0 (turn _)
    (fun D C h tk m' outs T F' N' o1 o2 o3 hn hC₀ _ hCL _ hCD offC hJ => post_ofA hLe hy hp (fin _) F' N' o1 o2 o3 hn hC₀ hCL hCD offC hJ)
  · show b < (s₁.heap.push _).objs.size
    rw [Heap.size_push]
    rcases List.mem_append.mp hb with hb | hb
    · rcases List.mem_cons.mp hb with rfl | hb
      · exact Nat.lt_succ_self _
      · rw [List.mem_singleton.mp hb]; exact Nat.lt_succ_of_lt hlt
    · obtain ⟨p, hp, rfl⟩ := List.mem_map.mp hb
      exact Nat.lt_succ_of_lt (htlt p hp)
  · rw [List.mem_singleton.mp hb]; exact next_is_new F
  · rcases List.mem_append.mp hL with hL | hL
    · rcases List.mem_cons.mp hL with e | hL
      · exact absurd F.ns.lt (e ▸ Nat.lt_irrefl _)
      · exact (N _ hm).2.1 (List.mem_singleton.mp hL).symm
    · obtain ⟨p, hp, e⟩ := List.mem_map.mp hL
      obtain ⟨o, hm', _⟩ := hts p hp
      exact (N _ hm').2.1 e
  · exact absurd (Heap.lt_size (N p hp).1) ((List.mem_singleton.mp hI) ▸ Nat.lt_irrefl _)
end
-- part G3
local macro_rules | `(tactic| k_mem) => `(tactic| assumption)
local macro_rules | `(tactic| walk_at "call ref") => `(tactic| ((fail_if_success k_extra "two"); (k_here; k_dflt (k_extra "u8"); (k_dflt k_extra "asm8"); walk_at "mine f1")))
local macro_rules | `(tactic| k_all) => `(tactic| walk_at "mine s8")
local macro_rules | `(tactic| walk_at "UnrEnd") => `(tactic| walk_at "mine s7")
local macro_rules | `(tactic| walk_at "mine enterC") => `(tactic| (k_extra "ec"; walk_at "mine f0"))
local macro_rules | `(tactic| k_mem) => `(tactic| (refine List.mem_cons_of_mem _ ?_; assumption))
local macro_rules | `(tactic| k_mem) => `(tactic| assumption)
local macro_rules | `(tactic| walk_at "mine s13") => `(tactic| first | assumption | exact off_of (by walk_at "mine lt") | exact off_of1 (by walk_at "mine lt"))
local macro_rules | `(tactic| k_all) => `(tactic| walk_at "mine s13")
local macro_rules | `(tactic| walk_at "call ref") => `(tactic| ((fail_if_success k_extra "two"); (k_here; k_dflt (k_extra "pv"); k_whole; intro r9 tl9 h9 tk9 F9 N9 hl9 ho9; (obtain ⟨e1, t9, e2⟩ := ho9); (subst e1); (subst e2); (simp only [List.nil_append] at N9); (clear hl9); (try k_sweep))))
local macro_rules | `(tactic| walk_at "mine steps") => `(tactic| (repeat' ((fail_if_success (with_reducible show wpAny _ _ (exec (Stmt.If (PySem.Expr.BoolOp _ _ _) _ _ _) _) _ _ _)); (fail_if_success (with_reducible show wpAny _ _ (exec (Stmt.For _ _ _ _ _) _) _ _ _)); (first | (k_unfold; (try dsimp only)) | (k_end; wrow_close) | walk1 | (dsimp only; walk1) | (leave1; try dsimp only)))))
local macro_rules | `(tactic| walk_at "mine s14") => `(tactic| k_dflt ((rename Fr _ _ _ _ => lF'); (rename News _ _ _ _ => lN'); first | (refine' unr_end lF' lN' ?R ⟨?m, ?_⟩; (case R => walk_at "mine rem"); (case m => k_mem)) | (refine' unr_end lF' lN' ?R ?_; (case R => walk_at "mine rem"))))
local macro_rules | `(tactic| walk_at "UnrEnd") => `(tactic| walk_at "mine s14")
local macro_rules | `(tactic| walk_at "call ref") => `(tactic| ((fail_if_success k_extra "two"); (k_here; k_dflt (k_extra "r4"); k_whole; intro D9 nw9 h9 tk9 F9 N9 hs9 o1 o2 o3 o4 r9; (try k_sweep))))
local macro_rules | `(tactic| walk_at "subscriptTail Subscript") => `(tactic| ((fail_if_success k_extra "two"); (k_here; k_dflt (refine kba_turn (value' := PySem.Expr.Name (PySem.Str.ofString "_") ⟨0, 0, 0, 0⟩) (fun _ => rfl) ?_))))
theorem one_ne : (1 : Rat) ≠ 0 := by decide
theorem solved_call (w : World) (news) {RL A0 A1 A2 c cA0 cA1 cA2 : Nat} {vs0 vs1 vs2 : List Value} {x0 x1 x2 y0 y1 y2 s t : Rat}
    (hmL : (RL, lst [.ref A0, .ref A1, .ref A2] c) ∈ news) (hA0 : (A0, lst vs0 cA0) ∈ news) (hA1 : (A1, lst vs1 cA1) ∈ news) (hA2 : (A2, lst vs2 cA2) ∈ news)
    (hc0 : Cells news vs0 [1, x0, x0 * x0, y0]) (hc1 : Cells news vs1 [1, x1, x1 * x1, y1]) (hc2 : Cells news vs2 [1, x2, x2 * x2, y2])
    (hb0 : BdAll 20 [1, x0, x0 * x0, y0]) (hb1 : BdAll 20 [1, x1, x1 * x1, y1]) (hb2 : BdAll 20 [1, x2, x2 * x2, y2])
    (h10 : x1 - x0 ≠ 0) (h3 : (x2 - x0) * (x2 - x1) ≠ 0) (hs : s = (y1 - y0) / (x1 - x0)) (ht : t = ((y2 - y0) - (x2 - x0) * s) / ((x2 - x0) * (x2 - x1))) :
    GCallOk w 66 [.ref RL] 12 news (SolRet [1, 0, 0, y0 - x0 * s + x0 * x1 * t] [0, 1, 0, s - (x1 + x0) * t] [0, 0, 1, t]) := by
  refine hc0.open4 fun Dp00 up00 wp00 cp00 Dp01 up01 wp01 cp01 Dp02 up02 wp02 cp02 Dp03 up03 wp03 cp03 hmp00 hmp01 hmp02 hmp03 e4 => ?_
  subst e4
  have bbp00 := hb0.four.1
  have bbp01 := hb0.four.2.1
  have bbp02 := hb0.four.2.2.1
  have bbp03 := hb0.four.2.2.2
  have hpn0 := num_ne one_ne
  unfold GCallOk
  k_fill
  intro p loose mean mg mb dp un gd cn cs a ccd cl outer A₀ base h₀ L m hpA gsA drA tkA osA Q E B F X N T hkf hd hu hret
  refine wpAny_call ?_
  k_with "ec" => refine' code_defC ?k1 ?k2 ?k3 ?k4 ?k5 ?kA ?kF ?kK ?k6 ?k7 ?k8 ?k9 ?kB ?kD ?_ ?c2 ?c3 ?c4; (case kA => exact rfl); (case kF => exact rfl); (case kK => first | exact rfl | assumption); (case k1 => k_asm); (case k2 => k_asm); (case k3 => k_asm); (case k4 => k_asm); (case k5 => k_asm); (case k6 => k_is); (case k7 => k_is); (case k8 => ktr_room); (case k9 => exact BindsTo.of_eq rfl); (case kB => exact rfl); (case kD => decide +kernel); (case c2 => exact rfl); (case c3 => exact rfl); (case c4 => exact rfl)
  k_dflt walk_at "mine enterC"
  refine gen_tk fun tk0 => ?_
  rename Fr _ _ _ _ => kF0
  refine fr_open1 (Str.ofString "rows") kF0 (by with_unfolding_all rfl) fun mb kF1 => ?_
  clear kF0
  refine wpN ?_
  k_with_none
  k_with "u8" => first | (refine' times_use ?m1 ?m2 ?p1 ?p2 ?n1 ?n2 ?k1 ?k2 ?k3 ?k4 ?k5 ?kK ?kd ?ku ?_) | (refine' less_use ?m1 ?m2 ?p1 ?p2 ?n1 ?n2 ?k1 ?k2 ?k3 ?k4 ?k5 ?kK ?kd ?ku ?_) | (refine' slope_use ?m1 ?m2 ?p1 ?p2 ?n1 ?n2 ?x1 ?x2 ?n3 ?k1 ?k2 ?k3 ?k4 ?k5 ?kK ?kd ?ku ?_) | (refine' fracq_use ?z ?x1 ?x2 ?n1 ?k1 ?k2 ?k3 ?k4 ?k5 ?kK ?kd ?ku ?_) | (refine' plus_use ?m1 ?m2 ?p1 ?p2 ?n1 ?n2 ?k1 ?k2 ?k3 ?k4 ?k5 ?kK ?kd ?ku ?_) | (refine' by_use ?m1 ?m2 ?p1 ?p2 ?n1 ?n2 ?z ?k1 ?k2 ?k3 ?k4 ?k5 ?kK ?kd ?ku ?_)
  k_with "asm8" => ((case k4 => k_asm); (try (case m1 => k_mem)); (try (case m2 => k_mem)); (try (case p1 => walk_at "mine pr")); (try (case p2 => walk_at "mine pr")); (try (case x1 => first | assumption | (exact Ne.symm (by assumption)))); (try (case x2 => assumption)); (try (case n1 => first | decide | omega)); (try (case n2 => first | decide | omega)); (try (case n3 => first | decide | omega)); (case k1 => k_asm); (case k2 => k_asm); (case k3 => k_asm); (case k5 => k_asm); (case kK => first | exact rfl | assumption); (case kd => ktr_room); (case ku => ktr_units))
  k_with "pv" => first | ((refine' use (pivot0_call _ _ ?m1 ?m2 ?m3 ?ha) ?k1 ?k2 ?k3 ?k4 ?k5 ?kK ?kd ?ku ?_); k_extra "pvt") | ((refine' use (pivot1_call _ _ ?m1 ?m2 ?m3 ?ha) ?k1 ?k2 ?k3 ?k4 ?k5 ?kK ?kd ?ku ?_); k_extra "pvt") | ((refine' use (pivot2_call _ _ ?m1 ?m2 ?m3 ?ha) ?k1 ?k2 ?k3 ?k4 ?k5 ?kK ?kd ?ku ?_); k_extra "pvt")
  k_with "pvt" => ((case k4 => k_asm); (case m1 => k_mem); (case m2 => k_mem); (case m3 => k_mem); (case ha => assumption); (case k1 => k_asm); (case k2 => k_asm); (case k3 => k_asm); (case k5 => k_asm); (case kK => first | exact rfl | assumption); (case kd => ktr_room); (case ku => ktr_units))
  k_with "r4" => (refine' row_use4 (cleared_call _ _ ?m1 ?m2 ?hf ?hvs ?hus ?bf ?bq ?br ?len ?sz ?n1 ?n2) ?k1 ?k2 ?k3 ?k4 ?k5 ?kK ?kd ?ku rfl ?o1 ?o2 ?o3 ?o4 ?_); (case k4 => k_asm); (case m1 => k_mem); (case m2 => k_mem); (case hf => exact Cell.of (by k_mem)); (case hvs => exact Cells.mono (by assumption) (by walk_at "mine sub")); (case hus => exact Cells.mono (by assumption) (by walk_at "mine sub")); (case bf => assumption); (case bq => assumption); (case br => assumption); (case len => rfl); (case sz => exact Nat.le_of_ble_eq_true rfl); (case n1 => omega); (case n2 => omega); (case o1 => first | assumption | exact off_of (by walk_at "mine lt")); (case o2 => first | assumption | exact off_of (by walk_at "mine lt")); (case o3 => first | assumption | exact off_of (by walk_at "mine lt")); (case o4 => first | assumption | exact off_of (by walk_at "mine lt")); (case k1 => k_asm); (case k2 => k_asm); (case k3 => k_asm); (case k5 => k_asm); (case kK => first | exact rfl | assumption); (case kd => ktr_room); (case ku => ktr_units)
  walk_at "mine steps"
  try (refine wpN ?_; k_fold)
  walk1
  walk_at "mine steps"
  rename_i I l1 t' h3' tk4 F1 N1 h91 tk91 t9 h2 tk2 h1 oC dC D9 u9 v9 c9 h9 tk9 hl9 hb9 h' F' lN'
  refine ex1 (pickA lN' (by walk_at "mine lt") (by walk_at "mine lt") (by walk_at "mine lt") (by refine ⟨?_, ?_, ?_, ?_⟩; k_ne; k_ne; k_ne; first | exact off_of (by walk_at "mine lt") | exact off_of1 (by walk_at "mine lt")) (by refine ⟨?_, ?_, ?_, ?_⟩; k_ne; k_ne; k_ne; first | exact off_of (by walk_at "mine lt") | exact off_of1 (by walk_at "mine lt")) (by refine ⟨?_, ?_, ?_, ?_⟩; k_ne; k_ne; k_ne; first | exact off_of (by walk_at "mine lt") | exact off_of1 (by walk_at "mine lt"))) fun nwa0 q9 => ?_
  have lNa0 := q9.1
  have Ga0 := q9.2.1
  have hD0 := q9.2.2.1
  have oI0 := q9.2.2.2.1
  have oR0 := q9.2.2.2.2.1
  have oC0 := q9.2.2.2.2.2
  clear q9
  clear lN'
  have bT0 := hb9
  have mm1_0 := Ga0.1 _ hA0
  have cc1_0 := hc0.mono Ga0.1
  have mm1_1 := Ga0.1 _ hA1
  have cc1_1 := hc1.mono Ga0.1
  have mm1_2 := Ga0.1 _ hA2
  have cc1_2 := hc2.mono Ga0.1
  have xx2 := Ga0.1 _ hmp00
  have GA3 := Ga0
  k_dflt (refine' go_list (J := fun i outs T => Cells T outs (([1, x0, x0 * x0, y0].map (fun q => q / (1 : Rat))).take i)) (vs := [.ref Dp00, .ref Dp01, .ref Dp02, .ref Dp03]) ?hh F' lNa0 ?m1 ?c1 ?d1 ?sz ?hcell ?hkind ?hx ?J0 ?turn ?fin)
  case m1 => exact List.mem_append_right _ mm1_0
  case hh => rfl
  case c1 => rfl
  case d1 => rfl
  case sz => exact Nat.le_of_ble_eq_true rfl
  case hcell => decide
  case hkind => rfl
  case hx => rfl
  case J0 => exact Cells.nil
  case turn =>
    intro g i outs T C oCC m₂ N₁ h₁ tk₁ E' hi hC hB F₁ N₁' hT hJ
    obtain ⟨x, hx, mx⟩ := hB
    refine cc1_0.at_open hx fun q Dx ux vx cx hq hmx e9 => ?_
    subst e9
    have bq := hb0 _ _ hq
    have up : ∀ p ∈ nwa0, p ∈ N₁ := fun p hp => hT p (List.mem_append_right _ (List.mem_append_right _ hp))
    have hcell := hT _ (List.mem_append_right _ (List.mem_append_left _ (List.mem_cons_of_mem _ (List.mem_cons_of_mem _ (List.mem_cons_self ..)))))
    have kmx := up _ hmx
    have kmp := up _ xx2
    k_with "ne" => exact one_ne
    k_steps
    rename Fr _ _ _ _ => kF
    rename News _ _ _ _ => kN
    refine ⟨_, _, [_], rfl, kF, kN, order1 (by walk_at "mine lt"), Cells.snoc (hJ.mono fun p hp => List.mem_append_right _ hp) ?_ (Cell.of (List.mem_cons_self ..))⟩
    rw [List.getElem?_map, hq]; rfl
  case fin =>
    intro g1 DR0 hh1 tk1 T outs0 F₁ N₁ o1 o2 o3 hJ
    refine regroup_open N₁ o2 o3 fun nwb0 lN3 Gb hoff3 hRm0 hsT => ?_
    have pI0 := hoff3 _ (List.mem_cons_self ..) oI0
    have pR0 := hoff3 _ (List.mem_cons_of_mem _ (List.mem_cons_self ..)) oR0
    have pC0 := hoff3 _ (List.mem_cons_of_mem _ (List.mem_cons_of_mem _ (List.mem_cons_self ..))) oC0
    have hJ2 : Cells T outs0 ([1, x0, x0 * x0, y0].map (fun q => q / (1 : Rat))) := hJ
    have hbP0 := BdAll.over hb0 one_ne bbp00
    rw [e_p0] at hJ2 hbP0
    have hRc0 := hJ2.mono hsT
    have mm4_1 := Gb.1 _ mm1_1
    have cc4_1 := cc1_1.mono Gb.1
    have mm4_2 := Gb.1 _ mm1_2
    have cc4_2 := cc1_2.mono Gb.1
    have xx5 := Gb.1 _ hD0
    have GA6 := GA3.trans Gb
    clear N₁ o1 o2 o3 hoff3 hsT hJ hJ2 oI0 oR0 oC0
    simp only [List.cons_append, List.nil_append] at lN3
    walk_at "mine steps"
    try (refine wpN ?_; k_fold)
    walk1
    walk_at "mine steps"
    walk1
    walk_at "mine steps"
    rename Fr _ _ _ _ => jF
    rename News _ _ _ _ => jN
    refine' join_if [1, x0, x0 * x0, y0] [0, x1 - x0, x1 * x1 - x0 * x0, y1 - y0] [1, x2, x2 * x2, y2] jF jN ?walk ?cont
    case walk =>
      refine cc4_1.open4 fun Do010 uo010 wo010 co010 Do011 uo011 wo011 co011 Do012 uo012 wo012 co012 Do013 uo013 wo013 co013 hmo010 hmo011 hmo012 hmo013 e4 => ?_
      subst e4
      have bbo010 := hb1.four.1
      have bbo011 := hb1.four.2.1
      have bbo012 := hb1.four.2.2.1
      have bbo013 := hb1.four.2.2.2
      k_steps
      · rename Fr _ _ _ _ => kF
        rename News _ _ _ _ => kN
        rename Grow _ _ => kG
        rename Row _ _ _ => kR
        refine ⟨rfl, _, _, _, _, _, _, _, rfl, kF, kN, kG, ⟨by assumption, by assumption, by assumption, by assumption⟩, ⟨DR0, _, _, rfl, kG.1 _ hRm0, hRc0.mono kG.1⟩, ?_, ⟨A2, _, _, rfl, kG.1 _ mm4_2, cc4_2.mono kG.1⟩⟩
        rw [← e_01]; exact kR
    case cont =>
      intro h01 tk01 nw01 X010 X011 X012 k010 k011 k012 w010 w011 w012 c01 jF01 jN01 G01 oJ01 oI01 oR01 oC01 a010 a011 a012 b010 b011 b012
      have hbN01 := BdAll.less hb1 hbP0 (f := 1) (hb1 0 _ rfl)
      rw [e_01] at hbN01
      have xt01 := G01.1 _ xx5
      have GA7 := GA6.trans G01
      walk_at "mine steps"
      rename Fr _ _ _ _ => jF
      rename News _ _ _ _ => jN
      refine' join_if [1, x0, x0 * x0, y0] [0, x1 - x0, x1 * x1 - x0 * x0, y1 - y0] [0, x2 - x0, x2 * x2 - x0 * x0, y2 - y0] jF jN ?walk ?cont
      case walk =>
        refine b012.open4 fun Do020 uo020 wo020 co020 Do021 uo021 wo021 co021 Do022 uo022 wo022 co022 Do023 uo023 wo023 co023 hmo020 hmo021 hmo022 hmo023 e4 => ?_
        subst e4
        have bbo020 := hb2.four.1
        have bbo021 := hb2.four.2.1
        have bbo022 := hb2.four.2.2.1
        have bbo023 := hb2.four.2.2.2
        k_steps
        · rename Fr _ _ _ _ => kF
          rename News _ _ _ _ => kN
          rename Grow _ _ => kG
          rename Row _ _ _ => kR
          refine ⟨rfl, _, _, _, _, _, _, _, rfl, kF, kN, kG, ⟨by assumption, by assumption, by assumption, by assumption⟩, ⟨X010, _, _, rfl, kG.1 _ a010, b010.mono kG.1⟩, ⟨X011, _, _, rfl, kG.1 _ a011, b011.mono kG.1⟩, ?_⟩
          rw [← e_01]; exact kR
      case cont =>
        intro h02 tk02 nw02 X020 X021 X022 k020 k021 k022 w020 w021 w022 c02 jF02 jN02 G02 oJ02 oI02 oR02 oC02 a020 a021 a022 b020 b021 b022
        have hbN02 := BdAll.less hb2 hbP0 (f := 1) (hb2 0 _ rfl)
        rw [e_01] at hbN02
        have xt02 := G02.1 _ xt01
        have GA8 := GA7.trans G02
        have hbE00 : BdAll 81 [1, x0, x0 * x0, y0] := hbP0.mono (by decide)
        have hbE01 : BdAll 81 [0, x1 - x0, x1 * x1 - x0 * x0, y1 - y0] := hbN01.mono (by decide)
        have hbE02 : BdAll 81 [0, x2 - x0, x2 * x2 - x0 * x0, y2 - y0] := hbN02.mono (by decide)
        refine b021.open4 fun Dp10 up10 wp10 cp10 Dp11 up11 wp11 cp11 Dp12 up12 wp12 cp12 Dp13 up13 wp13 cp13 hmp10 hmp11 hmp12 hmp13 e4 => ?_
        subst e4
        have bbp10 := hbE01.four.1
        have bbp11 := hbE01.four.2.1
        have bbp12 := hbE01.four.2.2.1
        have bbp13 := hbE01.four.2.2.2
        have hpn1 := num_ne h10
        walk_at "mine steps"
        rename_i oC dC D9 u9 v9 c9 h9 tk9 hl9 hb9 h' F' lN'
        refine ex1 (pickB lN' (by walk_at "mine lt") (by refine ⟨?_, ?_⟩; k_ne; first | assumption | exact off_of (by walk_at "mine lt")) (by refine ⟨?_, ?_⟩; k_ne; first | assumption | exact off_of (by walk_at "mine lt")) (by refine ⟨?_, ?_⟩; k_ne; first | assumption | exact off_of (by walk_at "mine lt"))) fun nwa1 q9 => ?_
        have lNa1 := q9.1
        have Ga1 := q9.2.1
        have hD1 := q9.2.2.1
        have oI1 := q9.2.2.2.1
        have oR1 := q9.2.2.2.2.1
        have oC1 := q9.2.2.2.2.2
        clear q9
        clear lN'
        have bT1 := hb9
        have mm9_0 := Ga1.1 _ a020
        have cc9_0 := b020.mono Ga1.1
        have mm9_1 := Ga1.1 _ a021
        have cc9_1 := b021.mono Ga1.1
        have mm9_2 := Ga1.1 _ a022
        have cc9_2 := b022.mono Ga1.1
        have xx10 := Ga1.1 _ hmp11
        have GA11 := GA8.trans Ga1
        k_dflt (refine' go_list (J := fun i outs T => Cells T outs (([0, x1 - x0, x1 * x1 - x0 * x0, y1 - y0].map (fun q => q / (x1 - x0))).take i)) (vs := [.ref Dp10, .ref Dp11, .ref Dp12, .ref Dp13]) ?hh F' lNa1 ?m1 ?c1 ?d1 ?sz ?hcell ?hkind ?hx ?J0 ?turn ?fin)
        case m1 => exact List.mem_append_right _ mm9_1
        case hh => rfl
        case c1 => rfl
        case d1 => rfl
        case sz => exact Nat.le_of_ble_eq_true rfl
        case hcell => decide
        case hkind => rfl
        case hx => rfl
        case J0 => exact Cells.nil
        case turn =>
          intro g i outs T C oCC m₂ N₁ h₁ tk₁ E' hi hC hB F₁ N₁' hT hJ
          obtain ⟨x, hx, mx⟩ := hB
          refine cc9_1.at_open hx fun q Dx ux vx cx hq hmx e9 => ?_
          subst e9
          have bq := hbE01 _ _ hq
          have up : ∀ p ∈ nwa1, p ∈ N₁ := fun p hp => hT p (List.mem_append_right _ (List.mem_append_right _ hp))
          have hcell := hT _ (List.mem_append_right _ (List.mem_append_left _ (List.mem_cons_of_mem _ (List.mem_cons_of_mem _ (List.mem_cons_self ..)))))
          have kmx := up _ hmx
          have kmp := up _ xx10
          k_with "ne" => exact h10
          k_steps
          rename Fr _ _ _ _ => kF
          rename News _ _ _ _ => kN
          refine ⟨_, _, [_], rfl, kF, kN, order1 (by walk_at "mine lt"), Cells.snoc (hJ.mono fun p hp => List.mem_append_right _ hp) ?_ (Cell.of (List.mem_cons_self ..))⟩
          rw [List.getElem?_map, hq]; rfl
        case fin =>
          intro g1 DR1 hh1 tk1 T outs1 F₁ N₁ o1 o2 o3 hJ
          refine regroup_open N₁ o2 o3 fun nwb1 lN3 Gb hoff3 hRm1 hsT => ?_
          have pI1 := hoff3 _ (List.mem_cons_self ..) oI1
          have pR1 := hoff3 _ (List.mem_cons_of_mem _ (List.mem_cons_self ..)) oR1
          have pC1 := hoff3 _ (List.mem_cons_of_mem _ (List.mem_cons_of_mem _ (List.mem_cons_self ..))) oC1
          have hJ2 : Cells T outs1 ([0, x1 - x0, x1 * x1 - x0 * x0, y1 - y0].map (fun q => q / (x1 - x0))) := hJ
          have hbP1 := BdAll.over hbE01 h10 bbp11
          rw [(e_p1 h10 hs)] at hJ2 hbP1
          have hRc1 := hJ2.mono hsT
          have mm12_0 := Gb.1 _ mm9_0
          have cc12_0 := cc9_0.mono Gb.1
          have mm12_2 := Gb.1 _ mm9_2
          have cc12_2 := cc9_2.mono Gb.1
          have xx13 := Gb.1 _ hD1
          have GA14 := GA11.trans Gb
          clear N₁ o1 o2 o3 hoff3 hsT hJ hJ2 oI1 oR1 oC1
          simp only [List.cons_append, List.nil_append] at lN3
          walk_at "mine steps"
          try (refine wpN ?_; k_fold)
          walk1
          walk_at "mine steps"
          rename Fr _ _ _ _ => jF
          rename News _ _ _ _ => jN
          refine' join_if [1, 0, -(x0 * x1), y0 - x0 * s] [0, 1, x1 + x0, s] [0, x2 - x0, x2 * x2 - x0 * x0, y2 - y0] jF jN ?walk ?cont
          case walk =>
            refine cc12_0.open4 fun Do100 uo100 wo100 co100 Do101 uo101 wo101 co101 Do102 uo102 wo102 co102 Do103 uo103 wo103 co103 hmo100 hmo101 hmo102 hmo103 e4 => ?_
            subst e4
            have bbo100 := hbE00.four.1
            have bbo101 := hbE00.four.2.1
            have bbo102 := hbE00.four.2.2.1
            have bbo103 := hbE00.four.2.2.2
            k_steps
            · rename Fr _ _ _ _ => kF
              rename News _ _ _ _ => kN
              rename Grow _ _ => kG
              rename Row _ _ _ => kR
              refine ⟨rfl, _, _, _, _, _, _, _, rfl, kF, kN, kG, ⟨by assumption, by assumption, by assumption, by assumption⟩, ?_, ⟨DR1, _, _, rfl, kG.1 _ hRm1, hRc1.mono kG.1⟩, ⟨X022, _, _, rfl, kG.1 _ mm12_2, cc12_2.mono kG.1⟩⟩
              rw [← e_10]; exact kR
            · rename Fr _ _ _ _ => kF
              rename News _ _ _ _ => kN
              refine ⟨rfl, _, _, nwb1, _, _, _, _, rfl, kF, kN, Grow.refl, ⟨(by first | assumption | exact off_of (by walk_at "mine lt")), (by first | assumption | exact off_of (by walk_at "mine lt")), (by first | assumption | exact off_of (by walk_at "mine lt")), (by first | assumption | exact off_of (by walk_at "mine lt"))⟩, ⟨X020, _, _, rfl, mm12_0, ?_⟩, ⟨DR1, _, _, rfl, hRm1, hRc1⟩, ⟨X022, _, _, rfl, mm12_2, cc12_2⟩⟩
              rw [← e_10, ← zip0 (by assumption)]; exact cc12_0
          case cont =>
            intro h10 tk10 nw10 X100 X101 X102 k100 k101 k102 w100 w101 w102 c10 jF10 jN10 G10 oJ10 oI10 oR10 oC10 a100 a101 a102 b100 b101 b102
            have hbN10 := BdAll.less hbE00 hbP1 (f := x0) (hbE00 1 _ rfl)
            rw [e_10] at hbN10
            have xt10 := G10.1 _ xx13
            have GA15 := GA14.trans G10
            walk_at "mine steps"
            walk1
            walk_at "mine steps"
            rename Fr _ _ _ _ => jF
            rename News _ _ _ _ => jN
            refine' join_if [1, 0, -(x0 * x1), y0 - x0 * s] [0, 1, x1 + x0, s] [0, 0, (x2 - x0) * (x2 - x1), (y2 - y0) - (x2 - x0) * s] jF jN ?walk ?cont
            case walk =>
              refine b102.open4 fun Do120 uo120 wo120 co120 Do121 uo121 wo121 co121 Do122 uo122 wo122 co122 Do123 uo123 wo123 co123 hmo120 hmo121 hmo122 hmo123 e4 => ?_
              subst e4
              have bbo120 := hbE02.four.1
              have bbo121 := hbE02.four.2.1
              have bbo122 := hbE02.four.2.2.1
              have bbo123 := hbE02.four.2.2.2
              k_steps
              · rename Fr _ _ _ _ => kF
                rename News _ _ _ _ => kN
                rename Grow _ _ => kG
                rename Row _ _ _ => kR
                refine ⟨rfl, _, _, _, _, _, _, _, rfl, kF, kN, kG, ⟨by assumption, by assumption, by assumption, by assumption⟩, ⟨X100, _, _, rfl, kG.1 _ a100, b100.mono kG.1⟩, ⟨X101, _, _, rfl, kG.1 _ a101, b101.mono kG.1⟩, ?_⟩
                rw [← e_12]; exact kR
              · rename Fr _ _ _ _ => kF
                rename News _ _ _ _ => kN
                refine ⟨rfl, _, _, nw10, _, _, _, _, rfl, kF, kN, Grow.refl, ⟨(by first | assumption | exact off_of (by walk_at "mine lt")), (by first | assumption | exact off_of (by walk_at "mine lt")), (by first | assumption | exact off_of (by walk_at "mine lt")), (by first | assumption | exact off_of (by walk_at "mine lt"))⟩, ⟨X100, _, _, rfl, a100, b100⟩, ⟨X101, _, _, rfl, a101, b101⟩, ⟨X102, _, _, rfl, a102, ?_⟩⟩
                rw [← e_12, ← zip0 (by assumption)]; exact b102
            case cont =>
              intro h12 tk12 nw12 X120 X121 X122 k120 k121 k122 w120 w121 w122 c12 jF12 jN12 G12 oJ12 oI12 oR12 oC12 a120 a121 a122 b120 b121 b122
              have hbN12 := BdAll.less hbE02 hbP1 (f := x2 - x0) (hbE02 1 _ rfl)
              rw [e_12] at hbN12
              have xt12 := G12.1 _ xt10
              have GA16 := GA15.trans G12
              have hbE10 : BdAll 325 [1, 0, -(x0 * x1), y0 - x0 * s] := hbN10.mono (by decide)
              have hbE11 : BdAll 325 [0, 1, x1 + x0, s] := hbP1.mono (by decide)
              have hbE12 : BdAll 325 [0, 0, (x2 - x0) * (x2 - x1), (y2 - y0) - (x2 - x0) * s] := hbN12.mono (by decide)
              refine b122.open4 fun Dp20 up20 wp20 cp20 Dp21 up21 wp21 cp21 Dp22 up22 wp22 cp22 Dp23 up23 wp23 cp23 hmp20 hmp21 hmp22 hmp23 e4 => ?_
              subst e4
              have bbp20 := hbE12.four.1
              have bbp21 := hbE12.four.2.1
              have bbp22 := hbE12.four.2.2.1
              have bbp23 := hbE12.four.2.2.2
              have hpn2 := num_ne h3
              walk_at "mine steps"
              rename_i oC dC D9 u9 v9 c9 h9 tk9 hl9 hb9 h' F' lN'
              refine ex1 (pickB lN' (by walk_at "mine lt") (by refine ⟨?_, ?_⟩; k_ne; first | assumption | exact off_of (by walk_at "mine lt")) (by refine ⟨?_, ?_⟩; k_ne; first | assumption | exact off_of (by walk_at "mine lt")) (by refine ⟨?_, ?_⟩; k_ne; first | assumption | exact off_of (by walk_at "mine lt"))) fun nwa2 q9 => ?_
              have lNa2 := q9.1
              have Ga2 := q9.2.1
              have hD2 := q9.2.2.1
              have oI2 := q9.2.2.2.1
              have oR2 := q9.2.2.2.2.1
              have oC2 := q9.2.2.2.2.2
              clear q9
              clear lN'
              have bT2 := hb9
              have mm17_0 := Ga2.1 _ a120
              have cc17_0 := b120.mono Ga2.1
              have mm17_1 := Ga2.1 _ a121
              have cc17_1 := b121.mono Ga2.1
              have mm17_2 := Ga2.1 _ a122
              have cc17_2 := b122.mono Ga2.1
              have xx18 := Ga2.1 _ hmp22
              have GA19 := GA16.trans Ga2
              k_dflt (refine' go_list (J := fun i outs T => Cells T outs (([0, 0, (x2 - x0) * (x2 - x1), (y2 - y0) - (x2 - x0) * s].map (fun q => q / ((x2 - x0) * (x2 - x1)))).take i)) (vs := [.ref Dp20, .ref Dp21, .ref Dp22, .ref Dp23]) ?hh F' lNa2 ?m1 ?c1 ?d1 ?sz ?hcell ?hkind ?hx ?J0 ?turn ?fin)
              case m1 => exact List.mem_append_right _ mm17_2
              case hh => rfl
              case c1 => rfl
              case d1 => rfl
              case sz => exact Nat.le_of_ble_eq_true rfl
              case hcell => decide
              case hkind => rfl
              case hx => rfl
              case J0 => exact Cells.nil
              case turn =>
                intro g i outs T C oCC m₂ N₁ h₁ tk₁ E' hi hC hB F₁ N₁' hT hJ
                obtain ⟨x, hx, mx⟩ := hB
                refine cc17_2.at_open hx fun q Dx ux vx cx hq hmx e9 => ?_
                subst e9
                have bq := hbE12 _ _ hq
                have up : ∀ p ∈ nwa2, p ∈ N₁ := fun p hp => hT p (List.mem_append_right _ (List.mem_append_right _ hp))
                have hcell := hT _ (List.mem_append_right _ (List.mem_append_left _ (List.mem_cons_of_mem _ (List.mem_cons_of_mem _ (List.mem_cons_self ..)))))
                have kmx := up _ hmx
                have kmp := up _ xx18
                k_with "ne" => exact h3
                k_steps
                rename Fr _ _ _ _ => kF
                rename News _ _ _ _ => kN
                refine ⟨_, _, [_], rfl, kF, kN, order1 (by walk_at "mine lt"), Cells.snoc (hJ.mono fun p hp => List.mem_append_right _ hp) ?_ (Cell.of (List.mem_cons_self ..))⟩
                rw [List.getElem?_map, hq]; rfl
              case fin =>
                intro g1 DR2 hh1 tk1 T outs2 F₁ N₁ o1 o2 o3 hJ
                refine regroup_open N₁ o2 o3 fun nwb2 lN3 Gb hoff3 hRm2 hsT => ?_
                have pI2 := hoff3 _ (List.mem_cons_self ..) oI2
                have pR2 := hoff3 _ (List.mem_cons_of_mem _ (List.mem_cons_self ..)) oR2
                have pC2 := hoff3 _ (List.mem_cons_of_mem _ (List.mem_cons_of_mem _ (List.mem_cons_self ..))) oC2
                have hJ2 : Cells T outs2 ([0, 0, (x2 - x0) * (x2 - x1), (y2 - y0) - (x2 - x0) * s].map (fun q => q / ((x2 - x0) * (x2 - x1)))) := hJ
                have hbP2 := BdAll.over hbE12 h3 bbp22
                rw [(e_p2 h3 ht)] at hJ2 hbP2
                have hRc2 := hJ2.mono hsT
                have mm20_0 := Gb.1 _ mm17_0
                have cc20_0 := cc17_0.mono Gb.1
                have mm20_1 := Gb.1 _ mm17_1
                have cc20_1 := cc17_1.mono Gb.1
                have xx21 := Gb.1 _ hD2
                have GA22 := GA19.trans Gb
                clear N₁ o1 o2 o3 hoff3 hsT hJ hJ2 oI2 oR2 oC2
                simp only [List.cons_append, List.nil_append] at lN3
                walk_at "mine steps"
                try (refine wpN ?_; k_fold)
                walk1
                walk_at "mine steps"
                rename Fr _ _ _ _ => jF
                rename News _ _ _ _ => jN
                refine' join_if [1, 0, 0, y0 - x0 * s + x0 * x1 * t] [0, 1, x1 + x0, s] [0, 0, 1, t] jF jN ?walk ?cont
                case walk =>
                  refine cc20_0.open4 fun Do200 uo200 wo200 co200 Do201 uo201 wo201 co201 Do202 uo202 wo202 co202 Do203 uo203 wo203 co203 hmo200 hmo201 hmo202 hmo203 e4 => ?_
                  subst e4
                  have bbo200 := hbE10.four.1
                  have bbo201 := hbE10.four.2.1
                  have bbo202 := hbE10.four.2.2.1
                  have bbo203 := hbE10.four.2.2.2
                  k_steps
                  · rename Fr _ _ _ _ => kF
                    rename News _ _ _ _ => kN
                    rename Grow _ _ => kG
                    rename Row _ _ _ => kR
                    refine ⟨rfl, _, _, _, _, _, _, _, rfl, kF, kN, kG, ⟨by assumption, by assumption, by assumption, by assumption⟩, ?_, ⟨X121, _, _, rfl, kG.1 _ mm20_1, cc20_1.mono kG.1⟩, ⟨DR2, _, _, rfl, kG.1 _ hRm2, hRc2.mono kG.1⟩⟩
                    rw [← e_20]; exact kR
                  · rename Fr _ _ _ _ => kF
                    rename News _ _ _ _ => kN
                    refine ⟨rfl, _, _, nwb2, _, _, _, _, rfl, kF, kN, Grow.refl, ⟨(by first | assumption | exact off_of (by walk_at "mine lt")), (by first | assumption | exact off_of (by walk_at "mine lt")), (by first | assumption | exact off_of (by walk_at "mine lt")), (by first | assumption | exact off_of (by walk_at "mine lt"))⟩, ⟨X120, _, _, rfl, mm20_0, ?_⟩, ⟨X121, _, _, rfl, mm20_1, cc20_1⟩, ⟨DR2, _, _, rfl, hRm2, hRc2⟩⟩
                    rw [← e_20, ← zip0 (by assumption)]; exact cc20_0
                case cont =>
                  intro h20 tk20 nw20 X200 X201 X202 k200 k201 k202 w200 w201 w202 c20 jF20 jN20 G20 oJ20 oI20 oR20 oC20 a200 a201 a202 b200 b201 b202
                  have hbN20 := BdAll.less hbE10 hbP2 (f := -(x0 * x1)) (hbE10 2 _ rfl)
                  rw [e_20] at hbN20
                  have xt20 := G20.1 _ xx21
                  have GA23 := GA22.trans G20
                  walk_at "mine steps"
                  rename Fr _ _ _ _ => jF
                  rename News _ _ _ _ => jN
                  refine' join_if [1, 0, 0, y0 - x0 * s + x0 * x1 * t] [0, 1, 0, s - (x1 + x0) * t] [0, 0, 1, t] jF jN ?walk ?cont
                  case walk =>
                    refine b201.open4 fun Do210 uo210 wo210 co210 Do211 uo211 wo211 co211 Do212 uo212 wo212 co212 Do213 uo213 wo213 co213 hmo210 hmo211 hmo212 hmo213 e4 => ?_
                    subst e4
                    have bbo210 := hbE11.four.1
                    have bbo211 := hbE11.four.2.1
                    have bbo212 := hbE11.four.2.2.1
                    have bbo213 := hbE11.four.2.2.2
                    k_steps
                    · rename Fr _ _ _ _ => kF
                      rename News _ _ _ _ => kN
                      rename Grow _ _ => kG
                      rename Row _ _ _ => kR
                      refine ⟨rfl, _, _, _, _, _, _, _, rfl, kF, kN, kG, ⟨by assumption, by assumption, by assumption, by assumption⟩, ⟨X200, _, _, rfl, kG.1 _ a200, b200.mono kG.1⟩, ?_, ⟨X202, _, _, rfl, kG.1 _ a202, b202.mono kG.1⟩⟩
                      rw [← e_21]; exact kR
                    · rename Fr _ _ _ _ => kF
                      rename News _ _ _ _ => kN
                      refine ⟨rfl, _, _, nw20, _, _, _, _, rfl, kF, kN, Grow.refl, ⟨(by first | assumption | exact off_of (by walk_at "mine lt")), (by first | assumption | exact off_of (by walk_at "mine lt")), (by first | assumption | exact off_of (by walk_at "mine lt")), (by first | assumption | exact off_of (by walk_at "mine lt"))⟩, ⟨X200, _, _, rfl, a200, b200⟩, ⟨X201, _, _, rfl, a201, ?_⟩, ⟨X202, _, _, rfl, a202, b202⟩⟩
                      rw [← e_21, ← zip0 (by assumption)]; exact b201
                  case cont =>
                    intro h21 tk21 nw21 X210 X211 X212 k210 k211 k212 w210 w211 w212 c21 jF21 jN21 G21 oJ21 oI21 oR21 oC21 a210 a211 a212 b210 b211 b212
                    have hbN21 := BdAll.less hbE11 hbP2 (f := x1 + x0) (hbE11 2 _ rfl)
                    rw [e_21] at hbN21
                    have xt21 := G21.1 _ xt20
                    have GA24 := GA23.trans G21
                    walk_at "mine steps"
                    walk1
                    have hbE20 : BdAll 1301 [1, 0, 0, y0 - x0 * s + x0 * x1 * t] := hbN20.mono (by decide)
                    have hbE21 : BdAll 1301 [0, 1, 0, s - (x1 + x0) * t] := hbN21.mono (by decide)
                    have hbE22 : BdAll 1301 [0, 0, 1, t] := hbP2.mono (by decide)
                    walk_at "mine steps"
                    rename Fr h₀ L _ m => kF
                    rename News h₀ L _ _ => kN
                    have gT := GA24
                    refine hret _ _ _ _ kF (drop3 kN) (Grow.cons (Grow.cons gT (by walk_at "mine lt")) (allLt_sub (l := nw21) (by walk_at "mine lt") gT.1)) ?_
                    have lift : ∀ {p q : Addr × Obj}, Sub nw21 (p :: q :: nw21) := fun _ h => List.mem_cons_of_mem _ (List.mem_cons_of_mem _ h)
                    exact ⟨_, _, _, _, _, _, _, _, _, _, _, _, _, _, rfl, List.mem_cons_self .., List.mem_cons_of_mem _ (List.mem_cons_self ..), lift _ a210, lift _ a211, lift _ a212, b210.mono lift, b211.mono lift, b212.mono lift⟩
-- part H1
local macro_rules | `(tactic| walk_at "exec Assign cons ListComp") => `(tactic| ((fail_if_success k_extra "two"); (k_here; k_dflt (refine Assign_go (by with_unfolding_all rfl) (by with_unfolding_all rfl) (by rfl) (by decide) ?_))))
local macro_rules | `(tactic| walk_at "CGoA") => `(tactic| k_extra "go")
local macro_rules | `(tactic| walk_at "subscriptTail Name Constant ref int") => `(tactic| walk_at "mine s12")
local macro_rules | `(tactic| walk_at "call ref") => `(tactic| k_extra "solved")
def rowOf (x : Int) (y : Rat) : List Rat := [1, (x : Rat), (x : Rat) * (x : Rat), y]
theorem Cell.int {news : Led} {D : Addr} {x : Int} {u1 u2 : Tok} {c : Nat} (h : (D, tup2 x 1 u1 u2 c) ∈ news) : Cell news (.ref D) (x : Rat) := ⟨D, u1, u2, c, rfl, h⟩
theorem ord_nil {l : Led} : ∀ q ∈ ([] : Led), AllLt q.1 l := fun _ h => nomatch h
theorem ord_cons {l tl : Led} {D1 : Addr} {o1 : Obj} (h1 : AllLt D1 l) (h2 : ∀ q ∈ tl, AllLt q.1 l) : ∀ q ∈ (D1, o1) :: tl, AllLt q.1 l := fun q hq => by
  rcases List.mem_cons.mp hq with rfl | hq
  · exact h1
  · exact h2 q hq
def RowsUp (news : Led) (fs : List (List Rat)) (i : Nat) (outs : List Value) (T : Led) : Prop := outs.length = i ∧ ∀ (j : Nat) (v : Value) (q : List Rat), outs[j]? = some v → fs[j]? = some q → Row (T ++ news) v q
theorem RowsUp.nil {news : Led} {fs : List (List Rat)} : RowsUp news fs 0 [] [] := ⟨rfl, fun j v q a _ => by simp at a⟩
theorem RowsUp.snoc {news T tl : Led} {fs : List (List Rat)} {i : Nat} {outs : List Value} {y : Value} {q : List Rat} (h : RowsUp news fs i outs T) (hq : fs[i]? = some q) (hr : Row ((tl ++ T) ++ news) y q) : RowsUp news fs (i + 1) (outs ++ [y]) (tl ++ T) := by
  refine ⟨by rw [List.length_append, h.1]; rfl, fun j v r hv hr' => ?_⟩
  rcases Nat.lt_or_ge j outs.length with hj | hj
  · rw [List.getElem?_append_left hj] at hv
    exact (h.2 j v r hv hr').mono fun p hp => by rw [List.append_assoc]; exact List.mem_append_right _ hp
  · rw [List.getElem?_append_right hj] at hv
    cases ej : j - outs.length with
    | zero =>
      have e : j = i := by have := h.1; omega
      subst e
      rw [ej] at hv
      simp at hv
      subst hv
      rw [hq] at hr'
      cases hr'
      exact hr
    | succ k => rw [ej] at hv; simp at hv
theorem cast_sub_ne {x y : Int} (h : x ≠ y) : (y : Rat) - (x : Rat) ≠ 0 := by
  intro e
  have e2 : (y : Rat) = (x : Rat) := by grind
  exact h (Rat.intCast_inj.mp e2).symm
theorem bd_rowOf {x : Int} {y : Rat} (hx : Sm 10 x) (hy : Bd 20 y) : BdAll 20 (rowOf x y) :=
  BdAll.of4 ⟨Nat.one_lt_two_pow (by decide), Nat.one_lt_two_pow (by decide)⟩ ((Bd.intCast hx).mono (by decide)) (Bd.mul (Bd.intCast hx) (Bd.intCast hx) (by decide)) hy
theorem solvedlaw_call (w : World) (news) {PL P0 P1 P2 D0 D1 D2 cP u0 z0 c0 u1 z1 c1 u2 z2 c2 t0 t1 t2 e0 e1 e2} {x0 x1 x2 : Int} {y0 y1 y2 s t : Rat}
    (hmL : (PL, lst [.ref P0, .ref P1, .ref P2] cP) ∈ news) (hp0 : (P0, tupo x0 D0 t0 e0) ∈ news) (hp1 : (P1, tupo x1 D1 t1 e1) ∈ news) (hp2 : (P2, tupo x2 D2 t2 e2) ∈ news)
    (hm0 : (D0, fr y0 u0 z0 c0) ∈ news) (hm1 : (D1, fr y1 u1 z1 c1) ∈ news) (hm2 : (D2, fr y2 u2 z2 c2) ∈ news)
    (hb0 : Bd 20 y0) (hb1 : Bd 20 y1) (hb2 : Bd 20 y2) (hs0 : Sm 10 x0) (hs1 : Sm 10 x1) (hs2 : Sm 10 x2) (h01 : x0 ≠ x1) (h02 : x0 ≠ x2) (h12 : x1 ≠ x2)
    (hs : s = (y1 - y0) / ((x1 : Rat) - x0)) (ht : t = ((y2 - y0) - ((x2 : Rat) - x0) * s) / (((x2 : Rat) - x0) * ((x2 : Rat) - x1))) :
    GCallOk w 85 [.ref PL] 16 news (fun nw r => Row nw r [y0 - x0 * s + x0 * x1 * t, s - (x1 + x0) * t, t]) := by
  unfold GCallOk
  k_fill
  intro p loose mean mg mb dp un gd cn cs a ccd cl outer A₀ base h₀ L m hpA gsA drA tkA osA Q E B F X N T hkf hd hu hret
  refine wpAny_call ?_
  k_dflt ktr_enter
  refine gen_tk fun tk0 => ?_
  rename Fr _ _ _ _ => kF0
  refine fr_open1 (Str.ofString "points") kF0 (by with_unfolding_all rfl) fun mb kF1 => ?_
  clear kF0
  refine wpN ?_
  k_with_none
  k_steps
  rename Fr _ _ _ _ => lF
  rename News _ _ _ _ => lN
  k_dflt (refine' goA_pairs [(P0, .int x0 t0, .ref D0), (P1, .int x1 t1, .ref D1), (P2, .int x2 t2, .ref D2)] (J := fun i outs T => RowsUp news [rowOf x0 y0, rowOf x1 y1, rowOf x2 y2] i outs T) ?hh lF lN ?m1 ?c1 ?d1 ?hts ?sz ?hcell ?hkind ?ha ?hb ?hab ?hLe ?hy ?hp ?J0 ?turn ?fin)
  case hh => rfl
  case m1 => exact hmL
  case c1 => rfl
  case d1 => rfl
  case hts =>
    intro p hp
    simp only [List.mem_cons, List.not_mem_nil, or_false] at hp
    rcases hp with rfl | rfl | rfl
    · exact ⟨_, hp0, rfl, _, rfl⟩
    · exact ⟨_, hp1, rfl, _, rfl⟩
    · exact ⟨_, hp2, rfl, _, rfl⟩
  case sz => exact Nat.le_of_ble_eq_true rfl
  case hcell => decide
  case hkind => rfl
  case ha => rfl
  case hb => rfl
  case hab => decide
  case hLe => rfl
  case hy => rfl
  case hp => rfl
  case J0 => exact RowsUp.nil
  case turn =>
    intro g i outs T C oCC m₂ N₁ h₁ tk₁ E' hi hC hB F₁ N₁' hT hJ
    obtain ⟨p, hpi, ma, mh⟩ := hB
    have key : ∃ x t D y u z c, p.2.1 = .int x t ∧ p.2.2 = .ref D ∧ (D, fr y u z c) ∈ news ∧ Sm 10 x ∧ [rowOf x0 y0, rowOf x1 y1, rowOf x2 y2][i]? = some (rowOf x y) := by
      match i with
      | 0 => cases hpi; exact ⟨_, _, _, _, _, _, _, rfl, rfl, hm0, hs0, rfl⟩
      | 1 => cases hpi; exact ⟨_, _, _, _, _, _, _, rfl, rfl, hm1, hs1, rfl⟩
      | 2 => cases hpi; exact ⟨_, _, _, _, _, _, _, rfl, rfl, hm2, hs2, rfl⟩
      | n + 3 => simp at hpi
    obtain ⟨x, tx, Dy, y, uy, zy, cy, e1, e2, hmy, hsx, hfi⟩ := key
    rw [e1] at ma
    rw [e2] at mh
    k_steps
    rename Fr _ _ _ _ => kF
    rename News _ _ _ _ => kN
    refine ⟨_, _, [_, _, _, _], rfl, kF, kN, ord_cons (by walk_at "mine lt") (ord_cons (by walk_at "mine lt") (ord_cons (by walk_at "mine lt") (ord_cons (by walk_at "mine lt") ord_nil))), RowsUp.snoc hJ hfi ?_⟩
    refine ⟨_, _, _, rfl, List.mem_append_left _ (List.mem_append_left _ (List.mem_cons_self ..)), Cells.of4 (Cell.int (x := 1) (List.mem_append_left _ (List.mem_append_left _ (List.mem_cons_of_mem _ (List.mem_cons_of_mem _ (List.mem_cons_of_mem _ (List.mem_cons_self ..)))))))
      (Cell.int (List.mem_append_left _ (List.mem_append_left _ (List.mem_cons_of_mem _ (List.mem_cons_of_mem _ (List.mem_cons_self ..)))))) ?_ (Cell.of (List.mem_append_right _ hmy))⟩
    rw [← Rat.intCast_mul]
    exact Cell.int (List.mem_append_left _ (List.mem_append_left _ (List.mem_cons_of_mem _ (List.mem_cons_self ..))))
  case fin =>
    intro g1 RL hh1 tk1 T outs F₁ N₁ o1 o2 o3 hJ
    obtain ⟨a0, a1, a2, rfl⟩ := len3 (α := Value) hJ.1
    obtain ⟨A0, cA0, vs0, rfl, hA0, hc0⟩ := hJ.2 0 _ _ rfl rfl
    obtain ⟨A1, cA1, vs1, rfl, hA1, hc1⟩ := hJ.2 1 _ _ rfl rfl
    obtain ⟨A2, cA2, vs2, rfl, hA2, hc2⟩ := hJ.2 2 _ _ rfl rfl
    have G1 : Grow news (T ++ news) := Grow.app o3
    have hbb0 := bd_rowOf hs0 hb0
    have hbb1 := bd_rowOf hs1 hb1
    have hbb2 := bd_rowOf hs2 hb2
    simp only [rowOf] at hc0 hc1 hc2 hbb0 hbb1 hbb2
    have h10 := cast_sub_ne h01
    have h20 := cast_sub_ne h02
    have h21 := cast_sub_ne h12
    have h3 : ((x2 : Rat) - x0) * ((x2 : Rat) - x1) ≠ 0 := by grind
    clear hJ o1
    generalize hnw0 : T ++ news = nw0 at *
    k_with "solved" =>
      (k_dflt (refine' guse (solved_call w _ ?m1 ?m2 ?m3 ?m4 ?c1 ?c2 ?c3 hbb0 hbb1 hbb2 h10 h3 hs ht) ?k1 ?k2 ?k3 ?k4 ?k5 ?kK ?kd ?ku ?_); (case k4 => k_asm); (case m1 => k_mem); (case m2 => exact List.mem_cons_of_mem _ hA0); (case m3 => exact List.mem_cons_of_mem _ hA1); (case m4 => exact List.mem_cons_of_mem _ hA2); (case c1 => exact hc0.mono fun p hp => List.mem_cons_of_mem _ hp); (case c2 => exact hc1.mono fun p hp => List.mem_cons_of_mem _ hp); (case c3 => exact hc2.mono fun p hp => List.mem_cons_of_mem _ hp); (case k1 => k_asm); (case k2 => k_asm); (case k3 => k_asm); (case k5 => k_asm); (case kK => first | exact rfl | assumption); (case kd => ktr_room); (case ku => ktr_units); k_whole; intro r nw2 h2 tk2 F2 N2 G2 hR2; (obtain ⟨Dt, kt, RL2, cR, Dn, X0, X1, X2, k0, k1, k2, w0, w1, w2, e1, ht2, hRL, hX0, hX1, hX2, hw0, hw1, hw2⟩ := hR2); (subst e1))
    k_steps
    obtain ⟨v00, v01, v02, v03, rfl, -, -, -, z0⟩ := hw0.four
    obtain ⟨v10, v11, v12, v13, rfl, -, -, -, z1⟩ := hw1.four
    obtain ⟨v20, v21, v22, v23, rfl, -, -, -, z2⟩ := hw2.four
    k_dflt (refine' go_list (J := fun i outs _ => outs = [v03, v13, v23].take i) (vs := [.ref X0, .ref X1, .ref X2]) ?hh F2 N2 hRL ?c1 ?d1 ?sz ?hcell ?hkind ?hx ?J0 ?turn ?fin)
    case hh => rfl
    case c1 => rfl
    case d1 => rfl
    case sz => exact Nat.le_of_ble_eq_true rfl
    case hcell => decide
    case hkind => rfl
    case hx => rfl
    case J0 => rfl
    case turn =>
      intro g i outs T C oCC m₂ N₁ h₁ tk₁ E' hi hC hB F₁ N₁' hT hJ
      obtain ⟨v, hv, mv⟩ := hB
      have key : ∃ X k a b c d, v = .ref X ∧ (X, lst [a, b, c, d] k) ∈ nw2 ∧ [v03, v13, v23][i]? = some d := by
        rcases get3 hv with ⟨rfl, rfl⟩ | ⟨rfl, rfl⟩ | ⟨rfl, rfl⟩
        · exact ⟨_, _, _, _, _, _, rfl, hX0, rfl⟩
        · exact ⟨_, _, _, _, _, _, rfl, hX1, rfl⟩
        · exact ⟨_, _, _, _, _, _, rfl, hX2, rfl⟩
      obtain ⟨X, kX, a9, b9, c9, d9, rfl, hX, hd⟩ := key
      have hX' := hT _ (List.mem_append_right _ hX)
      k_steps
      rename Fr _ _ _ _ => kF
      rename News _ _ _ _ => kN
      refine ⟨_, _, [], rfl, kF, kN, ord_nil, ?_⟩
      show outs ++ [d9] = [v03, v13, v23].take (i + 1)
      have hJ' : outs = [v03, v13, v23].take i := hJ
      rw [List.take_add_one, hd, ← hJ']; rfl
    case fin =>
      intro g2 DF hh2 tk3 T2 outs2 F₃ N₃ p1 p2 p3 hJ2
      have e : outs2 = [v03, v13, v23] := hJ2
      subst e
      k_steps
      rename Fr h₀ L _ m => kF
      rename News h₀ L _ _ => kN
      have GA : Grow news ((DF, lst [v03, v13, v23] 3) :: (T2 ++ nw2)) := by
        have g3 : Grow news nw2 := (Grow.cons G1 o2).trans G2
        exact Grow.cons (g3.trans (Grow.app p3)) (allLt_sub p2 g3.1)
      refine hret _ _ _ _ kF kN GA ⟨DF, _, _, rfl, List.mem_cons_self .., rfl, fun j v q hv hq => ?_⟩
      have up : ∀ p ∈ nw2, p ∈ (DF, lst [v03, v13, v23] 3) :: (T2 ++ nw2) := fun p hp => List.mem_cons_of_mem _ (List.mem_append_right _ hp)
      rcases get3 hv with ⟨rfl, rfl⟩ | ⟨rfl, rfl⟩ | ⟨rfl, rfl⟩
      · cases hq; exact z0.mono up
      · cases hq; exact z1.mono up
      · cases hq; exact z2.mono up
-- part F9
local macro_rules | `(tactic| walk_at "call ref") => `(tactic| ((fail_if_success k_extra "two"); k_extra "callF"))
local macro_rules | `(tactic| k_all) => `(tactic| walk_at "mine s8")
local macro_rules | `(tactic| walk_at "UnrEnd") => `(tactic| walk_at "mine s7")
/-- Lagrange's form -/
def lagrange (x0 x1 x2 x : Int) (q0 q1 q2 : Rat) : Rat := q0 * share 0 x0 x1 x2 x + q1 * share 1 x0 x1 x2 x + q2 * share 2 x0 x1 x2 x
theorem prod_call (w : World) (news) {n : Nat} {DL P0 P1 P2 D0 D1 D2 a0 b0 a1 b1 a2 b2 u0 v0 c0 u1 v1 c1 u2 v2 c2 cL t0 t1 t2 e0 e1 e2} {q0 q1 q2 : Rat} {x0 x1 x2 x : Int} {tx : Tok}
    (hmL : (DL, lst [.ref P0, .ref P1, .ref P2] cL) ∈ news) (hp0 : (P0, tupo x0 D0 t0 e0) ∈ news) (hp1 : (P1, tupo x1 D1 t1 e1) ∈ news) (hp2 : (P2, tupo x2 D2 t2 e2) ∈ news)
    (hm0 : (D0, tup2 a0 b0 u0 v0 c0) ∈ news) (hm1 : (D1, tup2 a1 b1 u1 v1 c1) ∈ news) (hm2 : (D2, tup2 a2 b2 u2 v2 c2) ∈ news)
    (hq0 : Pr n a0 b0 q0) (hq1 : Pr n a1 b1 q1) (hq2 : Pr n a2 b2 q2) (hn : n ≤ 100) (hs0 : Sm 10 x0) (hs1 : Sm 10 x1) (hs2 : Sm 10 x2) (hs : Sm 10 x) (h01 : x0 ≠ x1) (h02 : x0 ≠ x2) (h12 : x1 ≠ x2) :
    CallOk w 120 [.ref DL, .int x tx] 8 news (FrRet (lagrange x0 x1 x2 x q0 q1 q2)) := by
  unfold CallOk
  k_fill
  intro p loose mean mg mb dp un gd cn cs a ccd cl outer A₀ base h₀ L m hpA gsA drA tkA osA Q E B F X N T hkf hd hu hret
  refine wpAny_call ?_
  k_dflt ktr_enter
  refine gen_tk fun tk0 => ?_
  rename Fr _ _ _ _ => kF0
  refine fr_open2 (Str.ofString "points") (Str.ofString "here") kF0 (by with_unfolding_all rfl) (by with_unfolding_all rfl) fun mb kF1 => ?_
  clear kF0
  refine wpN ?_
  k_with_none
  k_with "asm9" => ((case k4 => k_asm); (try (case m1 => k_mem)); (try (case m2 => k_mem)); (try (case m3 => k_mem)); (try (case m4 => k_mem)); (try (case hi => first | assumption | decide)); (try (case s1 => assumption)); (try (case s2 => assumption)); (try (case s3 => assumption)); (try (case s4 => assumption)); (try (case d1 => assumption)); (try (case d2 => assumption)); (try (case d3 => assumption)); (try (case p1 => walk_at "mine pr")); (try (case p2 => walk_at "mine pr")); (try (case x1 => first | assumption | (exact Ne.symm (by assumption)))); (try (case x2 => assumption)); (try (case n1 => first | decide | omega)); (try (case n2 => first | decide | omega)); (try (case n3 => first | decide | omega)); (case k1 => k_asm); (case k2 => k_asm); (case k3 => k_asm); (case k5 => k_asm); (case kK => first | exact rfl | assumption); (case kd => ktr_room); (case ku => ktr_units))
  k_with "callF" => (k_here; k_dflt (first | (refine' times_use ?m1 ?m2 ?p1 ?p2 ?n1 ?n2 ?k1 ?k2 ?k3 ?k4 ?k5 ?kK ?kd ?ku ?_) | (refine' less_use ?m1 ?m2 ?p1 ?p2 ?n1 ?n2 ?k1 ?k2 ?k3 ?k4 ?k5 ?kK ?kd ?ku ?_) | (refine' slope_use ?m1 ?m2 ?p1 ?p2 ?n1 ?n2 ?x1 ?x2 ?n3 ?k1 ?k2 ?k3 ?k4 ?k5 ?kK ?kd ?ku ?_) | (refine' fracq_use ?z ?x1 ?x2 ?n1 ?k1 ?k2 ?k3 ?k4 ?k5 ?kK ?kd ?ku ?_) | (refine' share_use ?m1 ?m2 ?m3 ?m4 ?hi ?s1 ?s2 ?s3 ?s4 ?d1 ?d2 ?d3 ?k1 ?k2 ?k3 ?k4 ?k5 ?kK ?kd ?ku ?_) | (refine' plus_use ?m1 ?m2 ?p1 ?p2 ?n1 ?n2 ?k1 ?k2 ?k3 ?k4 ?k5 ?kK ?kd ?ku ?_) | (refine' by_use ?m1 ?m2 ?p1 ?p2 ?n1 ?n2 ?z ?k1 ?k2 ?k3 ?k4 ?k5 ?kK ?kd ?ku ?_)); (k_dflt walk_at "asm9"); (try (case z => k_extra "ne")); k_whole; intro D9 u9 v9 c9 h9 tk9 F9 N9 hl9 hb9; (try simp only [AllLt, and_true] at hl9); (try k_sweep))
  k_steps
  rename Fr h₀ L _ m => kF
  rename News h₀ L _ _ => kN
  exact fr_ret hret kF kN (by k_mem) (by walk_at "mine sub") (by walk_at "mine lt") sub_refl (by simp only [lagrange]; grind)
-- part H2
local macro_rules | `(tactic| k_all) => `(tactic| walk_at "mine s8")
local macro_rules | `(tactic| walk_at "UnrEnd") => `(tactic| walk_at "mine s7")
local macro_rules | `(tactic| k_all) => `(tactic| walk_at "mine s13")
local macro_rules | `(tactic| walk_at "UnrEnd") => `(tactic| walk_at "mine s14")
local macro_rules | `(tactic| walk_at "call ref") => `(tactic| k_extra "solved")
section
variable {prog : Program} {w : World} {A : Around} {E : Value → Shared → Prop} {s : Shared} {h₀ : Heap} {L l : Addr} {lo : Obj} {news : Led}
theorem lst_len {vs : List Value} {n : Nat} {Q : Value → Shared → Prop} (N : News h₀ L s.heap news) (hm : (l, lo) ∈ news) (hc : lo.cls = .type "list") (hd : lo.data = .seq vs.toArray n) (hfit : vs.length < 2 ^ 62)
    (h : Q (.int vs.length (s.toks + 1)) { s with toks := s.toks + 1 + 1 }) : wpAny (model prog w) A (call (.builtin "len") [.ref l]) Q E s :=
  PyProof.Rows.len_list ⟨lo, (N _ hm).1, hc, n, hd⟩ (by rw [List.size_toArray]; omega) (by rw [List.size_toArray]; exact h)
theorem ints_item {value slice : PySem.Expr} {vs : List Value} {ns : List Int} {k : Int} {u : Tok} {n : Nat} {Q : Value → Shared → Prop}
    (N : News h₀ L s.heap news) (hm : (l, lo) ∈ news) (hc : lo.cls = .type "list") (hd : lo.data = .seq vs.toArray n) (hI : IntsAre vs ns) (hfit : vs.length < 2 ^ 62) (h0 : 0 ≤ k) (hlt : k < vs.length) (h : ∀ n t, Q (.int n t) s)
    (hs : subscripted slice false (.ref l) (.int k u) = operate [.ref l, .int k u] (getItem (.ref l) (.int k u)) := by with_unfolding_all rfl) :
    wpAny (model prog w) A (subscriptTail value slice (.ref l) (.int k u)) Q E s := by
  have hk : k.toNat < vs.length := by omega
  obtain ⟨n', t', e, _⟩ := hI.at k.toNat _ (List.getElem?_eq_getElem hk)
  refine lst_item N hm hc hd h0 (by omega) (v := .int n' t') (by rw [List.getElem?_eq_getElem hk, e]) (h n' t') hs
end
theorem fmod_rng {a b : Int} (hb : 0 < b) : 0 ≤ a.fmod b ∧ a.fmod b < b := by
  rw [Int.fmod_eq_emod_of_nonneg _ (by omega)]
  exact ⟨Int.emod_nonneg _ (by omega), Int.emod_lt_of_pos _ hb⟩
local macro_rules | `(tactic| walk_at "call builtin:len") => `(tactic| k_extra "len")
local macro_rules | `(tactic| walk_at "subscriptTail Subscript Name ref int") => `(tactic| ((fail_if_success k_extra "two"); k_extra "item"))
theorem draw_call (w : World) (news : Led) {BG S cB cS : Nat} {k below : Int} {tk tb : Tok} {vs : List Value} {ns : List Int}
    (hS : (S, lst vs cS) ∈ news) (hI : IntsAre vs ns) (hlen : ns.length < 2 ^ 62) (hk0 : 0 ≤ k) (hk1 : k < 1000) (hb0 : 0 < below) (hb1 : below < 1000) (off : Off BG news) :
    ∀ (p : Program) (loose : List Str) (mean : ExcName → Option Value) (mg mb : Str → Option Value) (dp un : Nat) (gd : Option (List Code)) (cn : Str) (cs : Scope) (a : Addr) (ccd : Value) (cl : List (Str × Addr)) (outer : List Env) (A₀ : Around) (base h₀ : Heap) (L : Addr) (m : Str → Option Value) (hpA : Heap) (gsA : Array GenState) (drA : Drawn) (tkA : Nat) (osA : OsState)
    (Q E : Value → Shared → Prop),
    Below A₀ base outer h₀ → Fr h₀ L hpA m → (Mine.hd.heap_39 w.params).In h₀ → News h₀ L hpA ((BG, lst [.ref S, .int k tk] cB) :: news) → Top p loose mean mg mb h₀ → cs.kind = .function → dp + 2 < recursionLimit → un + 16 < cLine →
    (∀ d t tk2 h' tk', Fr h₀ L h' m → News h₀ L h' ((BG, lst [.ref S, .int (k + 1) tk2] cB) :: news) → 0 ≤ d → d < below → Q (.int d t) ⟨h', gsA, drA, tk', osA⟩) →
    wpAny (model PySem.Challenge.rw_xm0058_01.row.toRowW.prog w) (ktrTop dp un gd cn cs L a ccd cl outer) (call (.ref 73) [.ref BG, .int below tb]) Q E ⟨hpA, gsA, drA, tkA, osA⟩ := by
  k_fill
  intro p loose mean mg mb dp un gd cn cs a ccd cl outer A₀ base h₀ L m hpA gsA drA tkA osA Q E B F X N T hkf hd hu hret
  refine wpAny_call ?_
  k_dflt ktr_enter
  refine gen_tk fun tk0 => ?_
  rename Fr _ _ _ _ => kF0
  refine fr_open2 (Str.ofString "bag") (Str.ofString "below") kF0 (by with_unfolding_all rfl) (by with_unfolding_all rfl) fun mb kF1 => ?_
  clear kF0
  refine wpN ?_
  k_with_none
  have s4 : Sm 10 4 := by unfold Sm; decide
  have sk : Sm 10 k := by unfold Sm; omega
  have hvl : vs.length < 2 ^ 62 := by rw [hI.length]; exact hlen
  k_with "len" => ((rename News _ _ _ _ => lN'); (with_unfolding_all refine' lst_len lN' ?hm ?hc ?hd ?hf ?_); (case hm => exact List.mem_cons_of_mem _ hS); (case hc => rfl); (case hd => rfl); (case hf => exact hvl))
  k_with "item" => ((rename News _ _ _ _ => lN'); (with_unfolding_all refine' ints_item lN' ?hm ?hc ?hd hI hvl hk0 ?hlt ?_); (case hm => exact List.mem_cons_of_mem _ hS); (case hc => rfl); (case hd => rfl); (case hlt => first | assumption | omega); intro n9 t9)
  k_steps
  · rename Fr h₀ L _ m => kF
    rename News h₀ L _ _ => kN
    exact hret _ _ _ _ _ kF kN (fmod_rng hb0).1 (fmod_rng hb0).2
  · rename Fr h₀ L _ m => kF
    rename News h₀ L _ _ => kN
    exact hret _ _ _ _ _ kF kN (fmod_rng hb0).1 (fmod_rng hb0).2
-- part L7
open PySem.Spec PySem.Calls PyProof.Rows.LCg
abbrev prD (a b : Int) : PyData := .tuple [.int a, .int b]
theorem pr_reads {h₀ h : Heap} {L D : Addr} {news : Led} {a b : Int} {u1 u2 : Tok} {c : Nat} (N : News h₀ L h news) (hm : (D, tup2 a b u1 u2 c) ∈ news) : ∃ as, Reads h (.ref D) (prD a b) as :=
  ⟨_, reads_tuple_at (N _ hm).1 rfl rfl (ReadsAll.cons (Reads.int _ _) (ReadsAll.cons (Reads.int _ _) ReadsAll.nil))⟩
theorem pr_shaped (a b : Int) : SeqAt.shaped (prD a b) = true := by simp [SeqAt.shaped, PyData.canLay0, PyData.canLayAll0, PyData.depth, PyData.depthAll]
theorem pr_eqv (a b c d : Int) : PyData.eqv (prD a b) (prD c d) = (decide (a = c) && decide (b = d)) := by
  simp only [PyData.eqv, PyData.eqvAll, Bool.and_true]
  rfl
section
variable {prog : Program} {w : World} {A : Around} {E : Value → Shared → Prop} {s : Shared} {h₀ : Heap} {L : Addr} {m : Str → Option Value} {env : Env} {news : Led}
theorem pr_ne {D1 D2 : Addr} {a b c d : Int} {u1 u2 v1 v2 : Tok} {k1 k2 : Nat} {Q : Value → Shared → Prop} (N : News h₀ L s.heap news) (hm1 : (D1, tup2 a b u1 u2 k1) ∈ news) (hm2 : (D2, tup2 c d v1 v2 k2) ∈ news) (hu : A.units + 64 < cLine)
    (h : Q (.bool (!(decide (a = c) && decide (b = d)))) s) : wpAny (model prog w) A (compareOp .NotEq (.ref D1) (.ref D2)) Q E s := by
  obtain ⟨as, ra⟩ := pr_reads N hm1
  obtain ⟨bs, rb⟩ := pr_reads N hm2
  refine ne_dataH ra rb (pr_shaped _ _) (pr_shaped _ _) hu ?_
  rw [pr_eqv]
  exact h
theorem fr_ne_same {D1 D2 : Addr} {q r : Rat} {u1 u2 v1 v2 : Tok} {k1 k2 : Nat} {Q : Value → Shared → Prop} (N : News h₀ L s.heap news) (hm1 : (D1, fr q u1 u2 k1) ∈ news) (hm2 : (D2, fr r v1 v2 k2) ∈ news) (e : q = r) (hu : A.units + 64 < cLine)
    (h : Q (.bool false) s) : wpAny (model prog w) A (compareOp .NotEq (.ref D1) (.ref D2)) Q E s := by
  subst e
  refine pr_ne N hm1 hm2 hu ?_
  simpa using h
theorem fr_ne_diff {D1 D2 : Addr} {q r : Rat} {u1 u2 v1 v2 : Tok} {k1 k2 : Nat} {Q : Value → Shared → Prop} (N : News h₀ L s.heap news) (hm1 : (D1, fr q u1 u2 k1) ∈ news) (hm2 : (D2, fr r v1 v2 k2) ∈ news) (e : q ≠ r) (hu : A.units + 64 < cLine)
    (h : Q (.bool true) s) : wpAny (model prog w) A (compareOp .NotEq (.ref D1) (.ref D2)) Q E s := by
  refine pr_ne N hm1 hm2 hu ?_
  have hd : (decide (q.num = r.num) && decide ((q.den : Int) = (r.den : Int))) = false := by
    rw [Bool.and_eq_false_iff, decide_eq_false_iff_not, decide_eq_false_iff_not]
    by_cases h1 : q.num = r.num
    · right
      intro h2
      exact e (Rat.ext h1 (by omega))
    · exact .inl h1
  rw [hd]
  exact h
theorem cell_reads {h : Heap} {v : Value} {q : Rat} (N : News h₀ L h news) (hc : Cell news v q) : ∃ as, Reads h v (prD q.num (q.den : Int)) as := by
  obtain ⟨D, u1, u2, c, rfl, hm⟩ := hc
  exact pr_reads N hm
theorem rows_ne_same {D1 D2 : Addr} {vs ws : List Value} {k1 k2 : Nat} {a b c : Rat} {Q : Value → Shared → Prop} (N : News h₀ L s.heap news) (hm1 : (D1, lst vs k1) ∈ news) (hm2 : (D2, lst ws k2) ∈ news) (h1 : Cells news vs [a, b, c]) (h2 : Cells news ws [a, b, c]) (hu : A.units + 64 < cLine)
    (h : Q (.bool false) s) : wpAny (model prog w) A (compareOp .NotEq (.ref D1) (.ref D2)) Q E s := by
  have three : ∀ {D : Addr} {us : List Value} {k : Nat}, (D, lst us k) ∈ news → Cells news us [a, b, c] → ∃ as, Reads s.heap (.ref D) (.list [prD a.num a.den, prD b.num b.den, prD c.num c.den]) as := by
    intro D us k hm hc
    have h1 := hc.1
    obtain ⟨u0, u1, u2, rfl⟩ := len3 h1
    · obtain ⟨_, r0⟩ := cell_reads N (hc.2 0 _ _ rfl rfl)
      obtain ⟨_, r1⟩ := cell_reads N (hc.2 1 _ _ rfl rfl)
      obtain ⟨_, r2⟩ := cell_reads N (hc.2 2 _ _ rfl rfl)
      exact ⟨_, reads_list_at (N _ hm).1 rfl rfl (ReadsAll.cons r0 (ReadsAll.cons r1 (ReadsAll.cons r2 ReadsAll.nil)))⟩
  obtain ⟨as, ra⟩ := three hm1 h1
  obtain ⟨bs, rb⟩ := three hm2 h2
  have sh : SeqAt.shaped (.list [prD a.num a.den, prD b.num b.den, prD c.num c.den]) = true := by simp [SeqAt.shaped, PyData.canLay0, PyData.canLayAll0, PyData.depth, PyData.depthAll]
  refine ne_dataH ra rb sh sh hu ?_
  have e : PyData.eqv (.list [prD a.num a.den, prD b.num b.den, prD c.num c.den]) (.list [prD a.num a.den, prD b.num b.den, prD c.num c.den]) = true := by
    simp [PyData.eqv, PyData.eqvAll]
  rw [e]
  exact h
theorem comprest_inv {elt : PySem.Expr} {x : Str} {scope : Scope} {cl : List (Str × Addr)} {S : Led → Prop} {P : Nat → Value → Prop} {Fin : List Value → Led → Prop} (n : Nat) (Inv : Nat → List Value → Led → Prop)
    (turn : ∀ i ys news v I oI C oC D m₂ h tk (E' : Value → Shared → Prop), i < n → P i v → Inv i ys news → NsObj oC m₂ → m₂ x = some v → Fr h₀ L h m → News h₀ L h ((I, oI) :: (C, oC) :: (D, LCg.lst ys) :: news) → Off3 I C D news → ((@Ne Nat I C) ∧ (@Ne Nat I D) ∧ (@Ne Nat C D)) →
      wpAny (model prog w) A (eval elt (compEnvC scope cl C env)) (CompEnd h₀ L m { s with heap := h, toks := tk } I oI C oC D (LCg.lst ys) S (fun y news' => Inv (i + 1) (ys ++ [y]) news')) E' { s with heap := h, toks := tk })
    (fin : ∀ ys news, Inv n ys news → Fin ys news) : ∀ k i ys news, i + k = n → Inv i ys news → CompRest prog w A h₀ L m env elt x scope cl s S P Fin k i ys news
  | 0, i, ys, news, hk, hI => CompRest.zero (fin ys news (by rw [← hk]; exact hI))
  | k + 1, i, ys, news, hk, hI => by
    refine CompRest.succ fun v I oI C oC D m₂ h tk E' hv hC hx F N off ne => ?_
    refine wpAny_mono (turn i ys news v I oI C oC D m₂ h tk E' (by omega) hv hI hC hx F N off ne) (fun y s' hq => ?_) fun _ _ e => e
    obtain ⟨h', tk', news', e, F', N', o', hS, hI'⟩ := hq
    exact ⟨h', tk', news', e, F', N', o', hS, comprest_inv n Inv turn fin k (i + 1) _ _ (by omega) hI'⟩
/-- an int is taken out of a list of ints at a place in bounds -/
theorem pop_ints {D : Addr} {k : Int} {u : Tok} {us : List Value} {ns : List Int} {n : Nat} {Q : Value → Shared → Prop} (F : Fr h₀ L hpA m) (N : News h₀ L hpA ((D, lst us n) :: news)) (off : Off D news) (hI : IntsAre us ns) (h0 : 0 ≤ k) (hk : k < us.length) (hz : us.length ≤ 1000)
    (h : ∀ h' us' x t pre post, Fr h₀ L h' m → News h₀ L h' ((D, lst us' (n + 1)) :: news) → IntsAre us' (pre ++ post) → ns = pre ++ x :: post → Q (.int x t) ⟨h', gsA, drA, tkA, osA⟩) :
    wpAny (model prog w) A (call (.builtin "list.pop") [.ref D, .int k u]) Q E ⟨hpA, gsA, drA, tkA, osA⟩ := by
  have key : ∀ (us : List Value) (ns : List Int) (j : Nat), IntsAre us ns → j < us.length → ∃ p y q pre x post t, kl_cut us j = some (p, y, q) ∧ y = .int x t ∧ IntsAre (p ++ q) (pre ++ post) ∧ ns = pre ++ x :: post := by
    intro us ns j hI
    induction hI generalizing j with
    | nil => intro hj; simp at hj
    | cons a t r ih =>
      intro hj
      cases j with
      | zero => exact ⟨[], _, _, [], _, _, _, rfl, rfl, r, rfl⟩
      | succ j =>
        obtain ⟨p, y, q, pre, x, post, t', hc, rfl, hi, e⟩ := ih j (by simpa using hj)
        refine ⟨_ :: p, _, q, a :: pre, x, post, t', ?_, rfl, .cons a t hi, by rw [e]; rfl⟩
        unfold kl_cut
        rw [hc]
  obtain ⟨p, y, q, pre, x, post, t, hc, rfl, hi, e⟩ := key us ns k.toNat hI (by omega)
  refine kl_popAt F N (k := k.toNat) ?_ ?_ (by simpa using hc) (Upd.head off) ?_ fun h' F' N' => h h' _ x t pre post F' N' hi e
  · simp [Builtin.List.listFitsIndex]; omega
  · rw [List.size_toArray]
    unfold seqIndex?
    simp only []
    split <;> (try omega) <;> (try (split <;> first | rfl | omega))
    all_goals first | rfl | omega | (simp; omega)
  · simp [sizeLine]; omega
end
theorem draw_use {w : World} {led news : Led} {BG S cB cS : Nat} {k below : Int} {tk tb : Tok} {vs : List Value} {ns : List Int}
    {p : Program} {loose : List Str} {mean : ExcName → Option Value} {mg mb : Str → Option Value} {dp un : Nat} {gd : Option (List Code)} {cn : Str} {cs : Scope} {a : Addr} {ccd : Value} {cl : List (Str × Addr)} {outer : List Env} {A₀ : Around} {base h₀ : Heap} {L : Addr} {m : Str → Option Value} {hpA : Heap} {gsA : Array GenState} {drA : Drawn} {tkA : Nat} {osA : OsState}
    {Q E : Value → Shared → Prop}
    (R : Rem BG (lst [.ref S, .int k tk] cB) led news) (hS : (S, lst vs cS) ∈ news) (hI : IntsAre vs ns) (hlen : ns.length < 2 ^ 62) (hk0 : 0 ≤ k) (hk1 : k < 1000) (hb0 : 0 < below) (hb1 : below < 1000)
    (B : Below A₀ base outer h₀) (F : Fr h₀ L hpA m) (X : (Mine.hd.heap_39 w.params).In h₀) (N : News h₀ L hpA led) (T : Top p loose mean mg mb h₀) (hkf : cs.kind = .function) (hd : dp + 2 < recursionLimit) (hu : un + 16 < cLine)
    (ret : ∀ d t tk2 h' tk', Fr h₀ L h' m → News h₀ L h' ((BG, lst [.ref S, .int (k + 1) tk2] cB) :: news) → 0 ≤ d → d < below → Q (.int d t) ⟨h', gsA, drA, tk', osA⟩) :
    wpAny (model PySem.Challenge.rw_xm0058_01.row.toRowW.prog w) (ktrTop dp un gd cn cs L a ccd cl outer) (call (.ref 73) [.ref BG, .int below tb]) Q E ⟨hpA, gsA, drA, tkA, osA⟩ :=
  draw_call w news hS hI hlen hk0 hk1 hb0 hb1 R.off _ _ _ _ _ _ _ _ _ _ _ _ _ _ _ _ _ _ _ _ _ _ _ _ _ _ B F X (fun q hq => N q (R.sub q hq)) T hkf hd hu ret
theorem pop_use {prog : Program} {w : World} {A : Around} {E : Value → Shared → Prop} {hpA : Heap} {gsA : Array GenState} {drA : Drawn} {tkA : Nat} {osA : OsState} {h₀ : Heap} {L : Addr} {m : Str → Option Value} {led news : Led} {D : Addr} {k : Int} {u : Tok} {us : List Value} {ns : List Int} {n : Nat} {Q : Value → Shared → Prop} (R : Rem D (lst us n) led news) (F : Fr h₀ L hpA m) (N : News h₀ L hpA led) (hI : IntsAre us ns) (h0 : 0 ≤ k) (hk : k < us.length) (hz : us.length ≤ 1000)
    (h : ∀ h' us' x t pre post, Fr h₀ L h' m → News h₀ L h' ((D, lst us' (n + 1)) :: news) → IntsAre us' (pre ++ post) → ns = pre ++ x :: post → Q (.int x t) ⟨h', gsA, drA, tkA, osA⟩) :
    wpAny (model prog w) A (call (.builtin "list.pop") [.ref D, .int k u]) Q E ⟨hpA, gsA, drA, tkA, osA⟩ :=
  pop_ints F (fun q hq => N q (R.sub q hq)) R.off hI h0 hk hz h
/-- what holds between the draws of the curve's numbers -/
def InvB (base : Led) (BG S cB : Nat) (i : Nat) (ys : List Value) (news : Led) : Prop :=
  ∃ (tkb : Tok) (rest : Led) (cs : List Int), news = (BG, lst [.ref S, .int (i : Int) tkb] cB) :: rest ∧ Off BG rest ∧ Sub base rest ∧ cs.length = i ∧ Cells rest ys (cs.map fun c : Int => (c : Rat)) ∧ ∀ c ∈ cs, -5 ≤ c ∧ c ≤ 5
/-- what holds between the draws of the places -/
def InvC (base : Led) (BG S cB PL : Nat) (i : Nat) (ys : List Value) (news : Led) : Prop :=
  ∃ (tkb : Tok) (rest : Led) (us : List Value) (ns xs : List Int) (n : Nat), news = (BG, lst [.ref S, .int (3 + (i : Int)) tkb] cB) :: (PL, lst us n) :: rest ∧ Off BG rest ∧ Off PL rest ∧ (@Ne Nat BG PL) ∧ Sub base rest ∧ IntsAre us ns ∧ IntsAre ys xs ∧ ys.length = i ∧ us.length + i = 8 ∧ (ns ++ xs).Nodup ∧ ∀ x ∈ ns ++ xs, -3 ≤ x ∧ x ≤ 4
theorem compend_B {h₀ : Heap} {L I C D : Addr} {m : Str → Option Value} {s₁ : Shared} {oI oC oD : Obj} {S : Led → Prop} {rp : Value → Led → Prop} {y : Value} {h' : Heap} {tk : Nat} {T BG : Addr} {oT oB oB' : Obj} {rest : Led}
    (F : Fr h₀ L h' m) (N : News h₀ L h' ((T, oT) :: (BG, oB) :: (I, oI) :: (C, oC) :: (D, oD) :: rest)) (off : Off3 I C D ((BG, oB') :: rest)) (hT : @Ne Nat T I ∧ @Ne Nat T C ∧ @Ne Nat T D) (hS : S ((BG, oB) :: (T, oT) :: rest)) (r : rp y ((BG, oB) :: (T, oT) :: rest)) :
    CompEnd h₀ L m s₁ I oI C oC D oD S rp y { s₁ with heap := h', toks := tk } := by
  refine CompEnd.intro F N ((BG, oB) :: (T, oT) :: rest) (fun p hp => ?_) ⟨off.1, hT, off.2⟩ hS r
  simp only [List.mem_cons] at hp ⊢
  rcases hp with h | h | h | h | h | h <;> simp [h]
theorem compend_C {h₀ : Heap} {L I C D : Addr} {m : Str → Option Value} {s₁ : Shared} {oI oC oD : Obj} {S : Led → Prop} {rp : Value → Led → Prop} {y : Value} {h' : Heap} {tk : Nat} {PL BG : Addr} {oP oP' oB oB' : Obj} {rest : Led}
    (F : Fr h₀ L h' m) (N : News h₀ L h' ((PL, oP) :: (BG, oB) :: (I, oI) :: (C, oC) :: (D, oD) :: rest)) (off : Off3 I C D ((BG, oB') :: (PL, oP') :: rest)) (hS : S ((BG, oB) :: (PL, oP) :: rest)) (r : rp y ((BG, oB) :: (PL, oP) :: rest)) :
    CompEnd h₀ L m s₁ I oI C oC D oD S rp y { s₁ with heap := h', toks := tk } := by
  refine CompEnd.intro F N ((BG, oB) :: (PL, oP) :: rest) (fun p hp => ?_) ⟨off.1, off.2.1, off.2.2⟩ hS r
  simp only [List.mem_cons] at hp ⊢
  rcases hp with h | h | h | h | h | h <;> simp [h]
theorem InvB.open {base : Led} {BG S cB i : Nat} {ys : List Value} {news : Led} {G : Prop} (h : InvB base BG S cB i ys news)
    (H : ∀ (tkb : Tok) (rest : Led) (cs : List Int), news = (BG, lst [.ref S, .int (i : Int) tkb] cB) :: rest → Off BG rest → Sub base rest → cs.length = i → Cells rest ys (cs.map fun c : Int => (c : Rat)) → (∀ c ∈ cs, -5 ≤ c ∧ c ≤ 5) → G) : G := by
  obtain ⟨a, b, c, d, e, f, g, i, j⟩ := h
  exact H a b c d e f g i j
theorem InvC.open {base : Led} {BG S cB PL i : Nat} {ys : List Value} {news : Led} {G : Prop} (h : InvC base BG S cB PL i ys news)
    (H : ∀ (tkb : Tok) (rest : Led) (us : List Value) (ns xs : List Int) (n : Nat), news = (BG, lst [.ref S, .int (3 + (i : Int)) tkb] cB) :: (PL, lst us n) :: rest → Off BG rest → Off PL rest → (@Ne Nat BG PL) → Sub base rest → IntsAre us ns → IntsAre ys xs → ys.length = i → us.length + i = 8 → (ns ++ xs).Nodup → (∀ x ∈ ns ++ xs, -3 ≤ x ∧ x ≤ 4) → G) : G := by
  obtain ⟨a, b, c, d, e, f, g, i, j, k, l, m, n, o, p, q, r⟩ := h
  exact H a b c d e f g i j k l m n o p q r
-- part L8
/-- a ledger without an address -/
def Wo (a : Nat) (l : Led) : Led := l.filter fun p => decide ((p.1 : Nat) ≠ a)
theorem wo_off {a : Nat} {l : Led} : Off a (Wo a l) := fun p hp => by
  have := (List.mem_filter.mp hp).2
  exact of_decide_eq_true this
theorem wo_mem {a : Nat} {l : Led} {p : Addr × Obj} (hp : p ∈ l) (h : p.1 ≠ a) : p ∈ Wo a l := List.mem_filter.mpr ⟨hp, decide_eq_true h⟩
theorem wo_news {h₀ h : Heap} {L a : Addr} {o : Obj} {l : Led} (N : News h₀ L h l) (hm : (a, o) ∈ l) : News h₀ L h ((a, o) :: Wo a l) := fun p hp => by
  rcases List.mem_cons.mp hp with rfl | hp
  · exact N _ hm
  · exact N p (List.mem_filter.mp hp).1
theorem wo_at {h₀ h : Heap} {L a b : Addr} {o o' : Obj} {l : Led} (N : News h₀ L h l) (hm : (a, o) ∈ l) (hp : (b, o') ∈ l) (hne : o' ≠ o) : (b, o') ∈ Wo a l := wo_mem hp fun e => by
  have e' : b = a := e
  subst e'
  exact hne (Option.some.inj ((N _ hp).1.symm.trans (N _ hm).1))
theorem cells_wo {h₀ h : Heap} {L a : Addr} {o : Obj} {l : Led} {vs : List Value} {qs : List Rat} (N : News h₀ L h l) (hm : (a, o) ∈ l) (ho : ∀ q u1 u2 c, fr q u1 u2 c ≠ o) (hc : Cells l vs qs) : Cells (Wo a l) vs qs :=
  ⟨hc.1, fun i v q hv hq => by
    obtain ⟨D, u1, u2, c, e, hmD⟩ := hc.2 i v q hv hq
    exact ⟨D, u1, u2, c, e, wo_at N hm hmD (ho _ _ _ _)⟩⟩
theorem fr_ne_cell {o : Obj} {v : Option Value} (hd : o.data = .cell v) (q : Rat) (u1 u2 : Tok) (c : Nat) : fr q u1 u2 c ≠ o := fun e => by
  rw [← e] at hd
  cases hd
theorem fr_ne_lst {vs : List Value} {n : Nat} (q : Rat) (u1 u2 : Tok) (c : Nat) : fr q u1 u2 c ≠ lst vs n := fun e => by
  have := congrArg Obj.cls e
  exact absurd (Value.type.inj this) (by decide)
theorem lst_ne_cell {o : Obj} {v : Option Value} (hd : o.data = .cell v) (vs : List Value) (n : Nat) : lst vs n ≠ o := fun e => by
  rw [← e] at hd
  cases hd
theorem perm3 {h₀ h : Heap} {L : Addr} {x0 x1 x2 : Addr × Obj} {l : Led} (N : News h₀ L h (x0 :: x1 :: x2 :: l)) : News h₀ L h (x2 :: x0 :: x1 :: l) := fun p hp => N p (by
  simp only [List.mem_cons] at hp ⊢
  rcases hp with h | h | h | h <;> simp [h])
theorem pick_mem {h₀ h : Heap} {L : Addr} {l : Led} {x : Addr × Obj} (NU : News h₀ L h l) (hm : x ∈ l) : x ∈ l := hm
-- part L9
theorem Cells.app {news : Led} {outs : List Value} {qs : List Rat} {y : Value} {q : Rat} (h : Cells news outs qs) (hc : Cell news y q) : Cells news (outs ++ [y]) (qs ++ [q]) := by
  have key := Cells.snoc (news := news) (i := qs.length) (outs := outs) (qs := qs ++ [q]) (y := y) (q := q) (by simpa using h) (by simp) hc
  rwa [show (qs ++ [q]).take (qs.length + 1) = qs ++ [q] from List.take_of_length_le (by simp)] at key
theorem rem3 {I C D BG : Addr} {oI oC oD oB : Obj} {rest : Led} (off : LCg.Off3 I C D ((BG, oB) :: rest)) (ho : Off BG rest) : Rem BG oB ((I, oI) :: (C, oC) :: (D, oD) :: (BG, oB) :: rest) ((I, oI) :: (C, oC) :: (D, oD) :: rest) := by
  have h := off.1
  exact Rem.skip (fun e => h.1 (Eq.symm e)) (Rem.skip (fun e => h.2.1 (Eq.symm e)) (Rem.skip (fun e => h.2.2 (Eq.symm e)) (Rem.here ho)))
theorem off_cons {a b : Addr} {o : Obj} {l : Led} (h : b ≠ a) (ho : Off a l) : Off a ((b, o) :: l) := fun p hp => by
  rcases List.mem_cons.mp hp with rfl | hp
  · exact h
  · exact ho p hp
theorem invB_step {base : Led} {BG S cB i : Nat} {ys : List Value} {news : Led} {t1 t2 t3 : Tok} {rest : Led} {cs : List Int} {T : Addr} {d : Int} {k : Nat}
    (hT : T ≠ BG) (hoff : Off BG rest) (hsub : Sub base rest) (hlen : cs.length = i) (hc : Cells rest ys (cs.map fun c : Int => (c : Rat))) (hcs : ∀ c ∈ cs, -5 ≤ c ∧ c ≤ 5) (h0 : 0 ≤ d) (h1 : d < 11)
    (hn : news = (BG, lst [.ref S, .int ((i : Int) + 1) t1] cB) :: (T, tup2 (d - 5) 1 t2 t3 k) :: rest) : InvB base BG S cB (i + 1) (ys ++ [.ref T]) news := by
  refine ⟨t1, (T, tup2 (d - 5) 1 t2 t3 k) :: rest, cs ++ [d - 5], ?_, off_cons hT hoff, fun p hp => List.mem_cons_of_mem _ (hsub p hp), by simp [hlen], ?_, ?_⟩
  · rw [hn]; rfl
  · rw [List.map_append]
    exact Cells.app (hc.mono fun p hp => List.mem_cons_of_mem _ hp) (Cell.int (x := d - 5) (List.mem_cons_self ..))
  · intro c hc
    rcases List.mem_append.mp hc with h | h
    · exact hcs c h
    · simp only [List.mem_singleton] at h
      omega
theorem compend_B' {h₀ : Heap} {L I C D : Addr} {m : Str → Option Value} {s₁ : Shared} {oI oC oD : Obj} {S : Led → Prop} {base : Led} {BG S' cB i : Nat} {ys : List Value} {h' : Heap} {tk : Nat} {t1 t2 t3 : Tok} {rest : Led} {cs : List Int} {T : Addr} {d : Int} {k : Nat} {oB' : Obj}
    (F : Fr h₀ L h' m) (N : News h₀ L h' ((T, tup2 (d - 5) 1 t2 t3 k) :: (BG, lst [.ref S', .int ((i : Int) + 1) t1] cB) :: (I, oI) :: (C, oC) :: (D, oD) :: rest)) (off : LCg.Off3 I C D ((BG, oB') :: rest)) (hT : T ≠ BG ∧ @Ne Nat T I ∧ @Ne Nat T C ∧ @Ne Nat T D)
    (hoff : Off BG rest) (hsub : Sub base rest) (hlen : cs.length = i) (hc : Cells rest ys (cs.map fun c : Int => (c : Rat))) (hcs : ∀ c ∈ cs, -5 ≤ c ∧ c ≤ 5) (h0 : 0 ≤ d) (h1 : d < 11) (hS : ∀ l, S l) :
    LCg.CompEnd h₀ L m s₁ I oI C oC D oD S (fun y news' => InvB base BG S' cB (i + 1) (ys ++ [y]) news') (.ref T) { s₁ with heap := h', toks := tk } :=
  compend_B F N off hT.2 (hS _) (invB_step hT.1 hoff hsub hlen hc hcs h0 h1 rfl)
theorem off1_off {D : Addr} : ∀ {l : Led}, LCg.Off1 D l → Off D l
  | [], _ => fun p hp => nomatch hp
  | _ :: _, h => fun q hq => by
    rcases List.mem_cons.mp hq with rfl | hq
    · exact h.1
    · exact off1_off h.2 q hq
theorem off_wo {a b : Nat} {l : Led} (h : Off a l) : Off a (Wo b l) := fun p hp => h p (List.mem_filter.mp hp).1
theorem wo_sub {a : Nat} {l : Led} : Sub (Wo a l) l := fun _ hp => (List.mem_filter.mp hp).1
theorem off_tail {a : Addr} {p : Addr × Obj} {l : Led} (h : Off a (p :: l)) : Off a l := fun q hq => h q (List.mem_cons_of_mem _ hq)
theorem stage {h₀ h : Heap} {L D BG a : Addr} {oD oB o : Obj} {rest : Led} (N : News h₀ L h ((D, oD) :: (BG, oB) :: rest)) (hm : (a, o) ∈ rest) : News h₀ L h ((a, o) :: (D, oD) :: (BG, oB) :: Wo a rest) := fun p hp => N p (by
  simp only [List.mem_cons] at hp ⊢
  rcases hp with h | h | h | h
  · exact .inr (.inr (h ▸ hm))
  · exact .inl h
  · exact .inr (.inl h)
  · exact .inr (.inr (wo_sub _ h)))
theorem tail2 {h₀ h : Heap} {L : Addr} {x y : Addr × Obj} {rest : Led} (N : News h₀ L h (x :: y :: rest)) : News h₀ L h rest := fun p hp => N p (List.mem_cons_of_mem _ (List.mem_cons_of_mem _ hp))
theorem wo_in {a b : Nat} {o o' : Obj} {l : Led} (hmU : (a, o) ∈ l) (hp : (b, o') ∈ l) (h : b ≠ a) : (b, o') ∈ Wo a l := wo_mem hp h
theorem off_in {a b : Nat} {o : Obj} {l : Led} (hmU : (b, o) ∈ l) (h : Off a l) : Off a (Wo b l) := off_wo h
theorem stageC {h₀ h : Heap} {L D BG c PL : Addr} {oD oB oc oP : Obj} {rest : Led} (N : News h₀ L h ((c, oc) :: (D, oD) :: (BG, oB) :: rest)) (hm : (PL, oP) ∈ rest) : News h₀ L h ((BG, oB) :: (PL, oP) :: (c, oc) :: (D, oD) :: Wo PL rest) := fun p hp => N p (by
  simp only [List.mem_cons] at hp ⊢
  rcases hp with h | h | h | h | h
  · exact .inr (.inr (.inl h))
  · exact .inr (.inr (.inr (h ▸ hm)))
  · exact .inl h
  · exact .inr (.inl h)
  · exact .inr (.inr (.inr (wo_sub _ h))))
theorem pop_perm {pre post xs : List Int} {x : Int} : (pre ++ x :: post ++ xs).Perm (pre ++ post ++ (xs ++ [x])) := by
  refine (List.Perm.append_right xs List.perm_middle).trans ?_
  rw [← List.append_assoc]
  exact (List.perm_append_singleton x _).symm
theorem IntsAre.snoc {ys : List Value} {xs : List Int} {x : Int} {t : Tok} (h : IntsAre ys xs) : IntsAre (ys ++ [.int x t]) (xs ++ [x]) := by
  induction h with
  | nil => exact .cons _ _ .nil
  | cons a u r ih => exact .cons a u ih
theorem compend_C' {h₀ : Heap} {L I C D : Addr} {m : Str → Option Value} {s₁ : Shared} {oI oC oD : Obj} {S : Led → Prop} {base : Led} {BG S' cB PL i n : Nat} {ys us us' : List Value} {ns xs pre post : List Int} {x : Int} {h' : Heap} {tk : Nat} {t t1 : Tok} {rest : Led} {oB' oP' : Obj}
    (F : Fr h₀ L h' m) (N : News h₀ L h' ((PL, lst us' n) :: (BG, lst [.ref S', .int (3 + (i : Int) + 1) t1] cB) :: (I, oI) :: (C, oC) :: (D, oD) :: rest)) (off : LCg.Off3 I C D ((BG, oB') :: (PL, oP') :: rest))
    (hoff : Off BG rest) (hoffP : Off PL rest) (hne : @Ne Nat BG PL) (hsub : Sub base rest) (hI' : IntsAre us' (pre ++ post)) (e : ns = pre ++ x :: post) (hys : IntsAre ys xs) (hyl : ys.length = i) (hul : us.length + i = 8) (hIu : IntsAre us ns) (nd : (ns ++ xs).Nodup) (hr : ∀ x ∈ ns ++ xs, -3 ≤ x ∧ x ≤ 4) (hS : ∀ l, S l) :
    LCg.CompEnd h₀ L m s₁ I oI C oC D oD S (fun y news' => InvC base BG S' cB PL (i + 1) (ys ++ [y]) news') (.int x t) { s₁ with heap := h', toks := tk } := by
  refine compend_C F N off (hS _) ⟨t1, rest, us', pre ++ post, xs ++ [x], n, ?_, hoff, hoffP, hne, hsub, hI', IntsAre.snoc hys, by simp [hyl], ?_, ?_, ?_⟩
  · rw [Int.add_assoc]; rfl
  · have h1 := hI'.length
    have h2 := hIu.length
    subst e
    simp only [List.length_append, List.length_cons] at h1 h2
    omega
  · subst e
    exact pop_perm.nodup_iff.mp nd
  · subst e
    exact fun y hy => hr y (pop_perm.mem_iff.mpr hy)
theorem remC {I C D BG PL : Addr} {oI oC oD oB oP : Obj} {rest : Led} (off : LCg.Off3 I C D ((BG, oB) :: (PL, oP) :: rest)) (ho : Off BG rest) (hne : @Ne Nat BG PL) : Rem BG oB ((I, oI) :: (C, oC) :: (D, oD) :: (BG, oB) :: (PL, oP) :: rest) ((I, oI) :: (C, oC) :: (D, oD) :: (PL, oP) :: rest) := by
  have h := off.1
  exact Rem.skip (fun e => h.1 (Eq.symm e)) (Rem.skip (fun e => h.2.1 (Eq.symm e)) (Rem.skip (fun e => h.2.2 (Eq.symm e)) (Rem.here (off_cons (fun e => hne (Eq.symm e)) ho))))
theorem remP {I C D BG PL : Addr} {oI oC oD oB oB' oP : Obj} {rest : Led} (off : LCg.Off3 I C D ((BG, oB) :: (PL, oP) :: rest)) (ho : Off PL rest) (hne : @Ne Nat BG PL) : Rem PL oP ((BG, oB') :: (I, oI) :: (C, oC) :: (D, oD) :: (PL, oP) :: rest) ((BG, oB') :: (I, oI) :: (C, oC) :: (D, oD) :: rest) := by
  have h := off.2.1
  exact Rem.skip hne (Rem.skip (fun e => h.1 (Eq.symm e)) (Rem.skip (fun e => h.2.1 (Eq.symm e)) (Rem.skip (fun e => h.2.2 (Eq.symm e)) (Rem.here ho))))
theorem up2 {h₀ h : Heap} {L : Addr} {a b x y : Addr × Obj} {l : Led} (NU : News h₀ L h (a :: b :: x :: y :: l)) {p : Addr × Obj} (hp : p ∈ l) : p ∈ x :: y :: l := List.mem_cons_of_mem _ (List.mem_cons_of_mem _ hp)
theorem up2a {h₀ h : Heap} {L : Addr} {a b x y : Addr × Obj} {l : Led} (NU : News h₀ L h (a :: b :: x :: y :: l)) : x ∈ x :: y :: l := List.mem_cons_self ..
theorem up2b {h₀ h : Heap} {L : Addr} {a b x y : Addr × Obj} {l : Led} (NU : News h₀ L h (a :: b :: x :: y :: l)) : y ∈ x :: y :: l := List.mem_cons_of_mem _ (List.mem_cons_self ..)
theorem off2 {h₀ h : Heap} {L c : Addr} {a b x y : Addr × Obj} {l : Led} (NU : News h₀ L h (a :: b :: x :: y :: l)) (h1 : x.1 ≠ c) (h2 : y.1 ≠ c) (ho : Off c l) : Off c (x :: y :: l) := off_cons h1 (off_cons h2 ho)
theorem stage_off {h₀ h : Heap} {L a : Addr} {o x y : Addr × Obj} {rest : Led} (NU : News h₀ L h (o :: x :: y :: Wo a rest)) : ∀ p ∈ Wo a rest, p.1 ≠ a := wo_off
-- part L10
/-- the curve's numbers at a place -/
def valAt (c0 c1 c2 x : Int) : Rat := (c0 : Rat) + (c1 : Rat) * (x : Rat) + (c2 : Rat) * (x : Rat) * (x : Rat)
theorem sm3 {c : Int} (h0 : -5 ≤ c) (h1 : c ≤ 5) : Sm 3 c := by unfold Sm; omega
theorem valAt_bd {c0 c1 c2 x : Int} (h0 : Sm 3 c0) (h1 : Sm 3 c1) (h2 : Sm 3 c2) (hx : Sm 3 x) : Bd 20 (valAt c0 c1 c2 x) :=
  Bd.add (Bd.add (Bd.intCast h0) (Bd.mul (Bd.intCast h1) (Bd.intCast hx) (Nat.le_refl _)) (Nat.le_refl _)) (Bd.mul (Bd.mul (Bd.intCast h2) (Bd.intCast hx) (Nat.le_refl _)) (Bd.intCast hx) (Nat.le_refl _)) (Nat.le_refl _)
/-- a point of the curve lies there -/
def Pt (l : Led) (v : Value) (x : Int) (y : Rat) : Prop := ∃ P D t e u z c, v = .ref P ∧ (P, tupo x D t e) ∈ l ∧ (D, fr y u z c) ∈ l
def Pts (l : Led) (f : Int → Rat) (vs : List Value) (xs : List Int) : Prop := vs.length = xs.length ∧ ∀ (i : Nat) (v : Value) (x : Int), vs[i]? = some v → xs[i]? = some x → Pt l v x (f x)
theorem Pt.mono {l l' : Led} {v : Value} {x : Int} {y : Rat} (h : Pt l v x y) (hs : ∀ p ∈ l, p ∈ l') : Pt l' v x y := by
  obtain ⟨P, D, t, e, u, z, c, hv, h1, h2⟩ := h
  exact ⟨P, D, t, e, u, z, c, hv, hs _ h1, hs _ h2⟩
theorem Pts.mono {l l' : Led} {f : Int → Rat} {vs : List Value} {xs : List Int} (h : Pts l f vs xs) (hs : ∀ p ∈ l, p ∈ l') : Pts l' f vs xs := ⟨h.1, fun i v x a b => (h.2 i v x a b).mono hs⟩
theorem Pts.nil {l : Led} {f : Int → Rat} : Pts l f [] [] := ⟨rfl, fun i v x a _ => by simp at a⟩
theorem Pts.snoc {l : Led} {f : Int → Rat} {i : Nat} {vs : List Value} {xs : List Int} {v : Value} {x : Int} (h : Pts l f vs (xs.take i)) (hx : xs[i]? = some x) (hp : Pt l v x (f x)) : Pts l f (vs ++ [v]) (xs.take (i + 1)) := by
  have hi : i < xs.length := (List.getElem?_eq_some_iff.mp hx).1
  have e : xs.take (i + 1) = xs.take i ++ [x] := by rw [List.take_add_one, hx]; rfl
  rw [e]
  refine ⟨by simp [h.1], fun j u y hu hy => ?_⟩
  rw [List.getElem?_append] at hu hy
  by_cases hj : j < vs.length
  · rw [if_pos hj] at hu
    rw [if_pos (h.1 ▸ hj)] at hy
    exact h.2 j u y hu hy
  · rw [if_neg hj] at hu
    rw [if_neg (h.1 ▸ hj)] at hy
    have h1 : j - vs.length = 0 := by
      cases hk : j - vs.length with
      | zero => rfl
      | succ k => rw [hk] at hu; simp at hu
    rw [h1] at hu
    rw [← h.1, h1] at hy
    simp only [List.getElem?_cons_zero, Option.some.injEq] at hu hy
    subst hu
    subst hy
    exact hp
theorem tupo_ne_cell {o : Obj} {v : Option Value} (hd : o.data = .cell v) (x : Int) (D : Addr) (u : Tok) (c : Nat) : tupo x D u c ≠ o := fun e => by
  rw [← e] at hd
  cases hd
theorem pts_wo {h₀ h : Heap} {L a : Addr} {o : Obj} {ov : Option Value} {l : Led} {f : Int → Rat} {vs : List Value} {xs : List Int} (N : News h₀ L h l) (hm : (a, o) ∈ l) (hd : o.data = .cell ov) (hp : Pts l f vs xs) : Pts (Wo a l) f vs xs :=
  ⟨hp.1, fun i v x h1 h2 => by
    obtain ⟨P, D, t, e, u, z, c, hv, m1, m2⟩ := hp.2 i v x h1 h2
    exact ⟨P, D, t, e, u, z, c, hv, wo_at N hm m1 (tupo_ne_cell hd _ _ _ _), wo_at N hm m2 (fr_ne_cell hd _ _ _ _)⟩⟩
theorem Cells.three {l : Led} {vs : List Value} {a b c : Rat} (h : Cells l vs [a, b, c]) : ∃ D0 D1 D2 u0 v0 k0 u1 v1 k1 u2 v2 k2, vs = [.ref D0, .ref D1, .ref D2] ∧ (D0, fr a u0 v0 k0) ∈ l ∧ (D1, fr b u1 v1 k1) ∈ l ∧ (D2, fr c u2 v2 k2) ∈ l := by
  have h1 := h.1
  obtain ⟨x, y, z, rfl⟩ := len3 h1
  · obtain ⟨D0, u0, v0, k0, rfl, m0⟩ := h.2 0 _ _ rfl rfl
    obtain ⟨D1, u1, v1, k1, rfl, m1⟩ := h.2 1 _ _ rfl rfl
    obtain ⟨D2, u2, v2, k2, rfl, m2⟩ := h.2 2 _ _ rfl rfl
    exact ⟨D0, D1, D2, u0, v0, k0, u1, v1, k1, u2, v2, k2, rfl, m0, m1, m2⟩
theorem at_use {w : World} {news : Led} {n j cL : Nat} {DL : Addr} {vs : List Value} {q0 q1 q2 : Rat} {x : Int} {tx : Tok}
    {p : Program} {loose : List Str} {mean : ExcName → Option Value} {mg mb : Str → Option Value} {dp un : Nat} {gd : Option (List Code)} {cn : Str} {cs : Scope} {a : Addr} {ccd : Value} {cl : List (Str × Addr)} {outer : List Env} {A₀ : Around} {base h₀ : Heap} {L : Addr} {m : Str → Option Value} {hpA : Heap} {gsA : Array GenState} {drA : Drawn} {tkA : Nat} {osA : OsState}
    {Q E : Value → Shared → Prop}
    (hmL : (DL, lst vs cL) ∈ news) (hc : Cells news vs [q0, q1, q2]) (b0 : Bd n q0) (b1 : Bd n q1) (b2 : Bd n q2) (hn : n ≤ 700) (hs : Sm (j + 1) x) (hj : j ≤ 100)
    (B : Below A₀ base outer h₀) (F : Fr h₀ L hpA m) (X : (Mine.hd.heap_39 w.params).In h₀) (N : News h₀ L hpA news) (T : Top p loose mean mg mb h₀) (hkf : cs.kind = .function)
    (hd : dp + 6 < recursionLimit) (hu : un + 8 * 6 < cLine)
    (ret : ∀ D u1 u2 c h' tk', Fr h₀ L h' m → News h₀ L h' ((D, fr (q0 + q1 * x + q2 * x * x) u1 u2 c) :: news) → AllLt D news → Q (.ref D) ⟨h', gsA, drA, tk', osA⟩) :
    wpAny (model PySem.Challenge.rw_xm0058_01.row.toRowW.prog w) (ktrTop dp un gd cn cs L a ccd cl outer) (call (.ref 92) [.ref DL, .int x tx]) Q E ⟨hpA, gsA, drA, tkA, osA⟩ := by
  obtain ⟨D0, D1, D2, u0, v0, k0, u1, v1, k1, u2, v2, k2, rfl, m0, m1, m2⟩ := hc.three
  refine use (at_call w news hmL m0 m1 m2 (Pr.of b0) (Pr.of b1) (Pr.of b2) hn hs hj) B F X N T hkf hd hu fun r tl h' tk' F' N' hl hr => ?_
  obtain ⟨D, u1, u2, c, rfl, rfl⟩ := hr
  exact ret D u1 u2 c h' tk' F' N' (hl _ (List.mem_singleton.mpr rfl))
theorem cells3 {l : Led} {vs : List Value} {cs : List Int} (h : Cells l vs (cs.map fun c : Int => (c : Rat))) (hl : cs.length = 3) (hr : ∀ c ∈ cs, -5 ≤ c ∧ c ≤ 5) : ∃ c0 c1 c2, cs = [c0, c1, c2] ∧ Cells l vs [(c0 : Rat), (c1 : Rat), (c2 : Rat)] ∧ Sm 3 c0 ∧ Sm 3 c1 ∧ Sm 3 c2 := by
  obtain ⟨a, b, c, rfl⟩ := len3 hl
  exact ⟨a, b, c, rfl, h, sm3 (hr a (by simp)).1 (hr a (by simp)).2, sm3 (hr b (by simp)).1 (hr b (by simp)).2, sm3 (hr c (by simp)).1 (hr c (by simp)).2⟩
/-- what the points' comprehension has made -/
def InvD (f : Int → Rat) (xs : List Int) (i : Nat) (outs : List Value) (T : Led) : Prop := Pts T f outs (xs.take i)
theorem stage1 {h₀ h : Heap} {L D a : Addr} {oD o : Obj} {rest : Led} (N : News h₀ L h ((D, oD) :: rest)) (hm : (a, o) ∈ rest) : News h₀ L h ((a, o) :: (D, oD) :: Wo a rest) := fun p hp => N p (by
  simp only [List.mem_cons] at hp ⊢
  rcases hp with h | h | h
  · exact .inr (h ▸ hm)
  · exact .inl h
  · exact .inr (wo_sub _ h))
theorem stage1_off {h₀ h : Heap} {L a : Addr} {o x : Addr × Obj} {rest : Led} (NU : News h₀ L h (o :: x :: Wo a rest)) : ∀ p ∈ Wo a rest, p.1 ≠ a := wo_off
theorem tail1 {h₀ h : Heap} {L : Addr} {x : Addr × Obj} {rest : Led} (N : News h₀ L h (x :: rest)) : News h₀ L h rest := fun p hp => N p (List.mem_cons_of_mem _ hp)
theorem packD {h₀ h : Heap} {L DP : Addr} {oP : Obj} {T led3 : Led} {x y : Addr × Obj} {f : Int → Rat} {outs : List Value} {xs : List Int} (N : News h₀ L h ((DP, oP) :: (T ++ x :: y :: led3))) (o1 : ∀ q ∈ T ++ x :: y :: led3, q.1 ≠ DP) (hJ : Pts T f outs xs) :
    ∃ led4 : Led, News h₀ L h ((DP, oP) :: led4) ∧ Sub led3 led4 ∧ Pts led4 f outs xs ∧ Off DP led4 :=
  ⟨_, N, fun p hp => List.mem_append_right _ (List.mem_cons_of_mem _ (List.mem_cons_of_mem _ hp)), hJ.mono fun p hp => List.mem_append_left _ hp, o1⟩
/-- what the comprehension of the sum keeps: the ledger stands -/
def InvE (led : Led) (es : List Int) (i : Nat) (ys : List Value) (news : Led) : Prop := news = led ∧ ys.length = i ∧ IntsAre ys (es.take i)
theorem InvE.snoc {led : Led} {es : List Int} {i : Nat} {ys : List Value} {e : Int} {t : Tok} (hl : ys.length = i) (h : IntsAre ys (es.take i)) (he : es[i]? = some e) : InvE led es (i + 1) (ys ++ [.int e t]) led := by
  refine ⟨rfl, by simp [hl], ?_⟩
  rw [List.take_add_one, he]
  exact IntsAre.snoc h
theorem up3 {h₀ h : Heap} {L : Addr} {a b c : Addr × Obj} {l : Led} (NU : News h₀ L h (a :: b :: c :: l)) : ∀ p ∈ l, p ∈ a :: b :: c :: l := fun p hp => List.mem_cons_of_mem _ (List.mem_cons_of_mem _ (List.mem_cons_of_mem _ hp))
theorem up3b {h₀ h : Heap} {L : Addr} {a b c : Addr × Obj} {l : Led} (NU : News h₀ L h (a :: b :: c :: l)) : b ∈ a :: b :: c :: l := List.mem_cons_of_mem _ (List.mem_cons_self ..)
theorem up3c {h₀ h : Heap} {L : Addr} {a b c : Addr × Obj} {l : Led} (NU : News h₀ L h (a :: b :: c :: l)) : c ∈ a :: b :: c :: l := List.mem_cons_of_mem _ (List.mem_cons_of_mem _ (List.mem_cons_self ..))
theorem compend_E {h₀ : Heap} {L I C D : Addr} {m : Str → Option Value} {s₁ : Shared} {oI oC oD : Obj} {S : Led → Prop} {led : Led} {es : List Int} {i : Nat} {ys : List Value} {e : Int} {t : Tok} {h' : Heap} {tk : Nat} (F : Fr h₀ L h' m) (N : News h₀ L h' ((I, oI) :: (C, oC) :: (D, oD) :: led)) (off : LCg.Off3 I C D led)
    (hl : ys.length = i) (hy : IntsAre ys (es.take i)) (he : es[i]? = some e) (hS : ∀ l, S l) :
    LCg.CompEnd h₀ L m s₁ I oI C oC D oD S (fun y news' => InvE led es (i + 1) (ys ++ [y]) news') (.int e t) { s₁ with heap := h', toks := tk } :=
  LCg.CompEnd.intro F N led (fun _ hp => hp) off (hS _) (InvE.snoc hl hy he)
theorem Pts.open4 {l : Led} {f : Int → Rat} {vs : List Value} {x0 x1 x2 x3 : Int} {G : Prop} (h : Pts l f vs [x0, x1, x2, x3])
    (H : ∀ P0 P1 P2 P3 D0 D1 D2 D3 t0 e0 u0 z0 k0 t1 e1 u1 z1 k1 t2 e2 u2 z2 k2 t3 e3 u3 z3 k3, vs = [.ref P0, .ref P1, .ref P2, .ref P3] →
      (P0, tupo x0 D0 t0 e0) ∈ l → (P1, tupo x1 D1 t1 e1) ∈ l → (P2, tupo x2 D2 t2 e2) ∈ l → (P3, tupo x3 D3 t3 e3) ∈ l →
      (D0, fr (f x0) u0 z0 k0) ∈ l → (D1, fr (f x1) u1 z1 k1) ∈ l → (D2, fr (f x2) u2 z2 k2) ∈ l → (D3, fr (f x3) u3 z3 k3) ∈ l → G) : G := by
  have h1 := h.1
  obtain ⟨a, b, c, d, rfl⟩ := len4 h1
  obtain ⟨P0, D0, t0, e0, u0, z0, k0, rfl, m0, n0⟩ := h.2 0 _ _ rfl rfl
  obtain ⟨P1, D1, t1, e1, u1, z1, k1, rfl, m1, n1⟩ := h.2 1 _ _ rfl rfl
  obtain ⟨P2, D2, t2, e2, u2, z2, k2, rfl, m2, n2⟩ := h.2 2 _ _ rfl rfl
  obtain ⟨P3, D3, t3, e3, u3, z3, k3, rfl, m3, n3⟩ := h.2 3 _ _ rfl rfl
  exact H P0 P1 P2 P3 D0 D1 D2 D3 t0 e0 u0 z0 k0 t1 e1 u1 z1 k1 t2 e2 u2 z2 k2 t3 e3 u3 z3 k3 rfl m0 m1 m2 m3 n0 n1 n2 n3
theorem Cells.open3 {l : Led} {vs : List Value} {a b c : Rat} {G : Prop} (h : Cells l vs [a, b, c])
    (H : ∀ D0 D1 D2 u0 v0 k0 u1 v1 k1 u2 v2 k2, vs = [.ref D0, .ref D1, .ref D2] → (D0, fr a u0 v0 k0) ∈ l → (D1, fr b u1 v1 k1) ∈ l → (D2, fr c u2 v2 k2) ∈ l → G) : G := by
  obtain ⟨D0, D1, D2, u0, v0, k0, u1, v1, k1, u2, v2, k2, rfl, m0, m1, m2⟩ := h.three
  exact H D0 D1 D2 u0 v0 k0 u1 v1 k1 u2 v2 k2 rfl m0 m1 m2
theorem ints5_open {zs : List Value} {ns xs : List Int} {G : Prop} (h : IntsAre zs xs) (hl : zs.length = 5) (nd : (ns ++ xs).Nodup) (hr : ∀ x ∈ ns ++ xs, -3 ≤ x ∧ x ≤ 4)
    (H : ∀ x0 x1 x2 x3 x4 t0 t1 t2 t3 t4, zs = [.int x0 t0, .int x1 t1, .int x2 t2, .int x3 t3, .int x4 t4] →
      (x0 ≠ x1 ∧ x0 ≠ x2 ∧ x0 ≠ x3 ∧ x0 ≠ x4 ∧ x1 ≠ x2 ∧ x1 ≠ x3 ∧ x1 ≠ x4 ∧ x2 ≠ x3 ∧ x2 ≠ x4 ∧ x3 ≠ x4) → Sm 3 x0 → Sm 3 x1 → Sm 3 x2 → Sm 3 x3 → Sm 3 x4 → G) : G := by
  obtain ⟨x0, t0, _, _, rfl, rfl, h0, hl0⟩ := ints_cons h hl
  obtain ⟨x1, t1, _, _, rfl, rfl, h1, hl1⟩ := ints_cons h0 hl0
  obtain ⟨x2, t2, _, _, rfl, rfl, h2, hl2⟩ := ints_cons h1 hl1
  obtain ⟨x3, t3, _, _, rfl, rfl, h3, hl3⟩ := ints_cons h2 hl2
  obtain ⟨x4, t4, _, _, rfl, rfl, h4, hl4⟩ := ints_cons h3 hl3
  cases h4 with
  | cons => cases hl4
  | nil =>
    have nd' := (List.nodup_append.mp nd).2.1
    simp only [List.nodup_cons, List.mem_cons, List.not_mem_nil, or_false, not_or] at nd'
    have sm : ∀ x ∈ [x0, x1, x2, x3, x4], Sm 3 x := fun x hx => sm3 (by have := (hr x (List.mem_append_right _ hx)).1; omega) (by have := (hr x (List.mem_append_right _ hx)).2; omega)
    exact H x0 x1 x2 x3 x4 t0 t1 t2 t3 t4 rfl ⟨nd'.1.1, nd'.1.2.1, nd'.1.2.2.1, nd'.1.2.2.2, nd'.2.1.1, nd'.2.1.2.1, nd'.2.1.2.2, nd'.2.2.1.1, nd'.2.2.1.2, nd'.2.2.2.1⟩ (sm _ (by simp)) (sm _ (by simp)) (sm _ (by simp)) (sm _ (by simp)) (sm _ (by simp))
-- part L11
theorem cast_ne {x y : Int} (h : x ≠ y) : (y : Rat) - (x : Rat) ≠ 0 := by
  intro e
  rw [← Rat.intCast_sub] at e
  have := Rat.intCast_eq_zero_iff.mp e
  omega
/-- three points of the curve tell its numbers -/
theorem solve_row {c0 c1 c2 x0 x1 x2 : Rat} {s t : Rat} (h01 : x1 - x0 ≠ 0) (h02 : x2 - x0 ≠ 0) (h12 : x2 - x1 ≠ 0)
    (hs : s = ((c0 + c1 * x1 + c2 * x1 * x1) - (c0 + c1 * x0 + c2 * x0 * x0)) / (x1 - x0)) (ht : t = (((c0 + c1 * x2 + c2 * x2 * x2) - (c0 + c1 * x0 + c2 * x0 * x0)) - (x2 - x0) * s) / ((x2 - x0) * (x2 - x1))) :
    [(c0 + c1 * x0 + c2 * x0 * x0) - x0 * s + x0 * x1 * t, s - (x1 + x0) * t, t] = [c0, c1, c2] := by
  have e1 : s = c1 + c2 * (x0 + x1) := by rw [hs]; grind
  have e2 : t = c2 := by rw [ht, e1]; grind
  rw [e2, e1]
  refine congr (congrArg _ ?_) (congr (congrArg _ ?_) rfl) <;> grind
theorem newton_at {c0 c1 c2 x0 x1 x2 x : Int} (h01 : x0 ≠ x1) (h02 : x0 ≠ x2) (h12 : x1 ≠ x2) : newton x0 x1 x2 x (valAt c0 c1 c2 x0) (valAt c0 c1 c2 x1) (valAt c0 c1 c2 x2) = valAt c0 c1 c2 x := by
  have a1 := cast_ne h01
  have a2 := cast_ne h02
  have a3 := cast_ne h12
  unfold newton valAt
  simp only [Rat.intCast_sub, Rat.intCast_mul]
  grind
theorem lagrange_at {c0 c1 c2 x0 x1 x2 x : Int} (h01 : x0 ≠ x1) (h02 : x0 ≠ x2) (h12 : x1 ≠ x2) : lagrange x0 x1 x2 x (valAt c0 c1 c2 x0) (valAt c0 c1 c2 x1) (valAt c0 c1 c2 x2) = valAt c0 c1 c2 x := by
  have a1 := cast_ne h01
  have a2 := cast_ne h02
  have a3 := cast_ne h12
  have b1 := cast_ne (Ne.symm h01)
  have b2 := cast_ne (Ne.symm h02)
  have b3 := cast_ne (Ne.symm h12)
  unfold lagrange share valAt
  simp only [Rat.intCast_sub, if_true, show ¬((1 : Int) = 0) from by decide, show ¬((2 : Int) = 0) from by decide, show ¬((2 : Int) = 1) from by decide, if_false]
  grind
theorem due_mem {l : Led} {D : Addr} {n : Int} {q : Rat} {u v : Tok} {k : Nat} (e : ((n : Int) : Rat) = q) (h : (D, tup2 n 1 u v k) ∈ l) : (D, fr q u v k) ∈ l := by
  subst e
  exact h
theorem due_eq {c0 c1 c2 x : Int} : (([c0 * x ^ 0, c1 * x ^ 1, c2 * x ^ 2].sum : Int) : Rat) = valAt c0 c1 c2 x := by
  simp only [List.sum_cons, List.sum_nil, valAt]
  rw [Int.pow_succ, Int.pow_succ, Int.pow_succ, Int.pow_zero]
  simp only [Rat.intCast_add, Rat.intCast_mul, Rat.intCast_one, Rat.intCast_zero]
  grind
theorem curve_solved_use {w : World} {news : Led} {DL P0 P1 P2 D0 D1 D2 cL u0 z0 k0 u1 z1 k1 u2 z2 k2 t0 t1 t2 e0 e1 e2} {c0 c1 c2 x0 x1 x2 : Int}
    {p : Program} {loose : List Str} {mean : ExcName → Option Value} {mg mb : Str → Option Value} {dp un : Nat} {gd : Option (List Code)} {cn : Str} {cs : Scope} {a : Addr} {ccd : Value} {cl : List (Str × Addr)} {outer : List Env} {A₀ : Around} {base h₀ : Heap} {L : Addr} {m : Str → Option Value} {hpA : Heap} {gsA : Array GenState} {drA : Drawn} {tkA : Nat} {osA : OsState}
    {Q E : Value → Shared → Prop}
    (hmL : (DL, lst [.ref P0, .ref P1, .ref P2] cL) ∈ news) (hp0 : (P0, tupo x0 D0 t0 e0) ∈ news) (hp1 : (P1, tupo x1 D1 t1 e1) ∈ news) (hp2 : (P2, tupo x2 D2 t2 e2) ∈ news)
    (hm0 : (D0, fr (valAt c0 c1 c2 x0) u0 z0 k0) ∈ news) (hm1 : (D1, fr (valAt c0 c1 c2 x1) u1 z1 k1) ∈ news) (hm2 : (D2, fr (valAt c0 c1 c2 x2) u2 z2 k2) ∈ news)
    (sc0 : Sm 3 c0) (sc1 : Sm 3 c1) (sc2 : Sm 3 c2) (sx0 : Sm 3 x0) (sx1 : Sm 3 x1) (sx2 : Sm 3 x2) (h01 : x0 ≠ x1) (h02 : x0 ≠ x2) (h12 : x1 ≠ x2)
    (B : Below A₀ base outer h₀) (F : Fr h₀ L hpA m) (X : (Mine.hd.heap_39 w.params).In h₀) (N : News h₀ L hpA news) (T : Top p loose mean mg mb h₀) (hkf : cs.kind = .function)
    (hd : dp + 16 < recursionLimit) (hu : un + 8 * 16 < cLine)
    (ret : ∀ R c vs nw h' tk', Fr h₀ L h' m → News h₀ L h' nw → Sub news nw → (R, lst vs c) ∈ nw → Cells nw vs [(c0 : Rat), (c1 : Rat), (c2 : Rat)] → Q (.ref R) ⟨h', gsA, drA, tk', osA⟩) :
    wpAny (model PySem.Challenge.rw_xm0058_01.row.toRowW.prog w) (ktrTop dp un gd cn cs L a ccd cl outer) (call (.ref 85) [.ref DL]) Q E ⟨hpA, gsA, drA, tkA, osA⟩ := by
  refine guse (solvedlaw_call w news hmL hp0 hp1 hp2 hm0 hm1 hm2 (valAt_bd sc0 sc1 sc2 sx0) (valAt_bd sc0 sc1 sc2 sx1) (valAt_bd sc0 sc1 sc2 sx2) (sx0.mono (by decide)) (sx1.mono (by decide)) (sx2.mono (by decide)) h01 h02 h12 rfl rfl) B F X N T hkf hd hu fun r nw h' tk' F' N' g hr => ?_
  obtain ⟨R, c, vs, rfl, hm, hc⟩ := hr
  refine ret R c vs nw h' tk' F' N' g.1 hm ?_
  have e := solve_row (c0 := (c0 : Rat)) (c1 := (c1 : Rat)) (c2 := (c2 : Rat)) (cast_ne h01) (cast_ne h02) (cast_ne h12) rfl rfl
  exact e ▸ hc
theorem curve_diff_use {w : World} {news : Led} {DL P0 P1 P2 D0 D1 D2 cL u0 z0 k0 u1 z1 k1 u2 z2 k2 t0 t1 t2 e0 e1 e2} {c0 c1 c2 x0 x1 x2 : Int} {x : Int} {tx : Tok}
    {p : Program} {loose : List Str} {mean : ExcName → Option Value} {mg mb : Str → Option Value} {dp un : Nat} {gd : Option (List Code)} {cn : Str} {cs : Scope} {a : Addr} {ccd : Value} {cl : List (Str × Addr)} {outer : List Env} {A₀ : Around} {base h₀ : Heap} {L : Addr} {m : Str → Option Value} {hpA : Heap} {gsA : Array GenState} {drA : Drawn} {tkA : Nat} {osA : OsState}
    {Q E : Value → Shared → Prop}
    (hmL : (DL, lst [.ref P0, .ref P1, .ref P2] cL) ∈ news) (hp0 : (P0, tupo x0 D0 t0 e0) ∈ news) (hp1 : (P1, tupo x1 D1 t1 e1) ∈ news) (hp2 : (P2, tupo x2 D2 t2 e2) ∈ news)
    (hm0 : (D0, fr (valAt c0 c1 c2 x0) u0 z0 k0) ∈ news) (hm1 : (D1, fr (valAt c0 c1 c2 x1) u1 z1 k1) ∈ news) (hm2 : (D2, fr (valAt c0 c1 c2 x2) u2 z2 k2) ∈ news)
    (sc0 : Sm 3 c0) (sc1 : Sm 3 c1) (sc2 : Sm 3 c2) (sx0 : Sm 3 x0) (sx1 : Sm 3 x1) (sx2 : Sm 3 x2) (sx : Sm 3 x) (h01 : x0 ≠ x1) (h02 : x0 ≠ x2) (h12 : x1 ≠ x2)
    (B : Below A₀ base outer h₀) (F : Fr h₀ L hpA m) (X : (Mine.hd.heap_39 w.params).In h₀) (N : News h₀ L hpA news) (T : Top p loose mean mg mb h₀) (hkf : cs.kind = .function)
    (hd : dp + 8 < recursionLimit) (hu : un + 8 * 8 < cLine)
    (ret : ∀ D u1 u2 c h' tk', Fr h₀ L h' m → News h₀ L h' ((D, fr (valAt c0 c1 c2 x) u1 u2 c) :: news) → AllLt D news → Q (.ref D) ⟨h', gsA, drA, tk', osA⟩) :
    wpAny (model PySem.Challenge.rw_xm0058_01.row.toRowW.prog w) (ktrTop dp un gd cn cs L a ccd cl outer) (call (.ref 106) [.ref DL, .int x tx]) Q E ⟨hpA, gsA, drA, tkA, osA⟩ := by
  refine use (diff_call w news (n := 20) hmL hp0 hp1 hp2 hm0 hm1 hm2 (Pr.of (valAt_bd sc0 sc1 sc2 sx0)) (Pr.of (valAt_bd sc0 sc1 sc2 sx1)) (Pr.of (valAt_bd sc0 sc1 sc2 sx2)) (by decide) (sx0.mono (by decide)) (sx1.mono (by decide)) (sx2.mono (by decide)) (sx.mono (by decide)) h01 h02 h12) B F X N T hkf hd hu fun r tl h' tk' F' N' hl hr => ?_
  obtain ⟨D, u1, u2, c, rfl, rfl⟩ := hr
  rw [newton_at h01 h02 h12] at N'
  exact ret D u1 u2 c h' tk' F' N' (hl _ (List.mem_singleton.mpr rfl))
theorem curve_prod_use {w : World} {news : Led} {DL P0 P1 P2 D0 D1 D2 cL u0 z0 k0 u1 z1 k1 u2 z2 k2 t0 t1 t2 e0 e1 e2} {c0 c1 c2 x0 x1 x2 : Int} {x : Int} {tx : Tok}
    {p : Program} {loose : List Str} {mean : ExcName → Option Value} {mg mb : Str → Option Value} {dp un : Nat} {gd : Option (List Code)} {cn : Str} {cs : Scope} {a : Addr} {ccd : Value} {cl : List (Str × Addr)} {outer : List Env} {A₀ : Around} {base h₀ : Heap} {L : Addr} {m : Str → Option Value} {hpA : Heap} {gsA : Array GenState} {drA : Drawn} {tkA : Nat} {osA : OsState}
    {Q E : Value → Shared → Prop}
    (hmL : (DL, lst [.ref P0, .ref P1, .ref P2] cL) ∈ news) (hp0 : (P0, tupo x0 D0 t0 e0) ∈ news) (hp1 : (P1, tupo x1 D1 t1 e1) ∈ news) (hp2 : (P2, tupo x2 D2 t2 e2) ∈ news)
    (hm0 : (D0, fr (valAt c0 c1 c2 x0) u0 z0 k0) ∈ news) (hm1 : (D1, fr (valAt c0 c1 c2 x1) u1 z1 k1) ∈ news) (hm2 : (D2, fr (valAt c0 c1 c2 x2) u2 z2 k2) ∈ news)
    (sc0 : Sm 3 c0) (sc1 : Sm 3 c1) (sc2 : Sm 3 c2) (sx0 : Sm 3 x0) (sx1 : Sm 3 x1) (sx2 : Sm 3 x2) (sx : Sm 3 x) (h01 : x0 ≠ x1) (h02 : x0 ≠ x2) (h12 : x1 ≠ x2)
    (B : Below A₀ base outer h₀) (F : Fr h₀ L hpA m) (X : (Mine.hd.heap_39 w.params).In h₀) (N : News h₀ L hpA news) (T : Top p loose mean mg mb h₀) (hkf : cs.kind = .function)
    (hd : dp + 8 < recursionLimit) (hu : un + 8 * 8 < cLine)
    (ret : ∀ D u1 u2 c h' tk', Fr h₀ L h' m → News h₀ L h' ((D, fr (valAt c0 c1 c2 x) u1 u2 c) :: news) → AllLt D news → Q (.ref D) ⟨h', gsA, drA, tk', osA⟩) :
    wpAny (model PySem.Challenge.rw_xm0058_01.row.toRowW.prog w) (ktrTop dp un gd cn cs L a ccd cl outer) (call (.ref 120) [.ref DL, .int x tx]) Q E ⟨hpA, gsA, drA, tkA, osA⟩ := by
  refine use (prod_call w news (n := 20) hmL hp0 hp1 hp2 hm0 hm1 hm2 (Pr.of (valAt_bd sc0 sc1 sc2 sx0)) (Pr.of (valAt_bd sc0 sc1 sc2 sx1)) (Pr.of (valAt_bd sc0 sc1 sc2 sx2)) (by decide) (sx0.mono (by decide)) (sx1.mono (by decide)) (sx2.mono (by decide)) (sx.mono (by decide)) h01 h02 h12) B F X N T hkf hd hu fun r tl h' tk' F' N' hl hr => ?_
  obtain ⟨D, u1, u2, c, rfl, rfl⟩ := hr
  rw [lagrange_at h01 h02 h12] at N'
  exact ret D u1 u2 c h' tk' F' N' (hl _ (List.mem_singleton.mpr rfl))
/-- the row's value at a place is Lagrange's form -/
theorem row_at {x0 x1 x2 x y0 y1 y2 : Rat} {s t : Rat} (h01 : x1 - x0 ≠ 0) (h02 : x2 - x0 ≠ 0) (h12 : x2 - x1 ≠ 0) (hs : s = (y1 - y0) / (x1 - x0)) (ht : t = ((y2 - y0) - (x2 - x0) * s) / ((x2 - x0) * (x2 - x1))) :
    (y0 - x0 * s + x0 * x1 * t) + (s - (x1 + x0) * t) * x + t * x * x = y0 * ((x - x1) / (x0 - x1) * ((x - x2) / (x0 - x2))) + y1 * ((x - x0) / (x1 - x0) * ((x - x2) / (x1 - x2))) + y2 * ((x - x0) / (x2 - x0) * ((x - x1) / (x2 - x1))) := by
  have h3 : (x2 - x0) * (x2 - x1) ≠ 0 := fun e => by
    rcases Rat.mul_eq_zero.mp e with h | h
    · exact h02 h
    · exact h12 h
  have b1 : x0 - x1 ≠ 0 := fun e => h01 (by grind)
  have b2 : x0 - x2 ≠ 0 := fun e => h02 (by grind)
  have b3 : x1 - x2 ≠ 0 := fun e => h12 (by grind)
  generalize hi1 : (1 : Rat) / (x1 - x0) = i1
  have e1 : s = (y1 - y0) * i1 := by rw [hs, ← hi1]; grind
  generalize hi2 : (1 : Rat) / (x2 - x0) = i2
  generalize hi3 : (1 : Rat) / (x2 - x1) = i3
  have e2 : t = ((y2 - y0) - (x2 - x0) * s) * (i2 * i3) := by rw [ht, ← hi2, ← hi3]; grind
  have f1 : (x - x1) / (x0 - x1) = -((x - x1) * i1) := by rw [← hi1]; grind
  have f2 : (x - x2) / (x0 - x2) = -((x - x2) * i2) := by rw [← hi2]; grind
  have f3 : (x - x0) / (x1 - x0) = (x - x0) * i1 := by rw [← hi1]; grind
  have f4 : (x - x2) / (x1 - x2) = -((x - x2) * i3) := by rw [← hi3]; grind
  have f5 : (x - x0) / (x2 - x0) = (x - x0) * i2 := by rw [← hi2]; grind
  have f6 : (x - x1) / (x2 - x1) = (x - x1) * i3 := by rw [← hi3]; grind
  have g1 : (x1 - x0) * i1 = 1 := by rw [← hi1]; grind
  have g2 : (x2 - x0) * i2 = 1 := by rw [← hi2]; grind
  have g3 : (x2 - x1) * i3 = 1 := by rw [← hi3]; grind
  rw [f1, f2, f3, f4, f5, f6, e2, e1]
  clear f1 f2 f3 f4 f5 f6 e1 e2 hi1 hi2 hi3 hs ht h01 h02 h12 h3 b1 b2 b3
  grind
theorem curve_at_use {w : World} {news : Led} {cL : Nat} {DL : Addr} {vs : List Value} {c0 c1 c2 x : Int} {tx : Tok}
    {p : Program} {loose : List Str} {mean : ExcName → Option Value} {mg mb : Str → Option Value} {dp un : Nat} {gd : Option (List Code)} {cn : Str} {cs : Scope} {a : Addr} {ccd : Value} {cl : List (Str × Addr)} {outer : List Env} {A₀ : Around} {base h₀ : Heap} {L : Addr} {m : Str → Option Value} {hpA : Heap} {gsA : Array GenState} {drA : Drawn} {tkA : Nat} {osA : OsState}
    {Q E : Value → Shared → Prop}
    (hmL : (DL, lst vs cL) ∈ news) (hc : Cells news vs [(c0 : Rat), (c1 : Rat), (c2 : Rat)]) (sc0 : Sm 3 c0) (sc1 : Sm 3 c1) (sc2 : Sm 3 c2) (sx : Sm 3 x)
    (B : Below A₀ base outer h₀) (F : Fr h₀ L hpA m) (X : (Mine.hd.heap_39 w.params).In h₀) (N : News h₀ L hpA news) (T : Top p loose mean mg mb h₀) (hkf : cs.kind = .function)
    (hd : dp + 6 < recursionLimit) (hu : un + 8 * 6 < cLine)
    (ret : ∀ D u1 u2 c h' tk', Fr h₀ L h' m → News h₀ L h' ((D, fr (valAt c0 c1 c2 x) u1 u2 c) :: news) → AllLt D news → Q (.ref D) ⟨h', gsA, drA, tk', osA⟩) :
    wpAny (model PySem.Challenge.rw_xm0058_01.row.toRowW.prog w) (ktrTop dp un gd cn cs L a ccd cl outer) (call (.ref 92) [.ref DL, .int x tx]) Q E ⟨hpA, gsA, drA, tkA, osA⟩ :=
  at_use (n := 3) (j := 2) hmL hc (Bd.intCast (n := 2) sc0) (Bd.intCast (n := 2) sc1) (Bd.intCast (n := 2) sc2) (by decide) sx (by decide) B F X N T hkf hd hu ret
theorem packE {h₀ h : Heap} {L DU : Addr} {o : Obj} {x : Addr × Obj} {l : Led} (N : News h₀ L h ((DU, o) :: x :: l)) : ∃ led8 : Led, News h₀ L h led8 ∧ Sub l led8 ∧ (DU, o) ∈ led8 :=
  ⟨_, N, fun p hp => List.mem_cons_of_mem _ (List.mem_cons_of_mem _ hp), List.mem_cons_self ..⟩
theorem mem_head {a : Addr} {o o' : Obj} {l : Led} (e : o = o') : (a, o) ∈ (a, o') :: l := by rw [e]; exact List.mem_cons_self ..
-- part L12
section
variable {prog : Program} {w : World} {A : Around} {E : Value → Shared → Prop} {s : Shared} {env : Env} {h₀ : Heap} {x : Str} {body : List Stmt} {Q : Flow → Shared → Prop}
/-- a written range, each turn by one word -/
theorem range_all {I : Addr} {a : Int} {n : Nat} (J : Nat → (Str → Option Value) → Led → Prop)
    (turn : ∀ i m news t h tk, i < n → J i m news → Fr h₀ env.locals h (fun y => if y = x then some (.int (a + (i : Int)) t) else m y) → News h₀ env.locals h ((I, itR (a + ((i + 1 : Nat) : Int)) ((n : Int) - ((i + 1 : Nat) : Int))) :: news) →
      wpAny (model prog w) A (execs body env) (UnrPost h₀ env.locals { s with heap := h, toks := tk } I (itR (a + ((i + 1 : Nat) : Int)) ((n : Int) - ((i + 1 : Nat) : Int))) (J (i + 1)) Q) E { s with heap := h, toks := tk })
    (done : ∀ m news h tk, J n m news → Fr h₀ env.locals h m → News h₀ env.locals h news → Q .next { s with heap := h, toks := tk }) :
    ∀ k i m news, i + k = n → J i m news → RangeRest prog w A E h₀ env x body Q s I a n k i m news := by
  intro k
  induction k with
  | zero =>
    intro i m news e hJ
    have e' : i = n := e
    subst e'
    exact RangeRest.zero fun h tk F N => done m news h tk hJ F N
  | succ k ih =>
    intro i m news e hJ
    refine RangeRest.succ fun t h tk F N => ?_
    refine wpAny_mono (turn i m news t h tk (by omega) hJ F N) (fun f s₂ p => ?_) fun _ _ e => e
    have fin : UnrEnd h₀ env.locals { s with heap := h, toks := tk } I (itR (a + ((i + 1 : Nat) : Int)) ((n : Int) - ((i + 1 : Nat) : Int))) (J (i + 1)) s₂ →
        UnrEnd h₀ env.locals { s with heap := h, toks := tk } I (itR (a + ((i + 1 : Nat) : Int)) ((n : Int) - ((i + 1 : Nat) : Int))) (RangeRest prog w A E h₀ env x body Q s I a n k (i + 1)) s₂ := by
      rintro ⟨h', tk', m', news', e', F', N', o, r⟩
      exact ⟨h', tk', m', news', e', F', N', o, ih (i + 1) m' news' (by omega) r⟩
    cases f with
    | ret v => exact p
    | brk => exact p
    | next => exact fin p
    | cont => exact fin p
/-- a statement by what holds behind it -/
theorem cut_next {t : Sem Flow} (R : Shared → Prop) (h1 : wpAny (model prog w) A t (fun f s' => f = .next ∧ R s') E s) (h2 : ∀ s', R s' → Q .next s') : wpAny (model prog w) A t Q E s :=
  wpAny_mono h1 (fun _ s' ⟨e, r⟩ => e ▸ h2 s' r) fun _ _ e => e
end
/-- the loop's names but for two stand as they stood -/
def JF (m₀ : Str → Option Value) (led : Led) (_ : Nat) (m : Str → Option Value) (news : Led) : Prop :=
  news = led ∧ ∃ u v, m = fun y => if y = Str.ofString "three" then u else if y = Str.ofString "gone" then v else m₀ y
theorem JF.start {m₀ : Str → Option Value} {led : Led} : JF m₀ led 0 m₀ led := ⟨rfl, m₀ (Str.ofString "three"), m₀ (Str.ofString "gone"), funext fun y => by
  by_cases h1 : y = Str.ofString "three"
  · rw [if_pos h1, h1]
  · rw [if_neg h1]
    by_cases h2 : y = Str.ofString "gone"
    · rw [if_pos h2, h2]
    · rw [if_neg h2]⟩
theorem JF.next {m₀ : Str → Option Value} {led : Led} {i : Nat} {u v w g : Option Value} : JF m₀ led (i + 1) (fun y => if y = Str.ofString "three" then w else if y = Str.ofString "gone" then g else if y = Str.ofString "three" then u else if y = Str.ofString "gone" then v else m₀ y) led := ⟨rfl, w, g, funext fun y => by
  by_cases h1 : y = Str.ofString "three"
  · simp only [if_pos h1]
  · simp only [if_neg h1]
    by_cases h2 : y = Str.ofString "gone"
    · simp only [if_pos h2]
    · simp only [if_neg h2]⟩
/-- the slope and the second slope of three points -/
def slp (x0 x1 : Int) (y0 y1 : Rat) : Rat := (y1 - y0) / ((x1 : Rat) - x0)
def sec (x0 x1 x2 : Int) (y0 y1 y2 : Rat) : Rat := ((y2 - y0) - ((x2 : Rat) - x0) * slp x0 x1 y0 y1) / (((x2 : Rat) - x0) * ((x2 : Rat) - x1))
def cf0 (x0 x1 x2 : Int) (y0 y1 y2 : Rat) : Rat := y0 - x0 * slp x0 x1 y0 y1 + x0 * x1 * sec x0 x1 x2 y0 y1 y2
def cf1 (x0 x1 x2 : Int) (y0 y1 y2 : Rat) : Rat := slp x0 x1 y0 y1 - (x1 + x0) * sec x0 x1 x2 y0 y1 y2
theorem gen_solved_use {w : World} {news : Led} {DL P0 P1 P2 D0 D1 D2 cL u0 z0 k0 u1 z1 k1 u2 z2 k2 t0 t1 t2 e0 e1 e2} {x0 x1 x2 : Int} {y0 y1 y2 : Rat}
    {p : Program} {loose : List Str} {mean : ExcName → Option Value} {mg mb : Str → Option Value} {dp un : Nat} {gd : Option (List Code)} {cn : Str} {cs : Scope} {a : Addr} {ccd : Value} {cl : List (Str × Addr)} {outer : List Env} {A₀ : Around} {base h₀ : Heap} {L : Addr} {m : Str → Option Value} {hpA : Heap} {gsA : Array GenState} {drA : Drawn} {tkA : Nat} {osA : OsState}
    {Q E : Value → Shared → Prop}
    (hmL : (DL, lst [.ref P0, .ref P1, .ref P2] cL) ∈ news) (hp0 : (P0, tupo x0 D0 t0 e0) ∈ news) (hp1 : (P1, tupo x1 D1 t1 e1) ∈ news) (hp2 : (P2, tupo x2 D2 t2 e2) ∈ news)
    (hm0 : (D0, fr y0 u0 z0 k0) ∈ news) (hm1 : (D1, fr y1 u1 z1 k1) ∈ news) (hm2 : (D2, fr y2 u2 z2 k2) ∈ news)
    (b0 : Bd 20 y0) (b1 : Bd 20 y1) (b2 : Bd 20 y2) (sx0 : Sm 3 x0) (sx1 : Sm 3 x1) (sx2 : Sm 3 x2) (h01 : x0 ≠ x1) (h02 : x0 ≠ x2) (h12 : x1 ≠ x2)
    (B : Below A₀ base outer h₀) (F : Fr h₀ L hpA m) (X : (Mine.hd.heap_39 w.params).In h₀) (N : News h₀ L hpA news) (T : Top p loose mean mg mb h₀) (hkf : cs.kind = .function)
    (hd : dp + 16 < recursionLimit) (hu : un + 8 * 16 < cLine)
    (ret : ∀ R c E0 E1 E2 f0 g0 j0 f1 g1 j1 f2 g2 j2 h' tk', Fr h₀ L h' m → News h₀ L h' ((R, lst [.ref E0, .ref E1, .ref E2] c) :: (E0, fr (cf0 x0 x1 x2 y0 y1 y2) f0 g0 j0) :: (E1, fr (cf1 x0 x1 x2 y0 y1 y2) f1 g1 j1) :: (E2, fr (sec x0 x1 x2 y0 y1 y2) f2 g2 j2) :: news) → Q (.ref R) ⟨h', gsA, drA, tk', osA⟩) :
    wpAny (model PySem.Challenge.rw_xm0058_01.row.toRowW.prog w) (ktrTop dp un gd cn cs L a ccd cl outer) (call (.ref 85) [.ref DL]) Q E ⟨hpA, gsA, drA, tkA, osA⟩ := by
  refine guse (solvedlaw_call w news hmL hp0 hp1 hp2 hm0 hm1 hm2 b0 b1 b2 (sx0.mono (by decide)) (sx1.mono (by decide)) (sx2.mono (by decide)) h01 h02 h12 rfl rfl) B F X N T hkf hd hu fun r nw h' tk' F' N' g hr => ?_
  obtain ⟨R, c, vs, rfl, hm, hc⟩ := hr
  obtain ⟨E0, E1, E2, f0, g0, j0, f1, g1, j1, f2, g2, j2, rfl, m0, m1, m2⟩ := hc.three
  refine ret R c E0 E1 E2 f0 g0 j0 f1 g1 j1 f2 g2 j2 h' tk' F' fun q hq => ?_
  simp only [List.mem_cons] at hq
  rcases hq with rfl | rfl | rfl | rfl | hq
  · exact N' _ hm
  · exact N' _ m0
  · exact N' _ m1
  · exact N' _ m2
  · exact N' _ (g.1 _ hq)
theorem curve_row {c0 c1 c2 x0 x1 x2 : Int} (h01 : x0 ≠ x1) (h02 : x0 ≠ x2) (h12 : x1 ≠ x2) :
    cf0 x0 x1 x2 (valAt c0 c1 c2 x0) (valAt c0 c1 c2 x1) (valAt c0 c1 c2 x2) = c0 ∧ cf1 x0 x1 x2 (valAt c0 c1 c2 x0) (valAt c0 c1 c2 x1) (valAt c0 c1 c2 x2) = c1 ∧ sec x0 x1 x2 (valAt c0 c1 c2 x0) (valAt c0 c1 c2 x1) (valAt c0 c1 c2 x2) = c2 := by
  have e := solve_row (c0 := (c0 : Rat)) (c1 := (c1 : Rat)) (c2 := (c2 : Rat)) (cast_ne h01) (cast_ne h02) (cast_ne h12) rfl rfl
  have e0 := (List.cons.inj e).1
  have e1 := (List.cons.inj (List.cons.inj e).2).1
  have e2 := (List.cons.inj (List.cons.inj (List.cons.inj e).2).2).1
  exact ⟨e0, e1, e2⟩
/-- three points of the curve: its numbers -/
theorem curve_solved3_use {w : World} {news : Led} {DL P0 P1 P2 D0 D1 D2 cL u0 z0 k0 u1 z1 k1 u2 z2 k2 t0 t1 t2 e0 e1 e2} {c0 c1 c2 x0 x1 x2 : Int}
    {p : Program} {loose : List Str} {mean : ExcName → Option Value} {mg mb : Str → Option Value} {dp un : Nat} {gd : Option (List Code)} {cn : Str} {cs : Scope} {a : Addr} {ccd : Value} {cl : List (Str × Addr)} {outer : List Env} {A₀ : Around} {base h₀ : Heap} {L : Addr} {m : Str → Option Value} {hpA : Heap} {gsA : Array GenState} {drA : Drawn} {tkA : Nat} {osA : OsState}
    {Q E : Value → Shared → Prop}
    (hmL : (DL, lst [.ref P0, .ref P1, .ref P2] cL) ∈ news) (hp0 : (P0, tupo x0 D0 t0 e0) ∈ news) (hp1 : (P1, tupo x1 D1 t1 e1) ∈ news) (hp2 : (P2, tupo x2 D2 t2 e2) ∈ news)
    (hm0 : (D0, fr (valAt c0 c1 c2 x0) u0 z0 k0) ∈ news) (hm1 : (D1, fr (valAt c0 c1 c2 x1) u1 z1 k1) ∈ news) (hm2 : (D2, fr (valAt c0 c1 c2 x2) u2 z2 k2) ∈ news)
    (sc0 : Sm 3 c0) (sc1 : Sm 3 c1) (sc2 : Sm 3 c2) (sx0 : Sm 3 x0) (sx1 : Sm 3 x1) (sx2 : Sm 3 x2) (h01 : x0 ≠ x1) (h02 : x0 ≠ x2) (h12 : x1 ≠ x2)
    (B : Below A₀ base outer h₀) (F : Fr h₀ L hpA m) (X : (Mine.hd.heap_39 w.params).In h₀) (N : News h₀ L hpA news) (T : Top p loose mean mg mb h₀) (hkf : cs.kind = .function)
    (hd : dp + 16 < recursionLimit) (hu : un + 8 * 16 < cLine)
    (ret : ∀ R c E0 E1 E2 f0 g0 j0 f1 g1 j1 f2 g2 j2 h' tk', Fr h₀ L h' m → News h₀ L h' ((R, lst [.ref E0, .ref E1, .ref E2] c) :: (E0, fr (c0 : Rat) f0 g0 j0) :: (E1, fr (c1 : Rat) f1 g1 j1) :: (E2, fr (c2 : Rat) f2 g2 j2) :: news) → Q (.ref R) ⟨h', gsA, drA, tk', osA⟩) :
    wpAny (model PySem.Challenge.rw_xm0058_01.row.toRowW.prog w) (ktrTop dp un gd cn cs L a ccd cl outer) (call (.ref 85) [.ref DL]) Q E ⟨hpA, gsA, drA, tkA, osA⟩ := by
  refine gen_solved_use hmL hp0 hp1 hp2 hm0 hm1 hm2 (valAt_bd sc0 sc1 sc2 sx0) (valAt_bd sc0 sc1 sc2 sx1) (valAt_bd sc0 sc1 sc2 sx2) sx0 sx1 sx2 h01 h02 h12 B F X N T hkf hd hu ?_
  obtain ⟨e0, e1, e2⟩ := curve_row (c0 := c0) (c1 := c1) (c2 := c2) h01 h02 h12
  rw [e0, e1, e2]
  exact ret
-- part L13
/-- one of three values raised -/
def zz (d k : Int) (up : Rat) (y : Rat) : Rat := if d = k then y + up else y
theorem moved_at {c0 c1 c2 x0 x1 x2 x d : Int} {up : Rat} (hd : d = 0 ∨ d = 1 ∨ d = 2) (h01 : x0 ≠ x1) (h02 : x0 ≠ x2) (h12 : x1 ≠ x2) :
    cf0 x0 x1 x2 (zz d 0 up (valAt c0 c1 c2 x0)) (zz d 1 up (valAt c0 c1 c2 x1)) (zz d 2 up (valAt c0 c1 c2 x2)) + cf1 x0 x1 x2 (zz d 0 up (valAt c0 c1 c2 x0)) (zz d 1 up (valAt c0 c1 c2 x1)) (zz d 2 up (valAt c0 c1 c2 x2)) * (x : Rat) + sec x0 x1 x2 (zz d 0 up (valAt c0 c1 c2 x0)) (zz d 1 up (valAt c0 c1 c2 x1)) (zz d 2 up (valAt c0 c1 c2 x2)) * (x : Rat) * (x : Rat) = valAt c0 c1 c2 x + up * share d x0 x1 x2 x := by
  have e := row_at (x := (x : Rat)) (y0 := zz d 0 up (valAt c0 c1 c2 x0)) (y1 := zz d 1 up (valAt c0 c1 c2 x1)) (y2 := zz d 2 up (valAt c0 c1 c2 x2)) (cast_ne h01) (cast_ne h02) (cast_ne h12) rfl rfl
  have l := lagrange_at (c0 := c0) (c1 := c1) (c2 := c2) (x := x) h01 h02 h12
  refine Eq.trans e ?_
  rw [← l]
  unfold lagrange
  have s0 : share 0 x0 x1 x2 x = ((x : Rat) - x1) / ((x0 : Rat) - x1) * (((x : Rat) - x2) / ((x0 : Rat) - x2)) := by
    unfold share; rw [if_pos rfl]; simp only [Rat.intCast_sub]
  have s1 : share 1 x0 x1 x2 x = ((x : Rat) - x0) / ((x1 : Rat) - x0) * (((x : Rat) - x2) / ((x1 : Rat) - x2)) := by
    unfold share; rw [if_neg (by decide), if_pos rfl]; simp only [Rat.intCast_sub]
  have s2 : share 2 x0 x1 x2 x = ((x : Rat) - x0) / ((x2 : Rat) - x0) * (((x : Rat) - x1) / ((x2 : Rat) - x1)) := by
    unfold share; rw [if_neg (by decide), if_neg (by decide)]; simp only [Rat.intCast_sub]
  rw [← s0, ← s1, ← s2]
  generalize valAt c0 c1 c2 x0 = v0
  generalize valAt c0 c1 c2 x1 = v1
  generalize valAt c0 c1 c2 x2 = v2
  clear e l s0 s1 s2
  rcases hd with rfl | rfl | rfl
  · simp only [zz, if_true, show ¬((0 : Int) = 1) from by decide, show ¬((0 : Int) = 2) from by decide, if_false]
    grind
  · simp only [zz, if_true, show ¬((1 : Int) = 0) from by decide, show ¬((1 : Int) = 2) from by decide, if_false]
    grind
  · simp only [zz, if_true, show ¬((2 : Int) = 1) from by decide, show ¬((2 : Int) = 0) from by decide, if_false]
    grind
theorem quot_ne {a b c : Int} (h : a ≠ c) (h' : b ≠ c) : ((a - c : Int) : Rat) / ((b - c : Int) : Rat) ≠ 0 := by
  intro e
  have h1 : ((b - c : Int) : Rat) ≠ 0 := intc_ne (Ne.symm h')
  have h2 : ((a - c : Int) : Rat) ≠ 0 := intc_ne (Ne.symm h)
  exact h2 (by grind)
theorem share_ne {d x0 x1 x2 x : Int} (h0 : x ≠ x0) (h1 : x ≠ x1) (h2 : x ≠ x2) (h01 : x0 ≠ x1) (h02 : x0 ≠ x2) (h12 : x1 ≠ x2) : share d x0 x1 x2 x ≠ 0 := by
  unfold share
  split
  · exact fun e => (Rat.mul_eq_zero.mp e).elim (quot_ne h1 h01) (quot_ne h2 h02)
  · split
    · exact fun e => (Rat.mul_eq_zero.mp e).elim (quot_ne h0 (Ne.symm h01)) (quot_ne h2 h12)
    · exact fun e => (Rat.mul_eq_zero.mp e).elim (quot_ne h0 (Ne.symm h02)) (quot_ne h1 (Ne.symm h12))
theorem moved_ne {v up : Rat} {d x0 x1 x2 x : Int} (hu : up ≠ 0) (h0 : x ≠ x0) (h1 : x ≠ x1) (h2 : x ≠ x2) (h01 : x0 ≠ x1) (h02 : x0 ≠ x2) (h12 : x1 ≠ x2) : v + up * share d x0 x1 x2 x ≠ v := by
  intro e
  have e1 : up * share d x0 x1 x2 x = 0 := by grind
  exact (Rat.mul_eq_zero.mp e1).elim hu (share_ne h0 h1 h2 h01 h02 h12)
/-- the raising: half of one and five times a length -/
def upq (n : Nat) : Rat := Rat.divInt (1 + 5 * (n : Int)) 2
theorem up_pr {n : Nat} (h : n ≤ 63) : Pr 9 (1 + 5 * (n : Int)) 2 (upq n) := ⟨by decide, by unfold Sm; omega, by unfold Sm; decide, rfl⟩
theorem up_ne {n : Nat} : upq n ≠ 0 := by
  unfold upq
  intro e
  rw [Rat.divInt_eq_div] at e
  have h1 : ((2 : Int) : Rat) ≠ 0 := fun h => by have := Rat.intCast_eq_zero_iff.mp h; omega
  have h2 : ((1 + 5 * (n : Int) : Int) : Rat) ≠ 0 := fun h => by have := Rat.intCast_eq_zero_iff.mp h; omega
  exact h2 (by grind)
theorem val_int {c0 c1 c2 x : Int} : valAt c0 c1 c2 x = ((c0 + c1 * x + c2 * x * x : Int) : Rat) := by
  unfold valAt
  simp only [Rat.intCast_add, Rat.intCast_mul]
theorem val_bd {c0 c1 c2 x : Int} (h0 : Sm 3 c0) (h1 : Sm 3 c1) (h2 : Sm 3 c2) (hx : Sm 3 x) : Bd 10 (valAt c0 c1 c2 x) := by
  rw [val_int]
  refine Bd.intCast ?_
  have a := Sm.mul h1 hx
  have b := Sm.mul (Sm.mul h2 hx) hx
  unfold Sm at *
  omega
theorem zz_bd {c0 c1 c2 x d k : Int} {n : Nat} (h0 : Sm 3 c0) (h1 : Sm 3 c1) (h2 : Sm 3 c2) (hx : Sm 3 x) (hn : n ≤ 63) : Bd 20 (zz d k (upq n) (valAt c0 c1 c2 x)) := by
  unfold zz
  split
  · exact Bd.add (val_bd h0 h1 h2 hx) (up_pr hn).bd (by decide)
  · exact (val_bd h0 h1 h2 hx).mono (by decide)
theorem dif_bd {x0 x1 : Int} (h0 : Sm 3 x0) (h1 : Sm 3 x1) : Bd 7 ((x1 : Rat) - (x0 : Rat)) := Bd.sub (Bd.intCast h1) (Bd.intCast h0) (Nat.le_refl _)
theorem slp_bd {x0 x1 : Int} {y0 y1 : Rat} (h : x0 ≠ x1) (h0 : Sm 3 x0) (h1 : Sm 3 x1) (b0 : Bd 20 y0) (b1 : Bd 20 y1) : Bd 48 (slp x0 x1 y0 y1) :=
  Bd.div (cast_ne h) (Bd.sub b1 b0 (Nat.le_refl _)) (dif_bd h0 h1) (Nat.le_refl _)
theorem sec_bd {x0 x1 x2 : Int} {y0 y1 y2 : Rat} (h01 : x0 ≠ x1) (h02 : x0 ≠ x2) (h12 : x1 ≠ x2) (h0 : Sm 3 x0) (h1 : Sm 3 x1) (h2 : Sm 3 x2) (b0 : Bd 20 y0) (b1 : Bd 20 y1) (b2 : Bd 20 y2) : Bd 111 (sec x0 x1 x2 y0 y1 y2) :=
  Bd.div (fun e => (Rat.mul_eq_zero.mp e).elim (cast_ne h02) (cast_ne h12)) (Bd.sub (Bd.sub b2 b0 (Nat.le_refl _)) (Bd.mul (dif_bd h0 h2) (slp_bd h01 h0 h1 b0 b1) (Nat.le_refl _)) (Nat.le_refl _)) (Bd.mul (dif_bd h0 h2) (dif_bd h1 h2) (Nat.le_refl _)) (Nat.le_refl _)
theorem cf0_bd {x0 x1 x2 : Int} {y0 y1 y2 : Rat} (h01 : x0 ≠ x1) (h02 : x0 ≠ x2) (h12 : x1 ≠ x2) (h0 : Sm 3 x0) (h1 : Sm 3 x1) (h2 : Sm 3 x2) (b0 : Bd 20 y0) (b1 : Bd 20 y1) (b2 : Bd 20 y2) : Bd 200 (cf0 x0 x1 x2 y0 y1 y2) :=
  Bd.add (Bd.sub b0 (Bd.mul (Bd.intCast h0) (slp_bd h01 h0 h1 b0 b1) (Nat.le_refl _)) (Nat.le_refl _)) (Bd.mul (Bd.mul (Bd.intCast h0) (Bd.intCast h1) (Nat.le_refl _)) (sec_bd h01 h02 h12 h0 h1 h2 b0 b1 b2) (Nat.le_refl _)) (by decide)
theorem cf1_bd {x0 x1 x2 : Int} {y0 y1 y2 : Rat} (h01 : x0 ≠ x1) (h02 : x0 ≠ x2) (h12 : x1 ≠ x2) (h0 : Sm 3 x0) (h1 : Sm 3 x1) (h2 : Sm 3 x2) (b0 : Bd 20 y0) (b1 : Bd 20 y1) (b2 : Bd 20 y2) : Bd 200 (cf1 x0 x1 x2 y0 y1 y2) :=
  Bd.sub (slp_bd h01 h0 h1 b0 b1) (Bd.mul (Bd.add (Bd.intCast h1) (Bd.intCast h0) (Nat.le_refl _)) (sec_bd h01 h02 h12 h0 h1 h2 b0 b1 b2) (Nat.le_refl _)) (by decide)
theorem tup_ne_lst {o : Obj} {vs : List Value} {n : Nat} (h : o.cls = .type "tuple") : o ≠ lst vs n := fun e => by
  have := congrArg Obj.cls e
  rw [h] at this
  exact absurd (Value.type.inj this) (by decide)
theorem cell_ne_lst {o : Obj} {v : Option Value} (hd : o.data = .cell v) {vs : List Value} {n : Nat} : o ≠ lst vs n := fun e => lst_ne_cell hd vs n e.symm
theorem lst_ne_lst {vs ws : List Value} {n k : Nat} (h : vs.length ≠ ws.length) : lst vs n ≠ lst ws k := fun e => h (by
  have e1 := congrArg Obj.data e
  have e2 := (Data.seq.inj e1).1
  have e3 : vs.toArray.toList = ws.toArray.toList := congrArg Array.toList e2
  exact congrArg List.length e3)
-- part L14
theorem post_true {args : List WData} : PySem.Challenge.rw_xm0058_01.row.claim.post args (.bool true) args = true := postW_of rfl (PySem.W.w_eq_bool (a := .res) (b := .lit (.bool true)) (PySem.W.w_res rfl) PySem.W.w_lit) rfl
theorem end_true {cl : Str → Option Addr} {mean : ExcName → Option Value} {args : List WData} {s₁ s' : Shared} {L : Addr} {m : Str → Option Value} (F : Fr s₁.heap L s'.heap m) (hg : s'.gens = #[]) (hos : s'.os = s₁.os := by rfl) :
    GoodW PySem.Challenge.rw_xm0058_01.row.claim cl mean args s₁ (.ok (.ret (.bool true))) s' :=
  goodW_bool F hg (raisesW_false fun ct h => absurd (show ct ∈ ([] : List _) from h) List.not_mem_nil) post_true hos
theorem gen_gd {α : Type} {M : Model} {A : Around} {t : Sem α} {Q : α → Shared → Prop} {E : Value → Shared → Prop} {s : Shared} {h d tk} (hg : s.gens = #[]) (H : ∀ d0 t0, wpAny M A t Q E ⟨h, #[], d0, t0, s.os⟩) : wpAny M A t Q E ⟨h, s.gens, d, tk, s.os⟩ := by
  rw [hg]
  exact H d tk
-- part L15
def Pt3 (led : Led) (c0 c1 c2 : Int) (P : Addr) (x : Int) : Prop := ∃ D t e u z k, (P, tupo x D t e) ∈ led ∧ (D, fr (valAt c0 c1 c2 x) u z k) ∈ led ∧ Sm 3 x
def R3 (h₀ : Heap) (L : Addr) (m : Str → Option Value) (s : Shared) (I : Addr) (it : Obj) (led : Led) (c0 c1 c2 : Int) (s' : Shared) : Prop :=
  ∃ h' tk' D c P0 P1 P2 x0 x1 x2, s' = { s with heap := h', toks := tk' } ∧ Fr h₀ L h' (fun y => if y = Str.ofString "three" then some (.ref D) else m y) ∧ News h₀ L h' ((D, lst [.ref P0, .ref P1, .ref P2] c) :: (I, it) :: led) ∧
    Pt3 led c0 c1 c2 P0 x0 ∧ Pt3 led c0 c1 c2 P1 x1 ∧ Pt3 led c0 c1 c2 P2 x2 ∧ x0 ≠ x1 ∧ x0 ≠ x2 ∧ x1 ≠ x2
theorem cut3 {prog : Program} {w : World} {A : Around} {E : Value → Shared → Prop} {t : Sem Flow} {Q : Flow → Shared → Prop} {s : Shared} {h₀ : Heap} {L I : Addr} {it : Obj} {m : Str → Option Value} {led : Led} (c0 c1 c2 : Int)
    (FU : Fr h₀ L s.heap m) (NU : News h₀ L s.heap ((I, it) :: led)) (h1 : wpAny (model prog w) A t (fun f s' => f = .next ∧ R3 h₀ L m s I it led c0 c1 c2 s') E s)
    (h2 : ∀ h' tk' D c P0 P1 P2 x0 x1 x2, Fr h₀ L h' (fun y => if y = Str.ofString "three" then some (.ref D) else m y) → News h₀ L h' ((D, lst [.ref P0, .ref P1, .ref P2] c) :: (I, it) :: led) →
      Pt3 led c0 c1 c2 P0 x0 → Pt3 led c0 c1 c2 P1 x1 → Pt3 led c0 c1 c2 P2 x2 → x0 ≠ x1 → x0 ≠ x2 → x1 ≠ x2 → Q .next { s with heap := h', toks := tk' }) : wpAny (model prog w) A t Q E s :=
  cut_next _ h1 fun s' hr => by
    obtain ⟨h', tk', D, c, P0, P1, P2, x0, x1, x2, rfl, F, N, a, b, c', d, f, g⟩ := hr
    exact h2 h' tk' D c P0 P1 P2 x0 x1 x2 F N a b c' d f g
theorem pick14 {h₀ h : Heap} {L : Addr} {x0 x1 x2 x3 : Addr × Obj} {l : Led} (N : News h₀ L h (x0 :: x1 :: x2 :: x3 :: l)) : News h₀ L h (x0 :: x3 :: l) := fun p hp => N p (by
  simp only [List.mem_cons] at hp ⊢
  rcases hp with h | h | h
  · exact .inl h
  · exact .inr (.inr (.inr (.inl h)))
  · exact .inr (.inr (.inr (.inr h))))
theorem Cells.of3 {l : Led} {D0 D1 D2 : Addr} {a b c : Rat} {u0 v0 u1 v1 u2 v2 : Tok} {k0 k1 k2 : Nat} (h0 : (D0, fr a u0 v0 k0) ∈ l) (h1 : (D1, fr b u1 v1 k1) ∈ l) (h2 : (D2, fr c u2 v2 k2) ∈ l) : Cells l [.ref D0, .ref D1, .ref D2] [a, b, c] := by
  have e := Cells.app (Cells.app (Cells.app (Cells.nil (news := l)) (Cell.of h0)) (Cell.of h1)) (Cell.of h2)
  exact e
theorem Cells.at3 {l : Led} {D0 D1 D2 : Addr} {a b c : Rat} (h : Cells l [.ref D0, .ref D1, .ref D2] [a, b, c]) : ∃ u0 v0 k0 u1 v1 k1 u2 v2 k2, (D0, fr a u0 v0 k0) ∈ l ∧ (D1, fr b u1 v1 k1) ∈ l ∧ (D2, fr c u2 v2 k2) ∈ l := by
  obtain ⟨E0, u0, v0, k0, e0, m0⟩ := h.2 0 _ _ rfl rfl
  obtain ⟨E1, u1, v1, k1, e1, m1⟩ := h.2 1 _ _ rfl rfl
  obtain ⟨E2, u2, v2, k2, e2, m2⟩ := h.2 2 _ _ rfl rfl
  cases e0
  cases e1
  cases e2
  exact ⟨u0, v0, k0, u1, v1, k1, u2, v2, k2, m0, m1, m2⟩
theorem pickU {h₀ h : Heap} {L U : Addr} {o : Obj} {x0 x2 : Addr × Obj} {led : Led} (N : News h₀ L h (x0 :: (U, o) :: x2 :: led)) : ∃ led11 : Led, News h₀ L h led11 ∧ Sub led led11 ∧ (U, o) ∈ led11 :=
  ⟨_, N, fun p hp => List.mem_cons_of_mem _ (List.mem_cons_of_mem _ (List.mem_cons_of_mem _ hp)), List.mem_cons_of_mem _ (List.mem_cons_self ..)⟩
def Pq (led : Led) (P : Addr) (x : Int) (y : Rat) : Prop := ∃ D t e u z k, (P, tupo x D t e) ∈ led ∧ (D, fr y u z k) ∈ led
theorem Pq.mono {led led' : Led} {P : Addr} {x : Int} {y : Rat} (h : Pq led P x y) (hs : Sub led led') : Pq led' P x y := by
  obtain ⟨D, t, e, u, z, k, a, b⟩ := h
  exact ⟨D, t, e, u, z, k, hs _ a, hs _ b⟩
theorem Pq.at {led : Led} {P : Addr} {x : Int} {y y' : Rat} (e : y' = y) (h : Pq led P x y) : Pq led P x y' := e ▸ h
theorem zz_same {d : Int} {up y : Rat} : zz d d up y = y + up := if_pos rfl
theorem zz_other {d k : Int} {up y : Rat} (h : d ≠ k) : zz d k up y = y := if_neg h
def R4 (h₀ : Heap) (L : Addr) (m : Str → Option Value) (s : Shared) (led : Led) (x0 x1 x2 x3 : Int) (y0 y1 y2 y3 : Rat) (s' : Shared) : Prop :=
  ∃ h' tk' led9 MV c A0 A1 A2 A3, s' = { s with heap := h', toks := tk' } ∧ Fr h₀ L h' (fun y => if y = Str.ofString "moved" then some (.ref MV) else m y) ∧ News h₀ L h' led9 ∧ Sub led led9 ∧
    (MV, lst [.ref A0, .ref A1, .ref A2, .ref A3] c) ∈ led9 ∧ Pq led9 A0 x0 y0 ∧ Pq led9 A1 x1 y1 ∧ Pq led9 A2 x2 y2 ∧ Pq led9 A3 x3 y3
theorem cut4 {prog : Program} {w : World} {A : Around} {E : Value → Shared → Prop} {t : Sem Flow} {Q : Flow → Shared → Prop} {s : Shared} {h₀ : Heap} {L : Addr} {m : Str → Option Value} {led : Led} (x0 x1 x2 x3 : Int) (y0 y1 y2 y3 : Rat)
    (FU : Fr h₀ L s.heap m) (NU : News h₀ L s.heap led) (h1 : wpAny (model prog w) A t (fun f s' => f = .next ∧ R4 h₀ L m s led x0 x1 x2 x3 y0 y1 y2 y3 s') E s)
    (h2 : ∀ h' tk' led9 MV c A0 A1 A2 A3, Fr h₀ L h' (fun y => if y = Str.ofString "moved" then some (.ref MV) else m y) → News h₀ L h' led9 → Sub led led9 →
      (MV, lst [.ref A0, .ref A1, .ref A2, .ref A3] c) ∈ led9 → Pq led9 A0 x0 y0 → Pq led9 A1 x1 y1 → Pq led9 A2 x2 y2 → Pq led9 A3 x3 y3 → Q .next { s with heap := h', toks := tk' }) : wpAny (model prog w) A t Q E s :=
  cut_next _ h1 fun _ hr => by
    obtain ⟨h', tk', led9, MV, c, A0, A1, A2, A3, rfl, F, N, a, b, c', d, f, g⟩ := hr
    exact h2 h' tk' led9 MV c A0 A1 A2 A3 F N a b c' d f g
theorem Pq.mk {led : Led} {P D : Addr} {x : Int} {y : Rat} {t u z : Tok} {e k : Nat} (hP : (P, tupo x D t e) ∈ led) (hD : (D, fr y u z k) ∈ led) : Pq led P x y := ⟨D, t, e, u, z, k, hP, hD⟩
theorem r4_mk {h₀ : Heap} {L : Addr} {m : Str → Option Value} {s : Shared} {led led9 : Led} {x0 x1 x2 x3 : Int} {y0 y1 y2 y3 : Rat} {h' : Heap} {tk' MV c A0 A1 A2 A3 : Nat} (F : Fr h₀ L h' (fun y => if y = Str.ofString "moved" then some (.ref MV) else m y)) (N : News h₀ L h' led9) (hs : Sub led led9)
    (hm : (MV, lst [.ref A0, .ref A1, .ref A2, .ref A3] c) ∈ led9) (q0 : Pq led9 A0 x0 y0) (q1 : Pq led9 A1 x1 y1) (q2 : Pq led9 A2 x2 y2) (q3 : Pq led9 A3 x3 y3) : R4 h₀ L m s led x0 x1 x2 x3 y0 y1 y2 y3 { s with heap := h', toks := tk' } :=
  ⟨h', tk', led9, MV, c, A0, A1, A2, A3, rfl, F, N, hs, hm, q0, q1, q2, q3⟩
theorem tup_item {prog : Program} {w : World} {A : Around} {E : Value → Shared → Prop} {s : Shared} {h₀ : Heap} {L l : Addr} {news : Led} {value slice : PySem.Expr} {vs : List Value} {k : Int} {u : Tok} {j : Nat} {v : Value} {n : Nat} {Q : Value → Shared → Prop}
    (N : News h₀ L s.heap news) (hm : (l, ({ cls := .type "tuple", data := .seq vs.toArray n } : Obj)) ∈ news) (hlo : -(2 ^ 63) ≤ k) (hhi : k < 2 ^ 63) (hj : seqIndex? k vs.length = some j) (hx : vs[j]? = some v) (h : Q v s)
    (hs : subscripted slice false (.ref l) (.int k u) = operate [.ref l, .int k u] (getItem (.ref l) (.int k u)) := by with_unfolding_all rfl) :
    wpAny (model prog w) A (subscriptTail value slice (.ref l) (.int k u)) Q E s := item_tupleT (News.isTup N hm) hlo hhi hj hx h hs
theorem fr_as {h₀ h h' : Heap} {L L' : Addr} {m m' : Str → Option Value} (_ : Fr h₀ L h m) (F : Fr h₀ L' h' m') (e : L' = L := by rfl) : Fr h₀ L h' m' := e ▸ F
theorem news_as {h₀ h h' : Heap} {L L' : Addr} {l l' : Led} (_ : News h₀ L h l) (N : News h₀ L' h' l') (e : L' = L := by rfl) : News h₀ L h' l' := e ▸ N
theorem up_of {ns : List Int} (_ : (ns.take 9).length = min 9 ns.length) (h : ¬ ((63 : Nat) : Int) < (ns.length : Int)) : ∃ up : Rat, Pr 9 (1 + 5 * (ns.length : Int)) 2 up ∧ up ≠ 0 := ⟨_, up_pr (by omega), up_ne⟩
theorem zz_bd' {c0 c1 c2 x d k : Int} {a b : Int} {up : Rat} (h0 : Sm 3 c0) (h1 : Sm 3 c1) (h2 : Sm 3 c2) (hx : Sm 3 x) (hu : Pr 9 a b up) : Bd 20 (zz d k up (valAt c0 c1 c2 x)) := by
  unfold zz
  split
  · exact Bd.add (val_bd h0 h1 h2 hx) hu.bd (by decide)
  · exact (val_bd h0 h1 h2 hx).mono (by decide)
theorem Pt3.open {led : Led} {c0 c1 c2 : Int} {P : Addr} {x : Int} {G : Prop} (h : Pt3 led c0 c1 c2 P x) (H : ∀ D t e u z k, (P, tupo x D t e) ∈ led → (D, fr (valAt c0 c1 c2 x) u z k) ∈ led → Sm 3 x → G) : G := by
  obtain ⟨D, t, e, u, z, k, a, b, c⟩ := h
  exact H D t e u z k a b c
theorem Pq.open {led : Led} {P : Addr} {x : Int} {y : Rat} {G : Prop} (h : Pq led P x y) (H : ∀ D t e u z k, (P, tupo x D t e) ∈ led → (D, fr y u z k) ∈ led → G) : G := by
  obtain ⟨D, t, e, u, z, k, a, b⟩ := h
  exact H D t e u z k a b
theorem Cells.at3_open {l : Led} {D0 D1 D2 : Addr} {a b c : Rat} {G : Prop} (h : Cells l [.ref D0, .ref D1, .ref D2] [a, b, c]) (H : ∀ u0 v0 k0 u1 v1 k1 u2 v2 k2, (D0, fr a u0 v0 k0) ∈ l → (D1, fr b u1 v1 k1) ∈ l → (D2, fr c u2 v2 k2) ∈ l → G) : G := by
  obtain ⟨u0, v0, k0, u1, v1, k1, u2, v2, k2, m0, m1, m2⟩ := h.at3
  exact H u0 v0 k0 u1 v1 k1 u2 v2 k2 m0 m1 m2
-- part M1
local macro_rules | `(tactic| walk_at "execs cons") => `(tactic| (k_extra "fold"; refine wpAny_execs_cons ?_; refine wpN ?_; k_fold))
local macro_rules | `(tactic| walk_at "binaryOp Mult int int") => `(tactic| (refine mul_int ?_ (Sm.mulOk2 (by assumption) (by assumption))))
local macro_rules | `(tactic| k_mem) => `(tactic| first | with_reducible assumption | ((show (_ : Addr × Obj) ∈ (_ : List (Addr × Obj))); with_reducible assumption))
local macro_rules | `(tactic| walk_at "mine sub") => `(tactic| (repeat (first | exact sub_refl | refine sub_skip ?_)))
local macro_rules | `(tactic| walk_at "mine pr") => `(tactic| walk_at "mine s0")
local macro_rules | `(tactic| walk_at "mine l0") => `(tactic| walk_at "mine s1")
local macro_rules | `(tactic| walk_at "mine lt") => `(tactic| walk_at "mine s2")
local macro_rules | `(tactic| k_all) => `(tactic| walk_at "mine s8")
local macro_rules | `(tactic| walk_at "mine rall") => `(tactic| walk_at "mine s3")
local macro_rules | `(tactic| walk_at "mine rem") => `(tactic| walk_at "mine s4")
local macro_rules | `(tactic| walk_at "exec For Name Subscript cons nil") => `(tactic| walk_at "mine s5")
local macro_rules | `(tactic| walk_at "pyIter ref") => `(tactic| walk_at "mine s6")
local macro_rules | `(tactic| walk_at "UnrEnd") => `(tactic| walk_at "mine s7")
local macro_rules | `(tactic| walk_at "exec For Tuple Call cons nil") => `(tactic| walk_at "mine s9")
local macro_rules | `(tactic| walk_at "call type:enumerate") => `(tactic| walk_at "mine s10")
local macro_rules | `(tactic| walk_at "UnrEndW") => `(tactic| walk_at "mine s11")
local macro_rules | `(tactic| walk_at "subscriptTail Name Name ref int") => `(tactic| walk_at "mine s12")
local macro_rules | `(tactic| walk_at "CGo") => `(tactic| k_extra "go")
local macro_rules | `(tactic| walk_at "call type:zip") => `(tactic| k_extra "go")
local macro_rules | `(tactic| k_all) => `(tactic| walk_at "mine s13")
local macro_rules | `(tactic| walk_at "UnrEnd") => `(tactic| walk_at "mine s14")
local macro_rules | `(tactic| walk_at "CGoA") => `(tactic| k_extra "go")
local macro_rules | `(tactic| walk_at "subscriptTail Name Constant ref int") => `(tactic| walk_at "mine s12")
local macro_rules | `(tactic| walk_at "call ref") => `(tactic| k_extra "solved")
local macro_rules | `(tactic| walk_at "call ref") => `(tactic| k_extra "draw")
local macro_rules | `(tactic| k_all) => `(tactic| first | exact List.forall_mem_nil _ | (refine' List.forall_mem_cons.mpr ⟨?a, ?b⟩; (case a => k_ne); (case b => k_all)) | with_reducible assumption | exact off_of (by first | walk_at "mine ltw" | walk_at "mine lt") | exact off_of1 (by first | walk_at "mine ltw" | walk_at "mine lt"))
local macro_rules | `(tactic| walk_at "call builtin:len") => `(tactic| k_extra "len")
local macro_rules | `(tactic| walk_at "call builtin:list.pop") => `(tactic| k_extra "pop")
local macro_rules | `(tactic| walk_at "binaryOp Pow int int") => `(tactic| k_extra "pow")
local macro_rules | `(tactic| walk_at "call builtin:sum") => `(tactic| k_extra "sum")
local macro_rules | `(tactic| k_mem) => `(tactic| walk_at "mine up")
local macro_rules | `(tactic| walk_at "compareOp NotEq ref ref") => `(tactic| k_extra "neq")
local macro_rules | `(tactic| walk_at "binaryOp Mult int int") => `(tactic| (refine mul_int ?_ (Sm.mulOk2 (by with_reducible assumption) (by with_reducible assumption))))
local macro_rules | `(tactic| walk_at "subscriptTail Subscript Name Constant Constant ref int") => `(tactic| walk_at "mine tup")
local macro_rules | `(tactic| walk_at "subscriptTail Subscript Name Name Constant ref int") => `(tactic| walk_at "mine tup")
theorem law_holds : PySem.Challenge.rw_xm0058_01.Holds := Mine.hd (by
  k_with "two" => skip
  w_strict k_go0
  all_goals try k_fold
  refine gen_gd (by assumption) fun d0 t0 => ?_
  rename Fr _ _ _ _ => F00
  refine fr_open1 (Str.ofString "script") F00 (by with_unfolding_all rfl) fun mb F01 => ?_
  clear F00
  refine wpN ?_
  k_with_none
  k_with "two" => skip
  k_with "mine up" => first | with_reducible assumption | (with_reducible exact List.mem_cons_self) | ((with_reducible refine mem_head ?_); exact rfl) | (refine List.mem_cons_of_mem _ ?_; walk_at "mine up") | (rename Sub _ _ => s9'; refine s9' _ ?_; walk_at "mine up") | (rename Sub _ _ => s9'; clear s9'; walk_at "mine up")
  k_with "mine l9" => first | with_reducible assumption | exact And.right (by with_reducible assumption) | exact r2 (by with_reducible assumption) | exact r3 (by with_reducible assumption) | exact r4 (by with_reducible assumption) | exact r5 (by with_reducible assumption) | exact r6 (by with_reducible assumption) | exact r7 (by with_reducible assumption)
  k_with "mine ltw" => first | with_reducible assumption | exact allLt_of (by with_reducible assumption) | walk_at "mine l9" | exact r8 (by walk_at "mine l9") | exact r8 (r8 (by walk_at "mine l9")) | exact r8 (r8 (r8 (by walk_at "mine l9"))) | exact r8 (r8 (r8 (r8 (by walk_at "mine l9")))) | exact r8 (r8 (r8 (r8 (r8 (by walk_at "mine l9")))))
  k_with "mine steps2" => (repeat' ((fail_if_success (with_reducible show PyProof.Rows.LCg.CompRest _ _ _ _ _ _ _ _ _ _ _ _ _ _ _ _ _ _ _)); (fail_if_success (with_reducible show wpAny _ _ (eval (PySem.Expr.ListComp _ _ _ _) _) _ _ _)); (first | (k_unfold; (try dsimp only)) | (k_end; wrow_close) | walk1 | (dsimp only; walk1))))
  k_with "mine steps3" => (repeat' ((fail_if_success (with_reducible show PyProof.Rows.LCg.CompRest _ _ _ _ _ _ _ _ _ _ _ _ _ _ _ _ _ _ _)); (fail_if_success (with_reducible show wpAny _ _ (eval (PySem.Expr.ListComp _ _ _ _) _) _ _ _)); (fail_if_success (with_reducible show wpAny _ _ (exec (Stmt.Assign _ (PySem.Expr.ListComp _ _ _ _) _) _) _ _ _)); (first | (k_unfold; (try dsimp only)) | (k_end; wrow_close) | walk1 | (dsimp only; walk1))))
  k_with "mine steps4" => (repeat' ((fail_if_success (with_reducible show PyProof.Rows.LCg.CompRest _ _ _ _ _ _ _ _ _ _ _ _ _ _ _ _ _ _ _)); (fail_if_success (with_reducible show wpAny _ _ (eval (PySem.Expr.ListComp _ _ _ _) _) _ _ _)); (fail_if_success (with_reducible show wpAny _ _ (exec (Stmt.For _ _ _ _ _) _) _ _ _)); (first | (k_unfold; (try dsimp only)) | (k_end; wrow_close) | walk1 | (dsimp only; walk1))))
  walk_at "mine steps2"
  rename_i oHr oCv oPl0 oBg0 dHr dCv dPl0 dBg0 X0 S ws hh6 hI9 hC9 hL9 lS BG hh5 lBG PL hh4 lPL Dt hh3 lDt hh2 hh1 oBag dBag hh0 oPl lF lN dPl
  have hl9 := Nat.lt_of_le_of_lt (Nat.le_trans (Nat.le_of_eq hC9) (Nat.min_le_left ..)) (show 9 < 2 ^ 62 from Nat.le_of_ble_eq_true rfl)
  k_dflt (refine LCg.ListComp_U (F₀ := lF) (by with_unfolding_all rfl) (by decide) (by rfl) (by decide) (by rfl) ?_)
  iterate 7 (first | walk1 | (dsimp only; walk1))
  rename IsRange _ _ _ _ _ _ _ _ => hR
  rename Fr _ _ _ _ => lF2
  rename News _ _ _ _ => lN2
  have mBG := pick_mem lN2 (x := (BG, lst [.ref S, .int 0 _] 0)) (by k_mem)
  have mS := pick_mem lN2 (x := (S, lst ws 0)) (by k_mem)
  have mPL := pick_mem lN2 (x := (PL, _)) (by k_mem)
  have mcB := pick_mem lN2 (x := (_, oBag)) (by k_mem)
  have mcP := pick_mem lN2 (x := (_, oPl)) (by k_mem)
  have mcC := pick_mem lN2 (List.mem_cons_of_mem _ (List.mem_cons_of_mem _ (List.mem_cons_of_mem _ (List.mem_cons_of_mem _ (List.mem_cons_of_mem _ (List.mem_cons_self ..))))))
  have mcH := pick_mem lN2 (List.mem_cons_of_mem _ (List.mem_cons_of_mem _ (List.mem_cons_of_mem _ (List.mem_cons_of_mem _ (List.mem_cons_self ..)))))
  have lN3 := wo_news lN2 mBG
  replace mS := wo_mem (a := BG) mS (by k_ne)
  replace mPL := wo_mem (a := BG) mPL (by k_ne)
  replace mcB := wo_mem (a := BG) mcB (by k_ne)
  replace mcP := wo_mem (a := BG) mcP (by k_ne)
  replace mcC := wo_mem (a := BG) mcC (by k_ne)
  replace mcH := wo_mem (a := BG) mcH (by k_ne)
  k_dflt (refine LCg.CompSrc.range (n := 3) (by rfl) lF2 lN3 hR (by rfl) (by rfl) (Nat.le_of_ble_eq_true rfl) ?_)
  intro g1
  clear mBG lN2
  generalize hb0 : Wo BG _ = base0 at *
  have oBG : Off BG base0 := hb0 ▸ wo_off
  clear hb0
  revert base0
  refine id ?_
  set_option tactic.hygienic false in intros
  refine comprest_inv 3 (InvB base0 BG S 0) ?turn ?fin 3 0 [] _ rfl ⟨_, _, [], rfl, oBG, fun _ h => h, rfl, Cells.nil, fun c hc => nomatch hc⟩
  case turn =>
    intro i ys news v I oI C oC D m₂ h tk9 E' hi hv hI hC hx F1 N1 off ne
    refine hI.open fun tkb rest cs e9 hoff hsub hlen hcells hcs => ?_
    subst e9
    clear hI
    have mb1 : (_, oBag) ∈ (I, oI) :: (C, oC) :: (D, LCg.lst ys) :: (BG, lst [.ref S, .int (i : Int) tkb] 0) :: rest := List.mem_cons_of_mem _ (List.mem_cons_of_mem _ (List.mem_cons_of_mem _ (List.mem_cons_of_mem _ (hsub _ mcB))))
    have mS1 : (S, lst ws 0) ∈ (I, oI) :: (C, oC) :: (D, LCg.lst ys) :: rest := List.mem_cons_of_mem _ (List.mem_cons_of_mem _ (List.mem_cons_of_mem _ (hsub _ mS)))
    clear lN3 lF2 hR
    dsimp only
    have R1 := rem3 (oI := oI) (oC := oC) (oD := LCg.lst ys) off hoff
    k_with "draw" => ((rename Fr _ _ _ _ => lF'); (rename News _ _ _ _ => lN'); k_dflt (refine' draw_use R1 mS1 hI9 ?hlen (Int.natCast_nonneg _) ?j1 ?j2 ?j3 ?k1 ?k2 ?k3 ?k4 ?k5 ?kK ?kd ?ku ?_); (case hlen => assumption); (case j1 => omega); (case j2 => decide); (case j3 => decide); (case k4 => k_asm); (case k1 => k_asm); (case k2 => k_asm); (case k3 => k_asm); (case k5 => k_asm); (case kK => first | exact rfl | assumption); (case kd => ktr_room); (case ku => ktr_units); intro d9 t9 tk9 h9 tkk9 F9 N9 hd0 hd1)
    walk_at "mine steps2"
    rename Fr _ _ _ _ => lF'
    rename News _ _ _ _ => lN'
    rename _ ∧ _ => lt9
    exact compend_B' lF' lN' off ⟨Ne.symm (Nat.ne_of_lt lt9.1), Ne.symm (Nat.ne_of_lt lt9.2.1), Ne.symm (Nat.ne_of_lt lt9.2.2.1), Ne.symm (Nat.ne_of_lt lt9.2.2.2.1)⟩ hoff hsub hlen hcells hcs hd0 hd1 fun _ => trivial
  case fin =>
    intro ys news hI
    clear lN3 lF2 hR
    refine hI.open fun tkb rest cs e9 hoff hsub hlen hcells hcs => ?_
    subst e9
    clear hI
    unfold LCg.FinE
    dsimp only
    intro DC h1 tk1 F1 N1 o1
    have oD := off1_off o1
    have neDB : @Ne Nat _ _ := oD _ (List.mem_cons_self ..)
    replace oD := off_tail oD
    replace mS := hsub _ mS
    replace mPL := hsub _ mPL
    replace mcB := hsub _ mcB
    replace mcP := hsub _ mcP
    replace mcC := hsub _ mcC
    replace mcH := hsub _ mcH
    clear hsub oBG base0 o1 g1
    have N2 := stage N1 mcC
    have neCB : @Ne Nat _ _ := hoff _ mcC
    have neCD : @Ne Nat _ _ := oD _ mcC
    dsimp only at neCB neCD neDB
    have oC := stage_off N2
    have Nr := tail2 N1
    replace mS := wo_in mcC mS (by k_ne)
    replace mPL := wo_in mcC mPL (by k_ne)
    replace mcB := wo_in mcC mcB (by k_ne)
    replace mcP := wo_in mcC mcP (by k_ne)
    replace mcH := wo_in mcC mcH (by k_ne)
    replace hcells := cells_wo Nr mcC (fr_ne_cell dCv) hcells
    replace hoff := off_in mcC hoff
    replace oD := off_in mcC oD
    clear Nr N1 mcC
    generalize Wo _ rest = rest at *
    revert rest
    refine id ?_
    set_option tactic.hygienic false in intros
    walk_at "mine steps3"
    rename Fr _ _ _ _ => lF3
    rename News _ _ _ _ => lN3
    rename_i oC9 dC9
    k_dflt (refine LCg.Assign_ListComp_U (F₀ := lF3) (by rfl) (by with_unfolding_all rfl) (by rfl) (by decide) (by rfl) (by decide) (by rfl) (by rfl) (by rfl) ?_)
    iterate 7 (first | walk1 | (dsimp only; walk1))
    rename IsRange _ _ _ _ _ _ _ _ => hR
    rename Fr _ _ _ _ => lF4
    rename News _ _ _ _ => lN4
    have N2 := stageC lN4 mPL
    have Nr : News _ _ _ rest_1 := fun p hp => lN4 p (List.mem_cons_of_mem _ (List.mem_cons_of_mem _ (List.mem_cons_of_mem _ hp)))
    have oP : Off PL (Wo PL rest_1) := wo_off
    have nPB : @Ne Nat BG PL := Ne.symm (hoff _ mPL)
    replace oP := off2 N2 (Ne.symm (oC _ mPL)) (Ne.symm (oD _ mPL)) oP
    replace hoff := off2 N2 neCB (Ne.symm neDB) (off_in mPL hoff)
    replace hcells := (cells_wo Nr mPL fr_ne_lst hcells).mono fun p hp => up2 N2 hp
    replace mS := up2 N2 (wo_in mPL mS (by k_ne))
    replace mcB := up2 N2 (wo_in mPL mcB (by k_ne))
    replace mcP := up2 N2 (wo_in mPL mcP (by k_ne))
    replace mcH := up2 N2 (wo_in mPL mcH (by k_ne))
    have mcC := up2a N2
    have mDC := up2b N2
    clear Nr lN4 oC oD mPL neCB neCD
    generalize hb1 : (_ :: _ :: Wo PL rest_1) = base1 at *
    clear hb1
    revert base1
    refine id ?_
    set_option tactic.hygienic false in intros
    k_dflt (refine LCg.CompSrc.range (n := 5) (by rfl) lF4 N2 hR (by rfl) (by rfl) (Nat.le_of_ble_eq_true rfl) ?_)
    intro g2
    refine comprest_inv 5 (InvC base1 BG S 0 PL) ?turn ?fin 5 0 [] _ rfl ⟨tkb, _, _, _, [], 0, rfl, hoff, oP, nPB, fun _ h => h, (by repeat' constructor), .nil, rfl, rfl, (by decide), (by decide)⟩
    case turn =>
      intro i zs news v I oI C oC D m₂ h tk9 E' hi hv hI hC hx F1 N1 off ne
      refine hI.open fun tkc rest2 us ns xs n e9 hoff2 hoffP hne hsub hIu hIz hzl hul nd hr => ?_
      subst e9
      clear hI
      have up5 : ∀ p ∈ base1, p ∈ (I, oI) :: (C, oC) :: (D, LCg.lst zs) :: (BG, lst [.ref S, .int (3 + (i : Int)) tkc] 0) :: (PL, lst us n) :: rest2 := fun p hp => List.mem_cons_of_mem _ (List.mem_cons_of_mem _ (List.mem_cons_of_mem _ (List.mem_cons_of_mem _ (List.mem_cons_of_mem _ (hsub p hp)))))
      have mb1 := up5 _ mcB
      have mp1 := up5 _ mcP
      have mpl : (PL, lst us n) ∈ (I, oI) :: (C, oC) :: (D, LCg.lst zs) :: (BG, lst [.ref S, .int (3 + (i : Int)) tkc] 0) :: (PL, lst us n) :: rest2 := List.mem_cons_of_mem _ (List.mem_cons_of_mem _ (List.mem_cons_of_mem _ (List.mem_cons_of_mem _ (List.mem_cons_self ..))))
      have mS1 : (S, lst ws 0) ∈ (I, oI) :: (C, oC) :: (D, LCg.lst zs) :: (PL, lst us n) :: rest2 := List.mem_cons_of_mem _ (List.mem_cons_of_mem _ (List.mem_cons_of_mem _ (List.mem_cons_of_mem _ (hsub _ mS))))
      clear N2 lF4 hR up5
      have R1 := remC (oI := oI) (oC := oC) (oD := LCg.lst zs) off hoff2 hne
      have R2 := fun oB' => remP (oI := oI) (oC := oC) (oD := LCg.lst zs) (oB' := oB') off hoffP hne
      have hus : us.length < 2 ^ 62 := Nat.lt_of_le_of_lt (Nat.le_of_add_right_le (Nat.le_of_eq hul)) (show 8 < 2 ^ 62 from Nat.le_of_ble_eq_true rfl)
      dsimp only
      k_with "len" => ((rename News _ _ _ _ => lN'); (with_unfolding_all refine' lst_len lN' ?hm ?hc ?hd ?hf ?_); (case hm => exact mpl); (case hc => rfl); (case hd => rfl); (case hf => exact hus))
      k_with "draw" => ((rename Fr _ _ _ _ => lF'); (rename News _ _ _ _ => lN'); k_dflt (refine' draw_use R1 mS1 hI9 ?hlen ?j0 ?j1 ?j2 ?j3 ?k1 ?k2 ?k3 ?k4 ?k5 ?kK ?kd ?ku ?_); (case hlen => assumption); (case j0 => omega); (case j1 => omega); (case j2 => omega); (case j3 => omega); (case k4 => k_asm); (case k1 => k_asm); (case k2 => k_asm); (case k3 => k_asm); (case k5 => k_asm); (case kK => first | exact rfl | assumption); (case kd => ktr_room); (case ku => ktr_units); intro d9 t9 tk9 h9 tkk9 F9 N9 hd0 hd1)
      k_with "pop" => ((rename Fr _ _ _ _ => lF'); (rename News _ _ _ _ => lN'); k_dflt (refine' pop_use (R2 _) lF' lN' hIu ?j0 ?j1 ?j2 ?_); (case j0 => assumption); (case j1 => assumption); (case j2 => omega); intro h8 us8 x8 t8 pre8 post8 F8 N8 hI8 e8)
      walk_at "mine steps2"
      rename Fr _ _ _ _ => lF'
      rename News _ _ _ _ => lN'
      exact compend_C' lF' lN' off hoff2 hoffP hne hsub hI8 e8 hIz hzl hul hIu nd hr fun _ => trivial
    case fin =>
      intro zs news hI
      refine hI.open fun tkc rest2 us ns xs n e9 hoff2 hoffP hne hsub hIu hIz hzl hul nd hr => ?_
      subst e9
      clear hI
      clear N2 lF4 hR
      unfold LCg.FinA
      intro DW h2 tk2 F2 N2 o2
      have oW := off1_off o2
      refine ints5_open hIz hzl nd hr fun x0 x1 x2 x3 x4 tx0 tx1 tx2 tx3 tx4 e9 dis sx0 sx1 sx2 sx3 sx4 => ?_
      subst e9
      refine ex1 (cells3 hcells hlen hcs) fun c0 q7 => ex1 q7 fun c1 q8 => ex1 q8 fun c2 q9 => ?_
      have e9 := q9.1
      have hcv := q9.2.1
      have sc0 := q9.2.2.1
      have sc1 := q9.2.2.2.1
      have sc2 := q9.2.2.2.2
      clear q7 q8 q9
      subst e9
      have hBG : (BG, _) ∈ (BG, lst [.ref S, .int (3 + (5 : Nat)) tkc] 0) :: (PL, lst us n) :: rest2 := List.mem_cons_self ..
      have sub3 : Sub base1 ((BG, lst [.ref S, .int (3 + (5 : Nat)) tkc] 0) :: (PL, lst us n) :: rest2) := fun p hp => List.mem_cons_of_mem _ (List.mem_cons_of_mem _ (hsub p hp))
      clear hcells hIz hzl nd hr hIu hul hlen hcs hoff hoff2 hoffP oP hsub hne nPB neDB o2
      generalize ((BG, _) :: (PL, lst us n) :: rest2) = led3 at *
      revert led3
      refine id ?_
      set_option tactic.hygienic false in intros
      replace mS := sub3 _ mS
      replace mcB := sub3 _ mcB
      replace mcH := sub3 _ mcH
      replace mcC := sub3 _ mcC
      replace mDC := sub3 _ mDC
      replace hcv := hcv.mono sub3
      clear sub3 mcP base1
      walk_at "mine steps2"
      k_dflt (refine ListComp_go (by with_unfolding_all rfl) (by rfl) (by decide) ?_)
      walk_at "mine steps2"
      rename Fr _ _ _ _ => lF5
      rename News _ _ _ _ => lN5
      k_dflt (refine' go_list (vs := [.int x0 tx0, .int x1 tx1, .int x2 tx2, .int x3 tx3]) (J := fun i outs T => InvD (valAt c0 c1 c2) [x0, x1, x2, x3] i outs T) ?hh lF5 lN5 (List.mem_cons_self ..) ?c1 ?d1 ?sz ?hcell ?hkind ?hx ?J0 ?turn ?fin)
      case hh => rfl
      case c1 => rfl
      case d1 => rfl
      case sz => exact Nat.le_of_ble_eq_true rfl
      case hcell => decide
      case hkind => rfl
      case hx => rfl
      case J0 => exact Pts.nil
      case turn =>
        intro g i outs T C oCC m₂ N₁ h₁ tk₁ E' hi hC hB F₁ N₁' hT hJ
        obtain ⟨v, hvi, ma⟩ := hB
        have key : ∃ x t, v = .int x t ∧ [x0, x1, x2, x3][i]? = some x ∧ Sm 3 x := by
          match i with
          | 0 => cases hvi; exact ⟨_, _, rfl, rfl, sx0⟩
          | 1 => cases hvi; exact ⟨_, _, rfl, rfl, sx1⟩
          | 2 => cases hvi; exact ⟨_, _, rfl, rfl, sx2⟩
          | 3 => cases hvi; exact ⟨_, _, rfl, rfl, sx3⟩
          | n + 4 => simp at hvi
        obtain ⟨x, tx, rfl, hxi, sx⟩ := key
        have upD : ∀ p ∈ led3, p ∈ (C, oCC) :: N₁ := fun p hp => List.mem_cons_of_mem _ (hT _ (List.mem_append_right _ (List.mem_cons_of_mem _ (List.mem_cons_of_mem _ hp))))
        have mC1 := upD _ mcC
        have mD1 := upD _ mDC
        have hcv1 := hcv.mono upD
        clear lN5 lF5 upD
        dsimp only
        k_with "draw" => ((rename Fr _ _ _ _ => lF'); (rename News _ _ _ _ => lN'); k_dflt (refine' at_use (j := 2) mD1 hcv1 (Bd.intCast (n := 2) sc0) (Bd.intCast (n := 2) sc1) (Bd.intCast (n := 2) sc2) ?n1 sx ?n2 ?k1 ?k2 ?k3 ?k4 ?k5 ?kK ?kd ?ku ?_); (case n1 => decide); (case n2 => decide); (case k4 => k_asm); (case k1 => k_asm); (case k2 => k_asm); (case k3 => k_asm); (case k5 => k_asm); (case kK => first | exact rfl | assumption); (case kd => ktr_room); (case ku => ktr_units); intro D9 u9 v9 c9 h9 tk9 F9 N9 hl9)
        walk_at "mine steps2"
        rename Fr _ _ _ _ => kF
        rename News _ _ _ _ => kN
        refine ⟨_, _, [_, _], rfl, kF, kN, ord_cons (by first | walk_at "mine ltw" | walk_at "mine lt") (ord_cons (by first | walk_at "mine ltw" | walk_at "mine lt") ord_nil), Pts.snoc (hJ.mono fun p hp => List.mem_append_right _ hp) hxi ⟨_, _, _, _, _, _, _, rfl, List.mem_cons_self .., List.mem_cons_of_mem _ (List.mem_cons_self ..)⟩⟩
      case fin =>
        intro g DP h tk T outs F N o1 o2 o3 hJ
        replace hJ : Pts T (valAt c0 c1 c2) outs [x0, x1, x2, x3] := hJ
        refine ex1 (packD N o1 hJ) fun led4 q9 => ?_
        have N4 := q9.1
        have up4 := q9.2.1
        have hP4 := q9.2.2.1
        have oP4 := q9.2.2.2
        clear q9
        clear N o1 o2 o3 hJ lN5 lF5
        have N6 := stage1 N4 (up4 _ mcH)
        have oH := stage1_off N6
        have nHP : @Ne Nat _ DP := oP4 _ (up4 _ mcH)
        have Nr := tail1 N4
        have mBG := wo_at Nr (up4 _ mcH) (up4 _ hBG) (lst_ne_cell dHr _ _)
        replace mS := wo_at Nr (up4 _ mcH) (up4 _ mS) (lst_ne_cell dHr _ _)
        replace mcB := wo_in (up4 _ mcH) (up4 _ mcB) (by k_ne)
        replace mcC := wo_in (up4 _ mcH) (up4 _ mcC) (by k_ne)
        replace mDC := wo_at Nr (up4 _ mcH) (up4 _ mDC) (lst_ne_cell dHr _ _)
        replace hcv := cells_wo Nr (up4 _ mcH) (fr_ne_cell dHr) (hcv.mono up4)
        replace hP4 := pts_wo Nr (up4 _ mcH) dHr hP4
        clear Nr N4 hBG up4 oW oP4
        generalize Wo _ led4 = led6 at *
        revert led6
        refine id ?_
        set_option tactic.hygienic false in intros
        refine hP4.open4 fun P0 P1 P2 P3 D0 D1 D2 D3 t0 e0 u0 z0 k0 t1 e1 u1 z1 k1 t2 e2 u2 z2 k2 t3 e3 u3 z3 k3 e9 mP0 mP1 mP2 mP3 mD0 mD1 mD2 mD3 => ?_
        subst e9
        walk_at "mine steps2"
        rename Fr _ _ _ _ => lF7
        rename News _ _ _ _ => lN7
        rename_i TT _ lTT _ _ oH6 dH6 _
        have up7 := up3 lN7
        have mH := up3b lN7
        have mDP := up3c lN7
        replace mBG := up7 _ mBG
        replace mS := up7 _ mS
        replace mcB := up7 _ mcB
        replace mcC := up7 _ mcC
        replace mDC := up7 _ mDC
        replace hcv := hcv.mono up7
        replace mP0 := up7 _ mP0
        replace mP1 := up7 _ mP1
        replace mP2 := up7 _ mP2
        replace mP3 := up7 _ mP3
        replace mD0 := up7 _ mD0
        replace mD1 := up7 _ mD1
        replace mD2 := up7 _ mD2
        replace mD3 := up7 _ mD3
        clear up7 oH nHP lTT hP4
        generalize hb7 : (_ :: _ :: _ :: led6) = led7 at *
        clear hb7
        revert led7
        refine id ?_
        set_option tactic.hygienic false in intros
        refine hcv.open3 fun E0 E1 E2 f0 g0 j0 f1 g1 j1 f2 g2 j2 e9 mE0 mE1 mE2 => ?_
        subst e9
        k_dflt (refine LCg.ListComp_U (F₀ := lF7) (by with_unfolding_all rfl) (by decide) (by rfl) (by decide) (by rfl) ?_)
        iterate 7 (first | walk1 | (dsimp only; walk1))
        rename IsRange _ _ _ _ _ _ _ _ => hR
        rename Fr _ _ _ _ => lF8
        rename News _ _ _ _ => lN8
        k_dflt (refine LCg.CompSrc.range (n := 3) (by rfl) lF8 lN8 hR (by rfl) (by rfl) (Nat.le_of_ble_eq_true rfl) ?_)
        intro g3
        refine comprest_inv 3 (InvE _ [c0 * x4 ^ 0, c1 * x4 ^ 1, c2 * x4 ^ 2]) ?turn ?fin 3 0 [] _ rfl ⟨rfl, rfl, .nil⟩
        case turn =>
          intro i es news v I oI C oC D m₂ h tk9 E' hi hv hI hC hx F1 N1 off ne
          obtain ⟨hnw, hyl, hys⟩ := hI
          replace hnw := hnw.symm
          subst hnw
          have upE := up3 N1
          have mH1 := upE _ mH
          have mC1 := upE _ mcC
          have mD1 := upE _ mDC
          have mE01 : (E0, tup2 c0 1 f0 g0 j0) ∈ _ := upE _ mE0
          have mE11 : (E1, tup2 c1 1 f1 g1 j1) ∈ _ := upE _ mE1
          have mE21 : (E2, tup2 c2 1 f2 g2 j2) ∈ _ := upE _ mE2
          have hp64 : x4.natAbs < 2 ^ 64 := Nat.lt_trans sx4 (Nat.lt_of_lt_of_le (show 2 ^ 3 < 9 by decide) (by decide))
          have sp0 : Sm 6 (x4 ^ (0 : Int).toNat) := by unfold Sm; simp
          have sp1 : Sm 6 (x4 ^ (1 : Int).toNat) := by show Sm 6 (x4 ^ 1); rw [Int.pow_succ, Int.pow_zero, Int.one_mul]; exact sx4.mono (by decide)
          have sp2 : Sm 6 (x4 ^ (2 : Int).toNat) := by show Sm 6 (x4 ^ 2); rw [Int.pow_succ, Int.pow_succ, Int.pow_zero, Int.one_mul]; exact sx4.mul sx4
          have sq0 : Sm 6 c0 := sc0.mono (by decide)
          have sq1 : Sm 6 c1 := sc1.mono (by decide)
          have sq2 : Sm 6 c2 := sc2.mono (by decide)
          clear upE lF8 lN8 hR
          dsimp only
          k_with "pow" => (refine pow_int_small (by decide) (by decide) (by with_reducible assumption) ?_)
          obtain ⟨tp, rfl⟩ := hv
          rcases i with _ | _ | _ | i
          · replace hx : m₂ (Str.ofString "power") = some (.int 0 tp) := hx
            walk_at "mine steps2"
            exact compend_E (by assumption) (by assumption) off hyl hys rfl fun _ => trivial
          · replace hx : m₂ (Str.ofString "power") = some (.int 1 tp) := hx
            walk_at "mine steps2"
            exact compend_E (by assumption) (by assumption) off hyl hys rfl fun _ => trivial
          · replace hx : m₂ (Str.ofString "power") = some (.int 2 tp) := hx
            walk_at "mine steps2"
            exact compend_E (by assumption) (by assumption) off hyl hys rfl fun _ => trivial
          · omega
        case fin =>
          intro es news hI
          obtain ⟨hnw, hel, hes⟩ := hI
          replace hnw := hnw.symm
          subst hnw
          clear lN8 lF8 hR
          unfold LCg.FinE
          dsimp only
          intro DE h8 tk8 F8 N8 o8
          k_with "sum" => ((rename Fr _ _ _ _ => lF'); (rename News _ _ _ _ => lN'); (with_unfolding_all refine' sumK (by rfl) lF' lN' ⟨_, (lN' _ (List.mem_cons_self ..)).1, rfl, _, rfl⟩ hes ?_); intro h' tk' t' F' N')
          walk_at "mine steps4"
          rename Fr _ _ _ _ => lFa
          rename News _ _ _ _ => lNa
          rename_i DU _ lDU _ 
          refine ex1 (packE lNa) fun led8 q9 => ?_
          have N8 := q9.1
          have up8 := q9.2.1
          have mDU := q9.2.2
          clear q9
          replace mDU := due_mem due_eq mDU
          clear lNa
          replace mDC := up8 _ mDC
          replace hcv := hcv.mono up8
          replace mBG := up8 _ mBG
          replace mS := up8 _ mS
          replace mcB := up8 _ mcB
          replace mcC := up8 _ mcC
          replace mH := up8 _ mH
          replace mDP := up8 _ mDP
          replace mP0 := up8 _ mP0
          replace mP1 := up8 _ mP1
          replace mP2 := up8 _ mP2
          replace mP3 := up8 _ mP3
          replace mD0 := up8 _ mD0
          replace mD1 := up8 _ mD1
          replace mD2 := up8 _ mD2
          replace mD3 := up8 _ mD3
          clear up8 lDU o8 hel hes mE0 mE1 mE2
          have d01 := dis.1
          have d02 := dis.2.1
          have d03 := dis.2.2.1
          have d04 := dis.2.2.2.1
          have d12 := dis.2.2.2.2.1
          have d13 := dis.2.2.2.2.2.1
          have d14 := dis.2.2.2.2.2.2.1
          have d23 := dis.2.2.2.2.2.2.2.1
          have d24 := dis.2.2.2.2.2.2.2.2.1
          have d34 := dis.2.2.2.2.2.2.2.2.2
          clear dis
          k_with_none
          k_with "two" => skip
          k_with "mine up" => first | with_reducible assumption | (with_reducible exact List.mem_cons_self) | ((with_reducible refine mem_head ?_); exact rfl) | (refine List.mem_cons_of_mem _ ?_; walk_at "mine up") | (rename Sub _ _ => s9'; refine s9' _ ?_; walk_at "mine up") | (rename Sub _ _ => s9'; clear s9'; walk_at "mine up")
          k_with "mine l9" => first | with_reducible assumption | exact And.right (by with_reducible assumption) | exact r2 (by with_reducible assumption) | exact r3 (by with_reducible assumption) | exact r4 (by with_reducible assumption) | exact r5 (by with_reducible assumption) | exact r6 (by with_reducible assumption) | exact r7 (by with_reducible assumption)
          k_with "mine ltw" => first | with_reducible assumption | exact allLt_of (by with_reducible assumption) | walk_at "mine l9" | exact r8 (by walk_at "mine l9") | exact r8 (r8 (by walk_at "mine l9")) | exact r8 (r8 (r8 (by walk_at "mine l9"))) | exact r8 (r8 (r8 (r8 (by walk_at "mine l9")))) | exact r8 (r8 (r8 (r8 (r8 (by walk_at "mine l9")))))
          k_with "mine up3" => first | with_reducible assumption | (with_reducible exact List.mem_cons_self) | (refine List.mem_cons_of_mem _ ?_; walk_at "mine up3")
          k_with "mine up4" => first | with_reducible assumption | ((with_reducible refine mem_head ?_); exact rfl) | (refine List.mem_cons_of_mem _ ?_; walk_at "mine up4")
          k_with "mine kk3" => ((case k1 => k_asm); (case k2 => k_asm); (case k3 => k_asm); (case k5 => k_asm); (case kK => exact rfl); (case kd => exact Nat.le_of_ble_eq_true rfl); (case ku => exact Nat.le_of_ble_eq_true rfl))
          k_with "mine cl3" => refine' Cells.of3 ?ca ?cb ?cc; (case ca => walk_at "mine up3"); (case cb => walk_at "mine up3"); (case cc => walk_at "mine up3")
          k_with "mine calls3" => (k_dflt (first | ((refine' curve_solved3_use ?mL ?p0 ?p1 ?p2 ?d0 ?d1 ?d2 ?v0 ?v1 ?v2 ?s0 ?s1 ?s2 ?h01 ?h02 ?h12 ?k1 ?k2 ?k3 ?k4 ?k5 ?kK ?kd ?ku ?_); (case k4 => k_asm); (case mL => walk_at "mine up3"); (case p0 => walk_at "mine up3"); (case p1 => walk_at "mine up3"); (case p2 => walk_at "mine up3"); (case d0 => walk_at "mine up3"); (case d1 => walk_at "mine up3"); (case d2 => walk_at "mine up3"); (case v0 => with_reducible assumption); (case v1 => with_reducible assumption); (case v2 => with_reducible assumption); (case s0 => with_reducible assumption); (case s1 => with_reducible assumption); (case s2 => with_reducible assumption); (case h01 => with_reducible assumption); (case h02 => with_reducible assumption); (case h12 => with_reducible assumption); walk_at "mine kk3"; intro R9 c9 E9 E8 E7 f9 g9 j9 f8 g8 j8 f7 g7 j7 h9 tk9 F9 N9) | ((refine' curve_at_use ?mL ?hc ?v0 ?v1 ?v2 ?s0 ?k1 ?k2 ?k3 ?k4 ?k5 ?kK ?kd ?ku ?_); (case k4 => k_asm); (case mL => walk_at "mine up3"); (case hc => walk_at "mine cl3"); (case v0 => with_reducible assumption); (case v1 => with_reducible assumption); (case v2 => with_reducible assumption); (case s0 => with_reducible assumption); walk_at "mine kk3"; intro D9 u9 v9 c9 h9 tk9 F9 N9 hl9) | ((refine' curve_diff_use ?mL ?p0 ?p1 ?p2 ?d0 ?d1 ?d2 ?v0 ?v1 ?v2 ?s0 ?s1 ?s2 ?s3 ?h01 ?h02 ?h12 ?k1 ?k2 ?k3 ?k4 ?k5 ?kK ?kd ?ku ?_); (case k4 => k_asm); (case mL => walk_at "mine up3"); (case p0 => walk_at "mine up3"); (case p1 => walk_at "mine up3"); (case p2 => walk_at "mine up3"); (case d0 => walk_at "mine up3"); (case d1 => walk_at "mine up3"); (case d2 => walk_at "mine up3"); (case v0 => with_reducible assumption); (case v1 => with_reducible assumption); (case v2 => with_reducible assumption); (case s0 => with_reducible assumption); (case s1 => with_reducible assumption); (case s2 => with_reducible assumption); (case s3 => with_reducible assumption); (case h01 => with_reducible assumption); (case h02 => with_reducible assumption); (case h12 => with_reducible assumption); walk_at "mine kk3"; intro D9 u9 v9 c9 h9 tk9 F9 N9 hl9) | ((refine' curve_prod_use ?mL ?p0 ?p1 ?p2 ?d0 ?d1 ?d2 ?v0 ?v1 ?v2 ?s0 ?s1 ?s2 ?s3 ?h01 ?h02 ?h12 ?k1 ?k2 ?k3 ?k4 ?k5 ?kK ?kd ?ku ?_); (case k4 => k_asm); (case mL => walk_at "mine up3"); (case p0 => walk_at "mine up3"); (case p1 => walk_at "mine up3"); (case p2 => walk_at "mine up3"); (case d0 => walk_at "mine up3"); (case d1 => walk_at "mine up3"); (case d2 => walk_at "mine up3"); (case v0 => with_reducible assumption); (case v1 => with_reducible assumption); (case v2 => with_reducible assumption); (case s0 => with_reducible assumption); (case s1 => with_reducible assumption); (case s2 => with_reducible assumption); (case s3 => with_reducible assumption); (case h01 => with_reducible assumption); (case h02 => with_reducible assumption); (case h12 => with_reducible assumption); walk_at "mine kk3"; intro D9 u9 v9 c9 h9 tk9 F9 N9 hl9)))
          k_with "mine neq3" => ((rename News _ _ _ _ => lN'); k_dflt (first | ((refine' rows_ne_same lN' ?m1 ?m2 ?c1 ?c2 ?u ?_); (case m1 => walk_at "mine up3"); (case m2 => walk_at "mine up3"); (case c1 => walk_at "mine cl3"); (case c2 => walk_at "mine cl3"); (case u => exact Nat.le_of_ble_eq_true rfl)) | ((refine' fr_ne_same lN' ?m1 ?m2 ?e ?u ?_); (case m1 => walk_at "mine up3"); (case m2 => walk_at "mine up3"); (case e => rfl); (case u => exact Nat.le_of_ble_eq_true rfl))))
          k_with "mine tup" => (k_here; (rename News _ _ _ _ => lN'); (k_dflt (refine' tup_item lN' ?hm (by decide) (by decide) ?hj ?hx ?_; (case hm => walk_at "mine up3"); (case hj => exact rfl); (case hx => exact rfl))))
          k_with "mine steps8" => (repeat' ((fail_if_success (with_reducible show RangeRest _ _ _ _ _ _ _ _ _ _ _ _ _ _ _ _ _)); (first | (k_unfold; (try dsimp only)) | (k_end; wrow_close) | walk1 | (dsimp only; walk1))))
          k_with "mine steps9" => (repeat' ((fail_if_success (with_reducible show wpAny _ _ (exec (Stmt.Assign _ (PySem.Expr.BinOp _ _ _ _) _) _) _ _ _)); (first | (k_unfold; (try dsimp only)) | (k_end; wrow_close) | walk1 | (dsimp only; walk1))))
          k_with "mine stepsZ" => (repeat' (first | (k_unfold; (try dsimp only)) | walk1 | (dsimp only; walk1)))
          k_with "fold" => skip
          walk_at "mine steps8"
          rename Fr _ _ _ _ => lF1
          rename News _ _ _ _ => lN1
          rename ∀ p ∈ led8, p.1 < _ => hlt8
          have q0 : Pt3 led8 c0 c1 c2 P0 x0 := ⟨_, _, _, _, _, _, mP0, mD0, sx0⟩
          have q1 : Pt3 led8 c0 c1 c2 P1 x1 := ⟨_, _, _, _, _, _, mP1, mD1, sx1⟩
          have q2 : Pt3 led8 c0 c1 c2 P2 x2 := ⟨_, _, _, _, _, _, mP2, mD2, sx2⟩
          have q3 : Pt3 led8 c0 c1 c2 P3 x3 := ⟨_, _, _, _, _, _, mP3, mD3, sx3⟩
          replace mDC : (DC, lst [.ref E0, .ref E1, .ref E2] _) ∈ led8 := mDC
          refine hcv.at3_open fun o1 o2 o3 o4 o5 o6 o7 o8 o9 n0 n1 n2 => ?_
          refine range_all (JF _ led8) ?turn ?done _ _ _ _ rfl JF.start
          case turn =>
            intro i m news t h tk hi hJ F N
            obtain ⟨e, u, v, rfl⟩ := hJ
            replace e := e.symm
            subst e
            clear lF1 lN1
            walk1
            refine cut3 c0 c1 c2 F N ?h1 ?h2
            case h1 =>
              rcases i with _ | _ | _ | _ | i
              · replace F : Fr _ _ h (fun y => if y = Str.ofString "gone" then some (.int 0 t) else _) := F
                k_steps
                rename Fr _ _ _ _ => kF
                rename News _ _ _ _ => kN
                exact ⟨_, _, _, _, _, _, _, _, _, _, rfl, kF, pick14 kN, q1, q2, q3, d12, d13, d23⟩
              · replace F : Fr _ _ h (fun y => if y = Str.ofString "gone" then some (.int 1 t) else _) := F
                k_steps
                rename Fr _ _ _ _ => kF
                rename News _ _ _ _ => kN
                exact ⟨_, _, _, _, _, _, _, _, _, _, rfl, kF, pick14 kN, q0, q2, q3, d02, d03, d23⟩
              · replace F : Fr _ _ h (fun y => if y = Str.ofString "gone" then some (.int 2 t) else _) := F
                k_steps
                rename Fr _ _ _ _ => kF
                rename News _ _ _ _ => kN
                exact ⟨_, _, _, _, _, _, _, _, _, _, rfl, kF, pick14 kN, q0, q1, q3, d01, d03, d13⟩
              · replace F : Fr _ _ h (fun y => if y = Str.ofString "gone" then some (.int 3 t) else _) := F
                k_steps
                rename Fr _ _ _ _ => kF
                rename News _ _ _ _ => kN
                exact ⟨_, _, _, _, _, _, _, _, _, _, rfl, kF, pick14 kN, q0, q1, q2, d01, d02, d12⟩
              · omega
            case h2 =>
              clear q0 q1 q2 q3 mP0 mP1 mP2 mP3 mD0 mD1 mD2 mD3 mDP F N hcv d01 d02 d03 d04 d12 d13 d14 d23 d24 d34
              intro h' tk' DT cT A0 A1 A2 a0 a1 a2 F2 N2 r0 r1 r2 e01 e02 e12
              refine r0.open fun B0 b0 b1 b2 b3 b4 mA0 mB0 s0 => ?_
              clear r0
              refine r1.open fun B1 b5 b6 b7 b8 b9 mA1 mB1 s1 => ?_
              clear r1
              refine r2.open fun B2 b10 b11 b12 b13 b14 mA2 mB2 s2 => ?_
              clear r2
              k_with "neq" => walk_at "mine neq3"
              k_with "draw" => ((rename Fr _ _ _ _ => lF'); (rename News _ _ _ _ => lN'); walk_at "mine calls3")
              walk_at "mine steps8"
              rename Fr _ _ _ _ => kF
              rename News _ _ _ _ => kN
              exact UnrEnd.intro kF kN led8 (by walk_at "mine sub") (fun p hp => Nat.ne_of_lt (hlt8 p hp)) JF.next
          case done =>
            intro m news h tk hJ F N
            obtain ⟨e, u, v, rfl⟩ := hJ
            replace e := e.symm
            subst e
            dsimp only
            clear q0 q1 q2 q3 hlt8
            replace F := fr_as lF1 F
            replace N := news_as lN1 N
            obtain ⟨up, hU, uN⟩ := up_of hC9 (by assumption)
            have N6 := wo_news N mBG
            replace mS := wo_in mBG mS (by k_ne)
            replace mcB := wo_at N mBG mcB (cell_ne_lst dBag)
            replace mcC := wo_at N mBG mcC (cell_ne_lst dC9)
            replace mH := wo_at N mBG mH (cell_ne_lst dH6)
            replace mDP := wo_at N mBG mDP (lst_ne_lst (by simp))
            replace mDU := wo_at N mBG mDU (tup_ne_lst rfl)
            replace mP0 := wo_at N mBG mP0 (tup_ne_lst rfl)
            replace mP1 := wo_at N mBG mP1 (tup_ne_lst rfl)
            replace mP2 := wo_at N mBG mP2 (tup_ne_lst rfl)
            replace mP3 := wo_at N mBG mP3 (tup_ne_lst rfl)
            replace mD0 := wo_at N mBG mD0 (tup_ne_lst rfl)
            replace mD1 := wo_at N mBG mD1 (tup_ne_lst rfl)
            replace mD2 := wo_at N mBG mD2 (tup_ne_lst rfl)
            replace mD3 := wo_at N mBG mD3 (tup_ne_lst rfl)
            have oBG : Off BG (Wo BG led8) := wo_off
            clear N lF1 lN1 hcv n0 n1 n2 mBG mDC
            generalize Wo BG led8 = led10 at *
            revert led10
            refine id ?_
            set_option tactic.hygienic false in intros
            k_with_none
            k_with "two" => skip
            k_with "mine up" => first | with_reducible assumption | (with_reducible exact List.mem_cons_self) | ((with_reducible refine mem_head ?_); exact rfl) | (refine List.mem_cons_of_mem _ ?_; walk_at "mine up") | (rename Sub _ _ => s9'; refine s9' _ ?_; walk_at "mine up") | (rename Sub _ _ => s9'; clear s9'; walk_at "mine up")
            k_with "mine l9" => first | with_reducible assumption | exact And.right (by with_reducible assumption) | exact r2 (by with_reducible assumption) | exact r3 (by with_reducible assumption) | exact r4 (by with_reducible assumption) | exact r5 (by with_reducible assumption) | exact r6 (by with_reducible assumption) | exact r7 (by with_reducible assumption)
            k_with "mine ltw" => first | with_reducible assumption | exact allLt_of (by with_reducible assumption) | walk_at "mine l9" | exact r8 (by walk_at "mine l9") | exact r8 (r8 (by walk_at "mine l9")) | exact r8 (r8 (r8 (by walk_at "mine l9"))) | exact r8 (r8 (r8 (r8 (by walk_at "mine l9")))) | exact r8 (r8 (r8 (r8 (r8 (by walk_at "mine l9")))))
            k_with "mine up3" => first | with_reducible assumption | (with_reducible exact List.mem_cons_self) | (refine List.mem_cons_of_mem _ ?_; walk_at "mine up3")
            k_with "mine up4" => first | with_reducible assumption | ((with_reducible refine mem_head ?_); exact rfl) | (refine List.mem_cons_of_mem _ ?_; walk_at "mine up4")
            k_with "mine kk3" => ((case k1 => k_asm); (case k2 => k_asm); (case k3 => k_asm); (case k5 => k_asm); (case kK => exact rfl); (case kd => exact Nat.le_of_ble_eq_true rfl); (case ku => exact Nat.le_of_ble_eq_true rfl))
            k_with "mine cl3" => refine' Cells.of3 ?ca ?cb ?cc; (case ca => walk_at "mine up3"); (case cb => walk_at "mine up3"); (case cc => walk_at "mine up3")
            k_with "mine calls3" => (k_dflt (first | ((refine' curve_solved3_use ?mL ?p0 ?p1 ?p2 ?d0 ?d1 ?d2 ?v0 ?v1 ?v2 ?s0 ?s1 ?s2 ?h01 ?h02 ?h12 ?k1 ?k2 ?k3 ?k4 ?k5 ?kK ?kd ?ku ?_); (case k4 => k_asm); (case mL => walk_at "mine up3"); (case p0 => walk_at "mine up3"); (case p1 => walk_at "mine up3"); (case p2 => walk_at "mine up3"); (case d0 => walk_at "mine up3"); (case d1 => walk_at "mine up3"); (case d2 => walk_at "mine up3"); (case v0 => with_reducible assumption); (case v1 => with_reducible assumption); (case v2 => with_reducible assumption); (case s0 => with_reducible assumption); (case s1 => with_reducible assumption); (case s2 => with_reducible assumption); (case h01 => with_reducible assumption); (case h02 => with_reducible assumption); (case h12 => with_reducible assumption); walk_at "mine kk3"; intro R9 c9 E9 E8 E7 f9 g9 j9 f8 g8 j8 f7 g7 j7 h9 tk9 F9 N9) | ((refine' curve_at_use ?mL ?hc ?v0 ?v1 ?v2 ?s0 ?k1 ?k2 ?k3 ?k4 ?k5 ?kK ?kd ?ku ?_); (case k4 => k_asm); (case mL => walk_at "mine up3"); (case hc => walk_at "mine cl3"); (case v0 => with_reducible assumption); (case v1 => with_reducible assumption); (case v2 => with_reducible assumption); (case s0 => with_reducible assumption); walk_at "mine kk3"; intro D9 u9 v9 c9 h9 tk9 F9 N9 hl9) | ((refine' curve_diff_use ?mL ?p0 ?p1 ?p2 ?d0 ?d1 ?d2 ?v0 ?v1 ?v2 ?s0 ?s1 ?s2 ?s3 ?h01 ?h02 ?h12 ?k1 ?k2 ?k3 ?k4 ?k5 ?kK ?kd ?ku ?_); (case k4 => k_asm); (case mL => walk_at "mine up3"); (case p0 => walk_at "mine up3"); (case p1 => walk_at "mine up3"); (case p2 => walk_at "mine up3"); (case d0 => walk_at "mine up3"); (case d1 => walk_at "mine up3"); (case d2 => walk_at "mine up3"); (case v0 => with_reducible assumption); (case v1 => with_reducible assumption); (case v2 => with_reducible assumption); (case s0 => with_reducible assumption); (case s1 => with_reducible assumption); (case s2 => with_reducible assumption); (case s3 => with_reducible assumption); (case h01 => with_reducible assumption); (case h02 => with_reducible assumption); (case h12 => with_reducible assumption); walk_at "mine kk3"; intro D9 u9 v9 c9 h9 tk9 F9 N9 hl9) | ((refine' curve_prod_use ?mL ?p0 ?p1 ?p2 ?d0 ?d1 ?d2 ?v0 ?v1 ?v2 ?s0 ?s1 ?s2 ?s3 ?h01 ?h02 ?h12 ?k1 ?k2 ?k3 ?k4 ?k5 ?kK ?kd ?ku ?_); (case k4 => k_asm); (case mL => walk_at "mine up3"); (case p0 => walk_at "mine up3"); (case p1 => walk_at "mine up3"); (case p2 => walk_at "mine up3"); (case d0 => walk_at "mine up3"); (case d1 => walk_at "mine up3"); (case d2 => walk_at "mine up3"); (case v0 => with_reducible assumption); (case v1 => with_reducible assumption); (case v2 => with_reducible assumption); (case s0 => with_reducible assumption); (case s1 => with_reducible assumption); (case s2 => with_reducible assumption); (case s3 => with_reducible assumption); (case h01 => with_reducible assumption); (case h02 => with_reducible assumption); (case h12 => with_reducible assumption); walk_at "mine kk3"; intro D9 u9 v9 c9 h9 tk9 F9 N9 hl9)))
            k_with "mine neq3" => ((rename News _ _ _ _ => lN'); k_dflt (first | ((refine' rows_ne_same lN' ?m1 ?m2 ?c1 ?c2 ?u ?_); (case m1 => walk_at "mine up3"); (case m2 => walk_at "mine up3"); (case c1 => walk_at "mine cl3"); (case c2 => walk_at "mine cl3"); (case u => exact Nat.le_of_ble_eq_true rfl)) | ((refine' fr_ne_same lN' ?m1 ?m2 ?e ?u ?_); (case m1 => walk_at "mine up3"); (case m2 => walk_at "mine up3"); (case e => rfl); (case u => exact Nat.le_of_ble_eq_true rfl))))
            k_with "mine tup" => (k_here; (rename News _ _ _ _ => lN'); (k_dflt (refine' tup_item lN' ?hm (by decide) (by decide) ?hj ?hx ?_; (case hm => walk_at "mine up3"); (case hj => exact rfl); (case hx => exact rfl))))
            k_with "mine steps8" => (repeat' ((fail_if_success (with_reducible show RangeRest _ _ _ _ _ _ _ _ _ _ _ _ _ _ _ _ _)); (first | (k_unfold; (try dsimp only)) | (k_end; wrow_close) | walk1 | (dsimp only; walk1))))
            k_with "mine steps9" => (repeat' ((fail_if_success (with_reducible show wpAny _ _ (exec (Stmt.Assign _ (PySem.Expr.BinOp _ _ _ _) _) _) _ _ _)); (first | (k_unfold; (try dsimp only)) | (k_end; wrow_close) | walk1 | (dsimp only; walk1))))
            k_with "mine stepsZ" => (repeat' (first | (k_unfold; (try dsimp only)) | walk1 | (dsimp only; walk1)))
            k_with "fold" => skip
            k_with "draw" => ((rename Fr _ _ _ _ => lF'); (rename News _ _ _ _ => lN'); k_dflt ((refine' draw_use (Rem.here oBG) mS hI9 ?hlen ?j0 ?j1 ?j2 ?j3 ?k1 ?k2 ?k3 ?k4 ?k5 ?kK ?kd ?ku ?_); (case k4 => k_asm); (case hlen => assumption); (case j0 => omega); (case j1 => omega); (case j2 => omega); (case j3 => omega); (case k1 => k_asm); (case k2 => k_asm); (case k3 => k_asm); (case k5 => k_asm); (case kK => first | exact rfl | assumption); (case kd => exact Nat.le_of_ble_eq_true rfl); (case ku => exact Nat.le_of_ble_eq_true rfl); intro d9 t9 tk9 h9 tkk9 F9 N9 hd0 hd1))
            walk_at "mine steps9"
            rename Fr _ _ _ _ => lF2
            rename News _ _ _ _ => lN2
            refine ex1 (pickU lN2) fun led11 q9 => ?_
            have N11 := q9.1
            have sub11 := q9.2.1
            have mU := q9.2.2
            clear q9
            replace mU : (_, tup2 _ 2 _ _ _) ∈ led11 := mU
            clear lN2
            replace mcB := sub11 _ mcB
            replace mcC := sub11 _ mcC
            replace mH := sub11 _ mH
            replace mDP := sub11 _ mDP
            replace mDU := sub11 _ mDU
            replace mP0 := sub11 _ mP0
            replace mP1 := sub11 _ mP1
            replace mP2 := sub11 _ mP2
            replace mP3 := sub11 _ mP3
            replace mD0 := sub11 _ mD0
            replace mD1 := sub11 _ mD1
            replace mD2 := sub11 _ mD2
            replace mD3 := sub11 _ mD3
            clear sub11 oBG mS
            have q0 : Pq led11 P0 x0 (valAt c0 c1 c2 x0) := ⟨_, _, _, _, _, _, mP0, mD0⟩
            have q1 : Pq led11 P1 x1 (valAt c0 c1 c2 x1) := ⟨_, _, _, _, _, _, mP1, mD1⟩
            have q2 : Pq led11 P2 x2 (valAt c0 c1 c2 x2) := ⟨_, _, _, _, _, _, mP2, mD2⟩
            have q3 : Pq led11 P3 x3 (valAt c0 c1 c2 x3) := ⟨_, _, _, _, _, _, mP3, mD3⟩
            have v0 := valAt_bd sc0 sc1 sc2 sx0
            have v1 := valAt_bd sc0 sc1 sc2 sx1
            have v2 := valAt_bd sc0 sc1 sc2 sx2
            have hd9 : d9 = 0 ∨ d9 = 1 ∨ d9 = 2 := by omega
            k_with_none
            k_with "two" => skip
            k_with "mine up" => first | with_reducible assumption | (with_reducible exact List.mem_cons_self) | ((with_reducible refine mem_head ?_); exact rfl) | (refine List.mem_cons_of_mem _ ?_; walk_at "mine up") | (rename Sub _ _ => s9'; refine s9' _ ?_; walk_at "mine up") | (rename Sub _ _ => s9'; clear s9'; walk_at "mine up")
            k_with "mine l9" => first | with_reducible assumption | exact And.right (by with_reducible assumption) | exact r2 (by with_reducible assumption) | exact r3 (by with_reducible assumption) | exact r4 (by with_reducible assumption) | exact r5 (by with_reducible assumption) | exact r6 (by with_reducible assumption) | exact r7 (by with_reducible assumption)
            k_with "mine ltw" => first | with_reducible assumption | exact allLt_of (by with_reducible assumption) | walk_at "mine l9" | exact r8 (by walk_at "mine l9") | exact r8 (r8 (by walk_at "mine l9")) | exact r8 (r8 (r8 (by walk_at "mine l9"))) | exact r8 (r8 (r8 (r8 (by walk_at "mine l9")))) | exact r8 (r8 (r8 (r8 (r8 (by walk_at "mine l9")))))
            k_with "mine up3" => first | with_reducible assumption | (with_reducible exact List.mem_cons_self) | (refine List.mem_cons_of_mem _ ?_; walk_at "mine up3")
            k_with "mine up4" => first | with_reducible assumption | ((with_reducible refine mem_head ?_); exact rfl) | (refine List.mem_cons_of_mem _ ?_; walk_at "mine up4")
            k_with "mine kk3" => ((case k1 => k_asm); (case k2 => k_asm); (case k3 => k_asm); (case k5 => k_asm); (case kK => exact rfl); (case kd => exact Nat.le_of_ble_eq_true rfl); (case ku => exact Nat.le_of_ble_eq_true rfl))
            k_with "mine cl3" => refine' Cells.of3 ?ca ?cb ?cc; (case ca => walk_at "mine up3"); (case cb => walk_at "mine up3"); (case cc => walk_at "mine up3")
            k_with "mine calls3" => (k_dflt (first | ((refine' curve_solved3_use ?mL ?p0 ?p1 ?p2 ?d0 ?d1 ?d2 ?v0 ?v1 ?v2 ?s0 ?s1 ?s2 ?h01 ?h02 ?h12 ?k1 ?k2 ?k3 ?k4 ?k5 ?kK ?kd ?ku ?_); (case k4 => k_asm); (case mL => walk_at "mine up3"); (case p0 => walk_at "mine up3"); (case p1 => walk_at "mine up3"); (case p2 => walk_at "mine up3"); (case d0 => walk_at "mine up3"); (case d1 => walk_at "mine up3"); (case d2 => walk_at "mine up3"); (case v0 => with_reducible assumption); (case v1 => with_reducible assumption); (case v2 => with_reducible assumption); (case s0 => with_reducible assumption); (case s1 => with_reducible assumption); (case s2 => with_reducible assumption); (case h01 => with_reducible assumption); (case h02 => with_reducible assumption); (case h12 => with_reducible assumption); walk_at "mine kk3"; intro R9 c9 E9 E8 E7 f9 g9 j9 f8 g8 j8 f7 g7 j7 h9 tk9 F9 N9) | ((refine' curve_at_use ?mL ?hc ?v0 ?v1 ?v2 ?s0 ?k1 ?k2 ?k3 ?k4 ?k5 ?kK ?kd ?ku ?_); (case k4 => k_asm); (case mL => walk_at "mine up3"); (case hc => walk_at "mine cl3"); (case v0 => with_reducible assumption); (case v1 => with_reducible assumption); (case v2 => with_reducible assumption); (case s0 => with_reducible assumption); walk_at "mine kk3"; intro D9 u9 v9 c9 h9 tk9 F9 N9 hl9) | ((refine' curve_diff_use ?mL ?p0 ?p1 ?p2 ?d0 ?d1 ?d2 ?v0 ?v1 ?v2 ?s0 ?s1 ?s2 ?s3 ?h01 ?h02 ?h12 ?k1 ?k2 ?k3 ?k4 ?k5 ?kK ?kd ?ku ?_); (case k4 => k_asm); (case mL => walk_at "mine up3"); (case p0 => walk_at "mine up3"); (case p1 => walk_at "mine up3"); (case p2 => walk_at "mine up3"); (case d0 => walk_at "mine up3"); (case d1 => walk_at "mine up3"); (case d2 => walk_at "mine up3"); (case v0 => with_reducible assumption); (case v1 => with_reducible assumption); (case v2 => with_reducible assumption); (case s0 => with_reducible assumption); (case s1 => with_reducible assumption); (case s2 => with_reducible assumption); (case s3 => with_reducible assumption); (case h01 => with_reducible assumption); (case h02 => with_reducible assumption); (case h12 => with_reducible assumption); walk_at "mine kk3"; intro D9 u9 v9 c9 h9 tk9 F9 N9 hl9) | ((refine' curve_prod_use ?mL ?p0 ?p1 ?p2 ?d0 ?d1 ?d2 ?v0 ?v1 ?v2 ?s0 ?s1 ?s2 ?s3 ?h01 ?h02 ?h12 ?k1 ?k2 ?k3 ?k4 ?k5 ?kK ?kd ?ku ?_); (case k4 => k_asm); (case mL => walk_at "mine up3"); (case p0 => walk_at "mine up3"); (case p1 => walk_at "mine up3"); (case p2 => walk_at "mine up3"); (case d0 => walk_at "mine up3"); (case d1 => walk_at "mine up3"); (case d2 => walk_at "mine up3"); (case v0 => with_reducible assumption); (case v1 => with_reducible assumption); (case v2 => with_reducible assumption); (case s0 => with_reducible assumption); (case s1 => with_reducible assumption); (case s2 => with_reducible assumption); (case s3 => with_reducible assumption); (case h01 => with_reducible assumption); (case h02 => with_reducible assumption); (case h12 => with_reducible assumption); walk_at "mine kk3"; intro D9 u9 v9 c9 h9 tk9 F9 N9 hl9)))
            k_with "mine neq3" => ((rename News _ _ _ _ => lN'); k_dflt (first | ((refine' rows_ne_same lN' ?m1 ?m2 ?c1 ?c2 ?u ?_); (case m1 => walk_at "mine up3"); (case m2 => walk_at "mine up3"); (case c1 => walk_at "mine cl3"); (case c2 => walk_at "mine cl3"); (case u => exact Nat.le_of_ble_eq_true rfl)) | ((refine' fr_ne_same lN' ?m1 ?m2 ?e ?u ?_); (case m1 => walk_at "mine up3"); (case m2 => walk_at "mine up3"); (case e => rfl); (case u => exact Nat.le_of_ble_eq_true rfl))))
            k_with "mine tup" => (k_here; (rename News _ _ _ _ => lN'); (k_dflt (refine' tup_item lN' ?hm (by decide) (by decide) ?hj ?hx ?_; (case hm => walk_at "mine up3"); (case hj => exact rfl); (case hx => exact rfl))))
            k_with "mine steps8" => (repeat' ((fail_if_success (with_reducible show RangeRest _ _ _ _ _ _ _ _ _ _ _ _ _ _ _ _ _)); (first | (k_unfold; (try dsimp only)) | (k_end; wrow_close) | walk1 | (dsimp only; walk1))))
            k_with "mine steps9" => (repeat' ((fail_if_success (with_reducible show wpAny _ _ (exec (Stmt.Assign _ (PySem.Expr.BinOp _ _ _ _) _) _) _ _ _)); (first | (k_unfold; (try dsimp only)) | (k_end; wrow_close) | walk1 | (dsimp only; walk1))))
            k_with "mine stepsZ" => (repeat' (first | (k_unfold; (try dsimp only)) | walk1 | (dsimp only; walk1)))
            k_with "fold" => skip
            k_with "draw" => ((rename Fr _ _ _ _ => lF'); (rename News _ _ _ _ => lN'); k_dflt ((refine' plus_use ?m1 ?m2 ?p1 ?p2 ?n1 ?n2 ?k1 ?k2 ?k3 ?k4 ?k5 ?kK ?kd ?ku ?_); (case k4 => k_asm); (case m1 => walk_at "mine up3"); (case m2 => walk_at "mine up3"); (case p1 => exact Pr.of (by with_reducible assumption)); (case p2 => exact hU); (case n1 => decide); (case n2 => decide); walk_at "mine kk3"; intro D9 u9 v9 c9 h9 tk9 F9 N9 hl9 hb9))
            refine cut4 x0 x1 x2 x3 (zz d9 0 up (valAt c0 c1 c2 x0)) (zz d9 1 up (valAt c0 c1 c2 x1)) (zz d9 2 up (valAt c0 c1 c2 x2)) (valAt c0 c1 c2 x3) lF2 N11 ?h1 ?h2
            case h1 =>
              clear hd0 hd1
              rcases hd9 with rfl | rfl | rfl
              · k_steps
                · exact trivial
                · rename Fr _ _ _ _ => kF
                  rename News _ _ _ _ => kN
                  refine' r4_mk kF kN ?hs ?hm ?q0 ?q1 ?q2 ?q3
                  case hs => walk_at "mine sub"
                  case hm => walk_at "mine up4"
                  case q0 => exact Pq.at zz_same (Pq.mk (by walk_at "mine up4") (by walk_at "mine up4"))
                  case q1 => exact Pq.at (zz_other (by decide)) (q1.mono (by intro p hp; walk_at "mine up3"))
                  case q2 => exact Pq.at (zz_other (by decide)) (q2.mono (by intro p hp; walk_at "mine up3"))
                  case q3 => exact q3.mono (by intro p hp; walk_at "mine up3")
              · k_steps
                · exact trivial
                · rename Fr _ _ _ _ => kF
                  rename News _ _ _ _ => kN
                  refine' r4_mk kF kN ?hs ?hm ?q0 ?q1 ?q2 ?q3
                  case hs => walk_at "mine sub"
                  case hm => walk_at "mine up4"
                  case q0 => exact Pq.at (zz_other (by decide)) (q0.mono (by intro p hp; walk_at "mine up3"))
                  case q1 => exact Pq.at zz_same (Pq.mk (by walk_at "mine up4") (by walk_at "mine up4"))
                  case q2 => exact Pq.at (zz_other (by decide)) (q2.mono (by intro p hp; walk_at "mine up3"))
                  case q3 => exact q3.mono (by intro p hp; walk_at "mine up3")
              · k_steps
                · exact trivial
                · rename Fr _ _ _ _ => kF
                  rename News _ _ _ _ => kN
                  refine' r4_mk kF kN ?hs ?hm ?q0 ?q1 ?q2 ?q3
                  case hs => walk_at "mine sub"
                  case hm => walk_at "mine up4"
                  case q0 => exact Pq.at (zz_other (by decide)) (q0.mono (by intro p hp; walk_at "mine up3"))
                  case q1 => exact Pq.at (zz_other (by decide)) (q1.mono (by intro p hp; walk_at "mine up3"))
                  case q2 => exact Pq.at zz_same (Pq.mk (by walk_at "mine up4") (by walk_at "mine up4"))
                  case q3 => exact q3.mono (by intro p hp; walk_at "mine up3")
            case h2 =>
              clear q0 q1 q2 q3 v0 v1 v2 lF2 N11
              intro h' tk' led9 MV cM A0 A1 A2 A3 F9 N9 sub9 mMV r0 r1 r2 r3
              refine r0.open fun B0 b0 b1 b2 b3 b4 mA0 mB0 => ?_
              clear r0
              refine r1.open fun B1 b5 b6 b7 b8 b9 mA1 mB1 => ?_
              clear r1
              refine r2.open fun B2 b10 b11 b12 b13 b14 mA2 mB2 => ?_
              clear r2
              refine r3.open fun B3 b15 b16 b17 b18 b19 mA3 mB3 => ?_
              clear r3
              clear mD0 mD1 mD2 mD3 mP3
              replace mU := sub9 _ mU
              replace mcB := sub9 _ mcB
              replace mcC := sub9 _ mcC
              replace mH := sub9 _ mH
              replace mDP := sub9 _ mDP
              replace mDU := sub9 _ mDU
              replace mP0 := sub9 _ mP0
              replace mP1 := sub9 _ mP1
              replace mP2 := sub9 _ mP2
              clear sub9
              have w0 := zz_bd' (d := d9) (k := 0) sc0 sc1 sc2 sx0 hU
              have w1 := zz_bd' (d := d9) (k := 1) sc0 sc1 sc2 sx1 hU
              have w2 := zz_bd' (d := d9) (k := 2) sc0 sc1 sc2 sx2 hU
              have f0 := cf0_bd d01 d02 d12 sx0 sx1 sx2 w0 w1 w2
              have f1 := cf1_bd d01 d02 d12 sx0 sx1 sx2 w0 w1 w2
              have f2 := (sec_bd d01 d02 d12 sx0 sx1 sx2 w0 w1 w2).mono (show 111 ≤ 200 by decide)
              have vD := valAt_bd sc0 sc1 sc2 sx4
              have y0 : Sm 10 x0 := sx0.mono (by decide)
              have y1 : Sm 10 x1 := sx1.mono (by decide)
              have y2 : Sm 10 x2 := sx2.mono (by decide)
              have y4 : Sm 10 x4 := sx4.mono (by decide)
              k_with_none
              k_with "two" => skip
              k_with "mine up" => first | with_reducible assumption | (with_reducible exact List.mem_cons_self) | ((with_reducible refine mem_head ?_); exact rfl) | (refine List.mem_cons_of_mem _ ?_; walk_at "mine up") | (rename Sub _ _ => s9'; refine s9' _ ?_; walk_at "mine up") | (rename Sub _ _ => s9'; clear s9'; walk_at "mine up")
              k_with "mine l9" => first | with_reducible assumption | exact And.right (by with_reducible assumption) | exact r2 (by with_reducible assumption) | exact r3 (by with_reducible assumption) | exact r4 (by with_reducible assumption) | exact r5 (by with_reducible assumption) | exact r6 (by with_reducible assumption) | exact r7 (by with_reducible assumption)
              k_with "mine ltw" => first | with_reducible assumption | exact allLt_of (by with_reducible assumption) | walk_at "mine l9" | exact r8 (by walk_at "mine l9") | exact r8 (r8 (by walk_at "mine l9")) | exact r8 (r8 (r8 (by walk_at "mine l9"))) | exact r8 (r8 (r8 (r8 (by walk_at "mine l9")))) | exact r8 (r8 (r8 (r8 (r8 (by walk_at "mine l9")))))
              k_with "mine up3" => first | with_reducible assumption | (with_reducible exact List.mem_cons_self) | (refine List.mem_cons_of_mem _ ?_; walk_at "mine up3")
              k_with "mine up4" => first | with_reducible assumption | ((with_reducible refine mem_head ?_); exact rfl) | (refine List.mem_cons_of_mem _ ?_; walk_at "mine up4")
              k_with "mine kk3" => ((case k1 => k_asm); (case k2 => k_asm); (case k3 => k_asm); (case k5 => k_asm); (case kK => exact rfl); (case kd => exact Nat.le_of_ble_eq_true rfl); (case ku => exact Nat.le_of_ble_eq_true rfl))
              k_with "mine cl3" => refine' Cells.of3 ?ca ?cb ?cc; (case ca => walk_at "mine up3"); (case cb => walk_at "mine up3"); (case cc => walk_at "mine up3")
              k_with "mine calls3" => (k_dflt (first | ((refine' curve_solved3_use ?mL ?p0 ?p1 ?p2 ?d0 ?d1 ?d2 ?v0 ?v1 ?v2 ?s0 ?s1 ?s2 ?h01 ?h02 ?h12 ?k1 ?k2 ?k3 ?k4 ?k5 ?kK ?kd ?ku ?_); (case k4 => k_asm); (case mL => walk_at "mine up3"); (case p0 => walk_at "mine up3"); (case p1 => walk_at "mine up3"); (case p2 => walk_at "mine up3"); (case d0 => walk_at "mine up3"); (case d1 => walk_at "mine up3"); (case d2 => walk_at "mine up3"); (case v0 => with_reducible assumption); (case v1 => with_reducible assumption); (case v2 => with_reducible assumption); (case s0 => with_reducible assumption); (case s1 => with_reducible assumption); (case s2 => with_reducible assumption); (case h01 => with_reducible assumption); (case h02 => with_reducible assumption); (case h12 => with_reducible assumption); walk_at "mine kk3"; intro R9 c9 E9 E8 E7 f9 g9 j9 f8 g8 j8 f7 g7 j7 h9 tk9 F9 N9) | ((refine' curve_at_use ?mL ?hc ?v0 ?v1 ?v2 ?s0 ?k1 ?k2 ?k3 ?k4 ?k5 ?kK ?kd ?ku ?_); (case k4 => k_asm); (case mL => walk_at "mine up3"); (case hc => walk_at "mine cl3"); (case v0 => with_reducible assumption); (case v1 => with_reducible assumption); (case v2 => with_reducible assumption); (case s0 => with_reducible assumption); walk_at "mine kk3"; intro D9 u9 v9 c9 h9 tk9 F9 N9 hl9) | ((refine' curve_diff_use ?mL ?p0 ?p1 ?p2 ?d0 ?d1 ?d2 ?v0 ?v1 ?v2 ?s0 ?s1 ?s2 ?s3 ?h01 ?h02 ?h12 ?k1 ?k2 ?k3 ?k4 ?k5 ?kK ?kd ?ku ?_); (case k4 => k_asm); (case mL => walk_at "mine up3"); (case p0 => walk_at "mine up3"); (case p1 => walk_at "mine up3"); (case p2 => walk_at "mine up3"); (case d0 => walk_at "mine up3"); (case d1 => walk_at "mine up3"); (case d2 => walk_at "mine up3"); (case v0 => with_reducible assumption); (case v1 => with_reducible assumption); (case v2 => with_reducible assumption); (case s0 => with_reducible assumption); (case s1 => with_reducible assumption); (case s2 => with_reducible assumption); (case s3 => with_reducible assumption); (case h01 => with_reducible assumption); (case h02 => with_reducible assumption); (case h12 => with_reducible assumption); walk_at "mine kk3"; intro D9 u9 v9 c9 h9 tk9 F9 N9 hl9) | ((refine' curve_prod_use ?mL ?p0 ?p1 ?p2 ?d0 ?d1 ?d2 ?v0 ?v1 ?v2 ?s0 ?s1 ?s2 ?s3 ?h01 ?h02 ?h12 ?k1 ?k2 ?k3 ?k4 ?k5 ?kK ?kd ?ku ?_); (case k4 => k_asm); (case mL => walk_at "mine up3"); (case p0 => walk_at "mine up3"); (case p1 => walk_at "mine up3"); (case p2 => walk_at "mine up3"); (case d0 => walk_at "mine up3"); (case d1 => walk_at "mine up3"); (case d2 => walk_at "mine up3"); (case v0 => with_reducible assumption); (case v1 => with_reducible assumption); (case v2 => with_reducible assumption); (case s0 => with_reducible assumption); (case s1 => with_reducible assumption); (case s2 => with_reducible assumption); (case s3 => with_reducible assumption); (case h01 => with_reducible assumption); (case h02 => with_reducible assumption); (case h12 => with_reducible assumption); walk_at "mine kk3"; intro D9 u9 v9 c9 h9 tk9 F9 N9 hl9)))
              k_with "mine neq3" => ((rename News _ _ _ _ => lN'); k_dflt (first | ((refine' rows_ne_same lN' ?m1 ?m2 ?c1 ?c2 ?u ?_); (case m1 => walk_at "mine up3"); (case m2 => walk_at "mine up3"); (case c1 => walk_at "mine cl3"); (case c2 => walk_at "mine cl3"); (case u => exact Nat.le_of_ble_eq_true rfl)) | ((refine' fr_ne_same lN' ?m1 ?m2 ?e ?u ?_); (case m1 => walk_at "mine up3"); (case m2 => walk_at "mine up3"); (case e => rfl); (case u => exact Nat.le_of_ble_eq_true rfl))))
              k_with "mine tup" => (k_here; (rename News _ _ _ _ => lN'); (k_dflt (refine' tup_item lN' ?hm (by decide) (by decide) ?hj ?hx ?_; (case hm => walk_at "mine up3"); (case hj => exact rfl); (case hx => exact rfl))))
              k_with "mine steps8" => (repeat' ((fail_if_success (with_reducible show RangeRest _ _ _ _ _ _ _ _ _ _ _ _ _ _ _ _ _)); (first | (k_unfold; (try dsimp only)) | (k_end; wrow_close) | walk1 | (dsimp only; walk1))))
              k_with "mine steps9" => (repeat' ((fail_if_success (with_reducible show wpAny _ _ (exec (Stmt.Assign _ (PySem.Expr.BinOp _ _ _ _) _) _) _ _ _)); (first | (k_unfold; (try dsimp only)) | (k_end; wrow_close) | walk1 | (dsimp only; walk1))))
              k_with "mine stepsZ" => (repeat' (first | (k_unfold; (try dsimp only)) | walk1 | (dsimp only; walk1)))
              k_with "fold" => skip
              k_with "draw" => ((rename Fr _ _ _ _ => lF'); (rename News _ _ _ _ => lN'); k_dflt (first
                | ((refine' times_use ?m1 ?m2 hU ?p2 ?n1 ?n2 ?k1 ?k2 ?k3 ?k4 ?k5 ?kK ?kd ?ku ?_); (case k4 => k_asm); (case m1 => walk_at "mine up3"); (case m2 => walk_at "mine up3"); (case p2 => exact Pr.of (by with_reducible assumption)); (case n1 => decide); (case n2 => decide); walk_at "mine kk3"; intro D9 u9 v9 c9 h9 tk9 F9 N9 hl9 hb9)
                | ((refine' plus_use ?m1 ?m2 ?p1 ?p2 ?n1 ?n2 ?k1 ?k2 ?k3 ?k4 ?k5 ?kK ?kd ?ku ?_); (case k4 => k_asm); (case m1 => walk_at "mine up3"); (case m2 => walk_at "mine up3"); (case p1 => exact Pr.of (by with_reducible assumption)); (case p2 => exact Pr.of (by with_reducible assumption)); (case n1 => decide); (case n2 => decide); walk_at "mine kk3"; intro D9 u9 v9 c9 h9 tk9 F9 N9 hl9 hb9)
                | ((refine' share_use ?mL ?p0 ?p1 ?p2 hd9 y0 y1 y2 y4 d01 d02 d12 ?k1 ?k2 ?k3 ?k4 ?k5 ?kK ?kd ?ku ?_); (case k4 => k_asm); (case mL => walk_at "mine up4"); (case p0 => walk_at "mine up3"); (case p1 => walk_at "mine up3"); (case p2 => walk_at "mine up3"); walk_at "mine kk3"; intro D9 u9 v9 c9 h9 tk9 F9 N9 hl9 hb9)
                | ((refine' gen_solved_use ?mL ?p0 ?p1 ?p2 ?q0 ?q1 ?q2 w0 w1 w2 sx0 sx1 sx2 d01 d02 d12 ?k1 ?k2 ?k3 ?k4 ?k5 ?kK ?kd ?ku ?_); (case k4 => k_asm); (case mL => walk_at "mine up4"); (case p0 => walk_at "mine up3"); (case p1 => walk_at "mine up3"); (case p2 => walk_at "mine up3"); (case q0 => walk_at "mine up3"); (case q1 => walk_at "mine up3"); (case q2 => walk_at "mine up3"); walk_at "mine kk3"; intro R9 c9 E9 E8 E7 f9 g9 j9 f8 g8 j8 f7 g7 j7 h9 tk9 F9 N9)
                | ((refine' at_use (j := 2) ?mL ?hc f0 f1 f2 (by decide) ?sx (by decide) ?k1 ?k2 ?k3 ?k4 ?k5 ?kK ?kd ?ku ?_); (case k4 => k_asm); (case mL => walk_at "mine up3"); (case hc => walk_at "mine cl3"); (case sx => with_reducible assumption); walk_at "mine kk3"; intro D9 u9 v9 c9 h9 tk9 F9 N9 hl9)))
              k_with "neq" => ((rename News _ _ _ _ => lN'); k_dflt (first
                | ((refine' fr_ne_same lN' ?m1 ?m2 (moved_at hd9 d01 d02 d12) ?u ?_); (case m1 => walk_at "mine up3"); (case m2 => walk_at "mine up3"); (case u => exact Nat.le_of_ble_eq_true rfl))
                | ((refine' fr_ne_diff lN' ?m1 ?m2 (fun e => moved_ne (v := valAt c0 c1 c2 x3) uN (Ne.symm d03) (Ne.symm d13) (Ne.symm d23) d01 d02 d12 ((moved_at (x := x3) hd9 d01 d02 d12).symm.trans e)) ?u ?_); (case m1 => walk_at "mine up3"); (case m2 => walk_at "mine up3"); (case u => exact Nat.le_of_ble_eq_true rfl))))
              walk_at "mine stepsZ"
              rename Fr _ _ _ _ => lFz
              exact end_true lFz rfl)
end Mine
theorem PySem.Challenge.cw_xm0058_01_holds : PySem.Challenge.rw_xm0058_01.Holds :=
  Mine.law_holds
