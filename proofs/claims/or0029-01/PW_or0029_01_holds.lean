import PyProof.Rows.All
import Wide.All
import OpenK.AllK
import Wide.FinOn
import PySem.Challenge.RW_or0029_01
open PySem PySem.W PySem.Calls PySem.Spec PyProof.Rows
set_option Elab.async false
namespace Mine
-- Hd
set_option maxRecDepth 100000 in
set_option maxHeartbeats 8000000 in
open_top hd for PySem.Challenge.rw_or0029_01

-- Base

def Tell (w : World) (mean : ExcName → Option Value) (mg mb : Str → Option Value) (f : Addr) (dep : Nat) (vs : List Value) (news : List (Addr × Obj)) (Out : Value → List (Addr × Obj) → Prop) : Prop :=
  ∀ (dp un : Nat) (gd : Option (List Code)) (cn : Str) (cs : Scope) (a : Addr) (ccd : Value) (cl : List (Str × Addr)) (outer : List Env) (A₀ : Around) (base h₀ : Heap) (L : Addr) (m : Str → Option Value) (s : Shared) (Q E : Value → Shared → Prop),
    Below A₀ base outer h₀ → Fr h₀ L s.heap m → (hd.heap_39 w.params).In h₀ → News h₀ L s.heap news → Top hd.view_39 (looseW hd.view_39 [Str.ofString "PostError", Str.ofString "day_of"]) mean mg mb h₀ → cs.kind = .function →
    dp + dep < recursionLimit → un + 8 * dep < cLine →
    (∀ (v : Value) (tl : List (Addr × Obj)) (h' : Heap) (tk' : Nat), Fr h₀ L h' m → News h₀ L h' (tl ++ news) → (∀ q ∈ news, ∀ p ∈ tl, q.1 < p.1) → Out v tl → Q v { s with heap := h', toks := tk' }) →
    wpAny (model PySem.Challenge.rw_or0029_01.row.prog w) (ktrTop dp un gd cn cs L a ccd cl outer) (PySem.call (.ref f) vs) Q E s

/-- nothing new: the value alone -/
abbrev OutV (v₀ : Value) : Value → List (Addr × Obj) → Prop := fun v tl => tl = [] ∧ v = v₀
abbrev OutI (x : Int) : Value → List (Addr × Obj) → Prop := fun v tl => tl = [] ∧ ∃ t, v = .int x t
abbrev OutS (x : Str) : Value → List (Addr × Obj) → Prop := fun v tl => tl = [] ∧ ∃ t, v = .str x t

section
variable {w : World} {mean : ExcName → Option Value} {mg mb : Str → Option Value} {f : Addr} {dep : Nat} {vs : List Value} {news : List (Addr × Obj)} {Out : Value → List (Addr × Obj) → Prop}
  {dp un : Nat} {gd : Option (List Code)} {cn : Str} {cs : Scope} {a : Addr} {ccd : Value} {cl : List (Str × Addr)} {outer : List Env} {A₀ : Around} {base h₀ h' : Heap} {L : Addr} {m : Str → Option Value} {s : Shared} {Q E : Value → Shared → Prop} {tk' : Nat}

theorem end0 {v : Value} (hret : ∀ (v : Value) (tl : List (Addr × Obj)) (h' : Heap) (tk' : Nat), Fr h₀ L h' m → News h₀ L h' (tl ++ news) → (∀ q ∈ news, ∀ p ∈ tl, q.1 < p.1) → Out v tl → Q v { s with heap := h', toks := tk' })
    (F : Fr h₀ L h' m) (N : News h₀ L h' news) (e : Out v []) : Q v { s with heap := h', toks := tk' } := hret v [] h' tk' F N (fun _ _ _ h => nomatch h) e
theorem end1 {v : Value} {x : Addr × Obj} (hret : ∀ (v : Value) (tl : List (Addr × Obj)) (h' : Heap) (tk' : Nat), Fr h₀ L h' m → News h₀ L h' (tl ++ news) → (∀ q ∈ news, ∀ p ∈ tl, q.1 < p.1) → Out v tl → Q v { s with heap := h', toks := tk' })
    (F : Fr h₀ L h' m) (N : News h₀ L h' (x :: news)) (hl : ∀ q ∈ news, q.1 < x.1) (e : Out v [x]) : Q v { s with heap := h', toks := tk' } := hret v [x] h' tk' F N (fun q hq p hp => by rw [List.mem_singleton.mp hp]; exact hl q hq) e

theorem useV {v₀ : Value} (C : Tell w mean mg mb f dep vs news (OutV v₀)) (B : Below A₀ base outer h₀) (F : Fr h₀ L s.heap m) (X : (hd.heap_39 w.params).In h₀) (N : News h₀ L s.heap news)
    (T : Top hd.view_39 (looseW hd.view_39 [Str.ofString "PostError", Str.ofString "day_of"]) mean mg mb h₀) (hk : cs.kind = .function) (hd : dp + dep < recursionLimit) (hu : un + 8 * dep < cLine)
    (h : ∀ (h' : Heap) (tk' : Nat), Fr h₀ L h' m → News h₀ L h' news → Q v₀ { s with heap := h', toks := tk' }) :
    wpAny (model PySem.Challenge.rw_or0029_01.row.prog w) (ktrTop dp un gd cn cs L a ccd cl outer) (PySem.call (.ref f) vs) Q E s :=
  C _ _ _ _ _ _ _ _ _ _ _ _ _ _ _ _ _ B F X N T hk hd hu (fun v tl h' tk' F' N' _ o => by obtain ⟨rfl, rfl⟩ := o; exact h h' tk' F' N')
theorem useI {x : Int} (C : Tell w mean mg mb f dep vs news (OutI x)) (B : Below A₀ base outer h₀) (F : Fr h₀ L s.heap m) (X : (hd.heap_39 w.params).In h₀) (N : News h₀ L s.heap news)
    (T : Top hd.view_39 (looseW hd.view_39 [Str.ofString "PostError", Str.ofString "day_of"]) mean mg mb h₀) (hk : cs.kind = .function) (hd : dp + dep < recursionLimit) (hu : un + 8 * dep < cLine)
    (h : ∀ (t : Tok) (h' : Heap) (tk' : Nat), Fr h₀ L h' m → News h₀ L h' news → Q (.int x t) { s with heap := h', toks := tk' }) :
    wpAny (model PySem.Challenge.rw_or0029_01.row.prog w) (ktrTop dp un gd cn cs L a ccd cl outer) (PySem.call (.ref f) vs) Q E s :=
  C _ _ _ _ _ _ _ _ _ _ _ _ _ _ _ _ _ B F X N T hk hd hu (fun v tl h' tk' F' N' _ o => by obtain ⟨rfl, t, rfl⟩ := o; exact h t h' tk' F' N')
theorem useS {x : Str} (C : Tell w mean mg mb f dep vs news (OutS x)) (B : Below A₀ base outer h₀) (F : Fr h₀ L s.heap m) (X : (hd.heap_39 w.params).In h₀) (N : News h₀ L s.heap news)
    (T : Top hd.view_39 (looseW hd.view_39 [Str.ofString "PostError", Str.ofString "day_of"]) mean mg mb h₀) (hk : cs.kind = .function) (hd : dp + dep < recursionLimit) (hu : un + 8 * dep < cLine)
    (h : ∀ (t : Tok) (h' : Heap) (tk' : Nat), Fr h₀ L h' m → News h₀ L h' news → Q (.str x t) { s with heap := h', toks := tk' }) :
    wpAny (model PySem.Challenge.rw_or0029_01.row.prog w) (ktrTop dp un gd cn cs L a ccd cl outer) (PySem.call (.ref f) vs) Q E s :=
  C _ _ _ _ _ _ _ _ _ _ _ _ _ _ _ _ _ B F X N T hk hd hu (fun v tl h' tk' F' N' _ o => by obtain ⟨rfl, t, rfl⟩ := o; exact h t h' tk' F' N')
end

def leapB (y : Int) : Bool := decide (Int.fmod y 4 = 0) && (decide (Int.fmod y 100 ≠ 0) || decide (Int.fmod y 400 = 0))
def mlen (y m : Int) : Int := if m = 2 then (if leapB y = true then 29 else 28) else if m = 4 ∨ m = 6 ∨ m = 9 ∨ m = 11 then 30 else 31
def dby (y : Int) : Int := (y - 1) * 365 + Int.fdiv (y - 1) 4 - Int.fdiv (y - 1) 100 + Int.fdiv (y - 1) 400
theorem leap1 {y : Int} (h4 : Int.fmod y 4 = 0) (h : Int.fmod y 100 ≠ 0) : (Int.fmod y 100 != 0) = leapB y := by simp [leapB, h4, h]
theorem leap2 {y : Int} (h4 : Int.fmod y 4 = 0) (h : Int.fmod y 100 = 0) : (Int.fmod y 400 == 0) = leapB y := by
  simp only [leapB, h4, h]; by_cases q : Int.fmod y 400 = 0 <;> simp [q]
theorem leap3 {y : Int} (h4 : Int.fmod y 4 ≠ 0) : (Int.fmod y 4 == 0) = leapB y := by simp [leapB, h4]
theorem mlen1 {y m : Int} (h : m = 2) (hl : leapB y = true) : 29 = mlen y m := by simp [mlen, h, hl]
theorem mlen2 {y m : Int} (h : m = 2) (hl : leapB y = false) : 28 = mlen y m := by simp [mlen, h, hl]
theorem mlen3 {y m : Int} (h : m ≠ 2) (hl : (([4, 6, 9, 11] : List Int).any fun x => x == m) = true) : 30 = mlen y m := by
  simp only [List.any_cons, List.any_nil, Bool.or_false, Bool.or_eq_true, beq_iff_eq] at hl
  simp only [mlen, h, if_false]; rw [if_pos (by omega)]
theorem mlen4 {y m : Int} (h : m ≠ 2) (hl : (([4, 6, 9, 11] : List Int).any fun x => x == m) = false) : 31 = mlen y m := by
  simp only [List.any_cons, List.any_nil, Bool.or_false, Bool.or_eq_false_iff, beq_eq_false_iff_ne, ne_eq] at hl
  simp only [mlen, h, if_false]; rw [if_neg (by omega)]
theorem News.drop1 {h₀ h : Heap} {L : Addr} {x : Addr × Obj} {news : List (Addr × Obj)} (N : News h₀ L h (x :: news)) : News h₀ L h news := N.perm fun _ q => .tail _ q

-- A1
set_option maxRecDepth 100000 in
set_option maxHeartbeats 8000000 in
theorem tell_is_leap (w : World) (mean : ExcName → Option Value) (mg mb : Str → Option Value) (news : List (Addr × Obj)) (y : Int) (t : Tok) :
    Tell w mean mg mb 81 1 [.int y t] news (OutV (.bool (leapB y))) := by
  unfold Tell
  w_top off
  k_with_none
  k_fill
  intro dp un gd cn cs a ccd cl outer A₀ base h₀ L m s Q E B F X N T hk hd hu hret
  refine wpAny_call ?_
  k_dflt cell_enter
  k_steps
  all_goals (refine end0 hret (by k_asm) (by k_asm) ⟨rfl, congrArg Value.bool ?_⟩; first | exact leap1 (by assumption) (by assumption) | exact leap2 (by assumption) (by assumption) | exact leap3 (by assumption))

local macro_rules | `(tactic| walk_at "call ref") => `(tactic| (k_here; (with_reducible show wpAny _ _ (PySem.call (Value.ref 81) _) _ _ _); k_dflt (refine' useV (tell_is_leap _ _ _ _ _ _ _) ?k1 ?k2 ?k3 ?k4 ?k5 ?k6 ?k7 ?k8 ?_; (case k1 => k_asm); (case k2 => k_asm); (case k3 => k_asm); (case k4 => k_asm); (case k5 => k_asm); (case k6 => first | exact rfl | assumption); (case k7 => ktr_room); (case k8 => ktr_units); k_whole; intro h9 tk9 F9 N9; (try dsimp only); (try k_fold))))

set_option maxRecDepth 100000 in
set_option maxHeartbeats 8000000 in
theorem tell_month_length (w : World) (mean : ExcName → Option Value) (mg mb : Str → Option Value) (news : List (Addr × Obj)) (y mo : Int) (t u : Tok) :
    Tell w mean mg mb 88 2 [.int y t, .int mo u] news (OutI (mlen y mo)) := by
  unfold Tell
  w_top off
  k_with_none
  k_fill
  intro dp un gd cn cs a ccd cl outer A₀ base h₀ L m s Q E B F X N T hk hd hu hret
  refine wpAny_call ?_
  k_dflt cell_enter
  k_steps
  all_goals (refine end0 hret (by k_asm) (by first | k_asm | exact News.drop1 (by k_asm)) ⟨rfl, ktn_int ?_⟩; first | exact mlen1 (by assumption) (by assumption) | exact mlen2 (by assumption) (by assumption) | exact mlen3 (by assumption) (by assumption) | exact mlen4 (by assumption) (by assumption))

set_option maxRecDepth 100000 in
set_option maxHeartbeats 8000000 in
theorem tell_days_before_year (w : World) (mean : ExcName → Option Value) (mg mb : Str → Option Value) (news : List (Addr × Obj)) (y : Int) (t : Tok) :
    Tell w mean mg mb 95 1 [.int y t] news (OutI (dby y)) := by
  unfold Tell
  w_top off
  k_with_none
  k_fill
  intro dp un gd cn cs a ccd cl outer A₀ base h₀ L m s Q E B F X N T hk hd hu hret
  refine wpAny_call ?_
  k_dflt cell_enter
  k_steps
  all_goals (exact end0 hret (by k_asm) (by k_asm) ⟨rfl, ktn_int rfl⟩)

-- A2

local macro_rules | `(tactic| walk_at "call ref") => `(tactic| (k_here; (with_reducible show wpAny _ _ (PySem.call (Value.ref 88) _) _ _ _); k_dflt (refine' useI (tell_month_length _ _ _ _ _ _ _ _ _) ?k1 ?k2 ?k3 ?k4 ?k5 ?k6 ?k7 ?k8 ?_; (case k1 => k_asm); (case k2 => k_asm); (case k3 => k_asm); (case k4 => k_asm); (case k5 => k_asm); (case k6 => first | exact rfl | assumption); (case k7 => ktr_room); (case k8 => ktr_units); k_whole; intro t9 h9 tk9 F9 N9; (try dsimp only); (try k_fold))))
local macro_rules | `(tactic| walk_at "call ref") => `(tactic| (k_here; (with_reducible show wpAny _ _ (PySem.call (Value.ref 95) _) _ _ _); k_dflt (refine' useI (tell_days_before_year _ _ _ _ _ _ _) ?k1 ?k2 ?k3 ?k4 ?k5 ?k6 ?k7 ?k8 ?_; (case k1 => k_asm); (case k2 => k_asm); (case k3 => k_asm); (case k4 => k_asm); (case k5 => k_asm); (case k6 => first | exact rfl | assumption); (case k7 => ktr_room); (case k8 => ktr_units); k_whole; intro t9 h9 tk9 F9 N9; (try dsimp only); (try k_fold))))


theorem fdivE (a b : Int) (h : 0 ≤ b) : Int.fdiv a b = a / b := Int.fdiv_eq_ediv_of_nonneg a h
theorem fmodE (a b : Int) (h : 0 ≤ b) : Int.fmod a b = a % b := Int.fmod_eq_emod_of_nonneg a h
def cum (y m : Int) : Int :=
  if m ≤ 1 then 0 else if m = 2 then 31 else (if m = 3 then 59 else if m = 4 then 90 else if m = 5 then 120 else if m = 6 then 151 else if m = 7 then 181 else if m = 8 then 212 else if m = 9 then 243 else if m = 10 then 273 else if m = 11 then 304 else 334) + (if leapB y = true then 1 else 0)
theorem leapB_iff (y : Int) : leapB y = true ↔ y % 4 = 0 ∧ (y % 100 ≠ 0 ∨ y % 400 = 0) := by
  simp only [leapB, fmodE _ _ (by decide : (0:Int) ≤ 4), fmodE _ _ (by decide : (0:Int) ≤ 100), fmodE _ _ (by decide : (0:Int) ≤ 400), Bool.and_eq_true, Bool.or_eq_true, decide_eq_true_eq]
theorem dby_eq (y : Int) : dby y = (y - 1) * 365 + (y - 1) / 4 - (y - 1) / 100 + (y - 1) / 400 := by
  simp only [dby, fdivE _ _ (by decide : (0:Int) ≤ 4), fdivE _ _ (by decide : (0:Int) ≤ 100), fdivE _ _ (by decide : (0:Int) ≤ 400)]
theorem dby_succ (y : Int) : dby (y + 1) = dby y + 365 + (if leapB y = true then 1 else 0) := by
  rw [dby_eq, dby_eq]
  split
  · rename_i h; rw [leapB_iff] at h; omega
  · rename_i h; rw [leapB_iff] at h; omega
theorem dby_ge (y : Int) (h : 1 ≤ y) : y - 1 ≤ dby y := by rw [dby_eq]; omega
theorem cum_succ (y m : Int) (h1 : 1 ≤ m) (h2 : m ≤ 11) : cum y (m + 1) = cum y m + mlen y m := by
  have : m = 1 ∨ m = 2 ∨ m = 3 ∨ m = 4 ∨ m = 5 ∨ m = 6 ∨ m = 7 ∨ m = 8 ∨ m = 9 ∨ m = 10 ∨ m = 11 := by omega
  rcases this with rfl | rfl | rfl | rfl | rfl | rfl | rfl | rfl | rfl | rfl | rfl <;> simp [cum, mlen] <;> split <;> rfl
/-- the year, the month and the day of a number -/
def Told (n y m d : Int) : Prop := 1 ≤ y ∧ 1 ≤ m ∧ m ≤ 12 ∧ 1 ≤ d ∧ d ≤ mlen y m ∧ dby y + cum y m + d = n + 719163
abbrev tup3 (y m d : Int) (t1 t2 t3 : Tok) : Obj := { cls := .type "tuple", data := .seq #[.int y t1, .int m t2, .int d t3] }
abbrev OutT (n : Int) : Value → List (Addr × Obj) → Prop := fun v tl => ∃ (y m d : Int) (D : Addr) (t1 t2 t3 : Tok), Told n y m d ∧ v = .ref D ∧ tl = [(D, tup3 y m d t1 t2 t3)]

theorem w0 {n : Int} (h0 : 0 ≤ n + 719162) : 1 ≤ ((n + 719162) * 400).fdiv 146097 + 1 := by
  rw [fdivE _ _ (by decide)]; omega
theorem dby_le1 (y : Int) (h : y ≤ 1) : dby y ≤ 0 := by rw [dby_eq]; omega
theorem w1 {n y : Int} (h0 : 0 ≤ n + 719162) (h : n + 719162 < dby y) : 1 ≤ y - 1 := by
  have := dby_le1 y; omega
theorem w2 {days y : Int} (h : dby (y + 1) ≤ days) (h1 : 1 ≤ y) : (days + 1 - (y + 1)).toNat < (days + 1 - y).toNat := by
  have := dby_ge (y + 1); omega
theorem cum_one (y : Int) : cum y 1 = 0 := by simp [cum]
theorem told_of {n y mo rest : Int} (hy : 1 ≤ y) (h1 : 1 ≤ mo) (h2 : mo ≤ 12) (h3 : 0 ≤ rest) (h4 : rest + cum y mo = n + 719162 - dby y) (hx : ¬ mlen y mo ≤ rest) : Told n y mo (rest + 1) :=
  ⟨hy, h1, h2, by omega, by omega, by omega⟩
theorem w30 {n y : Int} (h : dby y ≤ n) : (1 : Int) ≤ 1 ∧ (1 : Int) ≤ 12 ∧ 0 ≤ n - dby y ∧ n - dby y + cum y 1 = n - dby y := by
  rw [cum_one]; omega
theorem w3 {n rest y mo : Int} (h1 : 1 ≤ mo) (h2 : mo ≤ 12) (h3 : 0 ≤ rest) (h4 : rest + cum y mo = n + 719162 - dby y) (hx : ¬ dby (y + 1) ≤ n + 719162) (ht : mlen y mo ≤ rest) :
    1 ≤ mo + 1 ∧ mo + 1 ≤ 12 ∧ 0 ≤ rest - mlen y mo ∧ rest - mlen y mo + cum y (mo + 1) = n + 719162 - dby y := by
  have h12 : mo ≠ 12 := by
    rintro rfl
    have : cum y 12 = 334 + (if leapB y = true then 1 else 0) := by simp [cum]
    have e : mlen y 12 = 31 := by simp [mlen]
    rw [dby_succ] at hx
    omega
  have := cum_succ y mo h1 (by omega)
  omega

local macro_rules | `(tactic| walk_at "exec While Compare cons nil") => `(tactic| ((with_reducible show wpAny _ _ (PySem.exec (PySem.Stmt.While (PySem.Expr.Compare _ [PySem.CmpOp.Gt] _ _) _ _ _) _) _ _ _); k_while_given ["days"] (fun days script year => 1 ≤ year) (fun days script year => year.toNat) "year"))
local macro_rules | `(tactic| walk_at "exec While Compare cons nil") => `(tactic| ((with_reducible show wpAny _ _ (PySem.exec (PySem.Stmt.While (PySem.Expr.Compare _ [PySem.CmpOp.LtE] _ _) _ _ _) _) _ _ _); k_while_given ["days"] (fun days script year => 1 ≤ year ∧ dby year ≤ days) (fun days script year => (days + 1 - year).toNat) "year"))
local macro_rules | `(tactic| walk_at "exec While Compare cons nil") => `(tactic| ((with_reducible show wpAny _ _ (PySem.exec (PySem.Stmt.While (PySem.Expr.Compare _ [PySem.CmpOp.GtE] _ _) _ _ _) _) _ _ _); k_while_given ["days", "year"] (fun days year script rest month => 1 ≤ month ∧ month ≤ 12 ∧ 0 ≤ rest ∧ rest + cum year month = days - dby year) (fun days year script rest month => (13 - month).toNat) "rest" "month"))

set_option maxRecDepth 100000 in
set_option maxHeartbeats 8000000 in
theorem tell_day_told (w : World) (mean : ExcName → Option Value) (mg mb : Str → Option Value) (news : List (Addr × Obj)) (n : Int) (t : Tok) (h0 : 0 ≤ n + 719162) (h1 : n < 4000000) :
    Tell w mean mg mb 102 3 [.int n t] news (OutT n) := by
  unfold Tell
  w_top off
  k_with_none
  k_fill
  intro dp un gd cn cs a ccd cl outer A₀ base h₀ L m s Q E B F X N T hk hd hu hret
  refine wpAny_call ?_
  k_dflt cell_enter
  k_with "state" => first
    | exact w0 (by assumption)
    | exact w1 (by assumption) (by assumption)
    | exact w30 (by assumption)
    | exact w3 (by assumption) (by assumption) (by assumption) (by assumption) (by assumption) (by assumption)
    | (clear_value *; omega)
  k_with "measure" => first
    | omega
    | exact w2 (by assumption) (by assumption)
  k_steps
  all_goals (refine end1 hret (by k_asm) (by k_asm) (by assumption) ⟨_, _, _, _, _, _, _, ?_, rfl, rfl⟩; exact told_of (by assumption) (by assumption) (by assumption) (by assumption) (by assumption) (by assumption))

-- D1
theorem boolOf {a b : Bool} (h : a = b) : Value.bool a = Value.bool b := h ▸ rfl
local macro_rules | `(tactic| walk_at "call ref") => `(tactic| (k_here; (with_reducible show wpAny _ _ (PySem.call (Value.ref 88) _) _ _ _); k_dflt (refine' useI (tell_month_length _ _ _ _ _ _ _ _ _) ?k1 ?k2 ?k3 ?k4 ?k5 ?k6 ?k7 ?k8 ?_; (case k1 => k_asm); (case k2 => k_asm); (case k3 => k_asm); (case k4 => k_asm); (case k5 => k_asm); (case k6 => first | exact rfl | assumption); (case k7 => ktr_room); (case k8 => ktr_units); k_whole; intro t9 h9 tk9 F9 N9; (try dsimp only); (try k_fold))))

set_option maxRecDepth 100000 in
set_option maxHeartbeats 8000000 in
theorem tell_is_day (w : World) (mean : ExcName → Option Value) (mg mb : Str → Option Value) (news : List (Addr × Obj)) (y mo d : Int) (t u v : Tok) (hy : 1 ≤ y) (hy2 : y ≤ 9999) (hm : 1 ≤ mo) (hm2 : mo ≤ 12) (hd1 : 1 ≤ d) (hd2 : d ≤ mlen y mo) :
    Tell w mean mg mb 109 3 [.int y t, .int mo u, .int d v] news (OutV (.bool true)) := by
  unfold Tell
  w_top off
  k_with_none
  k_fill
  intro dp un gd cn cs a ccd cl outer A₀ base h₀ L m s Q E B F X N T hk hd hu hret
  refine wpAny_call ?_
  k_dflt cell_enter
  k_steps
  all_goals (first | (exfalso; omega) | exact end0 hret (by k_asm) (by k_asm) ⟨rfl, boolOf (decide_eq_true (by assumption))⟩)

-- D3
theorem figs_ne {x : Str} (h : x.cps.size ≠ 0) : ¬ (x != Str.ofString "") = false := by
  intro e
  have e' : x = Str.ofString "" := by simpa using e
  rw [e'] at h
  exact h (by decide)
theorem figs_out {x : Str} (hx : ∀ c ∈ x.cps.toList, 48 ≤ c ∧ c ≤ 57) : ∀ c ∈ x.cps.toList, (fun a : Str => if (!decide (a.cps.toList < (Str.ofString "0").cps.toList)) = true then !!decide ((Str.ofString "9").cps.toList < a.cps.toList) else !false) ⟨#[c]⟩ = false := by
  intro c hc
  have e0 : (Str.ofString "0").cps.toList = [48] := by decide
  have e9 : (Str.ofString "9").cps.toList = [57] := by decide
  have h := hx c hc
  have n1 : ¬ ([c] < [48]) := by simp [List.cons_lt_cons_iff]; omega
  have n2 : ¬ ([57] < [c]) := by simp [List.cons_lt_cons_iff]; omega
  dsimp only
  rw [e0, e9]
  simp [n1, n2]
theorem signs_none {x : Str} (p : Str → Bool) (h : ∀ c ∈ x.cps.toList, p ⟨#[c]⟩ = false) : List.filter p (signs x) = [] := by
  rw [List.filter_eq_nil_iff]
  intro y hy
  obtain ⟨c, hc, rfl⟩ := List.mem_map.mp hy
  rw [h c hc]; simp
theorem carried_nil {ys : List Value} (h : CarriedAll ys []) : ys = [] := by cases h; rfl

set_option maxRecDepth 100000 in
set_option maxHeartbeats 8000000 in
theorem tell_is_figures (w : World) (mean : ExcName → Option Value) (mg mb : Str → Option Value) (news : List (Addr × Obj)) (x : Str) (t : Tok) (h1 : x.cps.size ≤ 10) (h2 : x.cps.size ≠ 0) (hx : ∀ c ∈ x.cps.toList, 48 ≤ c ∧ c ≤ 57) :
    Tell w mean mg mb 134 12 [.str x t] news (OutV (.bool true)) := by
  unfold Tell
  w_top off
  k_with_none
  k_fill
  intro dp un gd cn cs a ccd cl outer A₀ base h₀ L m s Q E B F X N T hk hd hu hret
  refine wpAny_call ?_
  k_dflt cell_enter
  k_steps
  · (rename CarriedAll _ _ => hC)
    rw [signs_none _ (figs_out hx)] at hC
    have e9 := carried_nil hC
    subst e9
    k_dflt (refine ke_eq_ints (xs := []) (ys := []) (ns := []) (ms := []) ?q1 ?q2 .nil .nil ?q3 ?_; (case q1 => is_list); (case q2 => is_list); (case q3 => (simp only [units_deeper]; omega)))
    k_steps
    all_goals (exact end0 hret (by k_asm) (by first | k_asm | exact fun p hp => (by assumption : News _ _ _ _) p (by simp [hp])) ⟨rfl, boolOf (by decide)⟩)
  · exact absurd (by assumption) (figs_ne h2)

-- Comp

/-- a block of one clause: what its own text must show -/
structure Plain (env : Env) (scope : Scope) (cl : List (Str × Addr)) (x : Str) : Prop where
  clos : closureFor scope env = pure cl
  noCell : ∀ z ∈ scope.names, z.2 ≠ .cell
  isFun : scope.kind = .function
  own : ∀ z ∈ scope.names, z.2 = .local → scope.names.lookup z.1 = some .local
  var : scope.names.lookup x = some .local

/-- the block's own frame C stands apart from all that the walk knows -/
structure Apart (h₀ : Heap) (L C : Addr) (news : List (Addr × Obj)) : Prop where
  loc : C ≠ L
  new : h₀.get? C = none
  off : ∀ p ∈ news, p.1 ≠ C
theorem Apart.goes {h₀ h h' : Heap} {L C : Addr} {m : Str → Option Value} {news : List (Addr × Obj)} (X : Apart h₀ L C news) (F : Fr h₀ L h m) (N : News h₀ L h news) (e : Heap.SameBut C h h') : Fr h₀ L h' m ∧ News h₀ L h' news :=
  ⟨F.change e X.loc X.new, fun p hp => ⟨e.extBut _ _ (X.off p hp) (N p hp).1, (N p hp).2⟩⟩

section
variable {prog : Program} {w : World} {A : Around} {E : Value → Shared → Prop} {s : Shared} {h₀ : Heap} {L : Addr} {m : Str → Option Value} {env : Env}
  {elt iter : Expr} {x : Str} {px : Pos} {scope : Scope} {cl : List (Str × Addr)} {pos : Pos}

/-- a block's source: pyIter makes an iterator I of it (object o), which is walked in n turns, the i-th value by P i, its state by St -/
structure Source (prog : Program) (w : World) (A : Around) (h₀ : Heap) (xv : Value) (s₁ : Shared) (n : Nat) (P : Nat → Value → Prop) (o : Obj) (fp : List Addr) (St : Nat → Heap → Prop) : Prop where
  size : n ≤ sizeLine
  made : ∀ (Q : Value → Shared → Prop) (E : Value → Shared → Prop), Q (.ref s₁.heap.objs.size) { s₁ with heap := s₁.heap.push o } → wpAny (model prog w) A (pyIter xv) Q E s₁
  walks : Walks prog w A s₁.heap.objs.size fp [s₁.heap.objs.size] n P St
  foot : ∀ b ∈ fp, b ≤ s₁.heap.objs.size
  start : St 0 (s₁.heap.push o)
  stands : ∀ i h, St i h → ∃ o, h.get? s₁.heap.objs.size = some o
  frame : ∀ i (h h' : Heap) (o : Obj), St i h → h.get? s₁.heap.objs.size = some o → h'.get? s₁.heap.objs.size = some o → (∀ b o, h₀.get? b = some o → h'.get? b = some o) → St i h'

def SrcW (prog : Program) (w : World) (A : Around) (h₀ : Heap) (L : Addr) (m : Str → Option Value) (env : Env) (elt : Expr) (x : Str) (scope : Scope) (cl : List (Str × Addr)) (Fin : Shared → List Value → List (Addr × Obj) → Prop) (xv : Value) (s₁ : Shared) : Prop :=
  ∃ n P o fp St news, Source prog w A h₀ xv s₁ n P o fp St ∧ Fr h₀ L s₁.heap m ∧ News h₀ L s₁.heap news ∧
    ∀ g, LCg.CompRest prog w A h₀ L m env elt x scope cl { s₁ with heap := g } (fun _ => True) P (Fin { s₁ with heap := g }) n 0 [] news

/-- the block, from its source to the list D -/
theorem SrcW.run {Fin : Shared → List Value → List (Addr × Obj) → Prop} {xv : Value} {s₁ : Shared} {RR : Value → Addr → Result → Shared → Prop} (B : Plain env scope cl x) (src : SrcW prog w A h₀ L m env elt x scope cl Fin xv s₁)
    (land : ∀ C D ys nw g₀ g tk m', Fr h₀ L g m → News h₀ L g ((D, LCg.lst ys) :: nw) → LCg.Off1 D nw → g.Ns C m' → Apart h₀ L C ((D, LCg.lst ys) :: nw) → Fin { s₁ with heap := g₀ } ys nw → RR (.ref D) C (.ok .next) { s₁ with heap := g, toks := tk }) :
    wpAny (model prog w) A (pyIter xv) (fun it s₂ => wpAny (model prog w) A (newList []) (fun acc s₃ => wpAny (model prog w) A (newFunctionEnv scope env.globals cl [] env.qual none .none (some env)) (fun cenv s₄ =>
      codeAny (model prog w) A (.compStart (.ListComp elt [⟨.Name x px, iter, [], 0⟩] scope pos) 0 it acc { cenv with scope := relabel scope env }) (RR acc cenv.locals) s₄) E s₃) E s₂) E s₁ := by
  obtain ⟨n, P, o, fp, St, news, S, F, N, rest⟩ := src
  have more : ∀ b o', s₁.heap.get? b = some o' → (s₁.heap.push o).get? b = some o' := fun b o' q => Heap.get?_push_of_some o q
  apply S.made
  apply LCg.block_U (s₂ := { s₁ with heap := s₁.heap.push o }) (S := fun _ => True) (RR := RR) S.walks S.size S.stands (fun i h h' o _ a b c d _ _ => S.frame i h h' o a b c d) B.noCell B.isFun B.var S.start
    (fun b hb => Nat.lt_of_le_of_lt (S.foot b hb) (by rw [Heap.size_push]; exact Nat.lt_succ_self _)) (F.keeps more) (N.grown more) (Nat.ne_of_lt F.ns.lt) (next_is_new F) N.ne_size trivial (rest _)
  intro D C g tk m' ys nw F' N' o1 ns c₀ _ cL _ cD offC fin
  exact land C D ys nw _ g tk m' F' N' o1 ns ⟨cL, c₀, List.forall_mem_cons.mpr ⟨Ne.symm cD, offC⟩⟩ fin

theorem comp_eval {Q : Value → Shared → Prop} (B : Plain env scope cl x) (_F : Fr h₀ L s.heap m)
    (h : wpAny (model prog w) A (eval iter env) (SrcW prog w A h₀ L m env elt x scope cl (fun s₂ => LCg.FinE h₀ L m s₂ Q)) E s)
    (still : ∀ v, foldedSetIterable iter env v = pure v := by intro _; rfl) :
    wpAny (model prog w) A (eval (.ListComp elt [⟨.Name x px, iter, [], 0⟩] scope pos) env) Q E s := by
  rw [eval_ListComp]
  apply wpAny_comprehension_free (use := none) rfl still B.clos B.isFun B.own
  refine wpAny_mono h (fun xv s₁ src => src.run B ?_) fun _ _ e => e
  intro C D ys nw g₀ g tk m' F N o1 ns X fin
  exact ⟨m', ns, fun g' e => (X.goes F N e).elim fun a b => fin D g' tk a b o1⟩

theorem comp_assign {y : Str} {py : Pos} {spos : Pos} {Q : Flow → Shared → Prop} (B : Plain env scope cl x) (_F : Fr h₀ L s.heap m) (here : env.locals = L)
    (sw : swapsWith (.ListComp elt [⟨.Name x px, iter, [], 0⟩] scope pos) (some (.Name y py)) spos.line env = pure true) (ky : env.kindOf y = some .local)
    (kf : (env.scope.kind == .class || (env.scope.kind == .module && env.locals != env.globals)) = false)
    (h : wpAny (model prog w) A (eval iter env) (SrcW prog w A h₀ L m env elt x scope cl (fun s₂ => LCg.FinA h₀ L m s₂ y Q)) E s)
    (still : ∀ v, foldedSetIterable iter env v = pure v := by intro _; rfl) :
    wpAny (model prog w) A (exec (.Assign [.Name y py] (.ListComp elt [⟨.Name x px, iter, [], 0⟩] scope pos) spos) env) Q E s := by
  subst here
  have whole : wpAny (model prog w) A (comprehension (.ListComp elt [⟨.Name x px, iter, [], 0⟩] scope pos) scope env (firstIterPos [⟨.Name x px, iter, [], 0⟩] pos) (newList []) false (eval iter env) (some (assign (.Name y py) env))) (fun _ => Q .next) E s := by
    apply wpAny_comprehension_free (use := some (assign (.Name y py) env)) rfl still B.clos B.isFun B.own
    refine wpAny_mono h (fun xv s₁ src => src.run B ?_) fun _ _ e => e
    intro C D ys nw g₀ g tk m' F N o1 ns X fin
    refine wpAny_assign_Name (wpAny_storeName_local ky F.ns (fun g₂ at₂ e₂ => ?_) kf)
    exact ⟨m', ns.sameBut e₂ X.loc, fun g' e => (X.goes (F.set at₂ e₂) (N.set e₂) e).elim fun a b => fin D g' _ a b o1⟩
  rw [exec_Assign_Name_used _ _ _ _ sw, arm_evalThenUse_ListComp]
  exact wpAny_bind (wpAny_standAt (wpAny_bind (wpAny_bind (wpAny_mono whole (fun _ _ q => wpAny_pure (wpAny_pure q)) fun _ _ e => e))))

/-- the source is a text of ASCII -/
theorem SrcW.text {Fin : Shared → List Value → List (Addr × Obj) → Prop} {y : Str} {t : Tok} {news : List (Addr × Obj)} {s₁ : Shared}
    (quiet : A.handled = none) (F : Fr h₀ L s₁.heap m) (N : News h₀ L s₁.heap news) (plain : y.cps.all (· < 128) = true) (small : y.cps.size ≤ sizeLine)
    (rest : ∀ g, LCg.CompRest prog w A h₀ L m env elt x scope cl { s₁ with heap := g } (fun _ => True) (SignAt y) (Fin { s₁ with heap := g }) y.cps.size 0 [] news) :
    SrcW prog w A h₀ L m env elt x scope cl Fin (.str y t) s₁ := by
  refine ⟨_, _, _, _, _, news, ⟨small, fun Q E q => wpAny_pyIter_ascii plain q, Walks.strAscii quiet _ y t, ?_, ⟨_, Heap.get?_push_size _ rfl, rfl, rfl⟩, ?_, ?_⟩, F, N, rest⟩
  · intro b hb
    rw [List.mem_singleton] at hb
    exact hb ▸ Nat.le_refl _
  · rintro i h ⟨o, e, _⟩
    exact ⟨o, e⟩
  · rintro i h h' o ⟨o', e', st⟩ e f _
    cases e.symm.trans e'
    exact ⟨o, f, st⟩

/-- the source is a tuple that stood before -/
theorem SrcW.tuple {Fin : Shared → List Value → List (Addr × Obj) → Prop} {a : Addr} {its : Array Value} {news : List (Addr × Obj)} {s₁ : Shared}
    (quiet : A.handled = none) (F : Fr h₀ L s₁.heap m) (N : News h₀ L s₁.heap news) (tup : h₀.IsTuple a its) (small : its.size ≤ sizeLine)
    (rest : ∀ g, LCg.CompRest prog w A h₀ L m env elt x scope cl { s₁ with heap := g } (fun _ => True) (fun i v => its[i]? = some v) (Fin { s₁ with heap := g }) its.size 0 [] news) :
    SrcW prog w A h₀ L m env elt x scope cl Fin (.ref a) s₁ := by
  have now : s₁.heap.IsTuple a its := tup.at fun o e => F.keep a o e
  have lt : a < s₁.heap.objs.size := Exists.elim now fun o e => Heap.lt_size e.1
  refine ⟨_, _, _, _, _, news, ⟨small, fun Q E q => wpAny_pyIter_tuple now q, Walks.tuple quiet _ a (Nat.ne_of_lt lt) its, ?_, ⟨⟨_, Heap.get?_push_size _ rfl, rfl, rfl⟩, now.push _⟩, ?_, ?_⟩, F, N, rest⟩
  · intro b hb
    simp only [List.mem_cons, List.not_mem_nil, or_false] at hb
    rcases hb with e | e
    · exact Nat.le_of_eq e
    · exact e ▸ Nat.le_of_lt lt
  · rintro i h ⟨⟨o, e, _⟩, _⟩
    exact ⟨o, e⟩
  · rintro i h h' o ⟨⟨o', e', st⟩, _⟩ e f k
    cases e.symm.trans e'
    exact ⟨⟨o, f, st⟩, tup.at fun o e => k a o e⟩

/-- a block whose turns leave nothing behind, by what holds of the values made so far -/
theorem rest_by {S : List (Addr × Obj) → Prop} {P : Nat → Value → Prop} {Fin : List Value → List (Addr × Obj) → Prop} {news : List (Addr × Obj)} {n : Nat} (J : Nat → List Value → Prop)
    (turn : ∀ i v ys I oI C oC D m₂ h tk (E' : Value → Shared → Prop), i < n → P i v → J i ys → LCg.NsObj oC m₂ → m₂ x = some v → Fr h₀ L h m → News h₀ L h ((I, oI) :: (C, oC) :: (D, LCg.lst ys) :: news) → LCg.Off3 I C D news →
      wpAny (model prog w) A (eval elt (compEnvC scope cl C env)) (LCg.CompEnd h₀ L m { s with heap := h, toks := tk } I oI C oC D (LCg.lst ys) S (fun z nw => nw = news ∧ J (i + 1) (ys ++ [z]))) E' { s with heap := h, toks := tk })
    (fin : ∀ ys, J n ys → Fin ys news) : ∀ k i ys, i + k = n → J i ys → LCg.CompRest prog w A h₀ L m env elt x scope cl s S P Fin k i ys news
  | 0, i, ys, e, j => fin ys (by rw [← show i = n from e]; exact j)
  | k + 1, i, ys, e, j => fun v I oI C oC D m₂ h tk E' hv hC hx F N off _ => by
    refine wpAny_mono (turn i v ys I oI C oC D m₂ h tk E' (by omega) hv j hC hx F N off) ?_ fun _ _ q => q
    rintro z s₂ ⟨h', tk', nw, q, F', N', off', hS, rfl, j'⟩
    exact ⟨h', tk', nw, q, F', N', off', hS, rest_by J turn fin k (i + 1) _ (by omega) j'⟩

/-- the same, from texts to texts by g -/
theorem rest_strs {S : List (Addr × Obj) → Prop} {P : Nat → Value → Prop} {Fin : List Value → List (Addr × Obj) → Prop} {news : List (Addr × Obj)} {n : Nat} {src : List Str} (g : Str → Str)
    (len : src.length = n) (item : ∀ i v, i < n → P i v → ∃ y u, src[i]? = some y ∧ v = .str y u)
    (turn : ∀ y u I oI C oC D m₂ ys h tk (E' : Value → Shared → Prop), y ∈ src → LCg.NsObj oC m₂ → m₂ x = some (.str y u) → Fr h₀ L h m → News h₀ L h ((I, oI) :: (C, oC) :: (D, LCg.lst ys) :: news) → LCg.Off3 I C D news →
      wpAny (model prog w) A (eval elt (compEnvC scope cl C env)) (LCg.CompEnd h₀ L m { s with heap := h, toks := tk } I oI C oC D (LCg.lst ys) S (fun z nw => nw = news ∧ ∃ t, z = .str (g y) t)) E' { s with heap := h, toks := tk })
    (fin : ∀ ys, StrsAre ys (src.map g) → Fin ys news) : LCg.CompRest prog w A h₀ L m env elt x scope cl s S P Fin n 0 [] news := by
  refine rest_by (fun i ys => StrsAre ys ((src.map g).take i)) ?_ (fun ys j => fin ys ?_) n 0 [] (Nat.zero_add n) .nil
  · intro i v ys I oI C oC D m₂ h tk E' hi hv j hC hx F N off
    obtain ⟨y, u, at_, rfl⟩ := item i v hi hv
    refine wpAny_mono (turn y u I oI C oC D m₂ ys h tk E' (List.mem_of_getElem? at_) hC hx F N off) ?_ fun _ _ q => q
    rintro z s₂ ⟨h', tk', nw, q, F', N', off', hS, e, t, rfl⟩
    refine ⟨h', tk', nw, q, F', N', off', hS, e, ?_⟩
    have next : (src.map g).take (i + 1) = (src.map g).take i ++ [g y] := by
      rw [List.take_add_one, List.getElem?_map, at_]; rfl
    rw [next]
    exact kct_snoc j
  · rwa [List.take_of_length_le (by rw [List.length_map]; omega)] at j

/-- an element's end -/
theorem elt_end {I C D : Addr} {oI oC oD : Obj} {s₁ : Shared} {h' : Heap} {tk : Nat} {news : List (Addr × Obj)} {r : Str} {v : Value} (F : Fr h₀ L h' m) (N : News h₀ L h' ((I, oI) :: (C, oC) :: (D, oD) :: news)) (off : LCg.Off3 I C D news) (val : ∃ t, v = .str r t) :
    LCg.CompEnd h₀ L m s₁ I oI C oC D oD (fun _ => True) (fun z nw => nw = news ∧ ∃ t, z = .str r t) v { s₁ with heap := h', toks := tk } :=
  LCg.CompEnd.intro F N news (fun _ q => q) off trivial ⟨rfl, val⟩
end
theorem signs_src {y : Str} (i : Nat) (v : Value) (_ : i < y.cps.size) (h : SignAt y i v) : ∃ z u, (y.cps.toList.map fun c => (⟨#[c]⟩ : Str))[i]? = some z ∧ v = .str z u := by
  obtain ⟨c, u, at_, rfl⟩ := h
  exact ⟨⟨#[c]⟩, u, by rw [List.getElem?_map, Array.getElem?_toList, at_]; rfl, rfl⟩

-- C1
def lowI (c : Int) : Int := if 65 ≤ c ∧ c ≤ 90 then c + 32 else c
def lowC (y : Str) : Str := ⟨y.cps.map fun c => if 65 ≤ c ∧ c ≤ 90 then c + 32 else c⟩
theorem low_ge (c : Nat) : 0 ≤ lowI (c : Int) := by unfold lowI; split <;> omega
theorem low_le {c : Nat} (h : c < 128) : lowI (c : Int) ≤ 1114111 := by unfold lowI; split <;> omega
theorem low_str (c : Nat) : (⟨#[(lowI (c : Int)).toNat]⟩ : Str) = lowC ⟨#[c]⟩ := by
  unfold lowI lowC
  congr 1
  simp only [List.map_toArray, List.map_cons, List.map_nil]
  congr 2
  split <;> split <;> omega
theorem low_strOf (c : Nat) {t : Tok} : ∃ t', Value.str (⟨#[(lowI (c : Int)).toNat]⟩ : Str) t = Value.str (lowC ⟨#[c]⟩) t' := ⟨t, by rw [low_str]⟩
theorem glue_ones (f : Nat → Nat) (l : List Nat) : Txt.join (Str.ofString "") ((l.map fun c => (⟨#[c]⟩ : Str)).map fun y => ⟨y.cps.map f⟩) = ⟨(l.map f).toArray⟩ := by
  have key : ∀ (l : List Nat) (acc : Array Nat), ((l.map fun c => (⟨#[c]⟩ : Str)).map fun y => (⟨y.cps.map f⟩ : Str)).foldl (fun (acc : Array Nat) p => acc ++ (Str.ofString "").cps ++ p.cps) acc = acc ++ (l.map f).toArray := by
    intro l
    induction l with
    | nil => intro acc; simp
    | cons c r ih =>
      intro acc
      simp only [List.map_cons, List.foldl_cons]
      rw [ih]
      have e : (Str.ofString "").cps = #[] := by decide
      rw [e]
      simp
  cases l with
  | nil => rfl
  | cons c r =>
    show (⟨(List.map _ (List.map _ r)).foldl _ _⟩ : Str) = _
    have := key r #[f c]
    simp only [List.map_cons, List.headD_cons] at this ⊢
    rw [show ((⟨#[c]⟩ : Str).cps.map f) = #[f c] from by simp]
    rw [this]; simp
theorem low_join (x : Str) : Txt.join (Str.ofString "") ((x.cps.toList.map fun c => (⟨#[c]⟩ : Str)).map lowC) = lowC x := by
  have := glue_ones (fun c => if 65 ≤ c ∧ c ≤ 90 then c + 32 else c) x.cps.toList
  unfold lowC at this ⊢
  rw [this]
  congr 1
  apply Array.ext'
  simp
theorem low_weight (x : Str) (h : x.cps.size ≤ 100) : (((x.cps.toList.map fun c => (⟨#[c]⟩ : Str)).map lowC).map (·.length)).sum + ((x.cps.toList.map fun c => (⟨#[c]⟩ : Str)).map lowC).length ≤ 1048576 := by
  have e : ((x.cps.toList.map fun c => (⟨#[c]⟩ : Str)).map lowC).map (·.length) = x.cps.toList.map fun _ => 1 := by
    rw [List.map_map, List.map_map]
    apply List.map_congr_left
    intro c _
    simp [lowC, Str.length]
  rw [e, List.map_const', List.sum_replicate_nat]
  simp
  omega
theorem low1 {c : Int} (h1 : 65 ≤ c) (h2 : c ≤ 90) : c + 32 = lowI c := by simp [lowI, h1, h2]
theorem low2 {c : Int} (h1 : ¬ 65 ≤ c) : c = lowI c := by simp [lowI, h1]
theorem low3 {c : Int} (h1 : ¬ c ≤ 90) : c = lowI c := by simp [lowI, h1]

set_option maxRecDepth 100000 in
set_option maxHeartbeats 8000000 in
theorem tell_lower_code (w : World) (mean : ExcName → Option Value) (mg mb : Str → Option Value) (news : List (Addr × Obj)) (c : Int) (t : Tok) :
    Tell w mean mg mb 68 1 [.int c t] news (OutI (lowI c)) := by
  unfold Tell
  w_top off
  k_with_none
  k_fill
  intro dp un gd cn cs a ccd cl outer A₀ base h₀ L m s Q E B F X N T hk hd hu hret
  refine wpAny_call ?_
  k_dflt cell_enter
  k_steps
  all_goals (refine end0 hret (by k_asm) (by k_asm) ⟨rfl, ktn_int ?_⟩; first | exact low1 (by assumption) (by assumption) | exact low2 (by assumption) | exact low3 (by assumption))
local macro_rules | `(tactic| walk_at "eval ListComp") => `(tactic| (k_here; k_dflt (refine comp_eval ⟨by with_unfolding_all rfl, by decide, by rfl, by decide, by rfl⟩ (by k_asm) ?_)))
local macro_rules | `(tactic| walk_at "call ref") => `(tactic| (k_here; (with_reducible show wpAny _ _ (PySem.call (Value.ref 68) _) _ _ _); k_dflt (refine' useI (tell_lower_code _ _ _ _ _ _ _) ?k1 ?k2 ?k3 ?k4 ?k5 ?k6 ?k7 ?k8 ?_; (case k1 => k_asm); (case k2 => k_asm); (case k3 => k_asm); (case k4 => k_asm); (case k5 => k_asm); (case k6 => first | exact rfl | assumption); (case k7 => ktr_room); (case k8 => ktr_units); k_whole; intro t9 h9 tk9 F9 N9; (try dsimp only); (try k_fold))))

set_option maxRecDepth 100000 in
set_option maxHeartbeats 8000000 in
theorem tell_lower_text (w : World) (mean : ExcName → Option Value) (mg mb : Str → Option Value) (news : List (Addr × Obj)) (x : Str) (t : Tok) (ha : x.cps.all (· < 128) = true) (hl : x.cps.size ≤ 100) :
    Tell w mean mg mb 73 2 [.str x t] news (OutS (lowC x)) := by
  unfold Tell
  w_top off
  k_with_none
  k_fill
  intro dp un gd cn cs a ccd cl outer A₀ base h₀ L m s Q E B F X N T hk hd hu hret
  refine wpAny_call ?_
  k_dflt cell_enter
  k_steps
  have hsz : x.cps.size ≤ sizeLine := by rw [PySem.sizeLine_eq]; omega
  refine SrcW.text (by rfl) (by k_asm) (by k_asm) ha hsz fun g' => ?_
  refine rest_strs (src := x.cps.toList.map fun c => (⟨#[c]⟩ : Str)) lowC (by simp) signs_src ?_ ?_
  · intro y u I oI C oC D m₂ ys h tk E' hy hC hx F N off
    obtain ⟨c, hc, rfl⟩ := List.mem_map.mp hy
    have hc' : c < 128 := by have := Array.all_eq_true_iff_forall_mem.mp ha c (by simpa using hc); simpa using this
    (try k_fold)
    k_steps
    all_goals (k_dflt (refine chr_of_range (low_ge c) (low_le hc') ?_))
    k_steps
    all_goals (exact elt_end (by k_asm) (by k_asm) off (low_strOf c))
  · intro ys hys
    k_steps
    all_goals (k_dflt (refine join_listW (items := ys.toArray) (ys := (x.cps.toList.map fun c => (⟨#[c]⟩ : Str)).map lowC) ?j1 ?j2 ?j3 ?j4 ?_; (case j1 => is_list); (case j2 => exact hys); (case j3 => decide); (case j4 => exact low_weight x hl)))
    all_goals intro t9 k9
    all_goals (rw [low_join])
    k_steps
    all_goals (refine end0 hret (by k_asm) (by first | k_asm | exact News.drop1 (by k_asm)) ⟨rfl, ⟨_, rfl⟩⟩)

-- Txts

def padS (n : Int) : Str := Txt.mul (Str.ofString "0") (4 - ((Str.ofString (toString n)).length : Int)) ++ Str.ofString (toString n)
theorem digits_num {n : Int} (h0 : 0 ≤ n) : ∀ c ∈ (Str.ofString (toString n)).cps.toList, 48 ≤ c ∧ c ≤ 57 := by
  obtain ⟨m, rfl⟩ := Int.eq_ofNat_of_zero_le h0
  intro c hc
  rw [KIN.signs_num] at hc
  obtain ⟨ch, hch, e⟩ := List.mem_map.mp hc
  have r := digit_range (Nat.isDigit_of_mem_toDigits (by decide) (by decide) hch)
  rw [← e]
  exact r
theorem val_num {n : Int} (h0 : 0 ≤ n) : ((NumText.digitsVal (Str.ofString (toString n)).cps.toList : Nat) : Int) = n := by
  obtain ⟨m, rfl⟩ := Int.eq_ofNat_of_zero_le h0
  rw [KIN.signs_num, KIN.val_back]
theorem num_size (x : Str) : x.cps.toList.length = x.length := Array.length_toList
theorem num_pos {n : Int} (h0 : 0 ≤ n) : 1 ≤ (Str.ofString (toString n)).length := by
  have e := num_size (Str.ofString (toString n))
  obtain ⟨m, rfl⟩ := Int.eq_ofNat_of_zero_le h0
  rw [KIN.signs_num, List.length_map] at e
  have := toDigits_len_ge 10 m
  omega
theorem num_len4 {n : Int} (h0 : 0 ≤ n) (h : n < 10000) : (Str.ofString (toString n)).length ≤ 4 := toString_length_le h0 (k := 4) (by decide) h
theorem num_len2 {n : Int} (h0 : 0 ≤ n) (h : n < 100) : (Str.ofString (toString n)).length ≤ 2 := toString_length_le h0 (k := 2) (by decide) h
theorem mul_zeros (n : Int) : (Txt.mul (Str.ofString "0") n).cps.toList = List.replicate n.toNat 48 := by
  have e0 : (Str.ofString "0").cps = #[48] := by decide
  have key : ∀ (k : Nat) (acc : Array Nat), ((List.replicate k (#[48] : Array Nat)).foldl (· ++ ·) acc).toList = acc.toList ++ List.replicate k 48 := by
    intro k
    induction k with
    | zero => intro acc; simp
    | succ k ih => intro acc; rw [List.replicate_succ, List.foldl_cons, ih]; simp [List.replicate_succ]
  unfold Txt.mul
  split
  · have : n.toNat = 0 := by omega
    rw [this]; rfl
  · split
    · rename_i h1 h2
      have : n = 1 := by
        have : ((Str.ofString "0").length == 0) = false := by decide
        rw [this] at h2; simpa using h2
      subst this
      rw [e0]; rfl
    · rw [e0]
      have := key n.toNat #[]
      simpa using this
theorem pad_signs (n : Int) : (padS n).cps.toList = List.replicate (4 - ((Str.ofString (toString n)).length : Int)).toNat 48 ++ (Str.ofString (toString n)).cps.toList := by
  show ((Txt.mul _ _).cps ++ (Str.ofString (toString n)).cps).toList = _
  rw [Array.toList_append, mul_zeros]
theorem pad_len {n : Int} (h0 : 0 ≤ n) (h : n < 10000) : (padS n).length = 4 := by
  have h4 := num_len4 h0 h
  rw [← num_size, pad_signs, List.length_append, List.length_replicate, num_size]
  omega
theorem pad_digits {n : Int} (h0 : 0 ≤ n) : ∀ c ∈ (padS n).cps.toList, 48 ≤ c ∧ c ≤ 57 := by
  intro c hc
  rw [pad_signs] at hc
  rcases List.mem_append.mp hc with hc | hc
  · rw [List.mem_replicate] at hc; omega
  · exact digits_num h0 c hc
theorem val_zeros (k : Nat) (l : List Nat) : NumText.digitsVal (List.replicate k 48 ++ l) = NumText.digitsVal l := by
  induction k with
  | zero => rfl
  | succ k ih =>
    rw [List.replicate_succ, List.cons_append]
    show (List.replicate k 48 ++ l).foldl _ (0 * 10 + (48 - 48)) = _
    exact ih
theorem pad_reads {n : Int} (h0 : 0 ≤ n) (h : n < 10000) : PySem.intText? (padS n) = some n := by
  have hl := pad_len h0 h
  rw [intText_digits (pad_digits h0) (by intro e; have := num_size (padS n); rw [e, hl] at this; cases this) (by omega), pad_signs, val_zeros, val_num h0]
theorem num_reads' {n : Int} (h0 : 0 ≤ n) (h : n < 10000) : PySem.intText? (Str.ofString (toString n)) = some n := KIN.num_reads h0 (by omega)

/-! the text is cut at its dashes -/
theorem pieces : ∀ (p q X Y : List Nat), 45 ∉ p → 45 ∉ q → p ++ 45 :: X = q ++ 45 :: Y → p = q ∧ X = Y
  | [], [], _, _, _, _, h => ⟨rfl, (List.cons.inj h).2⟩
  | [], b :: q, _, _, _, h2, h => by
    have := (List.cons.inj h).1
    exact absurd (List.mem_cons.mpr (.inl this)) h2
  | a :: p, [], _, _, h1, _, h => by
    have := (List.cons.inj h).1
    exact absurd (List.mem_cons.mpr (.inl this.symm)) h1
  | a :: p, b :: q, X, Y, h1, h2, h => by
    have e := List.cons.inj h
    have r := pieces p q X Y (fun m => h1 (.tail _ m)) (fun m => h2 (.tail _ m)) e.2
    exact ⟨by rw [e.1, r.1], r.2⟩
theorem join_signs : ∀ (p q : Str) (r : List Str), (Str.join (Str.ofString "-") (p :: q :: r)).cps.toList = p.cps.toList ++ 45 :: (Str.join (Str.ofString "-") (q :: r)).cps.toList := by
  intro p q r
  show (p.cps ++ (Str.ofString "-").cps ++ (Str.join (Str.ofString "-") (q :: r)).cps).toList = _
  have : (Str.ofString "-").cps = #[45] := by decide
  rw [this]; simp
theorem join_inj : ∀ (P Q : List Str), P ≠ [] → Q ≠ [] → (∀ p ∈ P, 45 ∉ p.cps.toList) → (∀ p ∈ Q, 45 ∉ p.cps.toList) → Str.join (Str.ofString "-") P = Str.join (Str.ofString "-") Q → P = Q
  | [], _, h, _, _, _, _ => absurd rfl h
  | _, [], _, h, _, _, _ => absurd rfl h
  | [p], [q], _, _, _, _, h => by rw [show p = q from h]
  | [p], q :: q' :: r, _, _, hp, _, h => by
    have e := congrArg (fun x : Str => x.cps.toList) h
    rw [join_signs] at e
    refine absurd ?_ (hp p (.head _))
    rw [show p.cps.toList = _ from e]
    simp
  | p :: p' :: r, [q], _, _, _, hq, h => by
    have e := congrArg (fun x : Str => x.cps.toList) h
    rw [join_signs] at e
    refine absurd ?_ (hq q (.head _))
    rw [show q.cps.toList = _ from e.symm]
    simp
  | p :: p' :: r, q :: q' :: r', _, _, hp, hq, h => by
    have e := congrArg (fun x : Str => x.cps.toList) h
    rw [join_signs, join_signs] at e
    obtain ⟨e1, e2⟩ := pieces _ _ _ _ (hp p (.head _)) (hq q (.head _)) e
    have a : p = q := Str.ext' (Array.toList_inj.mp e1)
    have b : Str.join (Str.ofString "-") (p' :: r) = Str.join (Str.ofString "-") (q' :: r') := Str.ext' (Array.toList_inj.mp e2)
    rw [a, join_inj (p' :: r) (q' :: r') (by simp) (by simp) (fun x hx => hp x (.tail _ hx)) (fun x hx => hq x (.tail _ hx)) b]
theorem split_ne (x y : Str) (hy : y.length ≠ 0) : Txt.split x y ≠ [] := by
  intro e
  have h := StrLaws.join_split x y
  rw [e] at h
  have hx : x = Str.empty := h.symm
  subst hx
  unfold Txt.split at e
  split at e
  · cases e
  · rename_i h1
    have : (decide (Str.empty.length < y.length)) = true := decide_eq_true (by show 0 < y.length; omega)
    rw [this] at h1
    exact h1 rfl
theorem dash : (Str.ofString "-") = ⟨#[45]⟩ := by decide
theorem split3 (a b c : Str) (ha : 45 ∉ a.cps.toList) (hb : 45 ∉ b.cps.toList) (hc : 45 ∉ c.cps.toList) : Txt.split (a ++ Str.ofString "-" ++ b ++ Str.ofString "-" ++ c) (Str.ofString "-") = [a, b, c] := by
  refine join_inj _ _ (split_ne _ _ (by decide)) (by simp) ?_ ?_ ?_
  · rw [dash]; exact StrLaws.split_free _ 45
  · intro p hp
    simp only [List.mem_cons, List.not_mem_nil, or_false] at hp
    rcases hp with rfl | rfl | rfl <;> assumption
  · rw [StrLaws.join_split]
    show _ = a ++ Str.ofString "-" ++ (b ++ Str.ofString "-" ++ c)
    simp only [Str.append_assoc]
theorem no_dash {x : Str} (h : ∀ c ∈ x.cps.toList, 48 ≤ c ∧ c ≤ 57) : 45 ∉ x.cps.toList := fun m => by have := h 45 m; omega

-- D2

set_option maxRecDepth 100000 in
set_option maxHeartbeats 8000000 in
theorem tell_padded (w : World) (mean : ExcName → Option Value) (mg mb : Str → Option Value) (news : List (Addr × Obj)) (n : Int) (t u : Tok) (h0 : 0 ≤ n) (h1 : n < 10000) :
    Tell w mean mg mb 129 1 [.int n t, .int 4 u] news (OutS (padS n)) := by
  unfold Tell
  w_top off
  k_with_none
  k_fill
  intro dp un gd cn cs a ccd cl outer A₀ base h₀ L m s Q E B F X N T hk hd hu hret
  refine wpAny_call ?_
  k_dflt cell_enter
  k_steps
  all_goals (exact end0 hret (by k_asm) (by k_asm) ⟨rfl, ⟨_, rfl⟩⟩)

-- D4

theorem index_list_strs {prog : Program} {w : World} {A : Around} {E : Value → Shared → Prop} {s : Shared} {h₀ : Heap} {L D : Addr} {news : List (Addr × Obj)} {vs : List Value} {ys : List Str} {k : Str} {t : Tok} {j : Nat} {Q : Value → Shared → Prop}
    (N : News h₀ L s.heap news) (hm : (D, LCg.lst vs) ∈ news) (hi : StrsAre vs ys) (hlen : ys.length ≤ 1000) (hj : ys[j]? = some k) (hb : ∀ i, i < j → ys[i]? ≠ some k) (h : Q (.int (j : Nat) s.toks) { s with toks := s.toks + 1 }) :
    wpAny (model prog w) A (call (.builtin "list.index") [.ref D, .str k t]) Q E s := by
  have hsz : vs.length = ys.length := by
    clear hj hb h hlen hm N
    induction hi with
    | nil => rfl
    | cons y t _ ih => simp [ih]
  have at_ : ∀ (i : Nat) (h1 : i < vs.length), ∃ y, ys[i]? = some y ∧ isStrOf k vs[i] = (y == k) := by
    clear hj hb h hlen hm N hsz
    induction hi with
    | nil => intro i h1; simp at h1
    | cons y t _ ih =>
      intro i h1
      cases i with
      | zero => exact ⟨y, rfl, rfl⟩
      | succ i => obtain ⟨z, a, b⟩ := ih i (by simpa using h1); exact ⟨z, by simpa using a, by simpa using b⟩
  have hjl : j < ys.length := by
    rcases Nat.lt_or_ge j ys.length with q | q
    · exact q
    · rw [List.getElem?_eq_none q] at hj; cases hj
  refine call_meets PySem.F.slot_list_index ⟨_, (N _ hm).1, rfl⟩ PySem.F.entry_list_index (PySem.F.args_list_index_2 _ _)
    (MeetsSeq.list_index D vs.toArray vs.length (.str k t) (isStrOf k) (fun y hy => eq_isStrOf k t hi y (by simpa using hy)) j (by simpa [hsz] using hjl) (by simp; omega) ?_ ?_) ⟨(N _ hm).1, h⟩
  · obtain ⟨y, a, b⟩ := at_ j (by omega)
    rw [hj] at a; cases a
    simpa using b
  · intro i hi' hlt
    obtain ⟨y, a, b⟩ := at_ i (by omega)
    have := hb i hlt
    rw [a] at this
    have e : (y == k) = false := by simpa using fun e => this (by rw [e])
    rw [e] at b
    simpa using b

def monthsL : List Str := [Str.ofString "Jan", Str.ofString "Feb", Str.ofString "Mar", Str.ofString "Apr", Str.ofString "May", Str.ofString "Jun", Str.ofString "Jul", Str.ofString "Aug", Str.ofString "Sep", Str.ofString "Oct", Str.ofString "Nov", Str.ofString "Dec"]
local macro_rules | `(tactic| walk_at "exec Assign cons ListComp") => `(tactic| (k_here; k_dflt (refine comp_assign ⟨by with_unfolding_all rfl, by decide, by rfl, by decide, by rfl⟩ (by k_asm) (by rfl) (by with_unfolding_all rfl) (by rfl) (by rfl) ?_)))
theorem months_tup {P : Params} {h : Heap} (X : (hd.heap_39 P).In h) : h.IsTuple 74 #[.str (Str.ofString "Jan") 269, .str (Str.ofString "Feb") 270, .str (Str.ofString "Mar") 271, .str (Str.ofString "Apr") 272, .str (Str.ofString "May") 273, .str (Str.ofString "Jun") 274, .str (Str.ofString "Jul") 275, .str (Str.ofString "Aug") 276, .str (Str.ofString "Sep") 277, .str (Str.ofString "Oct") 278, .str (Str.ofString "Nov") 279, .str (Str.ofString "Dec") 280] := tupK X rfl
theorem months_src (i : Nat) (v : Value) (hi : i < 12) (h : (#[.str (Str.ofString "Jan") 269, .str (Str.ofString "Feb") 270, .str (Str.ofString "Mar") 271, .str (Str.ofString "Apr") 272, .str (Str.ofString "May") 273, .str (Str.ofString "Jun") 274, .str (Str.ofString "Jul") 275, .str (Str.ofString "Aug") 276, .str (Str.ofString "Sep") 277, .str (Str.ofString "Oct") 278, .str (Str.ofString "Nov") 279, .str (Str.ofString "Dec") 280] : Array Value)[i]? = some v) : ∃ y u, monthsL[i]? = some y ∧ v = .str y u := by
  have : i = 0 ∨ i = 1 ∨ i = 2 ∨ i = 3 ∨ i = 4 ∨ i = 5 ∨ i = 6 ∨ i = 7 ∨ i = 8 ∨ i = 9 ∨ i = 10 ∨ i = 11 := by omega
  rcases this with rfl | rfl | rfl | rfl | rfl | rfl | rfl | rfl | rfl | rfl | rfl | rfl <;> exact ⟨_, _, rfl, (Option.some.inj h).symm⟩
theorem months_ok : ∀ y ∈ monthsL, y.cps.all (· < 128) = true ∧ y.cps.size ≤ 100 := by decide +kernel
theorem months_ok2 (j : Nat) (h : j < 12) : (monthsL.getD j Str.empty).cps.all (· < 128) = true ∧ (monthsL.getD j Str.empty).cps.size ≤ 100 := by
  revert j; decide +kernel
theorem months_in (j : Nat) (h : j < 12) : ((monthsL.map lowC).any (· == lowC (monthsL.getD j Str.empty))) = true := by revert j; decide +kernel
theorem months_at (j : Nat) (h : j < 12) : (monthsL.map lowC)[j]? = some (lowC (monthsL.getD j Str.empty)) := by revert j; decide +kernel
theorem months_before (j : Nat) (h : j < 12) : ∀ i, i < j → (monthsL.map lowC)[i]? ≠ some (lowC (monthsL.getD j Str.empty)) := by revert j; decide +kernel
local macro_rules | `(tactic| walk_at "call ref") => `(tactic| (k_here; (with_reducible show wpAny _ _ (PySem.call (Value.ref 73) _) _ _ _); k_dflt (refine' useS (tell_lower_text _ _ _ _ _ _ _ ?e0 ?e1) ?k1 ?k2 ?k3 ?k4 ?k5 ?k6 ?k7 ?k8 ?_; (case e0 => assumption); (case e1 => assumption); (case k1 => k_asm); (case k2 => k_asm); (case k3 => k_asm); (case k4 => k_asm); (case k5 => k_asm); (case k6 => first | exact rfl | assumption); (case k7 => ktr_room); (case k8 => ktr_units); k_whole; intro t9 h9 tk9 F9 N9; (try dsimp only); (try k_fold))))

set_option maxRecDepth 100000 in
set_option maxHeartbeats 8000000 in
theorem tell_month_number (w : World) (mean : ExcName → Option Value) (mg mb : Str → Option Value) (news : List (Addr × Obj)) (j : Nat) (hj : j < 12) (t : Tok) :
    Tell w mean mg mb 122 4 [.str (monthsL.getD j Str.empty) t] news (OutI (j + 1 : Nat)) := by
  unfold Tell
  w_top off
  k_with_none
  k_fill
  intro dp un gd cn cs a ccd cl outer A₀ base h₀ L m s Q E B F X N T hk hd hu hret
  refine wpAny_call ?_
  k_dflt cell_enter
  have hm1 := (months_ok2 j hj).1
  have hm2 := (months_ok2 j hj).2
  k_steps
  refine SrcW.tuple (by rfl) (by k_asm) (by k_asm) (months_tup (by k_asm)) (by decide) fun g' => ?_
  refine rest_strs (src := monthsL) lowC (by rfl) months_src ?_ ?_
  · intro y u I oI C oC D m₂ ys h tk E' hy hC hx F N off
    have ha := (months_ok y hy).1
    have hl := (months_ok y hy).2
    (try k_fold)
    k_steps
    all_goals (exact elt_end (by k_asm) (by k_asm) off ⟨_, rfl⟩)
  · intro ys hys
    k_steps
    · k_dflt (refine' index_list_strs (vs := ys) (ys := monthsL.map lowC) ?q1 ?q2 hys ?q3 (months_at j hj) (months_before j hj) ?_; (case q1 => k_asm); (case q2 => exact .head _); (case q3 => decide))
      k_steps
      all_goals (exact end0 hret (by k_asm) (by first | k_asm | exact News.drop1 (by k_asm)) ⟨rfl, ktn_int rfl⟩)
    · have q := months_in j hj
      rw [show ((monthsL.map lowC).any fun x => x == lowC (monthsL.getD j Str.empty)) = false from by assumption] at q
      cases q

-- F1
theorem lt1 {y : Int} (h4 : Int.fmod y 4 = 0) (h : Int.fmod y 100 ≠ 0) : leapB y = true := by simp [leapB, h4, h]
theorem lt2 {y : Int} (h4 : Int.fmod y 4 = 0) (h : Int.fmod y 400 = 0) : leapB y = true := by simp [leapB, h4, h]
theorem lf1 {y : Int} (h4 : Int.fmod y 4 ≠ 0) : leapB y = false := by simp [leapB, h4]
theorem lf2 {y : Int} (h : Int.fmod y 100 = 0) (h4 : Int.fmod y 400 ≠ 0) : leapB y = false := by simp [leapB, h, h4]
theorem mlen_pos (y mo : Int) : 1 ≤ mlen y mo := by unfold mlen; repeat' split <;> omega
theorem cum_12 (y : Int) : cum y 12 = 334 + (if leapB y = true then 1 else 0) := by simp [cum]
theorem mlen_12 (y : Int) : mlen y 12 = 31 := by simp [mlen]
theorem next1 {n y mo d : Int} (h : Told n y mo d) (hd : d < mlen y mo) : Told (n + 1) y mo (d + 1) := by
  obtain ⟨h1, h2, h3, h4, h5, h6⟩ := h
  exact ⟨h1, h2, h3, by omega, by omega, by omega⟩
theorem next2 {n y mo d : Int} (h : Told n y mo d) (hd : ¬ d < mlen y mo) (hm : mo < 12) : Told (n + 1) y (mo + 1) 1 := by
  obtain ⟨h1, h2, h3, h4, h5, h6⟩ := h
  have := cum_succ y mo h2 (by omega)
  exact ⟨h1, by omega, by omega, by omega, mlen_pos _ _, by omega⟩
theorem next3 {n y mo d : Int} (h : Told n y mo d) (hd : ¬ d < mlen y mo) (hm : ¬ mo < 12) : Told (n + 1) (y + 1) 1 1 := by
  obtain ⟨h1, h2, h3, h4, h5, h6⟩ := h
  have e : mo = 12 := by omega
  subst e
  rw [mlen_12] at *
  rw [cum_12] at h6
  have := dby_succ y
  exact ⟨by omega, by omega, by omega, by omega, mlen_pos _ _, by rw [cum_one]; omega⟩
theorem lens29 {y mo : Int} (hl : leapB y = true) (h1 : 1 ≤ mo) (h2 : mo ≤ 12) : ([31, 29, 31, 30, 31, 30, 31, 31, 30, 31, 30, 31] : List Int).getD (mo - 1).toNat 0 = mlen y mo := by
  have : mo = 1 ∨ mo = 2 ∨ mo = 3 ∨ mo = 4 ∨ mo = 5 ∨ mo = 6 ∨ mo = 7 ∨ mo = 8 ∨ mo = 9 ∨ mo = 10 ∨ mo = 11 ∨ mo = 12 := by omega
  rcases this with rfl | rfl | rfl | rfl | rfl | rfl | rfl | rfl | rfl | rfl | rfl | rfl <;> simp [mlen, hl]
theorem lens28 {y mo : Int} (hl : leapB y = false) (h1 : 1 ≤ mo) (h2 : mo ≤ 12) : ([31, 28, 31, 30, 31, 30, 31, 31, 30, 31, 30, 31] : List Int).getD (mo - 1).toNat 0 = mlen y mo := by
  have : mo = 1 ∨ mo = 2 ∨ mo = 3 ∨ mo = 4 ∨ mo = 5 ∨ mo = 6 ∨ mo = 7 ∨ mo = 8 ∨ mo = 9 ∨ mo = 10 ∨ mo = 11 ∨ mo = 12 := by omega
  rcases this with rfl | rfl | rfl | rfl | rfl | rfl | rfl | rfl | rfl | rfl | rfl | rfl <;> simp [mlen, hl]
theorem a1 {n y mo d : Int} (h : Told n y mo d) (hl : leapB y = true) (hd : d < ([31, 29, 31, 30, 31, 30, 31, 31, 30, 31, 30, 31] : List Int).getD (mo - 1).toNat 0) : Told (n + 1) y mo (d + 1) := next1 h (by rw [← lens29 hl h.2.1 h.2.2.1]; exact hd)
theorem a2 {n y mo d : Int} (h : Told n y mo d) (hl : leapB y = true) (hd : ¬ d < ([31, 29, 31, 30, 31, 30, 31, 31, 30, 31, 30, 31] : List Int).getD (mo - 1).toNat 0) (hm : mo < 12) : Told (n + 1) y (mo + 1) 1 := next2 h (by rw [← lens29 hl h.2.1 h.2.2.1]; exact hd) hm
theorem a3 {n y mo d : Int} (h : Told n y mo d) (hl : leapB y = true) (hd : ¬ d < ([31, 29, 31, 30, 31, 30, 31, 31, 30, 31, 30, 31] : List Int).getD (mo - 1).toNat 0) (hm : ¬ mo < 12) : Told (n + 1) (y + 1) 1 1 := next3 h (by rw [← lens29 hl h.2.1 h.2.2.1]; exact hd) hm
theorem b1 {n y mo d : Int} (h : Told n y mo d) (hl : leapB y = false) (hd : d < ([31, 28, 31, 30, 31, 30, 31, 31, 30, 31, 30, 31] : List Int).getD (mo - 1).toNat 0) : Told (n + 1) y mo (d + 1) := next1 h (by rw [← lens28 hl h.2.1 h.2.2.1]; exact hd)
theorem b2 {n y mo d : Int} (h : Told n y mo d) (hl : leapB y = false) (hd : ¬ d < ([31, 28, 31, 30, 31, 30, 31, 31, 30, 31, 30, 31] : List Int).getD (mo - 1).toNat 0) (hm : mo < 12) : Told (n + 1) y (mo + 1) 1 := next2 h (by rw [← lens28 hl h.2.1 h.2.2.1]; exact hd) hm
theorem b3 {n y mo d : Int} (h : Told n y mo d) (hl : leapB y = false) (hd : ¬ d < ([31, 28, 31, 30, 31, 30, 31, 31, 30, 31, 30, 31] : List Int).getD (mo - 1).toNat 0) (hm : ¬ mo < 12) : Told (n + 1) (y + 1) 1 1 := next3 h (by rw [← lens28 hl h.2.1 h.2.2.1]; exact hd) hm
theorem News.drop2 {h₀ h : Heap} {L : Addr} {x z : Addr × Obj} {news : List (Addr × Obj)} (N : News h₀ L h (x :: z :: news)) : News h₀ L h (x :: news) := N.perm fun _ q => by simp only [List.mem_cons] at q ⊢; exact q.imp id .inr
theorem lt_all {a b : Addr} {news : List (Addr × Obj)} (h : a < b ∧ AllLt b news) : ∀ q ∈ news, q.1 < b := ktn_ltOf h.2

set_option maxRecDepth 100000 in
set_option maxHeartbeats 8000000 in
theorem tell_law_next (w : World) (mean : ExcName → Option Value) (mg mb : Str → Option Value) (news : List (Addr × Obj)) (n y mo d : Int) (D : Addr) (t1 t2 t3 : Tok) (hT : Told n y mo d) (hD : (D, tup3 y mo d t1 t2 t3) ∈ news) :
    Tell w mean mg mb 181 3 [.ref D] news (OutT (n + 1)) := by
  unfold Tell
  w_top off
  k_with_none
  k_fill
  intro dp un gd cn cs a ccd cl outer A₀ base h₀ L m s Q E B F X N T hk hd hu hret
  refine wpAny_call ?_
  k_dflt cell_enter
  have hT2 := hT.2.1
  have hT3 := hT.2.2.1
  k_steps
  all_goals (first
    | (have hl := lt1 (y := y) (by assumption) (by assumption)
       (refine end1 hret (by k_asm) (News.drop2 (by k_asm)) (lt_all (by assumption)) ⟨_, _, _, _, _, _, _, ?_, rfl, rfl⟩)
       first | exact a1 hT hl (by assumption) | exact a2 hT hl (by assumption) (by assumption) | exact a3 hT hl (by assumption) (by assumption))
    | (have hl := lt2 (y := y) (by assumption) (by assumption)
       (refine end1 hret (by k_asm) (News.drop2 (by k_asm)) (lt_all (by assumption)) ⟨_, _, _, _, _, _, _, ?_, rfl, rfl⟩)
       first | exact a1 hT hl (by assumption) | exact a2 hT hl (by assumption) (by assumption) | exact a3 hT hl (by assumption) (by assumption))
    | (have hl := lf1 (y := y) (by assumption)
       (refine end1 hret (by k_asm) (News.drop2 (by k_asm)) (lt_all (by assumption)) ⟨_, _, _, _, _, _, _, ?_, rfl, rfl⟩)
       first | exact b1 hT hl (by assumption) | exact b2 hT hl (by assumption) (by assumption) | exact b3 hT hl (by assumption) (by assumption))
    | (have hl := lf2 (y := y) (by assumption) (by assumption)
       (refine end1 hret (by k_asm) (News.drop2 (by k_asm)) (lt_all (by assumption)) ⟨_, _, _, _, _, _, _, ?_, rfl, rfl⟩)
       first | exact b1 hT hl (by assumption) | exact b2 hT hl (by assumption) (by assumption) | exact b3 hT hl (by assumption) (by assumption))
    | (exfalso; omega))

-- F2

local macro_rules | `(tactic| walk_at "exec Assign cons ListComp") => `(tactic| (k_here; k_dflt (refine LCg.Assign_ListComp_U (F₀ := by k_asm) (by rfl) (by with_unfolding_all rfl) (by with_unfolding_all rfl) (by decide) (by rfl) (by decide) (by rfl) (by rfl) (by rfl) ?_)))
theorem fm_ge (a : Int) {b : Int} (h : 0 < b) : 0 ≤ Int.fmod a b := by rw [Int.fmod_eq_emod_of_nonneg _ (by omega)]; exact Int.emod_nonneg _ (by omega)
theorem fm_lt (a : Int) {b : Int} (h : 0 < b) : Int.fmod a b < b := by rw [Int.fmod_eq_emod_of_nonneg _ (by omega)]; exact Int.emod_lt_of_pos _ h
theorem fd_ge {a b : Int} (h0 : 0 ≤ a) (h : 0 < b) : 0 ≤ Int.fdiv a b := by rw [Int.fdiv_eq_ediv_of_nonneg _ (by omega)]; exact Int.ediv_nonneg h0 (by omega)
theorem box_news {h₀ h : Heap} {L : Addr} {x z y : Addr × Obj} {news : List (Addr × Obj)} (N : News h₀ L h (x :: z :: y :: news)) : News h₀ L h (x :: z :: news) := N.perm fun _ q => by simp only [List.mem_cons] at q ⊢; exact q.imp id (.imp id .inr)
theorem box_lt {a b c : Addr} {news : List (Addr × Obj)} (h : a < c ∧ b < c ∧ AllLt c news) : ∀ q ∈ news, q.1 < c := ktn_ltOf h.2.2
theorem box_lt2 {a b c : Addr} {news : List (Addr × Obj)} (h : a < c ∧ b < c ∧ AllLt c news) : @LT.lt Nat _ a c := h.1
def poolO (C : Addr) (g st pl : Int) (t1 t2 t3 : Tok) (n : Nat) : Obj := { cls := .type "list", data := .seq #[.ref C, .int g t1, .int st t2, .int pl t3] n }
def TellBox (w : World) (mean : ExcName → Option Value) (mg mb : Str → Option Value) : Prop :=
  ∀ (dp un : Nat) (gd : Option (List Code)) (cn : Str) (cs : Scope) (a : Addr) (ccd : Value) (cl : List (Str × Addr)) (outer : List Env) (A₀ : Around) (base h₀ : Heap) (L : Addr) (m : Str → Option Value) (s : Shared) (Q E : Value → Shared → Prop) (news : List (Addr × Obj)) (l : Addr) (vs : List Value) (ns : List Int),
    Below A₀ base outer h₀ → Fr h₀ L s.heap m → (hd.heap_39 w.params).In h₀ → News h₀ L s.heap news → Top hd.view_39 (looseW hd.view_39 [Str.ofString "PostError", Str.ofString "day_of"]) mean mg mb h₀ → cs.kind = .function →
    dp + 3 < recursionLimit → un + 8 * 3 < cLine →
    base.IsList l vs.toArray → IntsAre vs ns → ns.length ≤ 63 →
    (∀ (g st : Int) (t1 t2 t3 : Tok) (n n' : Nat) (us : List Value) (ms : List Int) (C D : Addr) (h' : Heap) (tk' : Nat), Fr h₀ L h' m → News h₀ L h' ((D, poolO C g st 0 t1 t2 t3 n) :: (C, listOf us.toArray n') :: news) → IntsAre us ms → ms.length ≤ 40 → 0 ≤ g → 0 ≤ st → st < 2147483647 → (∀ q ∈ news, q.1 < D) → @LT.lt Nat _ C D → Q (.ref D) { s with heap := h', toks := tk' }) →
    wpAny (model PySem.Challenge.rw_or0029_01.row.prog w) (ktrTop dp un gd cn cs L a ccd cl outer) (PySem.call (.ref 167) [.ref l]) Q E s
set_option maxRecDepth 100000 in
set_option maxHeartbeats 8000000 in
theorem tell_law_box (w : World) (mean : ExcName → Option Value) (mg mb : Str → Option Value) : TellBox w mean mg mb := by
  unfold TellBox
  w_top off
  k_with_none
  k_fill
  intro dp un gd cn cs a ccd cl outer A₀ base h₀ L m s Q E news l vs ns B F X N T hk hd hu hl hi hlen hret
  refine wpAny_call ?_
  k_dflt cell_enter
  k_with "pyIter ref" => k_state (fun pre st => 0 ≤ st ∧ st < 2147483647) "state"
  k_with "state" => exact ⟨fm_ge _ (by decide), fm_lt _ (by decide)⟩
  k_steps
  (rename IntsAre _ (List.take 40 _) => hI9)
  have hlen9 := hI9.length
  have hlen8 : (List.take 40 ns).length ≤ 40 := by simp; omega
  refine LCg.CompSrc.ledger (by rfl) (by k_asm) (by k_asm) (by k_mem) (by rw [List.size_toArray, hlen9, PySem.sizeLine_eq]; omega) fun g' => ?_
  refine kcf_list (fun k => k) hI9 ?_ ?_
  · intro k u I oI C oC D m₂ ys h tk E' _ hC hx F N off _ mark
    clear mark
    (try k_fold)
    k_steps
    all_goals (exact kcf_el rfl rfl rfl)
  · unfold KPfDone
    intro ys hys
    rw [List.map_id'] at hys
    k_steps
    all_goals (refine hret _ _ _ _ _ _ _ ys (List.take 40 ns) _ _ _ _ (by k_asm) (box_news (by k_asm)) hys hlen8 ?_ (by assumption) (by assumption) ?_ ?_)
    all_goals first | exact fm_ge _ (by decide +kernel) | decide | exact box_lt (by assumption) | exact box_lt2 (by assumption)

-- F3

local macro_rules | `(tactic| k_all) => `(tactic| assumption)
def TellDraw (w : World) (mean : ExcName → Option Value) (mg mb : Str → Option Value) (most : Int) : Prop :=
  ∀ (dp un : Nat) (gd : Option (List Code)) (cn : Str) (cs : Scope) (a : Addr) (ccd : Value) (cl : List (Str × Addr)) (outer : List Env) (A₀ : Around) (base h₀ : Heap) (L : Addr) (m : Str → Option Value) (s : Shared) (Q E : Value → Shared → Prop) (news : List (Addr × Obj)) (C D : Addr) (us : List Value) (ms : List Int) (g st pl : Int) (t t1 t2 t3 : Tok) (n n' : Nat),
    Below A₀ base outer h₀ → Fr h₀ L s.heap m → (hd.heap_39 w.params).In h₀ → News h₀ L s.heap ((D, { cls := .type "list", data := .seq #[.ref C, .int g t1, .int st t2, .int pl t3] n }) :: (C, listOf us.toArray n') :: news) → Top hd.view_39 (looseW hd.view_39 [Str.ofString "PostError", Str.ofString "day_of"]) mean mg mb h₀ → cs.kind = .function →
    dp + 3 < recursionLimit → un + 8 * 3 < cLine →
    IntsAre us ms → ms.length ≤ 40 → 0 ≤ g → 0 ≤ st → st < 2147483647 → 0 ≤ pl → pl ≤ 100 → @LT.lt Nat _ C D → (∀ q ∈ news, q.1 ≠ D) →
    (∀ (r g' st' : Int) (t t1' t2' t3' : Tok) (n1 : Nat) (h' : Heap) (tk' : Nat), Fr h₀ L h' m → News h₀ L h' ((D, { cls := .type "list", data := .seq #[.ref C, .int g' t1', .int st' t2', .int (pl + 1) t3'] n1 }) :: (C, listOf us.toArray n') :: news) → 0 ≤ r → r < most → 0 ≤ g' → 0 ≤ st' → st' < 2147483647 → Q (.int r t) { s with heap := h', toks := tk' }) →
    wpAny (model PySem.Challenge.rw_or0029_01.row.prog w) (ktrTop dp un gd cn cs L a ccd cl outer) (PySem.call (.ref 174) [.ref D, .int most t]) Q E s
set_option maxRecDepth 100000 in
set_option maxHeartbeats 8000000 in
theorem tell_law_draw (w : World) (mean : ExcName → Option Value) (mg mb : Str → Option Value) (most : Int) (h1 : 0 < most) (h2 : most < 4000000) : TellDraw w mean mg mb most := by
  unfold TellDraw
  w_top off
  k_with_none
  k_fill
  intro dp un gd cn cs a ccd cl outer A₀ base h₀ L m s Q E news C D us ms g st pl t t1 t2 t3 n n' B F X N T hk hd hu hi hlen hg hs0 hs1 hp0 hp1 hCD hne hret
  refine wpAny_call ?_
  k_dflt cell_enter
  k_steps
  · refine hret _ _ _ _ _ _ _ _ _ _ (by k_asm) (by k_asm) ?_ ?_ ?_ hs0 hs1
    · exact fm_ge _ h1
    · exact fm_lt _ h1
    · exact fd_ge hg h1
  · refine hret _ _ _ _ _ _ _ _ _ _ (by k_asm) (by k_asm) ?_ ?_ hg ?_ ?_
    · exact fm_ge _ h1
    · exact fm_lt _ h1
    · exact fm_ge _ (by decide)
    · exact fm_lt _ (by decide)
  · refine hret _ _ _ _ _ _ _ _ _ _ (by k_asm) (by k_asm) ?_ ?_ hg ?_ ?_
    · exact fm_ge _ h1
    · exact fm_lt _ h1
    · exact fm_ge _ (by decide)
    · exact fm_lt _ (by decide)

-- G1

def monS (mo : Int) : Str := monthsL.getD (mo - 1).toNat Str.empty
def dayS (y mo d : Int) : Str := Str.ofString (toString d) ++ Str.ofString "-" ++ monS mo ++ Str.ofString "-" ++ padS y
theorem mon_len {mo : Int} (h1 : 1 ≤ mo) (h2 : mo ≤ 12) : ([Str.ofString "Jan", Str.ofString "Feb", Str.ofString "Mar", Str.ofString "Apr", Str.ofString "May", Str.ofString "Jun", Str.ofString "Jul", Str.ofString "Aug", Str.ofString "Sep", Str.ofString "Oct", Str.ofString "Nov", Str.ofString "Dec"].getD (mo - 1).toNat Str.empty).length ≤ 3 := by
  have key : ∀ j : Nat, j < 12 → ([Str.ofString "Jan", Str.ofString "Feb", Str.ofString "Mar", Str.ofString "Apr", Str.ofString "May", Str.ofString "Jun", Str.ofString "Jul", Str.ofString "Aug", Str.ofString "Sep", Str.ofString "Oct", Str.ofString "Nov", Str.ofString "Dec"].getD j Str.empty).length ≤ 3 := by decide +kernel
  exact key _ (by omega)
local macro_rules | `(tactic| walk_at "call ref") => `(tactic| (k_here; (with_reducible show wpAny _ _ (PySem.call (Value.ref 129) _) _ _ _); k_dflt (refine' useS (tell_padded _ _ _ _ _ _ _ _ ?e0 ?e1) ?k1 ?k2 ?k3 ?k4 ?k5 ?k6 ?k7 ?k8 ?_; (case e0 => omega); (case e1 => omega); (case k1 => k_asm); (case k2 => k_asm); (case k3 => k_asm); (case k4 => k_asm); (case k5 => k_asm); (case k6 => first | exact rfl | assumption); (case k7 => ktr_room); (case k8 => ktr_units); k_whole; intro t9 h9 tk9 F9 N9; (try dsimp only); (try k_fold))))

local macro_rules | `(tactic| walk_at "binaryOp Add str str") => `(tactic| (k_here; (with_reducible show wpAny _ _ (binaryOp Operator.Add (Value.str _ _) (Value.str _ _)) _ _ _); (refine' KXadd.add (K := 100) (L := 100) ?kxaa ?kxab ?kxac ?_; (case kxaa => omega); (case kxab => omega); (case kxac => decide)); intro t9 k9 hl9))

set_option maxRecDepth 100000 in
set_option maxHeartbeats 8000000 in
theorem tell_day_text (w : World) (mean : ExcName → Option Value) (mg mb : Str → Option Value) (news : List (Addr × Obj)) (y mo d : Int) (t u v : Tok) (h1 : 1 ≤ mo) (h2 : mo ≤ 12) (hd1 : 1 ≤ d) (hd2 : d ≤ 31) (hy : 1 ≤ y) (hy2 : y < 10000) :
    Tell w mean mg mb 141 3 [.int y t, .int mo u, .int d v] news (OutS (dayS y mo d)) := by
  unfold Tell
  w_top off
  k_with_none
  k_fill
  intro dp un gd cn cs a ccd cl outer A₀ base h₀ L m s Q E B F X N T hk hd hu hret
  refine wpAny_call ?_
  k_dflt cell_enter
  have hM := mon_len h1 h2
  have hP := pad_len (n := y) (by omega) hy2
  have hdash : (Str.ofString "-").length = 1 := by decide
  have hD := num_len2 (n := d) (by omega) (by omega)
  k_steps
  all_goals (exact end0 hret (by k_asm) (by k_asm) ⟨rfl, ⟨_, rfl⟩⟩)

-- G2
local macro_rules | `(tactic| walk_at "call ref") => `(tactic| (k_here; (with_reducible show wpAny _ _ (PySem.call (Value.ref 109) _) _ _ _); k_dflt (refine' useV (tell_is_day _ _ _ _ _ _ _ _ _ _ _ ?e0 ?e1 ?e2 ?e3 ?e4 ?e5) ?k1 ?k2 ?k3 ?k4 ?k5 ?k6 ?k7 ?k8 ?_; (case e0 => first | assumption | omega); (case e1 => first | assumption | omega); (case e2 => first | assumption | omega); (case e3 => first | assumption | omega); (case e4 => first | assumption | omega); (case e5 => first | assumption | omega); (case k1 => k_asm); (case k2 => k_asm); (case k3 => k_asm); (case k4 => k_asm); (case k5 => k_asm); (case k6 => first | exact rfl | assumption); (case k7 => ktr_room); (case k8 => ktr_units); k_whole; intro h9 tk9 F9 N9; (try dsimp only); (try k_fold))))
local macro_rules | `(tactic| walk_at "call ref") => `(tactic| (k_here; (with_reducible show wpAny _ _ (PySem.call (Value.ref 141) _) _ _ _); k_dflt (refine' useS (tell_day_text _ _ _ _ _ _ _ _ _ _ _ ?e0 ?e1 ?e2 ?e3 ?e4 ?e5) ?k1 ?k2 ?k3 ?k4 ?k5 ?k6 ?k7 ?k8 ?_; (case e0 => first | assumption | omega); (case e1 => first | assumption | omega); (case e2 => first | assumption | omega); (case e3 => first | assumption | omega); (case e4 => first | assumption | omega); (case e5 => first | assumption | omega); (case k1 => k_asm); (case k2 => k_asm); (case k3 => k_asm); (case k4 => k_asm); (case k5 => k_asm); (case k6 => first | exact rfl | assumption); (case k7 => ktr_room); (case k8 => ktr_units); k_whole; intro t9 h9 tk9 F9 N9; (try dsimp only); (try k_fold))))

theorem mlen_le (y mo : Int) : mlen y mo ≤ 31 := by unfold mlen; repeat' split <;> omega

set_option maxRecDepth 100000 in
set_option maxHeartbeats 8000000 in
theorem tell_write_day (w : World) (mean : ExcName → Option Value) (mg mb : Str → Option Value) (news : List (Addr × Obj)) (y mo d : Int) (D : Addr) (t1 t2 t3 : Tok) (hm : 1 ≤ mo) (hm2 : mo ≤ 12) (hd1 : 1 ≤ d) (hd2 : d ≤ mlen y mo) (hy : 1 ≤ y) (hy2 : y ≤ 9999) (hD : (D, tup3 y mo d t1 t2 t3) ∈ news) :
    Tell w mean mg mb 162 6 [.ref D] news (OutS (dayS y mo d)) := by
  unfold Tell
  w_top off
  k_with_none
  k_fill
  intro dp un gd cn cs a ccd cl outer A₀ base h₀ L m s Q E B F X N T hk hd hu hret
  refine wpAny_call ?_
  k_dflt cell_enter
  have hd3 := mlen_le y mo
  k_steps
  all_goals (exact end0 hret (by k_asm) (by k_asm) ⟨rfl, ⟨_, rfl⟩⟩)

-- G3
local macro_rules | `(tactic| walk_at "call ref") => `(tactic| (k_here; (with_reducible show wpAny _ _ (PySem.call (Value.ref 109) _) _ _ _); k_dflt (refine' useV (tell_is_day _ _ _ _ _ _ _ _ _ _ _ ?e0 ?e1 ?e2 ?e3 ?e4 ?e5) ?k1 ?k2 ?k3 ?k4 ?k5 ?k6 ?k7 ?k8 ?_; (case e0 => first | assumption | omega); (case e1 => first | assumption | omega); (case e2 => first | assumption | omega); (case e3 => first | assumption | omega); (case e4 => first | assumption | omega); (case e5 => first | assumption | omega); (case k1 => k_asm); (case k2 => k_asm); (case k3 => k_asm); (case k4 => k_asm); (case k5 => k_asm); (case k6 => first | exact rfl | assumption); (case k7 => ktr_room); (case k8 => ktr_units); k_whole; intro h9 tk9 F9 N9; (try dsimp only); (try k_fold))))

abbrev OutD (y mo d : Int) : Value → List (Addr × Obj) → Prop := fun v tl => ∃ (D : Addr) (t1 t2 t3 : Tok), v = .ref D ∧ tl = [(D, tup3 y mo d t1 t2 t3)]
abbrev lst3 (a b c : Str) (tk : Tok) : Obj := { cls := .type "list", data := .seq #[.str a tk, .str b (tk + 1), .str c (tk + 2)] }
theorem split_at {prog : Program} {w : World} {A : Around} {E : Value → Shared → Prop} {s : Shared} {h₀ : Heap} {L : Addr} {m : Str → Option Value} {news : List (Addr × Obj)} {Q : Value → Shared → Prop} {x sl a b c : Str} {t u : Tok}
    (hsl : sl = x) (hx : Txt.split x (Str.ofString "-") = [a, b, c]) (hlen : x.length ≤ 100) (F : Fr h₀ L s.heap m) (N : News h₀ L s.heap news)
    (h : ∀ (D : Addr) (h' : Heap) (tk tk' : Nat), Fr h₀ L h' m → News h₀ L h' ((D, lst3 a b c tk) :: news) → AllLt D news → Q (.ref D) { s with heap := h', toks := tk' }) :
    wpAny (model prog w) A (call (.builtin "str.split") [.str sl t, .str (Str.ofString "-") u]) Q E s := by
  subst hsl
  have h1 : (decide (sl.length < (Str.ofString "-").length) || decide (Builtin.Str.strKind sl < Builtin.Str.strKind (Str.ofString "-"))) = false := by
    cases e : (decide (sl.length < (Str.ofString "-").length) || decide (Builtin.Str.strKind sl < Builtin.Str.strKind (Str.ofString "-")))
    · rfl
    · unfold Txt.split at hx; rw [e, if_pos rfl] at hx; cases hx
  have hf : (Builtin.Str.occurrences sl (Str.ofString "-") 0 sl.length (sl.length + 1)).isEmpty = false := by
    cases e : (Builtin.Str.occurrences sl (Str.ofString "-") 0 sl.length (sl.length + 1)).isEmpty
    · rfl
    · unfold Txt.split at hx; rw [h1, if_neg (by decide), e, if_pos rfl] at hx; cases hx
  have hp : Builtin.Str.partsBetween sl (Builtin.Str.occurrences sl (Str.ofString "-") 0 sl.length (sl.length + 1)) (Str.ofString "-").length = [a, b, c] := by
    unfold Txt.split at hx; rwa [h1, if_neg (by decide), hf, if_neg (by decide)] at hx
  refine call_meets PySem.F.slot_str_split (typeIs_str _ _ _) PySem.F.entry_str_split (PySem.F.args_str_split_2 _ _) (meets_str_split_sep sl (Str.ofString "-") t u h1 (by decide) hf (by rw [PySem.sizeLine_eq]; omega) (by rw [hp, PySem.sizeLine_eq]; simp)) ?_
  show wants Q E _ { s with toks := _, heap := s.heap.push { cls := .type "list", data := .seq (strsFrom s.toks (Builtin.Str.partsBetween sl (Builtin.Str.occurrences sl (Str.ofString "-") 0 sl.length (sl.length + 1)) (Str.ofString "-").length)).toArray } }
  rw [hp]
  exact h _ _ s.toks _ (F.push _) (N.push F _) (allLt_of fun p hp => Heap.lt_size (N p hp).1)
theorem News.drop2' {h₀ h : Heap} {L : Addr} {x z : Addr × Obj} {news : List (Addr × Obj)} (N : News h₀ L h (x :: z :: news)) : News h₀ L h (x :: news) := N.perm fun _ q => by simp only [List.mem_cons] at q ⊢; exact q.imp id .inr
theorem lt_all' {a b : Addr} {news : List (Addr × Obj)} (h : a < b ∧ AllLt b news) : ∀ q ∈ news, q.1 < b := ktn_ltOf h.2
theorem slice_all (x : Str) : Txt.slice x (some 0) (some ((x.length : Nat) : Int)) = x := by
  have h := StrLaws.sliceText_nat x (a := 0) (b := x.length) (Nat.zero_le _) (Nat.le_refl _)
  rw [show Txt.slice x (some 0) (some ((x.length : Nat) : Int)) = StrLaws.sliceText x (some ((0 : Nat) : Int)) (some ((x.length : Nat) : Int)) from rfl, h]
  apply Str.ext'
  apply Array.toList_inj.mp
  show List.take (x.length - 0) (List.drop 0 x.cps.toList) = x.cps.toList
  rw [Nat.sub_zero, List.drop_zero]
  exact List.take_of_length_le (by rw [Array.length_toList]; exact Nat.le_refl _)
theorem mon_digits (mo : Int) : 45 ∉ (monS mo).cps.toList := by
  have key : ∀ y ∈ monthsL, 45 ∉ y.cps.toList := by decide +kernel
  unfold monS
  rcases Nat.lt_or_ge (mo - 1).toNat monthsL.length with q | q
  · rw [List.getD_eq_getElem?_getD, List.getElem?_eq_getElem q]; exact key _ (List.getElem_mem q)
  · rw [List.getD_eq_getElem?_getD, List.getElem?_eq_none q]; decide
theorem mon_len' (mo : Int) : (monS mo).length ≤ 3 := by
  have key : ∀ y ∈ monthsL, y.length ≤ 3 := by decide +kernel
  unfold monS
  rcases Nat.lt_or_ge (mo - 1).toNat monthsL.length with q | q
  · rw [List.getD_eq_getElem?_getD, List.getElem?_eq_getElem q]; exact key _ (List.getElem_mem q)
  · rw [List.getD_eq_getElem?_getD, List.getElem?_eq_none q]; decide
theorem day_split {y mo d : Int} (hy : 0 ≤ y) (hd : 0 ≤ d) : Txt.split (dayS y mo d) (Str.ofString "-") = [Str.ofString (toString d), monS mo, padS y] :=
  split3 _ _ _ (no_dash (digits_num hd)) (mon_digits mo) (no_dash (pad_digits hy))
theorem day_len {y mo d : Int} (hy : 0 ≤ y) (hy2 : y < 10000) (hd : 0 ≤ d) (hd2 : d < 100) : (dayS y mo d).length ≤ 11 := by
  have h1 := num_len2 hd hd2
  have h2 := pad_len hy hy2
  have h3 := mon_len' mo
  have h4 : (Str.ofString "-").length = 1 := by decide
  unfold dayS
  simp only [Str.length_append]
  omega
theorem tell_month (w : World) (mean : ExcName → Option Value) (mg mb : Str → Option Value) (news : List (Addr × Obj)) (mo : Int) (t : Tok) (h1 : 1 ≤ mo) (h2 : mo ≤ 12) : Tell w mean mg mb 122 4 [.str (monS mo) t] news (OutI mo) := by
  have h := tell_month_number w mean mg mb news (mo - 1).toNat (by omega) t
  rw [show (((mo - 1).toNat + 1 : Nat) : Int) = mo from by omega] at h
  exact h
theorem sz {x : Str} {k : Nat} (h : x.length ≤ k) : x.cps.size ≤ k := h
theorem sz0 {x : Str} (h : 1 ≤ x.length) : x.cps.size ≠ 0 := by have : 1 ≤ x.cps.size := h; omega
local macro_rules | `(tactic| walk_at "call builtin:str.split") => `(tactic| (k_here; (with_reducible show wpAny _ _ (PySem.call (Value.builtin "str.split") [Value.str _ _, Value.str _ _]) _ _ _); k_dflt (refine' split_at ?k1 ?k2 ?k3 ?k4 ?k5 ?_; (case k1 => with_reducible assumption); (case k2 => with_reducible assumption); (case k3 => with_reducible assumption); (case k4 => k_asm); (case k5 => k_asm); k_whole); intro D' h' tk9 tk9' F' N' l1; (try simp only [AllLt, and_true] at l1); (try k_sweep)))
local macro_rules | `(tactic| walk_at "call ref") => `(tactic| (k_here; (with_reducible show wpAny _ _ (PySem.call (Value.ref 134) _) _ _ _); k_dflt (refine' useV (tell_is_figures _ _ _ _ _ _ _ ?e0 ?e1 ?e2) ?k1 ?k2 ?k3 ?k4 ?k5 ?k6 ?k7 ?k8 ?_; (case e0 => with_reducible assumption); (case e1 => with_reducible assumption); (case e2 => with_reducible assumption); (case k1 => k_asm); (case k2 => k_asm); (case k3 => k_asm); (case k4 => k_asm); (case k5 => k_asm); (case k6 => first | exact rfl | assumption); (case k7 => ktr_room); (case k8 => ktr_units); k_whole; intro h9 tk9 F9 N9; (try dsimp only); (try k_fold))))

def MonTell (w : World) (mean : ExcName → Option Value) (mg mb : Str → Option Value) (b : Str) (mo : Int) : Prop := ∀ (news : List (Addr × Obj)) (t : Tok), Tell w mean mg mb 122 4 [.str b t] news (OutI mo)
theorem MonTell.use {w : World} {mean : ExcName → Option Value} {mg mb : Str → Option Value} {b : Str} {mo : Int} (h : MonTell w mean mg mb b mo) (news : List (Addr × Obj)) (t : Tok) : Tell w mean mg mb 122 4 [.str b t] news (OutI mo) := h news t
local macro_rules | `(tactic| walk_at "call ref") => `(tactic| (k_here; (with_reducible show wpAny _ _ (PySem.call (Value.ref 122) _) _ _ _); k_dflt (refine' useI (MonTell.use ?k0 _ _) ?k1 ?k2 ?k3 ?k4 ?k5 ?k6 ?k7 ?k8 ?_; (case k0 => with_reducible assumption); (case k1 => k_asm); (case k2 => k_asm); (case k3 => k_asm); (case k4 => k_asm); (case k5 => k_asm); (case k6 => first | exact rfl | assumption); (case k7 => ktr_room); (case k8 => ktr_units); k_whole; intro t9 h9 tk9 F9 N9; (try dsimp only); (try k_fold))))

set_option maxRecDepth 100000 in
set_option maxHeartbeats 8000000 in
theorem tell_day_in0 (w : World) (mean : ExcName → Option Value) (mg mb : Str → Option Value) (news : List (Addr × Obj)) (y mo d : Int) (x xa xb xc : Str) (t u v : Tok) (hm : 1 ≤ mo) (hm2 : mo ≤ 12) (hd1 : 1 ≤ d) (hd2 : d ≤ mlen y mo) (hy : 1 ≤ y) (hy2 : y ≤ 9999) (hsl : Txt.slice x (some 0) (some ((x.length : Nat) : Int)) = x) (hxs : Txt.split x (Str.ofString "-") = [xa, xb, xc]) (hx2 : x.length ≤ 100) (ha1 : xa.length ≤ 2) (ha4 : xa.cps.size ≤ 10) (ha5 : xa.cps.size ≠ 0) (ha3 : ∀ q ∈ xa.cps.toList, 48 ≤ q ∧ q ≤ 57) (ha6 : PySem.intText? xa = some d) (hc1 : xc.length = 4) (hc4 : xc.cps.size ≤ 10) (hc5 : xc.cps.size ≠ 0) (hc3 : ∀ q ∈ xc.cps.toList, 48 ≤ q ∧ q ≤ 57) (hc6 : PySem.intText? xc = some y) (hb : MonTell w mean mg mb xb mo) :
    Tell w mean mg mb 148 16 [.str x t, .int 0 u, .int (x.length : Nat) v] news (OutD y mo d) := by
  unfold Tell
  w_top off
  k_with_none
  k_fill
  intro dp un gd cn cs a ccd cl outer A₀ base h₀ L m s Q E B F X N T hk hd hu hret
  refine wpAny_call ?_
  k_dflt cell_enter
  have hd3 : d ≤ 31 := Int.le_trans hd2 (by unfold mlen; repeat' split <;> omega)
  have hal : xa.length ≤ 10 := by omega
  have hcl : xc.length ≤ 10 := by omega
  k_steps
  · exfalso; omega
  · exact end1 hret (by k_asm) (News.drop2' (by k_asm)) (lt_all' (by assumption)) ⟨_, _, _, _, rfl, rfl⟩

def DayInTell (w : World) (mean : ExcName → Option Value) (mg mb : Str → Option Value) (x : Str) (y mo d : Int) : Prop := ∀ (news : List (Addr × Obj)) (t u v : Tok), Tell w mean mg mb 148 16 [.str x t, .int 0 u, .int (x.length : Nat) v] news (OutD y mo d)
theorem DayInTell.use {w : World} {mean : ExcName → Option Value} {mg mb : Str → Option Value} {x : Str} {y mo d : Int} (h : DayInTell w mean mg mb x y mo d) (news : List (Addr × Obj)) (t u v : Tok) : Tell w mean mg mb 148 16 [.str x t, .int 0 u, .int (x.length : Nat) v] news (OutD y mo d) := h news t u v
theorem tell_day_in (w : World) (mean : ExcName → Option Value) (mg mb : Str → Option Value) (y mo d : Int) (hm : 1 ≤ mo) (hm2 : mo ≤ 12) (hd1 : 1 ≤ d) (hd2 : d ≤ mlen y mo) (hy : 1 ≤ y) (hy2 : y ≤ 9999) : DayInTell w mean mg mb (dayS y mo d) y mo d := by
  intro news t u v
  have hd3 : d ≤ 31 := Int.le_trans hd2 (by unfold mlen; repeat' split <;> omega)
  have hxs := day_split (y := y) (mo := mo) (d := d) (by omega) (by omega)
  have hx1 := day_len (y := y) (mo := mo) (d := d) (by omega) (by omega) (by omega) (by omega)
  have ha1 := num_len2 (n := d) (by omega) (by omega)
  have ha2 := num_pos (n := d) (by omega)
  have hc1 := pad_len (n := y) (by omega) (by omega)
  exact tell_day_in0 w mean mg mb news y mo d _ _ _ _ t u v hm hm2 hd1 hd2 hy hy2 (slice_all _) hxs (by omega) ha1 (Nat.le_trans (sz ha1) (by decide)) (sz0 ha2) (digits_num (by omega)) (num_reads' (by omega) (by omega)) hc1 (sz (by omega)) (sz0 (by omega)) (pad_digits (by omega)) (pad_reads (by omega) (by omega)) (fun news t => tell_month w mean mg mb news mo t hm hm2)
section
variable {w : World} {mean : ExcName → Option Value} {mg mb : Str → Option Value} {f : Addr} {dep : Nat} {vs : List Value} {news : List (Addr × Obj)}
  {dp un : Nat} {gd : Option (List Code)} {cn : Str} {cs : Scope} {a : Addr} {ccd : Value} {cl : List (Str × Addr)} {outer : List Env} {A₀ : Around} {base h₀ h' : Heap} {L : Addr} {m : Str → Option Value} {s : Shared} {Q E : Value → Shared → Prop} {tk' : Nat}
theorem useD {y mo d : Int} (C : Tell w mean mg mb f dep vs news (OutD y mo d)) (B : Below A₀ base outer h₀) (F : Fr h₀ L s.heap m) (X : (hd.heap_39 w.params).In h₀) (N : News h₀ L s.heap news)
    (T : Top hd.view_39 (looseW hd.view_39 [Str.ofString "PostError", Str.ofString "day_of"]) mean mg mb h₀) (hk : cs.kind = .function) (hd : dp + dep < recursionLimit) (hu : un + 8 * dep < cLine)
    (h : ∀ (D : Addr) (t1 t2 t3 : Tok) (h' : Heap) (tk' : Nat), Fr h₀ L h' m → News h₀ L h' ((D, tup3 y mo d t1 t2 t3) :: news) → AllLt D news → Q (.ref D) { s with heap := h', toks := tk' }) :
    wpAny (model PySem.Challenge.rw_or0029_01.row.prog w) (ktrTop dp un gd cn cs L a ccd cl outer) (PySem.call (.ref f) vs) Q E s :=
  C _ _ _ _ _ _ _ _ _ _ _ _ _ _ _ _ _ B F X N T hk hd hu (fun v tl h' tk' F' N' l o => by obtain ⟨D, t1, t2, t3, rfl, rfl⟩ := o; exact h D t1 t2 t3 h' tk' F' N' (allLt_of fun q hq => l q hq _ (.head _)))
theorem useT {n : Int} (C : Tell w mean mg mb f dep vs news (OutT n)) (B : Below A₀ base outer h₀) (F : Fr h₀ L s.heap m) (X : (hd.heap_39 w.params).In h₀) (N : News h₀ L s.heap news)
    (T : Top hd.view_39 (looseW hd.view_39 [Str.ofString "PostError", Str.ofString "day_of"]) mean mg mb h₀) (hk : cs.kind = .function) (hd : dp + dep < recursionLimit) (hu : un + 8 * dep < cLine)
    (h : ∀ (y mo d : Int) (D : Addr) (t1 t2 t3 : Tok) (h' : Heap) (tk' : Nat), Told n y mo d → Fr h₀ L h' m → News h₀ L h' ((D, tup3 y mo d t1 t2 t3) :: news) → AllLt D news → Q (.ref D) { s with heap := h', toks := tk' }) :
    wpAny (model PySem.Challenge.rw_or0029_01.row.prog w) (ktrTop dp un gd cn cs L a ccd cl outer) (PySem.call (.ref f) vs) Q E s :=
  C _ _ _ _ _ _ _ _ _ _ _ _ _ _ _ _ _ B F X N T hk hd hu (fun v tl h' tk' F' N' l o => by obtain ⟨y, mo, d, D, t1, t2, t3, ht, rfl, rfl⟩ := o; exact h y mo d D t1 t2 t3 h' tk' ht F' N' (allLt_of fun q hq => l q hq _ (.head _)))
end
local macro_rules | `(tactic| walk_at "call ref") => `(tactic| (k_here; (with_reducible show wpAny _ _ (PySem.call (Value.ref 148) _) _ _ _); k_dflt (refine' useD (DayInTell.use ?k0 _ _ _ _) ?k1 ?k2 ?k3 ?k4 ?k5 ?k6 ?k7 ?k8 ?_; (case k0 => with_reducible assumption); (case k1 => k_asm); (case k2 => k_asm); (case k3 => k_asm); (case k4 => k_asm); (case k5 => k_asm); (case k6 => first | exact rfl | assumption); (case k7 => ktr_room); (case k8 => ktr_units); k_whole; intro D9 ta9 tb9 tc9 h9 tk9 F9 N9 l9; (try simp only [AllLt, and_true] at l9); (try dsimp only); (try k_fold))))

set_option maxRecDepth 100000 in
set_option maxHeartbeats 8000000 in
theorem tell_read_day0 (w : World) (mean : ExcName → Option Value) (mg mb : Str → Option Value) (news : List (Addr × Obj)) (y mo d : Int) (x : Str) (t : Tok) (hx2 : x.length ≤ 100) (hx : DayInTell w mean mg mb x y mo d) :
    Tell w mean mg mb 155 17 [.str x t] news (OutD y mo d) := by
  unfold Tell
  w_top off
  k_with_none
  k_fill
  intro dp un gd cn cs a ccd cl outer A₀ base h₀ L m s Q E B F X N T hk hd hu hret
  refine wpAny_call ?_
  k_dflt cell_enter
  k_steps
  all_goals (exact end1 hret (by k_asm) (by k_asm) (ktn_ltOf (by assumption)) ⟨_, _, _, _, rfl, rfl⟩)

-- Loop

def DayEnd (h₀ : Heap) (L : Addr) (n : Int) (x yd yl : Str) (m₀ : Str → Option Value) (rest : List (Addr × Obj)) (I : Addr) (oI : Obj) (s s₂ : Shared) : Prop :=
  ∃ (h' : Heap) (tk' : Nat) (m' : Str → Option Value) (Dd : Addr) (y mo d : Int) (t1 t2 t3 : Tok), s₂ = { s with heap := h', toks := tk' } ∧ Fr h₀ L h' m' ∧ News h₀ L h' ((Dd, tup3 y mo d t1 t2 t3) :: (I, oI) :: rest) ∧ @Ne Nat Dd I ∧ Told n y mo d ∧ m' yd = some (.ref Dd) ∧ ∀ z, z ≠ x → z ≠ yd → z ≠ yl → m' z = m₀ z
def DayPost (h₀ : Heap) (L : Addr) (n : Int) (x yd yl : Str) (m₀ : Str → Option Value) (rest : List (Addr × Obj)) (I : Addr) (oI : Obj) (s : Shared) (Q : Flow → Shared → Prop) (f : Flow) (s₂ : Shared) : Prop :=
  match f with
  | .ret v => Q (.ret v) s₂
  | .brk => Q .next s₂
  | _ => DayEnd h₀ L n x yd yl m₀ rest I oI s s₂

section
variable {prog : Program} {w : World} {A : Around} {E : Value → Shared → Prop} {s : Shared} {env : Env} {h₀ : Heap} {x yd yl : Str} {body : List Stmt} {Q : Flow → Shared → Prop}
theorem day_fun {x yd yl : Str} {v : Value} {Dd : Addr} {m₁ m₀ : Str → Option Value} (hk : m₁ yd = some (.ref Dd)) (hz : ∀ z, z ≠ x → z ≠ yd → z ≠ yl → m₁ z = m₀ z) :
    (fun y => if y = x then some v else m₁ y) = fun z => if z = x then some v else if z = yd then some (.ref Dd) else if z = yl then m₁ yl else m₀ z := by
  funext z
  by_cases h1 : z = x
  · simp [h1]
  · simp only [if_neg h1]
    by_cases h2 : z = yd
    · subst h2; simp [hk]
    · simp only [if_neg h2]
      by_cases h3 : z = yl
      · subst h3; simp
      · simp only [if_neg h3]; exact hz z h1 h2 h3
theorem day_fun2 {x yd yl : Str} {Dd : Addr} {m₁ m₀ : Str → Option Value} (hx : yd ≠ x) (hk : m₁ yd = some (.ref Dd)) (hz : ∀ z, z ≠ x → z ≠ yd → z ≠ yl → m₁ z = m₀ z) :
    m₁ = fun z => if z = x then m₁ x else if z = yd then some (.ref Dd) else if z = yl then m₁ yl else m₀ z := by
  funext z
  by_cases h1 : z = x
  · simp [h1]
  · simp only [if_neg h1]
    by_cases h2 : z = yd
    · subst h2; simp [hk]
    · simp only [if_neg h2]
      by_cases h3 : z = yl
      · subst h3; simp
      · simp only [if_neg h3]; exact hz z h1 h2 h3

theorem loop_day {r : Addr} {N : Nat} {t₀ u₀ v₀ : Tok} {m₀ : Str → Option Value} {rest : List (Addr × Obj)} {D₀ : Addr} {y₀ mo₀ d₀ : Int} {a1 a2 a3 : Tok} {start : Int} (x yd yl : Str)
    (hh : A.handled = none) (hr : IsRange s.heap r 0 (N : Int) 1 t₀ u₀ v₀) (hsmall : Builtin.Range.small 0 (N : Int) 1 = true) (hn : Builtin.Range.rangeSize 0 (N : Int) 1 = (N : Int)) (hyx : yd ≠ x) (F : Fr h₀ env.locals s.heap m₀) (Nw : News h₀ env.locals s.heap ((D₀, tup3 y₀ mo₀ d₀ a1 a2 a3) :: rest)) (hk : m₀ yd = some (.ref D₀)) (hT : Told start y₀ mo₀ d₀)
    (turn : ∀ (i : Nat) (t : Tok) (Dd : Addr) (y mo d : Int) (t1 t2 t3 : Tok) (u : Option Value) (I : Addr) (oI : Obj) (h : Heap) (tk : Nat), i < N → Told (start + (i : Int)) y mo d →
      Fr h₀ env.locals h (fun z => if z = x then some (.int (i : Int) t) else if z = yd then some (.ref Dd) else if z = yl then u else m₀ z) → News h₀ env.locals h ((Dd, tup3 y mo d t1 t2 t3) :: (I, oI) :: rest) →
      wpAny (model prog w) A (execs body env) (DayPost h₀ env.locals (start + (i : Int) + 1) x yd yl m₀ rest I oI { s with heap := h, toks := tk } Q) E { s with heap := h, toks := tk })
    (done : ∀ (Dd : Addr) (y mo d : Int) (t1 t2 t3 : Tok) (u1 u2 : Option Value) (h : Heap) (tk : Nat), Told (start + (N : Int)) y mo d →
      Fr h₀ env.locals h (fun z => if z = x then u1 else if z = yd then some (.ref Dd) else if z = yl then u2 else m₀ z) → News h₀ env.locals h ((Dd, tup3 y mo d t1 t2 t3) :: rest) → Q .next { s with heap := h, toks := tk }) :
    wpAny (model prog w) A (pyIter (.ref r)) (fun it s₂ => LoopAtV prog w A h₀ env x body Q E it s₂) E s := by
  refine wpAny_pyIter_range hr hsmall ?_
  have W : Walks prog w A s.heap.objs.size [s.heap.objs.size] [s.heap.objs.size] N (fun i v => i < N ∧ ∃ t, v = .int (0 + i * 1) t)
      (fun i h => IsRangeIter h s.heap.objs.size (0 + (i : Nat) * 1) ((N : Int) - (i : Nat)) 1) := (Walks.range hh _ 0 1 N).bound
  have lt : ∀ p ∈ ((D₀, tup3 y₀ mo₀ d₀ a1 a2 a3) :: rest), p.1 ≠ s.heap.objs.size := fun p hp => Nat.ne_of_lt (Heap.lt_size (Nw p hp).1)
  refine ⟨_, _, _, N, _, _, m₀, _, fun i m nx => ∃ (Dd : Addr) (y mo d : Int) (t1 t2 t3 : Tok), nx = (Dd, tup3 y mo d t1 t2 t3) :: rest ∧ Told (start + (i : Int)) y mo d ∧ m yd = some (.ref Dd) ∧ ∀ z, z ≠ x → z ≠ yd → z ≠ yl → m z = m₀ z,
    rfl, W, ?_, ?_, ?_, (by show IsRangeIter _ _ _ _ _; rw [hn]; simpa using Heap.get?_push_size _ rfl), F.push _, (fun p hp => ⟨Heap.get?_push_of_some _ (Nw p hp).1, (Nw p hp).2⟩), ⟨D₀, y₀, mo₀, d₀, a1, a2, a3, rfl, by simpa using hT, hk, fun _ _ _ _ => rfl⟩, ?_, ?_⟩
  · intro hm
    exact absurd F.ns.lt ((List.mem_singleton.mp hm) ▸ Nat.lt_irrefl _)
  · intro b hb
    rw [List.mem_singleton.mp hb]
    exact next_is_new F
  · intro p hp hI
    exact lt p hp (List.mem_singleton.mp hI)
  · rintro i v m₁ news₁ s₁ own ⟨hh', tk', rfl⟩ hin ⟨_, t, rfl⟩ ⟨Dd, y, mo, d, t1, t2, t3, rfl, hT', hk', hz'⟩ hoff hown hget hall hst F₁ N₁
    obtain ⟨oI, heI⟩ : ∃ o, hh'.get? s.heap.objs.size = some o := ⟨_, hst⟩
    have hI₀ : h₀.get? s.heap.objs.size = none := next_is_new F
    have hmem : (s.heap.objs.size, oI) ∈ own := hall _ (List.mem_singleton.mpr rfl) hI₀ _ heI
    rw [day_fun (v := .int (0 + (i : Int) * 1) t) hk' hz'] at F₁
    rw [show (0 : Int) + (i : Int) * 1 = (i : Int) from by omega] at F₁
    have N₂ : News h₀ env.locals hh' ((Dd, tup3 y mo d t1 t2 t3) :: (s.heap.objs.size, oI) :: rest) := fun p hp => by
      rcases List.mem_cons.mp hp with rfl | hp
      · exact N₁ _ (List.mem_append.mpr (.inr (.head _)))
      · rcases List.mem_cons.mp hp with rfl | hp
        · exact N₁ _ (List.mem_append.mpr (.inl hmem))
        · exact N₁ _ (List.mem_append.mpr (.inr (.tail _ hp)))
    refine wpAny_mono (turn i t Dd y mo d t1 t2 t3 _ s.heap.objs.size oI hh' tk' hin hT' F₁ N₂) (fun f s₂ p => ?_) fun _ _ e => e
    have fin : DayEnd h₀ env.locals (start + (i : Int) + 1) x yd yl m₀ rest s.heap.objs.size oI { s with heap := hh', toks := tk' } s₂ →
        LoopStepU h₀ env.locals [s.heap.objs.size] own (fun m nx => ∃ (Dd : Addr) (y mo d : Int) (t1 t2 t3 : Tok), nx = (Dd, tup3 y mo d t1 t2 t3) :: rest ∧ Told (start + ((i + 1 : Nat) : Int)) y mo d ∧ m yd = some (.ref Dd) ∧ ∀ z, z ≠ x → z ≠ yd → z ≠ yl → m z = m₀ z) { s with heap := hh', toks := tk' } .next s₂ := by
      rintro ⟨h', tk, m', D', y', mo', d', b1, b2, b3, e, F', N', hne, hT2, hk2, hz2⟩
      refine ⟨rfl, h', tk, m', (D', tup3 y' mo' d' b1 b2 b3) :: rest, e, F', fun p hp => ?_, fun p hp hq => ?_, D', y', mo', d', b1, b2, b3, rfl, ?_, hk2, hz2⟩
      · rcases List.mem_append.mp hp with hp | hp
        · have e1 : p.1 = s.heap.objs.size := List.mem_singleton.mp (hown p hp)
          have e2 := hget p hp
          rw [e1] at e2
          have e3 : p = (s.heap.objs.size, oI) := by
            rw [show hh'.get? s.heap.objs.size = some oI from heI] at e2
            obtain ⟨p1, p2⟩ := p
            cases e1; cases e2; rfl
          rw [e3]
          exact N' _ (.tail _ (.head _))
        · rcases List.mem_cons.mp hp with rfl | hp
          · exact N' _ (.head _)
          · exact N' _ (.tail _ (.tail _ hp))
      · rcases List.mem_cons.mp hp with rfl | hp
        · exact hne (List.mem_singleton.mp hq)
        · exact lt p (.tail _ hp) (List.mem_singleton.mp hq)
      · rw [show start + ((i + 1 : Nat) : Int) = start + (i : Int) + 1 from by omega]; exact hT2
    cases f with
    | ret v => exact .ret p
    | brk => exact .brk p
    | next => exact .next (fin p)
    | cont => exact .cont (fin p)
  · rintro h' tk m' news' F' N' _ ⟨Dd, y, mo, d, t1, t2, t3, rfl, hT', hk', hz'⟩
    rw [day_fun2 hyx hk' hz'] at F'
    exact done Dd y mo d t1 t2 t3 _ _ h' tk hT' F' N'
end

/-! one number, one day -/
theorem cum_mono (y a : Int) (h1 : 1 ≤ a) : ∀ k : Nat, a + (k : Int) ≤ 12 → cum y a ≤ cum y (a + (k : Int))
  | 0, _ => by simp
  | k + 1, h => by
    have ih := cum_mono y a h1 k (by omega)
    have e := cum_succ y (a + (k : Int)) (by omega) (by omega)
    have := mlen_pos y (a + (k : Int))
    rw [show a + ((k + 1 : Nat) : Int) = a + (k : Int) + 1 from by omega, e]
    omega
theorem cum_le {y a b : Int} (h1 : 1 ≤ a) (h : a ≤ b) (h2 : b ≤ 12) : cum y a ≤ cum y b := by
  have := cum_mono y a h1 (b - a).toNat (by omega)
  rwa [show a + ((b - a).toNat : Int) = b from by omega] at this
theorem cum_lt {y a b : Int} (h1 : 1 ≤ a) (h : a < b) (h2 : b ≤ 12) : cum y a + mlen y a ≤ cum y b := by
  rw [← cum_succ y a h1 (by omega)]
  exact cum_le (by omega) (by omega) h2
theorem cum_end {y m : Int} (h1 : 1 ≤ m) (h2 : m ≤ 12) : cum y m + mlen y m ≤ 365 + (if leapB y = true then 1 else 0) := by
  rcases Int.lt_or_le m 12 with h | h
  · have := cum_lt (y := y) h1 h (by omega)
    rw [cum_12] at this
    omega
  · have e : m = 12 := by omega
    subst e
    rw [cum_12, mlen_12]; omega
theorem cum_ge {y m : Int} (h1 : 1 ≤ m) (h2 : m ≤ 12) : 0 ≤ cum y m := by
  have := cum_le (y := y) (Int.le_refl 1) h1 h2
  rwa [cum_one] at this
theorem dby_mono {a b : Int} (h : a ≤ b) : dby a ≤ dby b := by rw [dby_eq, dby_eq]; omega
theorem told_lt {n y mo d : Int} (h : Told n y mo d) : dby y ≤ n + 719162 ∧ n + 719162 < dby (y + 1) := by
  obtain ⟨h1, h2, h3, h4, h5, h6⟩ := h
  have := cum_end (y := y) h2 h3
  have := cum_ge (y := y) h2 h3
  rw [dby_succ]
  omega
theorem told_unique {n y mo d y' mo' d' : Int} (h : Told n y mo d) (h' : Told n y' mo' d') : y = y' ∧ mo = mo' ∧ d = d' := by
  have a := told_lt h
  have b := told_lt h'
  have e : y = y' := by
    rcases Int.lt_trichotomy y y' with q | q | q
    · have := dby_mono (a := y + 1) (b := y') (by omega); omega
    · exact q
    · have := dby_mono (a := y' + 1) (b := y) (by omega); omega
  subst e
  obtain ⟨h1, h2, h3, h4, h5, h6⟩ := h
  obtain ⟨g1, g2, g3, g4, g5, g6⟩ := h'
  have e : mo = mo' := by
    rcases Int.lt_trichotomy mo mo' with q | q | q
    · have := cum_lt (y := y) h2 q g3; omega
    · exact q
    · have := cum_lt (y := y) g2 q h3; omega
  subst e
  exact ⟨rfl, rfl, by omega⟩
theorem leap400 (y : Int) : leapB (y + 400) = leapB y := by
  have a := leapB_iff y
  have b := leapB_iff (y + 400)
  have : leapB (y + 400) = true ↔ leapB y = true := by rw [a, b]; omega
  cases h1 : leapB (y + 400) <;> cases h2 : leapB y <;> simp_all
theorem mlen400 (y mo : Int) : mlen (y + 400) mo = mlen y mo := by unfold mlen; rw [leap400]
theorem cum400 (y mo : Int) : cum (y + 400) mo = cum y mo := by unfold cum; rw [leap400]
theorem told400 {n y mo d : Int} (h : Told n y mo d) : Told (n + 146097) (y + 400) mo d := by
  obtain ⟨h1, h2, h3, h4, h5, h6⟩ := h
  refine ⟨by omega, h2, h3, h4, by rw [mlen400]; exact h5, ?_⟩
  rw [cum400]
  have : dby (y + 400) = dby y + 146097 := by rw [dby_eq, dby_eq]; omega
  omega
theorem told_next_ex {n y mo d : Int} (h : Told n y mo d) : ∃ y' mo' d', Told (n + 1) y' mo' d' := by
  by_cases h1 : d < mlen y mo
  · exact ⟨_, _, _, next1 h h1⟩
  · by_cases h2 : mo < 12
    · exact ⟨_, _, _, next2 h h1 h2⟩
    · exact ⟨_, _, _, next3 h h1 h2⟩
theorem told_ex (k : Nat) : ∃ y mo d, Told ((k : Int) - 719162) y mo d := by
  induction k with
  | zero => exact ⟨1, 1, 1, by decide, by decide, by decide, by decide, mlen_pos _ _, by rw [cum_one, dby_eq]; decide⟩
  | succ k ih =>
    obtain ⟨y, mo, d, h⟩ := ih
    have := told_next_ex h
    rwa [show ((k + 1 : Nat) : Int) - 719162 = (k : Int) - 719162 + 1 from by omega]
theorem told_ex' {n : Int} (h : 0 ≤ n + 719162) : ∃ y mo d, Told n y mo d := by
  have := told_ex (n + 719162).toNat
  rwa [show (((n + 719162).toNat : Nat) : Int) - 719162 = n from by omega] at this
theorem told_1970 : Told 0 1970 1 1 := ⟨by decide, by decide, by decide, by decide, by decide, by decide⟩
theorem told_1 : Told (-719162) 1 1 1 := ⟨by decide, by decide, by decide, by decide, by decide, by decide⟩
theorem told_2000 : Told 10957 2000 1 1 := ⟨by decide, by decide, by decide, by decide, by decide, by decide⟩
theorem told_year {n y mo d : Int} (h : Told n y mo d) (hn : n ≤ 2786900) : y ≤ 9999 := by
  have := told_lt h
  rcases Int.lt_or_le 9999 y with q | q
  · have := dby_mono (a := 10000) (b := y) (by omega)
    have e : dby 10000 = 3652059 := by decide
    omega
  · exact q

-- H1

theorem Tell.mono {w : World} {mean : ExcName → Option Value} {mg mb : Str → Option Value} {f : Addr} {dep : Nat} {vs : List Value} {news : List (Addr × Obj)} {Out Out' : Value → List (Addr × Obj) → Prop} (h : Tell w mean mg mb f dep vs news Out) (hO : ∀ v tl, Out v tl → Out' v tl) : Tell w mean mg mb f dep vs news Out' := by
  intro dp un gd cn cs a ccd cl outer A₀ base h₀ L m s Q E B F X N T hk hd hu hret
  exact h dp un gd cn cs a ccd cl outer A₀ base h₀ L m s Q E B F X N T hk hd hu (fun v tl h' tk' F' N' l o => hret v tl h' tk' F' N' l (hO v tl o))
theorem outT_D {n y mo d : Int} (hE : Told n y mo d) (v : Value) (tl : List (Addr × Obj)) (h : OutT n v tl) : OutD y mo d v tl := by
  obtain ⟨y', mo', d', D, t1, t2, t3, hT, hv, ht⟩ := h
  obtain ⟨rfl, rfl, rfl⟩ := told_unique hE hT
  exact ⟨D, t1, t2, t3, hv, ht⟩
theorem told_ge {n y mo d : Int} (h : Told n y mo d) : 0 ≤ n + 719162 := by
  have a := (told_lt h).1
  have b : dby 1 ≤ dby y := dby_mono h.1
  have c : dby 1 = 0 := by decide
  omega
theorem know_told (w : World) (mean : ExcName → Option Value) (mg mb : Str → Option Value) (news : List (Addr × Obj)) (n y mo d : Int) (t : Tok) (hE : Told n y mo d) (h1 : n < 4000000) : Tell w mean mg mb 102 3 [.int n t] news (OutD y mo d) :=
  (tell_day_told w mean mg mb news n t (told_ge hE) h1).mono (outT_D hE)
theorem know_next (w : World) (mean : ExcName → Option Value) (mg mb : Str → Option Value) (news : List (Addr × Obj)) (n y mo d y' mo' d' : Int) (D : Addr) (t1 t2 t3 : Tok) (hT : Told n y mo d) (hE : Told (n + 1) y' mo' d') (hD : (D, tup3 y mo d t1 t2 t3) ∈ news) : Tell w mean mg mb 181 3 [.ref D] news (OutD y' mo' d') :=
  (tell_law_next w mean mg mb news n y mo d D t1 t2 t3 hT hD).mono (outT_D hE)
local macro_rules | `(tactic| walk_at "call ref") => `(tactic| (k_here; (with_reducible show wpAny _ _ (PySem.call (Value.ref 102) _) _ _ _); k_dflt (refine' useD (know_told _ _ _ _ _ _ _ _ _ _ ?e0 ?e1) ?k1 ?k2 ?k3 ?k4 ?k5 ?k6 ?k7 ?k8 ?_; (case e0 => with_reducible assumption); (case e1 => first | assumption | omega); (case k1 => k_asm); (case k2 => k_asm); (case k3 => k_asm); (case k4 => k_asm); (case k5 => k_asm); (case k6 => first | exact rfl | assumption); (case k7 => ktr_room); (case k8 => ktr_units); k_whole; intro D9 ta9 tb9 tc9 h9 tk9 F9 N9 l9; (try simp only [AllLt, and_true] at l9); (try dsimp only); (try k_fold))))

set_option maxRecDepth 100000 in
set_option maxHeartbeats 8000000 in
theorem tell_day_of (w : World) (mean : ExcName → Option Value) (mg mb : Str → Option Value) (news : List (Addr × Obj)) (n y mo d x z : Int) (t u : Tok) (hE : Told n y mo d) (h1 : n < 4000000) (hn : Int.fdiv (x + z * 60) 86400 = n) :
    Tell w mean mg mb 117 5 [.int x t, .int z u] news (OutD y mo d) := by
  unfold Tell
  w_top off
  k_with_none
  k_fill
  intro dp un gd cn cs a ccd cl outer A₀ base h₀ L m s Q E B F X N T hk hd hu hret
  refine wpAny_call ?_
  k_dflt (refine' code_def ?k1 ?k2 ?k3 ?k4 ?k5 ?kA ?kF ?kK ?k6 ?k7 ?k8 ?k9 ?kB ?_ ?c2 ?c3 ?c4 ?c5; (case kA => exact rfl); (case kF => exact rfl); (case kK => assumption); (case k1 => k_asm); (case k2 => k_asm); (case k3 => k_asm); (case k4 => k_asm); (case k5 => k_asm); (case k6 => k_is); (case k7 => k_is); (case k8 => ktr_room); (case k9 => first | exact BindsTo.of_eq rfl | exact binds_K (by k_in) rfl (by k_is) rfl rfl rfl); (case c5 => decide); (case kB => exact locs rfl); (case c2 => exact rfl); (case c3 => exact rfl); (case c4 => exact rfl); k_whole; intro g' L' h' FG' F' N' B' X' T'; (try dsimp only); (try k_lift B'); (try k_fold))
  subst hn
  k_steps
  all_goals (exact end1 hret (by k_asm) (by k_asm) (ktn_ltOf (by assumption)) ⟨_, _, _, _, rfl, rfl⟩)

set_option maxRecDepth 100000 in
set_option maxHeartbeats 8000000 in
theorem tell_day_of1 (w : World) (mean : ExcName → Option Value) (mg mb : Str → Option Value) (news : List (Addr × Obj)) (n y mo d x : Int) (t : Tok) (hE : Told n y mo d) (h1 : n < 4000000) (hn : Int.fdiv (x + 0 * 60) 86400 = n) :
    Tell w mean mg mb 117 5 [.int x t] news (OutD y mo d) := by
  unfold Tell
  w_top off
  k_with_none
  k_fill
  intro dp un gd cn cs a ccd cl outer A₀ base h₀ L m s Q E B F X N T hk hd hu hret
  refine wpAny_call ?_
  k_dflt (refine' code_def ?k1 ?k2 ?k3 ?k4 ?k5 ?kA ?kF ?kK ?k6 ?k7 ?k8 ?k9 ?kB ?_ ?c2 ?c3 ?c4 ?c5; (case kA => exact rfl); (case kF => exact rfl); (case kK => assumption); (case k1 => k_asm); (case k2 => k_asm); (case k3 => k_asm); (case k4 => k_asm); (case k5 => k_asm); (case k6 => k_is); (case k7 => k_is); (case k8 => ktr_room); (case k9 => first | exact BindsTo.of_eq rfl | exact binds_K (by k_in) rfl (by k_is) rfl rfl rfl); (case c5 => decide); (case kB => exact locs rfl); (case c2 => exact rfl); (case c3 => exact rfl); (case c4 => exact rfl); k_whole; intro g' L' h' FG' F' N' B' X' T'; (try dsimp only); (try k_lift B'); (try k_fold))
  subst hn
  k_steps
  all_goals (exact end1 hret (by k_asm) (by k_asm) (ktn_ltOf (by assumption)) ⟨_, _, _, _, rfl, rfl⟩)

-- L1

abbrev poolL (C : Addr) (g st pl : Int) (t1 t2 t3 : Tok) (n : Nat) : Obj := { cls := .type "list", data := .seq #[.ref C, .int g t1, .int st t2, .int pl t3] n }
theorem useDraw {w : World} {mean : ExcName → Option Value} {mg mb : Str → Option Value} {most : Int} {dp un : Nat} {gd : Option (List Code)} {cn : Str} {cs : Scope} {a : Addr} {ccd : Value} {cl : List (Str × Addr)} {outer : List Env} {A₀ : Around} {base h₀ : Heap} {L : Addr} {m : Str → Option Value} {s : Shared} {Q E : Value → Shared → Prop} {led : List (Addr × Obj)} {G : Obj → List (Addr × Obj)} {C D : Addr} {us : List Value} {ms : List Int} {g st pl : Int} {t t1 t2 t3 : Tok} {n n' : Nat}
    (h1 : 0 < most) (h2 : most < 4000000) (B : Below A₀ base outer h₀) (F : Fr h₀ L s.heap m) (X : (hd.heap_39 w.params).In h₀) (N : News h₀ L s.heap led) (T : Top hd.view_39 (looseW hd.view_39 [Str.ofString "PostError", Str.ofString "day_of"]) mean mg mb h₀) (hk : cs.kind = .function)
    (hd : dp + 3 < recursionLimit) (hu : un + 8 * 3 < cLine) (hU : UpdF D (poolL C g st pl t1 t2 t3 n) led G) (hC : (C, listOf us.toArray n') ∈ led) (hi : IntsAre us ms) (hlen : ms.length ≤ 40) (hg : 0 ≤ g) (hs0 : 0 ≤ st) (hs1 : st < 2147483647) (hp0 : 0 ≤ pl) (hp1 : pl ≤ 100) (hCD : @LT.lt Nat _ C D)
    (h : ∀ (r g' st' : Int) (t t1' t2' t3' : Tok) (n1 : Nat) (h' : Heap) (tk' : Nat), Fr h₀ L h' m → News h₀ L h' (G (poolL C g' st' (pl + 1) t1' t2' t3' n1)) → 0 ≤ r → r < most → 0 ≤ g' → 0 ≤ st' → st' < 2147483647 → Q (.int r t) { s with heap := h', toks := tk' }) :
    wpAny (model PySem.Challenge.rw_or0029_01.row.prog w) (ktrTop dp un gd cn cs L a ccd cl outer) (PySem.call (.ref 174) [.ref D, .int most t]) Q E s := by
  obtain ⟨pre, post, rfl, hG, ha, hb⟩ := hU.split
  have N₁ : News h₀ L s.heap ((D, poolL C g st pl t1 t2 t3 n) :: (C, listOf us.toArray n') :: (pre ++ post)) := fun p hp => by
    rcases List.mem_cons.mp hp with rfl | hp
    · exact N _ (List.mem_append.mpr (.inr (.head _)))
    · rcases List.mem_cons.mp hp with rfl | hp
      · exact N _ hC
      · rcases List.mem_append.mp hp with hp | hp
        · exact N _ (List.mem_append.mpr (.inl hp))
        · exact N _ (List.mem_append.mpr (.inr (.tail _ hp)))
  refine tell_law_draw w mean mg mb most h1 h2 _ _ _ _ _ _ _ _ _ _ _ _ _ _ _ _ _ _ _ _ _ _ _ _ _ _ _ _ _ _ _ B F X N₁ T hk hd hu hi hlen hg hs0 hs1 hp0 hp1 hCD ?_ ?_
  · intro q hq
    rcases List.mem_append.mp hq with hq | hq
    · exact ha q hq
    · exact hb q hq
  · intro r g' st' t t1' t2' t3' n1 h' tk' F' N' r0 r1 g0 s0 s1
    refine h r g' st' t t1' t2' t3' n1 h' tk' F' ?_ r0 r1 g0 s0 s1
    rw [hG]
    intro p hp
    rcases List.mem_append.mp hp with hp | hp
    · exact N' _ (.tail _ (.tail _ (List.mem_append.mpr (.inl hp))))
    · rcases List.mem_cons.mp hp with rfl | hp
      · exact N' _ (.head _)
      · exact N' _ (.tail _ (.tail _ (List.mem_append.mpr (.inr hp))))
theorem of_1 (n : Int) {r : Int} (h0 : 0 ≤ r) (h1 : r < 86400) : Int.fdiv (n * 86400 + r + 0 * 60) 86400 = n := by rw [fdivE _ _ (by decide)]; omega
theorem of_2 (n z : Int) {r : Int} (h0 : 0 ≤ r) (h1 : r < 86400) : Int.fdiv (n * 86400 + r - 60 * z + z * 60) 86400 = n := by rw [fdivE _ _ (by decide)]; omega
theorem day_pick {h₀ h : Heap} {L : Addr} {a b c I : Addr × Obj} {rest : List (Addr × Obj)} (N : News h₀ L h (a :: b :: c :: I :: rest)) : News h₀ L h (b :: I :: rest) := fun p hp => by
  rcases List.mem_cons.mp hp with rfl | hp
  · exact N _ (.tail _ (.head _))
  · exact N _ (.tail _ (.tail _ (.tail _ hp)))
theorem day_end {h₀ : Heap} {L : Addr} {n : Int} {x yd yl : Str} {m₀ m' : Str → Option Value} {rest : List (Addr × Obj)} {I : Addr} {oI : Obj} {s : Shared} {Q : Flow → Shared → Prop} {h' : Heap} {Dd : Addr} {y mo d : Int} {t1 t2 t3 : Tok} (tk' : Nat)
    (N : News h₀ L h' ((Dd, tup3 y mo d t1 t2 t3) :: (I, oI) :: rest)) (F : Fr h₀ L h' m') (hne : @Ne Nat Dd I) (hT : Told n y mo d) (hk : m' yd = some (.ref Dd)) (hz : ∀ z, z ≠ x → z ≠ yd → z ≠ yl → m' z = m₀ z) :
    DayPost h₀ L n x yd yl m₀ rest I oI s Q .next { s with heap := h', toks := tk' } := ⟨h', tk', m', Dd, y, mo, d, t1, t2, t3, rfl, F, N, hne, hT, hk, hz⟩
def Stop (P : Prop) : Prop := P
theorem Stop.out {P : Prop} (h : Stop P) : P := h

local macro_rules | `(tactic| walk_at "call ref") => `(tactic| (k_here; (with_reducible show wpAny _ _ (PySem.call (Value.ref 167) _) _ _ _); k_dflt (refine' tell_law_box _ _ _ _ _ _ _ _ _ _ _ _ _ _ _ _ _ _ _ _ _ _ _ _ _ ?k1 ?k2 ?k3 ?k4 ?k5 ?k6 ?k7 ?k8 ?k9 ?k10 ?k11 ?_; (case k1 => k_asm); (case k2 => k_asm); (case k3 => k_asm); (case k4 => k_asm); (case k5 => k_asm); (case k6 => first | exact rfl | assumption); (case k7 => ktr_room); (case k8 => ktr_units); (case k9 => assumption); (case k10 => assumption); (case k11 => omega); k_whole; intro g9 st9 t1 t2 t3 n9 n8 us9 ms9 C9 D9 h9 tk9 F9 N9 hi9 hlen9 hg9 hs9 hs8 hl9 hCD9; (try dsimp only); (try k_fold))))
local macro_rules | `(tactic| walk_at "call ref") => `(tactic| (k_here; (with_reducible show wpAny _ _ (PySem.call (Value.ref 174) _) _ _ _); k_dflt (refine' useDraw ?m1 ?m2 ?k1 ?k2 ?k3 ?k4 ?k5 ?k6 ?k7 ?k8 ?kU ?kC ?ki ?kl ?kg ?ks ?kt ?kp ?kq ?kD ?_; (case m1 => decide); (case m2 => decide); (case k1 => k_asm); (case k2 => k_asm); (case k3 => k_asm); (case k4 => k_asm); (case k5 => k_asm); (case k6 => first | exact rfl | assumption); (case k7 => ktr_room); (case k8 => ktr_units); (case kU => k_updF); (case kC => k_mem); (case ki => with_reducible assumption); (case kl => assumption); (case kg => assumption); (case ks => assumption); (case kt => assumption); (case kp => decide); (case kq => decide); (case kD => assumption); k_whole; intro r9 g9 st9 t9 t1 t2 t3 n9 h9 tk9 F9 N9 r0 r1 g0 s0 s1; (try dsimp only at N9); (try dsimp only); (try k_fold))))
theorem menu_ge (k : Nat) : -62091 ≤ ([-62091, -25567, 10957, 47482] : List Int).getD k 0 := by
  rcases k with _ | _ | _ | _ | k <;> simp
theorem menu_le (k : Nat) : ([-62091, -25567, 10957, 47482] : List Int).getD k 0 ≤ 47482 := by
  rcases k with _ | _ | _ | _ | k <;> simp
theorem menu0 (k : Nat) {r : Int} (h : 0 ≤ r) : 0 ≤ ([-62091, -25567, 10957, 47482] : List Int).getD k 0 + r + 719162 := by have := menu_ge k; omega
theorem menu1 (k : Nat) {r : Int} (h : r < 60) : ([-62091, -25567, 10957, 47482] : List Int).getD k 0 + r ≤ 2786900 := by have := menu_le k; omega
theorem useT2 {w : World} {mean : ExcName → Option Value} {mg mb : Str → Option Value} {news : List (Addr × Obj)} {dp un : Nat} {gd : Option (List Code)} {cn : Str} {cs : Scope} {a : Addr} {ccd : Value} {cl : List (Str × Addr)} {outer : List Env} {A₀ : Around} {base h₀ : Heap} {L : Addr} {m : Str → Option Value} {s : Shared} {Q E : Value → Shared → Prop} {n : Int} {t : Tok}
    (h0 : 0 ≤ n + 719162) (h1 : n ≤ 2786900) (B : Below A₀ base outer h₀) (F : Fr h₀ L s.heap m) (X : (hd.heap_39 w.params).In h₀) (N : News h₀ L s.heap news)
    (T : Top hd.view_39 (looseW hd.view_39 [Str.ofString "PostError", Str.ofString "day_of"]) mean mg mb h₀) (hk : cs.kind = .function) (hd : dp + 3 < recursionLimit) (hu : un + 8 * 3 < cLine)
    (h : ∀ (y mo d : Int) (D : Addr) (t1 t2 t3 : Tok) (h' : Heap) (tk' : Nat), Told n y mo d → 0 ≤ n + 719162 → n ≤ 2786900 → Fr h₀ L h' m → News h₀ L h' ((D, tup3 y mo d t1 t2 t3) :: news) → AllLt D news → Q (.ref D) { s with heap := h', toks := tk' }) :
    wpAny (model PySem.Challenge.rw_or0029_01.row.prog w) (ktrTop dp un gd cn cs L a ccd cl outer) (PySem.call (.ref 102) [.int n t]) Q E s :=
  useT (tell_day_told w mean mg mb news n t h0 (by omega)) B F X N T hk hd hu (fun y mo d D t1 t2 t3 h' tk' hT F' N' l => h y mo d D t1 t2 t3 h' tk' hT h0 h1 F' N' l)
local macro_rules | `(tactic| walk_at "call ref") => `(tactic| (k_here; (with_reducible show wpAny _ _ (PySem.call (Value.ref 102) _) _ _ _); k_dflt (refine' useT2 ?e0 ?e1 ?k1 ?k2 ?k3 ?k4 ?k5 ?k6 ?k7 ?k8 ?_; (case e0 => first | omega | exact menu0 _ (by assumption)); (case e1 => first | omega | exact menu1 _ (by assumption)); (case k1 => k_asm); (case k2 => k_asm); (case k3 => k_asm); (case k4 => k_asm); (case k5 => k_asm); (case k6 => first | exact rfl | assumption); (case k7 => ktr_room); (case k8 => ktr_units); k_whole; intro y9 mo9 d9 D9 ta9 tb9 tc9 h9 tk9 hT9 hb9 hb8 F9 N9 l9; (try simp only [AllLt, and_true] at l9); (try dsimp only); (try k_fold))))
local macro_rules | `(tactic| walk_at "call ref") => `(tactic| (k_here; (with_reducible show wpAny _ _ (PySem.call (Value.ref 102) _) _ _ _); k_dflt (refine' useD (know_told _ _ _ _ _ _ _ _ _ _ ?e0 ?e1) ?k1 ?k2 ?k3 ?k4 ?k5 ?k6 ?k7 ?k8 ?_; (case k1 => k_asm); (case k2 => k_asm); (case k3 => k_asm); (case k4 => k_asm); (case k5 => k_asm); (case e0 => with_reducible assumption); (case e1 => first | assumption | omega); (case k6 => first | exact rfl | assumption); (case k7 => ktr_room); (case k8 => ktr_units); k_whole; intro D9 ta9 tb9 tc9 h9 tk9 F9 N9 l9; (try simp only [AllLt, and_true] at l9); (try dsimp only); (try k_fold))))
local macro_rules | `(tactic| walk_at "call ref") => `(tactic| (k_here; (with_reducible show wpAny _ _ (PySem.call (Value.ref 162) _) _ _ _); k_dflt (refine' useS (tell_write_day _ _ _ _ _ _ _ _ _ _ _ _ ?e0 ?e1 ?e2 ?e3 ?e4 ?e5 ?e6) ?k1 ?k2 ?k3 ?k4 ?k5 ?k6 ?k7 ?k8 ?_; (case k1 => k_asm); (case k2 => k_asm); (case k3 => k_asm); (case k4 => k_asm); (case k5 => k_asm); (case e6 => k_mem); (case e0 => first | with_reducible assumption | omega); (case e1 => first | with_reducible assumption | omega); (case e2 => first | with_reducible assumption | omega); (case e3 => first | with_reducible assumption | omega); (case e4 => first | with_reducible assumption | omega); (case e5 => first | with_reducible assumption | omega); (case k6 => first | exact rfl | assumption); (case k7 => ktr_room); (case k8 => ktr_units); k_whole; intro t9 h9 tk9 F9 N9; (try dsimp only); (try k_fold))))

theorem know_read (w : World) (mean : ExcName → Option Value) (mg mb : Str → Option Value) (news : List (Addr × Obj)) (y mo d : Int) (t : Tok) (hm : 1 ≤ mo) (hm2 : mo ≤ 12) (hd1 : 1 ≤ d) (hd2 : d ≤ mlen y mo) (hy : 1 ≤ y) (hy2 : y ≤ 9999) : Tell w mean mg mb 155 17 [.str (dayS y mo d) t] news (OutD y mo d) := by
  have hd3 : d ≤ 31 := Int.le_trans hd2 (mlen_le y mo)
  exact tell_read_day0 w mean mg mb news y mo d _ t (Nat.le_trans (day_len (by omega) (by omega) (by omega) (by omega)) (by decide)) (tell_day_in w mean mg mb y mo d hm hm2 hd1 hd2 hy hy2)
local macro_rules | `(tactic| walk_at "call ref") => `(tactic| (k_here; (with_reducible show wpAny _ _ (PySem.call (Value.ref 155) _) _ _ _); k_dflt (refine' useD (know_read _ _ _ _ _ _ _ _ _ ?e0 ?e1 ?e2 ?e3 ?e4 ?e5) ?k1 ?k2 ?k3 ?k4 ?k5 ?k6 ?k7 ?k8 ?_; (case k1 => k_asm); (case k2 => k_asm); (case k3 => k_asm); (case k4 => k_asm); (case k5 => k_asm); (case e0 => first | with_reducible assumption | omega); (case e1 => first | with_reducible assumption | omega); (case e2 => first | with_reducible assumption | omega); (case e3 => first | with_reducible assumption | omega); (case e4 => first | with_reducible assumption | omega); (case e5 => first | with_reducible assumption | omega); (case k6 => first | exact rfl | assumption); (case k7 => ktr_room); (case k8 => ktr_units); k_whole; intro D9 ta9 tb9 tc9 h9 tk9 F9 N9 l9; (try simp only [AllLt, and_true] at l9); (try dsimp only); (try k_fold))))
local macro_rules | `(tactic| walk_at "call ref") => `(tactic| (k_here; (with_reducible show wpAny _ _ (PySem.call (Value.ref 181) _) _ _ _); k_dflt (refine' useD (know_next _ _ _ _ _ _ _ _ _ _ _ _ _ _ _ _ ?hT ?hE ?hD) ?k1 ?k2 ?k3 ?k4 ?k5 ?k6 ?k7 ?k8 ?_; (case k1 => k_asm); (case k2 => k_asm); (case k3 => k_asm); (case k4 => k_asm); (case k5 => k_asm); (case hD => k_mem); (case hT => with_reducible assumption); (case hE => with_reducible assumption); (case k6 => first | exact rfl | assumption); (case k7 => ktr_room); (case k8 => ktr_units); k_whole; intro D9 ta9 tb9 tc9 h9 tk9 F9 N9 l9; (try simp only [AllLt, and_true] at l9); (try dsimp only); (try k_fold))))
local macro_rules | `(tactic| walk_at "call ref") => `(tactic| (k_here; (with_reducible show wpAny _ _ (PySem.call (Value.ref 117) [Value.int _ _]) _ _ _); k_dflt (refine' useD (tell_day_of1 _ _ _ _ _ _ _ _ _ _ _ ?hE ?h1 ?hn) ?k1 ?k2 ?k3 ?k4 ?k5 ?k6 ?k7 ?k8 ?_; (case hn => (refine' of_1 _ ?q1 ?q2; (case q1 => with_reducible assumption); (case q2 => with_reducible assumption))); (case hE => with_reducible assumption); (case h1 => omega); (case k1 => k_asm); (case k2 => k_asm); (case k3 => k_asm); (case k4 => k_asm); (case k5 => k_asm); (case k6 => first | exact rfl | assumption); (case k7 => ktr_room); (case k8 => ktr_units); k_whole; intro D9 ta9 tb9 tc9 h9 tk9 F9 N9 l9; (try simp only [AllLt, and_true] at l9); (try dsimp only); (try k_fold))))
local macro_rules | `(tactic| walk_at "call ref") => `(tactic| (k_here; (with_reducible show wpAny _ _ (PySem.call (Value.ref 117) [Value.int _ _, Value.int _ _]) _ _ _); k_dflt (refine' useD (tell_day_of _ _ _ _ _ _ _ _ _ _ _ _ _ ?hE ?h1 ?hn) ?k1 ?k2 ?k3 ?k4 ?k5 ?k6 ?k7 ?k8 ?_; (case hn => (refine' of_2 _ _ ?q1 ?q2; (case q1 => with_reducible assumption); (case q2 => with_reducible assumption))); (case hE => with_reducible assumption); (case h1 => omega); (case k1 => k_asm); (case k2 => k_asm); (case k3 => k_asm); (case k4 => k_asm); (case k5 => k_asm); (case k6 => first | exact rfl | assumption); (case k7 => ktr_room); (case k8 => ktr_units); k_whole; intro D9 ta9 tb9 tc9 h9 tk9 F9 N9 l9; (try simp only [AllLt, and_true] at l9); (try dsimp only); (try k_fold))))
local macro_rules | `(tactic| walk_at "pyIter ref") => `(tactic| refine Stop.out ?_)
local macro_rules | `(tactic| walk_at "exec For Name Call cons nil") => `(tactic| (k_here; (rename Fr _ _ _ _ => lF'); (with_unfolding_all refine' For_invVF lF' ?k1 ?k2 ?_; (case k1 => exact rfl); (case k2 => exact rfl); k_whole)))
set_option maxRecDepth 100000 in
set_option maxHeartbeats 8000000 in
theorem l1 : PySem.Challenge.rw_or0029_01.Holds := hd (by
  k_with_none
  k_go0
  all_goals try k_fold
  k_steps
  all_goals (
    unfold Stop
    (rename Told _ _ _ _ => hT)
    (rename IsRange _ _ _ _ _ _ _ _ => hR)
    (rename Fr _ _ _ _ => lF')
    (rename News _ _ _ _ => lN')
    refine' loop_day (N := 60) (Str.ofString "turn") (Str.ofString "day") (Str.ofString "later") (by rfl) hR (by decide) (by rfl) (by decide) lF' lN' (by rfl) hT ?_ ?_)
  · clear lN' lF' hR
    intro i t Dd y mo d t1 t2 t3 u I oI h tk hi hT9 F9 N9
    obtain ⟨y', mo', d', hN⟩ := told_next_ex hT9
    (try k_fold)
    k_steps
    all_goals (
      (rename Fr _ _ _ _ => eF)
      (rename News _ _ _ _ => eN)
      (refine day_end _ (day_pick eN) eF ?_ hN rfl ?_)
      · omega
      · (intro z h1 h2 h3; simp only [if_neg h1, if_neg h2, if_neg h3]))
  · clear lN' lF' hR
    intro Dd y mo d t1 t2 t3 u1 u2 h tk hT9 F9 N9
    replace N9 := News.drop1 N9
    have h400 := told400 hT
    obtain ⟨ht1, ht2, ht3, ht4, ht5, ht6⟩ := id hT
    have hy9 := told_year hT (by assumption)
    have hc1 := told_1970
    have hc2 := told_1
    have hc3 := told_2000
    (try k_fold)
    k_steps
  · clear lN' lF' hR
    intro i t Dd y mo d t1 t2 t3 u I oI h tk hi hT9 F9 N9
    obtain ⟨y', mo', d', hN⟩ := told_next_ex hT9
    (try k_fold)
    k_steps
    all_goals (
      (rename Fr _ _ _ _ => eF)
      (rename News _ _ _ _ => eN)
      (refine day_end _ (day_pick eN) eF ?_ hN rfl ?_)
      · omega
      · (intro z h1 h2 h3; simp only [if_neg h1, if_neg h2, if_neg h3]))
  · clear lN' lF' hR
    intro Dd y mo d t1 t2 t3 u1 u2 h tk hT9 F9 N9
    replace N9 := News.drop1 N9
    have h400 := told400 hT
    obtain ⟨ht1, ht2, ht3, ht4, ht5, ht6⟩ := id hT
    have hy9 := told_year hT (by assumption)
    have hc1 := told_1970
    have hc2 := told_1
    have hc3 := told_2000
    (try k_fold)
    k_steps)

end Mine

theorem PySem.Challenge.cw_or0029_01_holds : PySem.Challenge.rw_or0029_01.Holds := by
  exact Mine.l1
