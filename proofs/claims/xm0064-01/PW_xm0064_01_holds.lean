import PyProof.Rows.All
import Wide.All
import OpenK.AllK
import Wide.FinOn
import PySem.Challenge.RW_xm0064_01
open PySem PySem.W PyProof.Rows PySem.Calls PySem.Spec PyProof.V
set_option Elab.async false
set_option maxRecDepth 100000
namespace Mine
set_option maxHeartbeats 8000000 in
open_top hd for PySem.Challenge.rw_xm0064_01
/-- the call of the def at f from any frame: it hands back R, all that stood stands -/
abbrev Cl (w : World) (mean : ExcName → Option Value) (mg mb : Str → Option Value) (f : Addr) (d u : Nat) (news : List (Addr × Obj)) (vs : List Value) (Ret : Heap → Addr → (Str → Option Value) → Shared → (Value → Shared → Prop) → Prop) : Prop :=
  ∀ (dp un : Nat) (gd : Option (List Code)) (cn : Str) (cs : Scope) (a : Addr) (ccd : Value) (cl : List (Str × Addr)) (outer : List Env) (A₀ : Around) (base h₀ : Heap) (L : Addr) (m : Str → Option Value) (s : Shared) (Q E : Value → Shared → Prop),
    Below A₀ base outer h₀ → Fr h₀ L s.heap m → (Mine.hd.heap_39 w.params).In h₀ → News h₀ L s.heap news → Top Mine.hd.view_39 (looseW Mine.hd.view_39 [Str.ofString "BasicError"]) mean mg mb h₀ → cs.kind = .function →
    dp + d < recursionLimit → un + u < cLine → Ret h₀ L m s Q →
      wpAny (model PySem.Challenge.rw_xm0064_01.row.prog w) (ktrTop dp un gd cn cs L a ccd cl outer) (call (.ref f) vs) Q E s
abbrev RetI (news : List (Addr × Obj)) (x : Int) (h₀ : Heap) (L : Addr) (m : Str → Option Value) (s : Shared) (Q : Value → Shared → Prop) : Prop :=
  ∀ (t : Tok) (h' : Heap) (tk' : Nat), Fr h₀ L h' m → News h₀ L h' news → Q (.int x t) { s with heap := h', toks := tk' }

def Hold (P : Prop) : Prop := P
theorem Hold.mk' {P : Prop} (h : Hold P) : P := h
theorem Hold.out {P : Prop} (h : P) : Hold P := h
local macro_rules | `(tactic| walk_at "exec While Compare cons nil") => `(tactic| refine Hold.mk' ?_)

theorem abs_nn (x : Int) : 0 ≤ (if x < 0 then -x else x) := by split <;> omega
theorem abs_is (x : Int) : (if x < 0 then -x else x) = (x.natAbs : Int) := by split <;> omega
theorem cd_start (x y : Int) : 0 ≤ (if x < 0 then -x else x) ∧ 0 ≤ (if y < 0 then -y else y) ∧ Int.gcd (if x < 0 then -x else x) (if y < 0 then -y else y) = Int.gcd x y := by
  refine ⟨abs_nn x, abs_nn y, ?_⟩
  rw [abs_is, abs_is]
  simp [Int.gcd]
theorem cd_turn {a b : Int} {g : Nat} (ha : 0 ≤ a) (hb : 0 ≤ b) (h : Int.gcd a b = g) (hp : 0 < b) : 0 ≤ b ∧ 0 ≤ a.fmod b ∧ Int.gcd b (a.fmod b) = g := by
  refine ⟨hb, Int.fmod_nonneg_of_pos a hp, ?_⟩
  rw [Int.fmod_eq_emod_of_nonneg a hb]
  obtain ⟨m, rfl⟩ := Int.eq_ofNat_of_zero_le ha
  obtain ⟨n, rfl⟩ := Int.eq_ofNat_of_zero_le hb
  subst h
  show Nat.gcd n (m % n) = Nat.gcd m n
  rw [Nat.gcd_comm m n, Nat.gcd_comm n (m % n)]
  exact (Nat.gcd_rec n m).symm
theorem cd_less {a b : Int} (hp : 0 < b) : (a.fmod b).toNat < b.toNat := by
  have h1 := Int.fmod_nonneg_of_pos a hp
  have h2 := Int.fmod_lt_of_pos a hp
  omega
theorem cd_end {a b : Int} {g : Nat} (ha : 0 ≤ a) (hb : 0 ≤ b) (h : Int.gcd a b = g) (hb' : ¬ 0 < b) : a = (g : Int) := by
  have hp : b = 0 := by omega
  subst hp
  subst h
  simp [Int.gcd]
  omega
set_option maxHeartbeats 4000000 in
theorem cd_c {w : World} {mean : ExcName → Option Value} {mg mb : Str → Option Value} (news : List (Addr × Obj)) (x : Int) (tx : Tok) (y : Int) (ty : Tok) :
    Cl w mean mg mb 21 1 8 news [.int x tx, .int y ty] (RetI news (Int.gcd x y)) := by
  dsimp only [Cl, RetI]
  k_fill
  intro dp un gd cn cs a ccd cl outer A₀ base h₀ L m s Q E B F X N T hk hd hu hret
  refine wpAny_call ?_
  k_dflt cell_enter
  k_steps
  refine Hold.out ?_
  k_with "state" => first | exact cd_start _ _ | exact cd_turn (by assumption) (by assumption) (by assumption) (by assumption)
  k_with "measure" => exact cd_less (by assumption)
  k_while (fun _ one other => 0 ≤ one ∧ 0 ≤ other ∧ Int.gcd one other = Int.gcd x y) (fun _ one other => other.toNat) "one" "other"
  k_steps
  refine' cb_retI hret ?e ?F ?N
  case F => assumption
  case N => exact cb_drop (by assumption) (fun p hp => .tail _ hp)
  case e => exact cd_end (by assumption) (by assumption) (by assumption) (by assumption)
abbrev tup (x y : Int) (t1 t2 : Tok) (c : Nat) : Obj := { cls := .type "tuple", data := .seq #[.int x t1, .int y t2] c }
abbrev RetP (news : List (Addr × Obj)) (r : Int × Int) (h₀ : Heap) (L : Addr) (m : Str → Option Value) (s : Shared) (Q : Value → Shared → Prop) : Prop :=
  ∀ (D : Addr) (t1 t2 : Tok) (c : Nat) (h' : Heap) (tk' : Nat), Fr h₀ L h' m → News h₀ L h' ((D, ({ cls := .type "tuple", data := .seq #[.int r.1 t1, .int r.2 t2] c } : Obj)) :: news) → AllLt D news → Q (.ref D) { s with heap := h', toks := tk' }
theorem room_in {dp d d' e : Nat} (h : dp + d < recursionLimit) (he : e = dp + 1) (hle : 1 + d' ≤ d) : e + d' < recursionLimit := by omega
theorem units_in {un u u' e : Nat} (h : un + u < cLine) (he : e = un + 3) (hle : 3 + u' ≤ u) : e + u' < cLine := by omega
theorem room_law {d e : Nat} (he : e = 302) (hd : d ≤ 600) : e + d < recursionLimit := by
  show e + d < 1000
  omega
theorem units_law {u e : Nat} (he : e = 7) (hu : u ≤ 9000) : e + u < cLine := by
  show e + u < 9900
  omega
theorem Cl.use {w : World} {mean : ExcName → Option Value} {mg mb : Str → Option Value} {f : Addr} {d u : Nat} {news : List (Addr × Obj)} {vs : List Value} {Ret : Heap → Addr → (Str → Option Value) → Shared → (Value → Shared → Prop) → Prop}
    {dp un : Nat} {gd : Option (List Code)} {cn : Str} {cs : Scope} {a : Addr} {ccd : Value} {cl : List (Str × Addr)} {outer : List Env} {A₀ : Around} {base h₀ : Heap} {L : Addr} {m : Str → Option Value} {s : Shared} {Q E : Value → Shared → Prop}
    (B : Below A₀ base outer h₀ := by k_asm) (F : Fr h₀ L s.heap m := by k_asm) (X : (Mine.hd.heap_39 w.params).In h₀ := by k_asm) (N : News h₀ L s.heap news := by k_asm) (T : Top Mine.hd.view_39 (looseW Mine.hd.view_39 [Str.ofString "BasicError"]) mean mg mb h₀ := by k_asm)
    (hk : cs.kind = .function := by first | exact rfl | assumption) (C : Cl w mean mg mb f d u news vs Ret) (hd : dp + d < recursionLimit := by first | exact room_in (by assumption) rfl (by decide) | exact room_law rfl (by decide)) (hu : un + u < cLine := by first | exact units_in (by assumption) rfl (by decide) | exact units_law rfl (by decide)) (ret : Ret h₀ L m s Q) :
    wpAny (model PySem.Challenge.rw_xm0064_01.row.prog w) (ktrTop dp un gd cn cs L a ccd cl outer) (call (.ref f) vs) Q E s :=
  C dp un gd cn cs a ccd cl outer A₀ base h₀ L m s Q E B F X N T hk hd hu ret
theorem retP {news news' : List (Addr × Obj)} {r : Int × Int} {h₀ h' : Heap} {L : Addr} {m : Str → Option Value} {s : Shared} {Q : Value → Shared → Prop} {D : Addr} {x y : Int} {t1 t2 : Tok} {c tk' : Nat}
    (hret : RetP news r h₀ L m s Q) (e : (x, y) = r) (F : Fr h₀ L h' m) (N : News h₀ L h' news') (hD : (D, ({ cls := .type "tuple", data := .seq #[.int x t1, .int y t2] c } : Obj)) ∈ news') (hs : ∀ p ∈ news, p ∈ news') (hl : AllLt D news) :
    Q (.ref D) { s with heap := h', toks := tk' } := by
  subst e
  refine hret D t1 t2 c h' tk' F (fun p hp => ?_) hl
  rcases List.mem_cons.mp hp with rfl | hp
  · exact N _ hD
  · exact N p (hs p hp)

def frac (a b : Int) : Int × Int := (a.fdiv (Int.gcd a b), b.fdiv (Int.gcd a b))
theorem gcd_ne {a b : Int} (hb : 0 < b) : ((Int.gcd a b : Nat) : Int) ≠ 0 := by
  intro h
  have : Int.gcd a b = 0 := by omega
  have := (Int.gcd_eq_zero_iff.mp this).2
  omega

theorem gcd_le {a b : Int} (hb : 0 < b) : ((Int.gcd a b : Nat) : Int) ≤ b := Int.le_of_dvd hb (Int.gcd_dvd_right ..)
theorem gcd_log {a b : Int} (hb : 0 < b) (hB : b < 2 ^ 200) : (((Int.gcd a b : Nat) : Int)).natAbs.log2 < 9000 := by
  have h1 := gcd_le (a := a) hb
  have h2 := gcd_ne (a := a) hb
  have h3 : ((Int.gcd a b : Nat) : Int).natAbs < 2 ^ 200 := by omega
  have : ((Int.gcd a b : Nat) : Int).natAbs.log2 < 200 := (Nat.log2_lt (by omega)).mpr h3
  omega
theorem cd_u {w : World} {mean : ExcName → Option Value} {mg mb : Str → Option Value} {news : List (Addr × Obj)} {x : Int} {tx : Tok} {y : Int} {ty : Tok} : Cl w mean mg mb 21 1 8 news [.int x tx, .int y ty] (RetI news (Int.gcd x y)) := cd_c news x tx y ty
local macro_rules | `(tactic| walk_at "cl int") => `(tactic| (intro t9 h9 tk9 F9 N9; (try dsimp only); (try k_fold)))
local macro_rules | `(tactic| walk_at "cl bool") => `(tactic| (intro h9 tk9 F9 N9; (try dsimp only); (try k_fold)))
local macro_rules | `(tactic| walk_at "cl pair") => `(tactic| (intro D9 t9 t8 c9 h9 tk9 F9 N9 l9; (try dsimp only); (try simp only [AllLt, and_true] at l9); (try k_fold)))
local macro_rules | `(tactic| walk_at "call ref") => `(tactic| (k_here; k_dflt (refine Cl.use (C := cd_u) (ret := ?_)); walk_at "cl int"))
local macro_rules | `(tactic| walk_at "binaryOp FloorDiv int int") => `(tactic| (k_here; (with_reducible refine floordiv_int ?kbe ?_ (Or.inl (PyProof.noPylong_of_log2 ?kbp))); (case kbe => assumption); (case kbp => assumption)))
set_option maxHeartbeats 4000000 in
theorem frac_c {w : World} {mean : ExcName → Option Value} {mg mb : Str → Option Value} (news : List (Addr × Obj)) (x : Int) (tx : Tok) (y : Int) (ty : Tok) (hy : 0 < y) (hY : y < 2 ^ 200) :
    Cl w mean mg mb 28 2 16 news [.int x tx, .int y ty] (RetP news (frac x y)) := by
  dsimp only [Cl, RetP]
  k_fill
  intro dp un gd cn cs a ccd cl outer A₀ base h₀ L m s Q E B F X N T hk hd hu hret
  have hg := gcd_ne (a := x) hy
  have hl := gcd_log (a := x) hy hY
  refine wpAny_call ?_
  k_dflt cell_enter
  k_steps
  refine' retP hret ?e ?F ?N ?D ?s ?l
  case F => assumption
  case N => assumption
  case D => k_mem
  case s => exact fun p hp => .tail _ hp
  case l => ktn_lt
  case e => rfl

/-- a fraction whose parts are no huge numbers -/
structure Ok (x : Int × Int) : Prop where
  lo : -(2 ^ 64) < x.1
  hi : x.1 < 2 ^ 64
  pos : 0 < x.2
  top : x.2 < 2 ^ 64
def mul (x y : Int × Int) : Int × Int := frac (x.1 * y.1) (x.2 * y.2)
def less (x y : Int × Int) : Int × Int := frac (x.1 * y.2 - y.1 * x.2) (x.2 * y.2)
def plus (x y : Int × Int) : Int × Int := less x (mul (0 - 1, 1) y)
theorem prod_pos {a b : Int} (ha : 0 < a) (hb : 0 < b) : 0 < a * b := Int.mul_pos ha hb
theorem prod_top {a b : Int} (ha : 0 < a) (hA : a < 2 ^ 64) (hb : 0 < b) (hB : b < 2 ^ 64) : a * b < 2 ^ 200 := by
  have h1 : a * b ≤ 2 ^ 64 * b := Int.mul_le_mul_of_nonneg_right (Int.le_of_lt hA) (Int.le_of_lt hb)
  omega
theorem quot_le {a g : Int} (hg : 0 < g) (hd : g ∣ a) : (a.fdiv g).natAbs ≤ a.natAbs := by
  obtain ⟨q, rfl⟩ := hd
  rw [Int.mul_fdiv_cancel_left _ (Int.ne_of_gt hg), Int.natAbs_mul]
  exact Nat.le_mul_of_pos_left _ (by omega)
theorem quot_pos {a g : Int} (hg : 0 < g) (hd : g ∣ a) (ha : 0 < a) : 0 < a.fdiv g := by
  obtain ⟨q, rfl⟩ := hd
  rw [Int.mul_fdiv_cancel_left _ (Int.ne_of_gt hg)]
  by_cases hq : q ≤ 0
  · have := Int.mul_le_mul_of_nonneg_left hq (Int.le_of_lt hg)
    omega
  · omega
theorem frac_ok {a b : Int} (h : Ok (a, b)) : Ok (frac a b) := by
  obtain ⟨h1, h2, h3, h4⟩ := h
  dsimp only at h1 h2 h3 h4
  have hg : 0 < ((Int.gcd a b : Nat) : Int) := by have := gcd_ne (a := a) h3; omega
  have d1 : ((Int.gcd a b : Nat) : Int) ∣ a := Int.gcd_dvd_left ..
  have d2 : ((Int.gcd a b : Nat) : Int) ∣ b := Int.gcd_dvd_right ..
  have q1 := quot_le hg d1
  have q2 := quot_le hg d2
  have q3 := quot_pos hg d2 h3
  clear d1 d2 hg
  unfold frac
  generalize a.fdiv (Int.gcd a b) = u at q1
  generalize b.fdiv (Int.gcd a b) = v at q2 q3
  exact ⟨by dsimp only; clear q2 q3 h3 h4; omega, by dsimp only; clear q2 q3 h3 h4; omega, q3, by dsimp only; clear q1 h1 h2; omega⟩
theorem neg_ok {y : Int × Int} (h : Ok y) : Ok (mul (0 - 1, 1) y) := by
  obtain ⟨h1, h2, h3, h4⟩ := h
  unfold mul
  refine frac_ok ⟨?_, ?_, ?_, ?_⟩ <;> (dsimp only; omega)
theorem frac_u {w : World} {mean : ExcName → Option Value} {mg mb : Str → Option Value} {news : List (Addr × Obj)} {x : Int} {tx : Tok} {y : Int} {ty : Tok} (hy : 0 < y := by first | assumption | omega) (hY : y < 2 ^ 200 := by first | assumption | omega) : Cl w mean mg mb 28 2 16 news [.int x tx, .int y ty] (RetP news (frac x y)) := frac_c news x tx y ty hy hY
local macro_rules | `(tactic| walk_at "call ref") => `(tactic| (k_here; k_dflt (refine Cl.use (C := frac_u) (ret := ?_)); walk_at "cl pair"))
set_option maxHeartbeats 4000000 in
theorem mul_c {w : World} {mean : ExcName → Option Value} {mg mb : Str → Option Value} (news : List (Addr × Obj)) (X Y : Addr) (x y : Int × Int) (x1 x2 y1 y2 : Int) (tx1 tx2 ty1 ty2 : Tok) (cx cy : Nat)
    (hX : (X, ({ cls := .type "tuple", data := .seq #[.int x1 tx1, .int x2 tx2] cx } : Obj)) ∈ news) (hY : (Y, ({ cls := .type "tuple", data := .seq #[.int y1 ty1, .int y2 ty2] cy } : Obj)) ∈ news)
    (ex : (x1, x2) = x) (ey : (y1, y2) = y) (ox : Ok x) (oy : Ok y) :
    Cl w mean mg mb 35 3 24 news [.ref X, .ref Y] (RetP news (mul x y)) := by
  dsimp only [Cl, RetP]
  k_fill
  intro dp un gd cn cs a ccd cl outer A₀ base h₀ L m s Q E B F X N T hk hd hu hret
  subst ex
  subst ey
  obtain ⟨a1, a2, a3, a4⟩ := ox
  obtain ⟨b1, b2, b3, b4⟩ := oy
  dsimp only at a1 a2 a3 a4 b1 b2 b3 b4
  have h1 := prod_pos a3 b3
  have h2 := prod_top a3 a4 b3 b4
  refine wpAny_call ?_
  k_dflt cell_enter
  k_steps
  refine' retP hret ?e ?F ?N ?D ?s ?l
  case F => assumption
  case N => assumption
  case D => k_mem
  case s => exact fun p hp => .tail _ hp
  case l => ktn_lt
  case e => rfl
set_option maxHeartbeats 4000000 in
theorem less_c {w : World} {mean : ExcName → Option Value} {mg mb : Str → Option Value} (news : List (Addr × Obj)) (X Y : Addr) (x y : Int × Int) (x1 x2 y1 y2 : Int) (tx1 tx2 ty1 ty2 : Tok) (cx cy : Nat)
    (hX : (X, ({ cls := .type "tuple", data := .seq #[.int x1 tx1, .int x2 tx2] cx } : Obj)) ∈ news) (hY : (Y, ({ cls := .type "tuple", data := .seq #[.int y1 ty1, .int y2 ty2] cy } : Obj)) ∈ news)
    (ex : (x1, x2) = x) (ey : (y1, y2) = y) (ox : Ok x) (oy : Ok y) :
    Cl w mean mg mb 42 3 24 news [.ref X, .ref Y] (RetP news (less x y)) := by
  dsimp only [Cl, RetP]
  k_fill
  intro dp un gd cn cs a ccd cl outer A₀ base h₀ L m s Q E B F X N T hk hd hu hret
  subst ex
  subst ey
  obtain ⟨a1, a2, a3, a4⟩ := ox
  obtain ⟨b1, b2, b3, b4⟩ := oy
  dsimp only at a1 a2 a3 a4 b1 b2 b3 b4
  have h1 := prod_pos a3 b3
  have h2 := prod_top a3 a4 b3 b4
  refine wpAny_call ?_
  k_dflt cell_enter
  k_steps
  refine' retP hret ?e ?F ?N ?D ?s ?l
  case F => assumption
  case N => assumption
  case D => k_mem
  case s => exact fun p hp => .tail _ hp
  case l => ktn_lt
  case e => rfl
def okB (x : Int × Int) : Bool := decide (-(2 ^ 64) < x.1) && decide (x.1 < 2 ^ 64) && decide (0 < x.2) && decide (x.2 < 2 ^ 64)
theorem ok_of {x : Int × Int} (h : okB x = true) : Ok x := by
  unfold okB at h
  simp only [Bool.and_eq_true, decide_eq_true_eq] at h
  exact ⟨h.1.1.1, h.1.1.2, h.1.2, h.2⟩

def num : Nat → Int × Int
  | 0 => (1, 1)
  | 1 => (-1, 2)
  | 2 => (1, 6)
  | 3 => (0, 1)
  | _ => (-1, 30)
theorem num_ok (j : Nat) : Ok (num j) := by
  rcases j with _ | _ | _ | _ | j <;> first | exact ok_of (by decide +kernel) | exact ok_of (x := (-1, 30)) (by decide +kernel)
theorem mul_u {w : World} {mean : ExcName → Option Value} {mg mb : Str → Option Value} {news : List (Addr × Obj)} {X Y : Addr} {x y : Int × Int} {x1 x2 y1 y2 : Int} {tx1 tx2 ty1 ty2 : Tok} {cx cy : Nat} (hX : (X, ({ cls := .type "tuple", data := .seq #[.int x1 tx1, .int x2 tx2] cx } : Obj)) ∈ news := by (repeat (first | assumption | exact List.Mem.head _ | refine List.Mem.tail _ ?_))) (hY : (Y, ({ cls := .type "tuple", data := .seq #[.int y1 ty1, .int y2 ty2] cy } : Obj)) ∈ news := by (repeat (first | assumption | exact List.Mem.head _ | refine List.Mem.tail _ ?_))) (ex : (x1, x2) = x := by first | exact Prod.eta _ | exact rfl) (ey : (y1, y2) = y := by first | exact Prod.eta _ | exact rfl) (ox : Ok x := by first | assumption | exact num_ok _ | exact ⟨by decide, by decide, by decide, by decide⟩) (oy : Ok y := by first | assumption | exact num_ok _ | exact ⟨by decide, by decide, by decide, by decide⟩) : Cl w mean mg mb 35 3 24 news [.ref X, .ref Y] (RetP news (mul x y)) := mul_c news X Y x y x1 x2 y1 y2 tx1 tx2 ty1 ty2 cx cy hX hY ex ey ox oy
theorem less_u {w : World} {mean : ExcName → Option Value} {mg mb : Str → Option Value} {news : List (Addr × Obj)} {X Y : Addr} {x y : Int × Int} {x1 x2 y1 y2 : Int} {tx1 tx2 ty1 ty2 : Tok} {cx cy : Nat} (hX : (X, ({ cls := .type "tuple", data := .seq #[.int x1 tx1, .int x2 tx2] cx } : Obj)) ∈ news := by (repeat (first | assumption | exact List.Mem.head _ | refine List.Mem.tail _ ?_))) (hY : (Y, ({ cls := .type "tuple", data := .seq #[.int y1 ty1, .int y2 ty2] cy } : Obj)) ∈ news := by (repeat (first | assumption | exact List.Mem.head _ | refine List.Mem.tail _ ?_))) (ex : (x1, x2) = x := by first | exact Prod.eta _ | exact rfl) (ey : (y1, y2) = y := by first | exact Prod.eta _ | exact rfl) (ox : Ok x := by first | assumption | exact num_ok _ | exact ⟨by decide, by decide, by decide, by decide⟩) (oy : Ok y := by first | assumption | exact num_ok _ | exact ⟨by decide, by decide, by decide, by decide⟩) : Cl w mean mg mb 42 3 24 news [.ref X, .ref Y] (RetP news (less x y)) := less_c news X Y x y x1 x2 y1 y2 tx1 tx2 ty1 ty2 cx cy hX hY ex ey ox oy
local macro_rules | `(tactic| walk_at "call ref") => `(tactic| (k_here; k_dflt (refine Cl.use (C := mul_u) (ret := ?_)); walk_at "cl pair"))
local macro_rules | `(tactic| walk_at "call ref") => `(tactic| (k_here; k_dflt (refine Cl.use (C := less_u) (ret := ?_)); walk_at "cl pair"))

set_option maxHeartbeats 4000000 in
theorem plus_c {w : World} {mean : ExcName → Option Value} {mg mb : Str → Option Value} (news : List (Addr × Obj)) (X Y : Addr) (x y : Int × Int) (x1 x2 y1 y2 : Int) (tx1 tx2 ty1 ty2 : Tok) (cx cy : Nat)
    (hX : (X, ({ cls := .type "tuple", data := .seq #[.int x1 tx1, .int x2 tx2] cx } : Obj)) ∈ news) (hY : (Y, ({ cls := .type "tuple", data := .seq #[.int y1 ty1, .int y2 ty2] cy } : Obj)) ∈ news)
    (ex : (x1, x2) = x) (ey : (y1, y2) = y) (ox : Ok x) (oy : Ok y) :
    Cl w mean mg mb 262 4 32 news [.ref X, .ref Y] (RetP news (plus x y)) := by
  dsimp only [Cl, RetP]
  k_fill
  intro dp un gd cn cs a ccd cl outer A₀ base h₀ L m s Q E B F X N T hk hd hu hret
  subst ex
  subst ey
  have on := neg_ok oy
  refine wpAny_call ?_
  k_dflt cell_enter
  k_steps
  refine' retP hret ?e ?F ?N ?D ?s ?l
  case F => assumption
  case N => assumption
  case D => k_mem
  case s => exact fun p hp => .tail _ (.tail _ (.tail _ hp))
  case l => first | ktn_lt | (rename _ ∧ AllLt _ _ => hl9; exact hl9.2) | (rename _ ∧ _ ∧ AllLt _ _ => hl9; exact hl9.2.2)
  case e => rfl
theorem plus_u {w : World} {mean : ExcName → Option Value} {mg mb : Str → Option Value} {news : List (Addr × Obj)} {X Y : Addr} {x y : Int × Int} {x1 x2 y1 y2 : Int} {tx1 tx2 ty1 ty2 : Tok} {cx cy : Nat} (hX : (X, ({ cls := .type "tuple", data := .seq #[.int x1 tx1, .int x2 tx2] cx } : Obj)) ∈ news := by (repeat (first | assumption | exact List.Mem.head _ | refine List.Mem.tail _ ?_))) (hY : (Y, ({ cls := .type "tuple", data := .seq #[.int y1 ty1, .int y2 ty2] cy } : Obj)) ∈ news := by (repeat (first | assumption | exact List.Mem.head _ | refine List.Mem.tail _ ?_))) (ex : (x1, x2) = x := by first | exact Prod.eta _ | exact rfl) (ey : (y1, y2) = y := by first | exact Prod.eta _ | exact rfl) (ox : Ok x := by first | assumption | exact num_ok _ | exact ⟨by decide, by decide, by decide, by decide⟩) (oy : Ok y := by first | assumption | exact num_ok _ | exact ⟨by decide, by decide, by decide, by decide⟩) : Cl w mean mg mb 262 4 32 news [.ref X, .ref Y] (RetP news (plus x y)) := plus_c news X Y x y x1 x2 y1 y2 tx1 tx2 ty1 ty2 cx cy hX hY ex ey ox oy
local macro_rules | `(tactic| walk_at "call ref") => `(tactic| (k_here; k_dflt (refine Cl.use (C := plus_u) (ret := ?_)); walk_at "cl pair"))
/-- what a loop's turn leaves behind -/
def TP (h₀ : Heap) (L I : Addr) (it : Obj) (J : (Str → Option Value) → List (Addr × Obj) → Prop) (s : Shared) (f : Flow) (s₂ : Shared) : Prop :=
  f = .next ∧ ∃ h' tk m' news', s₂ = { s with heap := h', toks := tk } ∧ Fr h₀ L h' m' ∧ News h₀ L h' ((I, it) :: news') ∧ (∀ p ∈ news', p.1 ≠ I) ∧ J m' news'
theorem TP.intro {h₀ : Heap} {L I : Addr} {it : Obj} {J : (Str → Option Value) → List (Addr × Obj) → Prop} {s : Shared} {h' : Heap} {tk : Nat} {m' : Str → Option Value} {all : List (Addr × Obj)} (news' : List (Addr × Obj))
    (F : Fr h₀ L h' m') (N : News h₀ L h' all) (hs : ∀ p ∈ (I, it) :: news', p ∈ all) (off : ∀ p ∈ news', p.1 ≠ I) (j : J m' news') : TP h₀ L I it J s .next { s with heap := h', toks := tk } :=
  ⟨rfl, h', tk, m', news', rfl, F, fun p hp => N p (hs p hp), off, j⟩
theorem TP.intro3 {h₀ : Heap} {L I D : Addr} {it o : Obj} {e1 e2 : Addr × Obj} {J : (Str → Option Value) → List (Addr × Obj) → Prop} {s : Shared} {h' : Heap} {tk : Nat} {m' : Str → Option Value} {news : List (Addr × Obj)}
    (F : Fr h₀ L h' m') (N : News h₀ L h' ((D, o) :: e1 :: e2 :: (I, it) :: news)) (off : ∀ p ∈ news, p.1 ≠ I) (hD : @LT.lt Nat _ I D) (j : J m' ((D, o) :: news)) : TP h₀ L I it J s .next { s with heap := h', toks := tk } := by
  refine TP.intro ((D, o) :: news) F N (fun p hp => ?_) (fun p hp => ?_) j
  · rcases List.mem_cons.mp hp with rfl | hp
    · exact .tail _ (.tail _ (.tail _ (.head _)))
    · rcases List.mem_cons.mp hp with rfl | hp
      · exact .head _
      · exact .tail _ (.tail _ (.tail _ (.tail _ hp)))
  · rcases List.mem_cons.mp hp with rfl | hp
    · exact Nat.ne_of_gt hD
    · exact off p hp
theorem allLt_sub {d : Addr} {nw news : List (Addr × Obj)} (h : AllLt d nw) (hs : ∀ q ∈ news, q ∈ nw) : AllLt d news := allLt_of fun p hp => ktn_ltOf h p (hs p hp)
theorem range_size {b : Int} (h : 0 ≤ b) : Builtin.Range.rangeSize 0 b 1 = ((b.toNat : Nat) : Int) := by
  unfold Builtin.Range.rangeSize
  simp
  split <;> omega
section
variable {prog : Program} {w : World} {A : Around} {E : Value → Shared → Prop} {s : Shared} {env : Env} {h₀ : Heap} {x : Str} {body : List Stmt} {Q : Flow → Shared → Prop}
theorem rr_ind {I : Addr} {a : Int} {n : Nat} (top : Nat) (J : Nat → (Str → Option Value) → List (Addr × Obj) → Prop)
    (turn : ∀ i m news, i < top → J i m news → (∀ p ∈ news, p.1 ≠ I) → ∀ t h tk, Fr h₀ env.locals h (fun y => if y = x then some (.int (a + (i : Int)) t) else m y) →
      News h₀ env.locals h ((I, itR (a + ((i + 1 : Nat) : Int)) ((n : Int) - ((i + 1 : Nat) : Int))) :: news) →
      wpAny (model prog w) A (execs body env) (TP h₀ env.locals I (itR (a + ((i + 1 : Nat) : Int)) ((n : Int) - ((i + 1 : Nat) : Int))) (J (i + 1)) { s with heap := h, toks := tk }) E { s with heap := h, toks := tk })
    (done : ∀ m news, J top m news → ∀ h tk, Fr h₀ env.locals h m → News h₀ env.locals h news → Q .next { s with heap := h, toks := tk }) :
    ∀ k i m news, k + i = top → J i m news → (∀ p ∈ news, p.1 ≠ I) → RangeRest prog w A E h₀ env x body Q s I a n k i m news
  | 0, i, m, news, e, j, _ => RangeRest.zero fun h tk F N => done m news ((show i = top by omega) ▸ j) h tk F N
  | k + 1, i, m, news, e, j, off => RangeRest.succ fun t h tk F N => wpAny_mono (turn i m news (by omega) j off t h tk F N) (fun f s₂ q => by
      obtain ⟨rfl, h', tk', m', news', rfl, F', N', off', j'⟩ := q
      exact ⟨h', tk', m', news', rfl, F', N', off', rr_ind top J turn done k (i + 1) m' news' (by omega) j' off'⟩) fun _ _ e => e
theorem rr_start {r : Addr} {a₀ b₀ : Int} {t₀ u₀ v₀ : Tok} (n : Nat) {m₀ : Str → Option Value} {news : List (Addr × Obj)} (J : Nat → (Str → Option Value) → List (Addr × Obj) → Prop)
    (hr : IsRange s.heap r a₀ b₀ 1 t₀ u₀ v₀) (hh : A.handled = none) (hsmall : Builtin.Range.small a₀ b₀ 1 = true) (hn : Builtin.Range.rangeSize a₀ b₀ 1 = (n : Int)) (F : Fr h₀ env.locals s.heap m₀) (N : News h₀ env.locals s.heap news)
    (j : J 0 m₀ news)
    (turn : ∀ I, (∀ p ∈ news, p.1 < I) → ∀ i m news, i < n → J i m news → (∀ p ∈ news, p.1 ≠ I) → ∀ t h tk, Fr h₀ env.locals h (fun y => if y = x then some (.int (a₀ + (i : Int)) t) else m y) →
      News h₀ env.locals h ((I, itR (a₀ + ((i + 1 : Nat) : Int)) ((n : Int) - ((i + 1 : Nat) : Int))) :: news) →
      wpAny (model prog w) A (execs body env) (TP h₀ env.locals I (itR (a₀ + ((i + 1 : Nat) : Int)) ((n : Int) - ((i + 1 : Nat) : Int))) (J (i + 1)) { s with heap := h, toks := tk }) E { s with heap := h, toks := tk })
    (done : ∀ m news, J n m news → ∀ h tk, Fr h₀ env.locals h m → News h₀ env.locals h news → Q .next { s with heap := h, toks := tk }) :
    wpAny (model prog w) A (pyIter (.ref r)) (fun it s₂ => LoopAtV prog w A h₀ env x body Q E it s₂) E s :=
  iter_rangeUnr hh hr hsmall hn F N fun I lI => rr_ind n J (turn I lI) done n 0 m₀ news rfl j fun p hp => Nat.ne_of_lt (lI p hp)
end
theorem canon {m : Str → Option Value} {x : Str} {v : Value} (h : m x = some v) : m = fun z => if z = x then some v else m z := by
  funext z
  by_cases e : z = x
  · subst e; simp [h]
  · simp [e]
theorem canon3 {m : Str → Option Value} {x1 x2 x3 : Str} {v1 v2 v3 : Value} (h1 : m x1 = some v1) (h2 : m x2 = some v2) (h3 : m x3 = some v3) :
    m = fun z => if z = x1 then some v1 else if z = x2 then some v2 else if z = x3 then some v3 else m z := by
  funext z
  by_cases e1 : z = x1
  · subst e1; simp [h1]
  · by_cases e2 : z = x2
    · subst e2; simp [h2, e1]
    · by_cases e3 : z = x3
      · subst e3; simp [h3, e1, e2]
      · simp [e1, e2, e3]
theorem canon4 {m : Str → Option Value} {x1 x2 x3 x4 : Str} {v1 v2 v3 v4 : Value} (h1 : m x1 = some v1) (h2 : m x2 = some v2) (h3 : m x3 = some v3) (h4 : m x4 = some v4) :
    m = fun z => if z = x1 then some v1 else if z = x2 then some v2 else if z = x3 then some v3 else if z = x4 then some v4 else m z := by
  funext z
  by_cases e1 : z = x1
  · subst e1; simp [h1]
  · by_cases e2 : z = x2
    · subst e2; simp [h2, e1]
    · by_cases e3 : z = x3
      · subst e3; simp [h3, e1, e2]
      · by_cases e4 : z = x4
        · subst e4; simp [h4, e1, e2, e3]
        · simp [e1, e2, e3, e4]
theorem item_at {prog : Program} {w : World} {A : Around} {E : Value → Shared → Prop} {s : Shared} {h₀ : Heap} {L : Addr} {news : List (Addr × Obj)} {value slice : PySem.Expr} {l : Addr} {vs : List Value} {n : Nat} {k : Int} {u : Tok} {v : Value} {Q : Value → Shared → Prop}
    (N : News h₀ L s.heap news) (hm : (l, W.listOf vs.toArray n) ∈ news) (h0 : 0 ≤ k) (hhi : k < 2 ^ 63) (hx : vs[k.toNat]? = some v) (h : Q v s)
    (hs : subscripted slice false (.ref l) (.int k u) = operate [.ref l, .int k u] (getItem (.ref l) (.int k u)) := by with_unfolding_all rfl) :
    wpAny (model prog w) A (subscriptTail value slice (.ref l) (.int k u)) Q E s :=
  have hl := N.isList hm
  tail_any hl.typeIs slot_list_getitem.lookup (wpAny_getItem_list hl h0 hhi (by simpa using hx) h) hs

theorem canon2 {m : Str → Option Value} {x1 x2 : Str} {v1 v2 : Value} (h1 : m x1 = some v1) (h2 : m x2 = some v2) : m = fun z => if z = x1 then some v1 else if z = x2 then some v2 else m z := by
  funext z
  by_cases e1 : z = x1
  · subst e1; simp [h1]
  · by_cases e2 : z = x2
    · subst e2; simp [h2, e1]
    · simp [e1, e2]
section
variable {prog : Program} {w : World} {A : Around} {E : Value → Shared → Prop} {s : Shared} {env : Env} {h₀ : Heap} {x : Str} {body : List Stmt} {Q : Flow → Shared → Prop}
theorem rr_start2 {r : Addr} {a₀ b₀ : Int} {t₀ u₀ v₀ : Tok} (n : Nat) {m₀ : Str → Option Value} {news : List (Addr × Obj)} (J : List (Addr × Obj) → Nat → (Str → Option Value) → Prop)
    (hr : IsRange s.heap r a₀ b₀ 1 t₀ u₀ v₀) (hh : A.handled = none) (hsmall : Builtin.Range.small a₀ b₀ 1 = true) (hn : Builtin.Range.rangeSize a₀ b₀ 1 = (n : Int)) (F : Fr h₀ env.locals s.heap m₀) (N : News h₀ env.locals s.heap news)
    (j : J news 0 m₀)
    (turn : ∀ I, (∀ p ∈ news, p.1 < I) → ∀ i m, i < n → J news i m → ∀ t h tk, Fr h₀ env.locals h (fun y => if y = x then some (.int (a₀ + (i : Int)) t) else m y) →
      News h₀ env.locals h ((I, itR (a₀ + ((i + 1 : Nat) : Int)) ((n : Int) - ((i + 1 : Nat) : Int))) :: news) →
      wpAny (model prog w) A (execs body env) (TP h₀ env.locals I (itR (a₀ + ((i + 1 : Nat) : Int)) ((n : Int) - ((i + 1 : Nat) : Int))) (fun m nw => nw = news ∧ J news (i + 1) m) { s with heap := h, toks := tk }) E { s with heap := h, toks := tk })
    (done : ∀ m, J news n m → ∀ h tk, Fr h₀ env.locals h m → News h₀ env.locals h news → Q .next { s with heap := h, toks := tk }) :
    wpAny (model prog w) A (pyIter (.ref r)) (fun it s₂ => LoopAtV prog w A h₀ env x body Q E it s₂) E s :=
  rr_start n (fun i m nw => nw = news ∧ J news i m) hr hh hsmall hn F N ⟨rfl, j⟩ (fun I lI i m nw hi q _ t h tk F₁ N₁ => by
    obtain ⟨rfl, q⟩ := q
    exact turn I lI i m hi q t h tk F₁ N₁) fun m nw q h tk F₁ N₁ => by
    obtain ⟨rfl, q⟩ := q
    exact done m q h tk F₁ N₁
end
theorem tp_keep {h₀ : Heap} {L I : Addr} {it : Obj} {J : (Str → Option Value) → Prop} {s : Shared} {h' : Heap} {tk : Nat} {m' : Str → Option Value} {news all : List (Addr × Obj)}
    (F : Fr h₀ L h' m') (N : News h₀ L h' all) (hs : ∀ p ∈ (I, it) :: news, p ∈ all) (off : ∀ p ∈ news, p.1 < I) (j : J m') : TP h₀ L I it (fun m nw => nw = news ∧ J m) s .next { s with heap := h', toks := tk } :=
  TP.intro news F N hs (fun p hp => Nat.ne_of_lt (off p hp)) ⟨rfl, j⟩

def ways (m : Int) : Nat → Int
  | 0 => 1
  | k + 1 => (ways m k * (m - k)).fdiv (k + 1)
theorem ways_bd {x : Int} {i : Nat} (x0 : 0 ≤ x) (x5 : x ≤ 5) (hi : i < 5) : -(2 ^ 64) < ways x i ∧ ways x i < 2 ^ 64 := by
  obtain ⟨y, rfl⟩ := Int.eq_ofNat_of_zero_le x0
  have h : ((List.range 6).all fun y => (List.range 5).all fun i => decide (-(2 ^ 64) < ways (y : Int) i ∧ ways (y : Int) i < 2 ^ 64)) = true := by decide +kernel
  have := List.all_eq_true.mp (List.all_eq_true.mp h y (List.mem_range.mpr (by omega))) i (List.mem_range.mpr hi)
  simpa using this
theorem ways_step {x k : Int} {i : Nat} (hk : k = i) : (ways x i * (x - k)).fdiv (k + 1) = ways x (i + 1) := by
  subst hk
  rfl
theorem ways_turn {k : Int} {i : Nat} (hk : (0 : Int) + (i : Int) = k) (hi : i < 5) : k = (i : Int) ∧ k + 1 ≠ 0 ∧ (k + 1).natAbs.log2 < 9000 := by
  subst hk
  refine ⟨by omega, by omega, ?_⟩
  have h : ((0 : Int) + (i : Int) + 1).natAbs < 2 ^ 200 := by omega
  have := (Nat.log2_lt (by omega)).mpr h
  omega
local macro_rules | `(tactic| walk_at "exec For Name Call cons nil") => `(tactic| (k_here; (rename Fr _ _ _ _ => lF'); (with_unfolding_all refine' For_invVF lF' ?k1 ?k2 ?_; (case k1 => exact rfl); (case k2 => exact rfl); k_whole)))
local macro_rules | `(tactic| walk_at "pyIter ref") => `(tactic| ((with_reducible show wpAny _ _ (pyIter (Value.ref _)) (fun it s₂ => LoopAtV _ _ _ _ _ _ _ _ _ it s₂) _ _); refine Hold.mk' ?_))
local macro_rules | `(tactic| walk_at "call type:range") => `(tactic| ((rename Fr _ _ _ _ => F'); (rename News _ _ _ _ => N'); first | (with_unfolding_all refine range1_rows F' N' ?_; intro _ _ _ _ _ _ _ _ _) | (with_unfolding_all refine range2_rows F' N' ?_; intro _ _ _ _ _ _ _ _ _)))
set_option maxHeartbeats 4000000 in
theorem ways_c {w : World} {mean : ExcName → Option Value} {mg mb : Str → Option Value} (news : List (Addr × Obj)) (x : Int) (tx : Tok) (y : Int) (ty : Tok) (x0 : 0 ≤ x) (x1 : x ≤ 5) (y0 : 0 ≤ y) (y1 : y ≤ 4) :
    Cl w mean mg mb 255 1 8 news [.int x tx, .int y ty] (RetI news (ways x y.toNat)) := by
  dsimp only [Cl, RetI]
  k_fill
  intro dp un gd cn cs a ccd cl outer A₀ base h₀ L m s Q E B F X N T hk hd hu hret
  refine wpAny_call ?_
  k_dflt cell_enter
  k_steps
  refine Hold.out ?_
  rename IsRange _ _ _ _ _ _ _ _ => hR
  rename Fr _ _ _ _ => hF
  rename News _ _ _ _ => hNw
  refine rr_start2 y.toNat (fun _ i m => m (Str.ofString "many") = some (.int x tx) ∧ ∃ t, m (Str.ofString "found") = some (.int (ways x i) t)) hR rfl (small_one (by omega) (by omega) (by omega) (by omega)) (range_size y0) hF hNw ⟨by with_unfolding_all rfl, ⟨_, by with_unfolding_all rfl⟩⟩ ?turn ?done
  case done =>
    rintro mm ⟨e1, ⟨tt, e2⟩⟩ h tk F₁ N₁
    rw [canon2 e1 e2] at F₁
    clear hF hNw hR
    dsimp only
    k_steps
    exact cb_retI hret rfl (by assumption) (by assumption)
  case turn =>
    rintro I lI i mm hi ⟨e1, ⟨tt, e2⟩⟩ t h tk F₁ N₁
    rw [canon2 e1 e2] at F₁
    have hi5 : i < 5 := by omega
    obtain ⟨b1, b2⟩ := ways_bd x0 x1 hi5
    generalize hk9 : (0 : Int) + (i : Int) = k at F₁
    obtain ⟨hki, hne, hlg⟩ := ways_turn hk9 hi5
    clear hF hNw hR
    k_steps
    rename Fr _ _ _ _ => hF9
    rename News _ _ _ _ => hN9
    rw [ways_step hki] at hF9
    exact tp_keep hF9 hN9 (fun p hp => hp) lI ⟨by with_unfolding_all rfl, ⟨_, by with_unfolding_all rfl⟩⟩
theorem ways_u {w : World} {mean : ExcName → Option Value} {mg mb : Str → Option Value} {news : List (Addr × Obj)} {x : Int} {tx : Tok} {y : Int} {ty : Tok} (x0 : 0 ≤ x := by first | assumption | omega) (x1 : x ≤ 5 := by first | assumption | omega) (y0 : 0 ≤ y := by first | assumption | omega) (y1 : y ≤ 4 := by first | assumption | omega) : Cl w mean mg mb 255 1 8 news [.int x tx, .int y ty] (RetI news (ways x y.toNat)) := ways_c news x tx y ty x0 x1 y0 y1
local macro_rules | `(tactic| walk_at "call ref") => `(tactic| (k_here; k_dflt (refine Cl.use (C := ways_u) (ret := ?_)); walk_at "cl int"))
/-- the list's first k items are the known numbers, and they lie on the ledger -/
def Nums (news : List (Addr × Obj)) (vs : List Value) : Prop :=
  ∀ j, j < vs.length → ∃ B t1 t2 c, vs[j]? = some (.ref B) ∧ (B, ({ cls := .type "tuple", data := .seq #[.int (num j).1 t1, .int (num j).2 t2] c } : Obj)) ∈ news
theorem Nums.mono {news news' : List (Addr × Obj)} {vs : List Value} (h : Nums news vs) (hs : ∀ p ∈ news, p ∈ news') : Nums news' vs := fun j hj => by
  obtain ⟨B, t1, t2, c, e, hm⟩ := h j hj
  exact ⟨B, t1, t2, c, e, hs _ hm⟩
def tot (p x : Int) : Nat → Int × Int
  | 0 => (0, 1)
  | k + 1 => plus (tot p x k) (mul (ways (p + 1) k * x ^ (p + 1 - k).toNat, 1) (num k))
def okAll : Bool := (List.range 4).all fun p => (List.range 9).all fun x => (List.range (p + 3)).all fun k => okB (tot (p + 1 : Nat) x k) && (decide (k ≥ p + 2) || (okB (ways ((p + 1 : Nat) + 1) k * (x : Int) ^ (((p + 1 : Nat) : Int) + 1 - k).toNat, 1) && decide (ways ((p + 1 : Nat) + 1) k < 1000 ∧ -1000 < ways ((p + 1 : Nat) + 1) k) && okB (mul (ways ((p + 1 : Nat) + 1) k * (x : Int) ^ (((p + 1 : Nat) : Int) + 1 - k).toNat, 1) (num k))))
theorem okAll_is : okAll = true := by decide +kernel
theorem all_at {p x k : Nat} (hp : p < 4) (hx : x < 9) (hk : k < p + 3) : (okB (tot (p + 1 : Nat) x k) && (decide (k ≥ p + 2) || (okB (ways ((p + 1 : Nat) + 1) k * (x : Int) ^ (((p + 1 : Nat) : Int) + 1 - k).toNat, 1) && decide (ways ((p + 1 : Nat) + 1) k < 1000 ∧ -1000 < ways ((p + 1 : Nat) + 1) k) && okB (mul (ways ((p + 1 : Nat) + 1) k * (x : Int) ^ (((p + 1 : Nat) : Int) + 1 - k).toNat, 1) (num k))))) = true := by
  have h := okAll_is
  unfold okAll at h
  exact List.all_eq_true.mp (List.all_eq_true.mp (List.all_eq_true.mp h p (List.mem_range.mpr hp)) x (List.mem_range.mpr hx)) k (List.mem_range.mpr hk)
theorem tot_ok {p x : Int} {k : Nat} (p1 : 1 ≤ p) (p4 : p ≤ 4) (x0 : 0 ≤ x) (x8 : x ≤ 8) (hk : (k : Int) ≤ p + 1) : Ok (tot p x k) := by
  obtain ⟨q, rfl⟩ : ∃ q : Nat, p = ((q + 1 : Nat) : Int) := ⟨(p - 1).toNat, by omega⟩
  obtain ⟨y, rfl⟩ := Int.eq_ofNat_of_zero_le x0
  have h := all_at (p := q) (x := y) (k := k) (by omega) (by omega) (by omega)
  rw [Bool.and_eq_true] at h
  exact ok_of h.1
theorem more_ok {p x k : Int} (p1 : 1 ≤ p) (p4 : p ≤ 4) (x0 : 0 ≤ x) (x8 : x ≤ 8) (k0 : 0 ≤ k) (hk : k ≤ p) :
    Ok (ways (p + 1) k.toNat * x ^ (p + 1 - k).toNat, 1) ∧ -(2 ^ 64) < ways (p + 1) k.toNat ∧ ways (p + 1) k.toNat < 2 ^ 64 ∧ Ok (mul (ways (p + 1) k.toNat * x ^ (p + 1 - k).toNat, 1) (num k.toNat)) := by
  obtain ⟨q, rfl⟩ : ∃ q : Nat, p = ((q + 1 : Nat) : Int) := ⟨(p - 1).toNat, by omega⟩
  obtain ⟨y, rfl⟩ := Int.eq_ofNat_of_zero_le x0
  obtain ⟨j, rfl⟩ := Int.eq_ofNat_of_zero_le k0
  have h := all_at (p := q) (x := y) (k := j) (by omega) (by omega) (by omega)
  rw [Bool.and_eq_true, Bool.or_eq_true] at h
  have h2 := h.2.resolve_left (by simp; omega)
  rw [Bool.and_eq_true, Bool.and_eq_true, decide_eq_true_eq] at h2
  exact ⟨ok_of h2.1.1, by have := h2.1.2.2; simp only [Int.toNat_natCast]; omega, by have := h2.1.2.1; simp only [Int.toNat_natCast]; omega, ok_of h2.2⟩
theorem inv_ok {p : Int} (p1 : 1 ≤ p) (p4 : p ≤ 4) : Ok (frac 1 (p + 1)) := frac_ok ⟨by dsimp only; omega, by dsimp only; omega, by dsimp only; omega, by dsimp only; omega⟩
theorem tot_step {p x k : Int} {i : Nat} (hk : k = i) : plus (tot p x i) (mul (ways (p + 1) k.toNat * x ^ (p + 1 - k).toNat, 1) (num k.toNat)) = tot p x (i + 1) := by
  subst hk
  simp [tot]
theorem third_lt {I a b D : Addr} {P : Prop} (h : @LT.lt Nat _ a D ∧ @LT.lt Nat _ b D ∧ @LT.lt Nat _ I D ∧ P) : @LT.lt Nat _ I D := h.2.2.1
theorem cv_facts {p k : Int} {i : Nat} (p1 : 1 ≤ p) (p4 : p ≤ 4) (hi : i < (p + 1).toNat) (hk : (0 : Int) + (i : Int) = k) : k = (i : Int) ∧ 0 ≤ k ∧ k ≤ p ∧ k.toNat = i ∧ (i : Int) ≤ p + 1 ∧ i < 5 ∧ k ≤ 4 ∧ k < 2 ^ 63 :=
  ⟨by omega, by omega, by omega, by omega, by omega, by omega, by omega, by omega⟩
theorem cp_facts {p : Int} (p1 : 1 ≤ p) (p4 : p ≤ 4) : Builtin.Range.small 0 (p + 1) 1 = true ∧ Builtin.Range.rangeSize 0 (p + 1) 1 = (((p + 1).toNat : Nat) : Int) ∧ (((p + 1).toNat : Nat) : Int) ≤ p + 1 ∧ 0 ≤ p + 1 ∧ p + 1 ≤ 5 ∧ 0 < p + 1 ∧ p + 1 < 2 ^ 200 :=
  ⟨small_one (by omega) (by omega) (by omega) (by omega), range_size (by omega), by omega, by omega, by omega, by omega, by omega⟩
local macro_rules | `(tactic| walk_at "subscriptTail") => `(tactic| (k_here; (with_reducible show wpAny _ _ (subscriptTail _ _ (Value.ref _) (Value.int _ _)) _ _ _); (with_unfolding_all refine' item_at ?N ?m ?z ?t ?x ?_ ?s; (case N => k_asm); (case x => assumption); (case m => first | assumption | (repeat (first | assumption | exact List.Mem.head _ | refine List.Mem.tail _ ?_))); (case z => first | assumption | omega); (case t => first | assumption | omega); (case s => with_unfolding_all rfl); k_whole)))
set_option maxHeartbeats 8000000 in
theorem curve_c {w : World} {mean : ExcName → Option Value} {mg mb : Str → Option Value} (news : List (Addr × Obj)) (Nn : Addr) (vs : List Value) (cN : Nat) (p x : Int) (tp tx : Tok)
    (hN : (Nn, W.listOf vs.toArray cN) ∈ news) (hv : Nums news vs) (hl : vs.length = 5) (p1 : 1 ≤ p) (p4 : p ≤ 4) (x0 : 0 ≤ x) (x8 : x ≤ 8) :
    Cl w mean mg mb 276 5 40 news [.ref Nn, .int p tp, .int x tx] (RetP news (mul (frac 1 (p + 1)) (tot p x (p + 1).toNat))) := by
  dsimp only [Cl, RetP]
  k_fill
  intro dp un gd cn cs a ccd cl outer A₀ base h₀ L m s Q E B F X N T hk hd hu hret
  obtain ⟨hsm, hrs, htn, c0, c5, cp, cq⟩ := cp_facts p1 p4
  refine wpAny_call ?_
  k_dflt cell_enter
  k_steps
  refine Hold.out ?_
  rename IsRange _ _ _ _ _ _ _ _ => hR
  rename Fr _ _ _ _ => hF
  rename News _ _ _ _ => hNw
  refine rr_start (p + 1).toNat (fun i m nw => m (Str.ofString "numbers") = some (.ref Nn) ∧ m (Str.ofString "power") = some (.int p tp) ∧ m (Str.ofString "here") = some (.int x tx) ∧ (∀ q ∈ news, q ∈ nw) ∧ ∃ T t1 t2 c, m (Str.ofString "total") = some (.ref T) ∧ (T, ({ cls := .type "tuple", data := .seq #[.int (tot p x i).1 t1, .int (tot p x i).2 t2] c } : Obj)) ∈ nw) hR rfl hsm hrs hF hNw ?start ?turn ?done
  case start => exact ⟨by with_unfolding_all rfl, by with_unfolding_all rfl, by with_unfolding_all rfl, fun q hq => .tail _ hq, _, _, _, _, by with_unfolding_all rfl, List.Mem.head _⟩
  case done =>
    rintro mm nw ⟨e1, e2, e3, hs, Tt, t1, t2, c, e4, hT⟩ h tk F₁ N₁
    rw [canon4 e1 e2 e3 e4] at F₁
    have ot := tot_ok (k := (p + 1).toNat) p1 p4 x0 x8 htn
    have io := inv_ok p1 p4
    clear hF hNw hR
    dsimp only
    k_steps
    refine' retP hret ?e ?F ?N ?D ?s ?l
    case F => assumption
    case N => assumption
    case D => k_mem
    case s => exact fun p hp => .tail _ (.tail _ (hs p hp))
    case e => rfl
    case l => (rename _ ∧ AllLt _ _ => hl9; exact allLt_sub hl9.2 hs)
  case turn =>
    rintro I lI i mm nw hi ⟨e1, e2, e3, hs, Tt, t1, t2, c, e4, hT⟩ off t h tk F₁ N₁
    rw [canon4 e1 e2 e3 e4] at F₁
    generalize hk9 : (0 : Int) + (i : Int) = k at F₁
    obtain ⟨hki, k0, kp, hkn, hip, hi5, k4, k63⟩ := cv_facts p1 p4 hi hk9
    obtain ⟨mo1, mo2, mo3, mo4⟩ := more_ok p1 p4 x0 x8 k0 kp
    have ot := tot_ok (k := i) p1 p4 x0 x8 hip
    obtain ⟨Bk, b1, b2, bc, ev, hB⟩ := hv i (hl ▸ hi5)
    rw [← hkn] at ev hB
    have hN2 := hs _ hN
    have hB2 := hs _ hB
    clear hF hNw hR
    k_steps
    rename Fr _ _ _ _ => hF9
    rename News _ _ _ _ => hN9
    rw [tot_step hki] at hN9
    refine TP.intro3 hF9 hN9 off (third_lt (by assumption)) ⟨by with_unfolding_all rfl, by with_unfolding_all rfl, by with_unfolding_all rfl, fun q hq => .tail _ (hs q hq), _, _, _, _, by with_unfolding_all rfl, List.Mem.head _⟩
def acc (k : Int) : Nat → Int × Int
  | 0 => (0, 1)
  | j + 1 => plus (acc k j) (mul (ways (k + 1) j, 1) (num j))
def okNum : Bool := (List.range 4).all fun q => (List.range (q + 3)).all fun j =>
  okB (acc ((q + 1 : Nat) : Int) j) && (decide (j > q + 1) || (okB (ways (((q + 1 : Nat) : Int) + 1) j, 1) && okB (mul (ways (((q + 1 : Nat) : Int) + 1) j, 1) (num j)))) && decide (mul (frac (0 - 1) (((q + 1 : Nat) : Int) + 1)) (acc ((q + 1 : Nat) : Int) (q + 1)) = num (q + 1))
theorem okNum_is : okNum = true := by decide +kernel
theorem num_at {q j : Nat} (hq : q < 4) (hj : j < q + 3) : (okB (acc ((q + 1 : Nat) : Int) j) && (decide (j > q + 1) || (okB (ways (((q + 1 : Nat) : Int) + 1) j, 1) && okB (mul (ways (((q + 1 : Nat) : Int) + 1) j, 1) (num j)))) && decide (mul (frac (0 - 1) (((q + 1 : Nat) : Int) + 1)) (acc ((q + 1 : Nat) : Int) (q + 1)) = num (q + 1))) = true := by
  have h := okNum_is
  unfold okNum at h
  exact List.all_eq_true.mp (List.all_eq_true.mp h q (List.mem_range.mpr hq)) j (List.mem_range.mpr hj)
theorem acc_ok {k : Int} {i j : Nat} (hk : k = ((i + 1 : Nat) : Int)) (hi : i < 4) (hj : j ≤ i + 1) : Ok (acc k j) := by
  subst hk
  have h := num_at hi (show j < i + 3 by omega)
  rw [Bool.and_eq_true, Bool.and_eq_true] at h
  exact ok_of h.1.1
theorem accm_ok {k y : Int} {i : Nat} (hk : k = ((i + 1 : Nat) : Int)) (hi : i < 4) (y0 : 0 ≤ y) (hj : y ≤ k) : Ok (ways (k + 1) y.toNat, 1) ∧ Ok (mul (ways (k + 1) y.toNat, 1) (num y.toNat)) := by
  subst hk
  obtain ⟨j, rfl⟩ := Int.eq_ofNat_of_zero_le y0
  have h := num_at hi (show j < i + 3 by omega)
  rw [Bool.and_eq_true, Bool.and_eq_true, Bool.or_eq_true] at h
  have h2 := h.1.2.resolve_left (by simp; omega)
  rw [Bool.and_eq_true] at h2
  exact ⟨ok_of h2.1, ok_of h2.2⟩
theorem acc_num {k : Int} {i : Nat} (hk : k = ((i + 1 : Nat) : Int)) (hi : i < 4) : mul (frac (0 - 1) (k + 1)) (acc k k.toNat) = num (i + 1) := by
  subst hk
  have h := num_at (j := 0) hi (by omega)
  rw [Bool.and_eq_true, decide_eq_true_eq] at h
  exact h.2
theorem acc_step {k y : Int} {j : Nat} (hy : y = j) : plus (acc k j) (mul (ways (k + 1) y.toNat, 1) (num y.toNat)) = acc k (j + 1) := by
  subst hy
  simp [acc]
theorem fracm_ok {k : Int} (h0 : 0 ≤ k) (h1 : k ≤ 4) : Ok (frac (0 - 1) (k + 1)) := frac_ok ⟨by dsimp only; omega, by dsimp only; omega, by dsimp only; omega, by dsimp only; omega⟩

theorem out_facts {i : Nat} {k : Int} (hi : i < 4) (hk : (1 : Int) + (i : Int) = k) : k = ((i + 1 : Nat) : Int) ∧ Builtin.Range.small 0 k 1 = true ∧ Builtin.Range.rangeSize 0 k 1 = ((k.toNat : Nat) : Int) ∧ k.toNat ≤ i + 1 ∧ 0 ≤ k ∧ k ≤ 4 ∧ 0 < k + 1 ∧ k + 1 < 2 ^ 200 ∧ 0 ≤ k + 1 ∧ k + 1 ≤ 5 :=
  ⟨by omega, small_one (by omega) (by omega) (by omega) (by omega), range_size (by omega), by omega, by omega, by omega, by omega, by omega, by omega, by omega⟩
theorem in_facts {i j : Nat} {k y : Int} (hi : i < 4) (hk : k = ((i + 1 : Nat) : Int)) (hj : j < k.toNat) (hy : (0 : Int) + (j : Int) = y) : y = (j : Int) ∧ 0 ≤ y ∧ y ≤ k ∧ y.toNat = j ∧ y ≤ 4 ∧ y < 2 ^ 63 ∧ j < i + 1 ∧ j ≤ i + 1 :=
  ⟨by omega, by omega, by omega, by omega, by omega, by omega, by omega, by omega⟩
theorem size_ok {vs : List Value} {i : Nat} (hi : i < 4) (hv : vs.length = i + 1) : (List.toArray vs).size ≤ sizeLine := by
  rw [List.size_toArray, sizeLine_eq]
  omega
def NumsL (news₀ news : List (Addr × Obj)) (vs : List Value) : Prop :=
  ∀ j, j < vs.length → ∃ B t1 t2 c, vs[j]? = some (.ref B) ∧ (B, ({ cls := .type "tuple", data := .seq #[.int (num j).1 t1, .int (num j).2 t2] c } : Obj)) ∈ news ∧ AllLt B news₀
theorem NumsL.one {news₀ news : List (Addr × Obj)} {B : Addr} {t1 t2 : Tok} {c : Nat} (hm : (B, ({ cls := .type "tuple", data := .seq #[.int 1 t1, .int 1 t2] c } : Obj)) ∈ news) (hl : AllLt B news₀) : NumsL news₀ news [.ref B] := fun j hj => by
  have : j = 0 := by simpa using hj
  subst this
  exact ⟨B, t1, t2, c, rfl, hm, hl⟩
theorem NumsL.more {news₀ news news' : List (Addr × Obj)} {vs : List Value} {B : Addr} {t1 t2 : Tok} {c : Nat} (h : NumsL news₀ news vs) (hs : ∀ p ∈ news, p ∈ news')
    (hm : (B, ({ cls := .type "tuple", data := .seq #[.int (num vs.length).1 t1, .int (num vs.length).2 t2] c } : Obj)) ∈ news') (hl : AllLt B news₀) : NumsL news₀ news' (vs ++ [.ref B]) := fun j hj => by
  rw [List.length_append, List.length_singleton] at hj
  by_cases e : j = vs.length
  · subst e
    exact ⟨B, t1, t2, c, by simp, hm, hl⟩
  · obtain ⟨B', u1, u2, c', e1, e2, e3⟩ := h j (by omega)
    exact ⟨B', u1, u2, c', by rw [List.getElem?_append_left (by omega)]; exact e1, hs _ e2, e3⟩
def JN (news : List (Addr × Obj)) (i : Nat) (m : Str → Option Value) (nw : List (Addr × Obj)) : Prop :=
  ∃ Fl rest vs c, nw = (Fl, W.listOf (List.toArray vs) c) :: rest ∧ (∀ p ∈ rest, p.1 ≠ Fl) ∧ AllLt Fl news ∧ vs.length = i + 1 ∧ NumsL news rest vs ∧ (∀ q ∈ news, q ∈ rest) ∧ m (Str.ofString "found") = some (.ref Fl)
theorem start_lt {I l : Addr} {P : Prop} {D : Addr} (h : @LT.lt Nat _ I D ∧ @LT.lt Nat _ l D ∧ P) : @LT.lt Nat _ l D := h.2.1
theorem jn_start {news : List (Addr × Obj)} {m : Str → Option Value} {Fl D : Addr} {t1 t2 : Tok} {c c' : Nat} (hm : m (Str.ofString "found") = some (.ref Fl)) (hl : @LT.lt Nat _ D Fl ∧ AllLt Fl news) (hd : AllLt D news) :
    JN news 0 m ((Fl, W.listOf #[.ref D] c') :: (D, ({ cls := .type "tuple", data := .seq #[.int 1 t1, .int 1 t2] c } : Obj)) :: news) :=
  ⟨Fl, _, [.ref D], c', rfl, fun p hp => by
    rcases List.mem_cons.mp hp with rfl | hp
    · exact Nat.ne_of_lt hl.1
    · exact Nat.ne_of_lt (ktn_ltOf hl.2 p hp), hl.2, rfl, NumsL.one (.head _) hd, fun q hq => .tail _ hq, hm⟩
theorem jn_end {h₀ : Heap} {L I D Fl : Addr} {it : Obj} {e1 e2 : Addr × Obj} {s : Shared} {h' : Heap} {tk : Nat} {m' : Str → Option Value} {news rest : List (Addr × Obj)} {vs : List Value} {t1 t2 : Tok} {c cf : Nat} {i : Nat} {lo : Obj}
    (F : Fr h₀ L h' m') (N : News h₀ L h' ((D, ({ cls := .type "tuple", data := .seq #[.int (num (i + 1)).1 t1, .int (num (i + 1)).2 t2] c } : Obj)) :: e1 :: e2 :: (I, it) :: (Fl, W.listOf ((List.toArray vs).push (.ref D)) cf) :: rest))
    (off : ∀ p ∈ (Fl, lo) :: rest, p.1 ≠ I) (hD : @LT.lt Nat _ I D) (hF : @LT.lt Nat _ Fl D) (hr : ∀ p ∈ rest, p.1 ≠ Fl) (hFn : AllLt Fl news) (hv : vs.length = i + 1) (hn : NumsL news rest vs) (hs : ∀ q ∈ news, q ∈ rest) (hDn : AllLt D rest)
    (hm : m' (Str.ofString "found") = some (.ref Fl)) : TP h₀ L I it (JN news (i + 1)) s .next { s with heap := h', toks := tk } := by
  refine TP.intro ((Fl, W.listOf (List.toArray (vs ++ [.ref D])) cf) :: (D, ({ cls := .type "tuple", data := .seq #[.int (num (i + 1)).1 t1, .int (num (i + 1)).2 t2] c } : Obj)) :: rest) F N (fun p hp => ?_) (fun p hp => ?_) ⟨Fl, _, vs ++ [.ref D], cf, rfl, fun p hp => ?_, hFn, by simp [hv], hn.more (fun p hp => .tail _ hp) (by rw [hv]; exact .head _) (allLt_sub hDn hs), fun q hq => .tail _ (hs q hq), hm⟩
  · rcases List.mem_cons.mp hp with rfl | hp
    · exact .tail _ (.tail _ (.tail _ (.head _)))
    · rcases List.mem_cons.mp hp with rfl | hp
      · rw [← List.push_toArray]
        exact .tail _ (.tail _ (.tail _ (.tail _ (.head _))))
      · rcases List.mem_cons.mp hp with rfl | hp
        · exact .head _
        · exact .tail _ (.tail _ (.tail _ (.tail _ (.tail _ hp))))
  · rcases List.mem_cons.mp hp with rfl | hp
    · exact off (Fl, lo) (.head _)
    · rcases List.mem_cons.mp hp with rfl | hp
      · exact Nat.ne_of_gt hD
      · exact off p (.tail _ hp)
  · rcases List.mem_cons.mp hp with rfl | hp
    · exact Nat.ne_of_gt hF
    · exact hr p hp
abbrev RetN (news : List (Addr × Obj)) (h₀ : Heap) (L : Addr) (m : Str → Option Value) (s : Shared) (Q : Value → Shared → Prop) : Prop :=
  ∀ (Nn : Addr) (vs : List Value) (c : Nat) (rest : List (Addr × Obj)) (h' : Heap) (tk' : Nat), Fr h₀ L h' m → News h₀ L h' ((Nn, W.listOf vs.toArray c) :: rest) → vs.length = 5 → NumsL news rest vs → (∀ q ∈ news, q ∈ rest) → AllLt Nn news → Q (.ref Nn) { s with heap := h', toks := tk' }
local macro_rules | `(tactic| walk_at "call builtin:list.append") => `(tactic| refine Hold.mk' ?_)
set_option maxHeartbeats 8000000 in
theorem numbers_c {w : World} {mean : ExcName → Option Value} {mg mb : Str → Option Value} (news : List (Addr × Obj)) (tx : Tok) :
    Cl w mean mg mb 269 5 40 news [.int 4 tx] (RetN news) := by
  dsimp only [Cl, RetN]
  k_fill
  intro dp un gd cn cs a ccd cl outer A₀ base h₀ L m s Q E B F X N T hk hd hu hret
  refine wpAny_call ?_
  k_dflt cell_enter
  k_steps
  refine Hold.out ?_
  rename IsRange _ _ _ _ _ _ _ _ => hR
  rename Fr _ _ _ _ => hF
  rename News _ _ _ _ => hNw
  refine rr_start 4 (JN news) hR rfl ?small ?size hF hNw ?start ?turn ?done
  case small => exact small_one (by omega) (by omega) (by omega) (by omega)
  case size => decide
  case start => exact jn_start (by with_unfolding_all rfl) (by assumption) (allLt_of (by assumption))
  case done => 
    rintro mm nw ⟨Fl, rest, vs, c, rfl, hr, hFn, hv, hn, hs, e1⟩ h tk F₁ N₁
    rw [canon e1] at F₁
    clear hF hNw hR
    dsimp only
    k_steps
    exact hret Fl vs c rest _ _ (by assumption) (by assumption) (by omega) hn hs hFn
  case turn =>
    rintro I lI i mm nw hi ⟨Fl, rest, vs, c, rfl, hr, hFn, hv, hn, hs, e1⟩ off t h tk F₁ N₁
    rw [canon e1] at F₁
    generalize hk9 : (1 : Int) + (i : Int) = k at F₁
    obtain ⟨hki, hsm, hrs, hkl, k0, k4, kp, kq, kr, ks⟩ := out_facts hi hk9
    have hFI : @Ne Nat Fl I := off (Fl, _) (.head _)
    clear hF hNw hR
    k_steps
    refine Hold.out ?_
    rename IsRange _ _ _ _ _ _ _ _ => hR
    rename Fr _ _ _ _ => hF
    rename News _ _ _ _ => hNw
    refine rr_start k.toNat (fun j m nw => m (Str.ofString "found") = some (.ref Fl) ∧ m (Str.ofString "at") = some (.int k t) ∧ (∀ q ∈ (I, itR (1 + ((i + 1 : Nat) : Int)) ((4 : Nat) - ((i + 1 : Nat) : Int))) :: (Fl, W.listOf (List.toArray vs) c) :: rest, q ∈ nw) ∧ ∃ T t1 t2 c, m (Str.ofString "total") = some (.ref T) ∧ @LT.lt Nat _ Fl T ∧ (T, ({ cls := .type "tuple", data := .seq #[.int (acc k j).1 t1, .int (acc k j).2 t2] c } : Obj)) ∈ nw) hR rfl hsm hrs hF hNw ?start2 ?turn2 ?done2
    case start2 => exact ⟨by with_unfolding_all rfl, by with_unfolding_all rfl, fun q hq => .tail _ hq, _, _, _, _, by with_unfolding_all rfl, start_lt (by assumption), List.Mem.head _⟩
    case done2 =>
      rintro mm2 nw ⟨g1, g2, hs2, Tt, t1, t2, c2, g3, hFT, hT⟩ h3 tk3 F₃ N₃
      rw [canon3 g1 g2 g3] at F₃
      have ao := acc_ok (j := k.toNat) hki hi hkl
      have fo := fracm_ok (k := k) k0 k4
      have N₄ := cb_drop (news := (Tt, ({ cls := .type "tuple", data := .seq #[.int (acc k k.toNat).1 t1, .int (acc k k.toNat).2 t2] c2 } : Obj)) :: (I, itR (1 + ((i + 1 : Nat) : Int)) ((4 : Nat) - ((i + 1 : Nat) : Int))) :: (Fl, W.listOf (List.toArray vs) c) :: rest) N₃ (fun p hp => by
        rcases List.mem_cons.mp hp with rfl | hp
        · exact hT
        · exact hs2 p hp)
      clear hF hNw hR N₃
      dsimp only
      k_steps
      refine Hold.out ?_
      rename _ ∧ _ ∧ _ ∧ _ ∧ AllLt _ _ => hl9
      rename _ ∧ _ ∧ _ ∧ AllLt _ _ => hl8
      obtain ⟨q1, q2, q3, q4, q5⟩ := hl9
      k_dflt (refine append_K (by k_asm) (by k_asm) (Upd.tail (Nat.ne_of_gt q4) (Upd.tail (Nat.ne_of_gt hl8.2.2.1) (Upd.tail (Nat.ne_of_gt hFT) (Upd.tail hFI.symm (Upd.head hr))))) ?_ (size_ok hi hv))
      intro hq9 Fq9 Nq9
      k_steps
      rename Fr _ _ _ _ => hF9
      rename News _ _ _ _ => hN9
      rw [acc_num hki hi] at hN9
      exact jn_end hF9 hN9 off q3 q4 hr hFn hv hn hs q5 (by with_unfolding_all rfl)
    case turn2 =>
      rintro I2 lI2 j mm2 nw hj ⟨g1, g2, hs2, Tt, t1, t2, c2, g3, hFT, hT⟩ off2 t' h3 tk3 F₃ N₃
      rw [canon3 g1 g2 g3] at F₃
      generalize hy9 : (0 : Int) + (j : Int) = y at F₃
      obtain ⟨hyj, y0, yk, hyn, y4, y63, hji, hji'⟩ := in_facts hi hki hj hy9
      obtain ⟨mo1, mo2⟩ := accm_ok hki hi y0 yk
      have ot := acc_ok (j := j) hki hi hji'
      obtain ⟨Bk, b1, b2, bc, ev, hB, hBl⟩ := hn j (hv ▸ hji)
      rw [← hyn] at ev hB
      have hN2 := hs2 _ (.tail _ (.head _))
      have hB2 := hs2 _ (.tail _ (.tail _ hB))
      clear hF hNw hR
      k_steps
      rename Fr _ _ _ _ => hF9
      rename News _ _ _ _ => hN9
      rw [acc_step hyj] at hN9
      rename _ ∧ _ ∧ _ ∧ AllLt _ _ => hl9
      obtain ⟨q1, q2, q3, q4⟩ := hl9
      refine TP.intro3 hF9 hN9 off2 q3 ⟨by with_unfolding_all rfl, by with_unfolding_all rfl, fun q hq => .tail _ (hs2 q hq), _, _, _, _, by with_unfolding_all rfl, ktn_ltOf q4 _ hN2, List.Mem.head _⟩
abbrev RetB (news : List (Addr × Obj)) (b : Bool) (h₀ : Heap) (L : Addr) (m : Str → Option Value) (s : Shared) (Q : Value → Shared → Prop) : Prop :=
  ∀ (h' : Heap) (tk' : Nat), Fr h₀ L h' m → News h₀ L h' news → Q (.bool b) { s with heap := h', toks := tk' }
theorem retB {news : List (Addr × Obj)} {b b' : Bool} {h₀ h' : Heap} {L : Addr} {m : Str → Option Value} {s : Shared} {Q : Value → Shared → Prop} {tk' : Nat} (hret : RetB news b h₀ L m s Q) (e : b' = b) (F : Fr h₀ L h' m) (N : News h₀ L h' news) :
    Q (.bool b') { s with heap := h', toks := tk' } := by
  subst e
  exact hret h' tk' F N
set_option maxHeartbeats 4000000 in
theorem whole_c {w : World} {mean : ExcName → Option Value} {mg mb : Str → Option Value} (news : List (Addr × Obj)) (x : Int) (tx : Tok) :
    Cl w mean mg mb 185 1 8 news [.int x tx] (RetB news true) := by
  dsimp only [Cl, RetI, RetB]
  k_fill
  intro dp un gd cn cs a ccd cl outer A₀ base h₀ L m s Q E B F X N T hk hd hu hret
  refine wpAny_call ?_
  k_dflt cell_enter
  k_steps
  refine retB hret ?_ ?_ ?_
  all_goals first | (with_reducible assumption) | rfl | assumption
theorem whole_u {w : World} {mean : ExcName → Option Value} {mg mb : Str → Option Value} {news : List (Addr × Obj)} {x : Int} {tx : Tok} : Cl w mean mg mb 185 1 8 news [.int x tx] (RetB news true) := whole_c news x tx
theorem two31 : (1 : Int) * 2 ^ ((32 : Int) - 1).toNat = 2147483648 := by decide
theorem fits_hi {x : Int} (h : x < 2147483648) : decide (x < 1 * 2 ^ ((32 : Int) - 1).toNat) = true := by rw [two31]; exact decide_eq_true h
theorem fits_lo {x : Int} (h : -2147483648 ≤ x) : decide (-(1 * 2 ^ ((32 : Int) - 1).toNat) ≤ x) = true := by rw [two31]; exact decide_eq_true h
theorem one_pow' {x p : Int} (x0 : 0 ≤ x) (p1 : 1 ≤ p) (h : (if x < 0 then -x else x) < 2) : x = x ^ p.toNat := by
  have hx : x = 0 ∨ x = 1 := by split at h <;> omega
  obtain ⟨q, hq⟩ : ∃ q : Nat, p.toNat = q + 1 := ⟨p.toNat - 1, by omega⟩
  rw [hq]
  rcases hx with rfl | rfl
  · rw [Int.pow_succ, Int.mul_zero]
  · exact Int.one_pow.symm
theorem one_pow2 {x p : Int} (x0 : 0 ≤ x) (p1 : 1 ≤ p) (h : (if x < 0 then -x else x) < 2) : (if x < 0 then -x else x) = x ^ p.toNat := by
  rw [if_neg (by omega)]
  exact one_pow' x0 p1 h
set_option maxHeartbeats 4000000 in
theorem fits_c {w : World} {mean : ExcName → Option Value} {mg mb : Str → Option Value} (news : List (Addr × Obj)) (x : Int) (tx tb : Tok) (lo : -2147483648 ≤ x) (hi : x < 2147483648) :
    Cl w mean mg mb 100 1 8 news [.int x tx, .int 32 tb] (RetB news true) := by
  dsimp only [Cl, RetI, RetB]
  k_fill
  intro dp un gd cn cs a ccd cl outer A₀ base h₀ L m s Q E B F X N T hk hd hu hret
  refine wpAny_call ?_
  k_dflt cell_enter
  k_steps
  all_goals refine retB hret ?_ ?_ ?_
  all_goals first | exact fits_hi hi | exact fits_lo lo | (with_reducible assumption) | assumption
theorem fits_u {w : World} {mean : ExcName → Option Value} {mg mb : Str → Option Value} {news : List (Addr × Obj)} {x : Int} {tx tb : Tok} (lo : -2147483648 ≤ x := by assumption) (hi : x < 2147483648 := by assumption) : Cl w mean mg mb 100 1 8 news [.int x tx, .int 32 tb] (RetB news true) := fits_c news x tx tb lo hi
local macro_rules | `(tactic| walk_at "call ref") => `(tactic| (k_here; k_dflt (refine Cl.use (C := fits_u) (ret := ?_)); walk_at "cl bool"))
local macro_rules | `(tactic| walk_at "call ref") => `(tactic| (k_here; k_dflt (refine Cl.use (C := whole_u) (ret := ?_)); walk_at "cl bool"))
set_option maxHeartbeats 4000000 in
theorem settled_c {w : World} {mean : ExcName → Option Value} {mg mb : Str → Option Value} (news : List (Addr × Obj)) (x : Int) (tx tb td : Tok) (lo : -2147483648 ≤ x) (hi : x < 2147483648) :
    Cl w mean mg mb 192 2 16 news [.int x tx, .int 32 tb, .int 9 td] (RetI news x) := by
  dsimp only [Cl, RetI, RetB]
  k_fill
  intro dp un gd cn cs a ccd cl outer A₀ base h₀ L m s Q E B F X N T hk hd hu hret
  refine wpAny_call ?_
  k_dflt cell_enter
  k_steps
  all_goals refine cb_retI hret ?_ ?_ ?_
  all_goals first | (with_reducible assumption) | rfl | assumption | exact cb_drop (by assumption) (fun p hp => .tail _ hp)
theorem settled_u {w : World} {mean : ExcName → Option Value} {mg mb : Str → Option Value} {news : List (Addr × Obj)} {x : Int} {tx tb td : Tok} (lo : -2147483648 ≤ x := by assumption) (hi : x < 2147483648 := by assumption) : Cl w mean mg mb 192 2 16 news [.int x tx, .int 32 tb, .int 9 td] (RetI news x) := settled_c news x tx tb td lo hi
set_option maxHeartbeats 4000000 in
theorem expo_c {w : World} {mean : ExcName → Option Value} {mg mb : Str → Option Value} (news : List (Addr × Obj)) (x : Int) (tx : Tok) :
    Cl w mean mg mb 220 2 16 news [.int x tx] (RetI news x) := by
  dsimp only [Cl, RetI, RetB]
  k_fill
  intro dp un gd cn cs a ccd cl outer A₀ base h₀ L m s Q E B F X N T hk hd hu hret
  refine wpAny_call ?_
  k_dflt cell_enter
  k_steps
  all_goals refine cb_retI hret ?_ ?_ ?_
  all_goals first | (with_reducible assumption) | rfl | assumption | exact cb_drop (by assumption) (fun p hp => .tail _ hp)
theorem expo_u {w : World} {mean : ExcName → Option Value} {mg mb : Str → Option Value} {news : List (Addr × Obj)} {x : Int} {tx : Tok} : Cl w mean mg mb 220 2 16 news [.int x tx] (RetI news x) := expo_c news x tx
local macro_rules | `(tactic| walk_at "call ref") => `(tactic| (k_here; k_dflt (refine Cl.use (C := settled_u) (ret := ?_)); walk_at "cl int"))
local macro_rules | `(tactic| walk_at "call ref") => `(tactic| (k_here; k_dflt (refine Cl.use (C := expo_u) (ret := ?_)); walk_at "cl int"))
set_option maxHeartbeats 4000000 in
theorem wadd_c {w : World} {mean : ExcName → Option Value} {mg mb : Str → Option Value} (news : List (Addr × Obj)) (x y : Int) (to tx ty tb td : Tok) (lo : -2147483648 ≤ x + y) (hi : x + y < 2147483648) :
    Cl w mean mg mb 199 3 24 news [.str (Str.ofString "+") to, .int x tx, .int y ty, .int 32 tb, .int 9 td] (RetI news (x + y)) := by
  dsimp only [Cl, RetI, RetB]
  k_fill
  intro dp un gd cn cs a ccd cl outer A₀ base h₀ L m s Q E B F X N T hk hd hu hret
  refine wpAny_call ?_
  k_dflt cell_enter
  k_steps
  all_goals refine cb_retI hret ?_ ?_ ?_
  all_goals first | (with_reducible assumption) | rfl | assumption | exact cb_drop (by assumption) (fun p hp => .tail _ hp)
theorem wadd_u {w : World} {mean : ExcName → Option Value} {mg mb : Str → Option Value} {news : List (Addr × Obj)} {x y : Int} {to tx ty tb td : Tok} (lo : -2147483648 ≤ x + y := by assumption) (hi : x + y < 2147483648 := by assumption) : Cl w mean mg mb 199 3 24 news [.str (Str.ofString "+") to, .int x tx, .int y ty, .int 32 tb, .int 9 td] (RetI news (x + y)) := wadd_c news x y to tx ty tb td lo hi
local macro_rules | `(tactic| walk_at "call ref") => `(tactic| (k_here; k_dflt (refine Cl.use (C := wadd_u) (ret := ?_)); walk_at "cl int"))
set_option maxHeartbeats 4000000 in
theorem power_c {w : World} {mean : ExcName → Option Value} {mg mb : Str → Option Value} (news : List (Addr × Obj)) (x p : Int) (tx tp tb td : Tok) (x0 : 0 ≤ x) (x8 : x ≤ 8) (p1 : 1 ≤ p) (p4 : p ≤ 4) (lo : -2147483648 ≤ x ^ p.toNat) (hi : x ^ p.toNat < 2147483648) :
    Cl w mean mg mb 227 3 24 news [.int x tx, .int p tp, .int 32 tb, .int 9 td] (RetI news (x ^ p.toNat)) := by
  dsimp only [Cl, RetI, RetB]
  k_fill
  intro dp un gd cn cs a ccd cl outer A₀ base h₀ L m s Q E B F X N T hk hd hu hret
  refine wpAny_call ?_
  k_dflt cell_enter
  k_steps
  all_goals refine cb_retI hret ?_ ?_ ?_
  all_goals first | (with_reducible assumption) | exact one_pow' x0 p1 (by assumption) | exact one_pow2 x0 p1 (by assumption) | rfl | assumption | (exfalso; omega)
theorem power_u {w : World} {mean : ExcName → Option Value} {mg mb : Str → Option Value} {news : List (Addr × Obj)} {x p : Int} {tx tp tb td : Tok} (x0 : 0 ≤ x := by first | assumption | omega) (x8 : x ≤ 8 := by first | assumption | omega) (p1 : 1 ≤ p := by first | assumption | omega) (p4 : p ≤ 4 := by first | assumption | omega) (lo : -2147483648 ≤ x ^ p.toNat := by assumption) (hi : x ^ p.toNat < 2147483648 := by assumption) : Cl w mean mg mb 227 3 24 news [.int x tx, .int p tp, .int 32 tb, .int 9 td] (RetI news (x ^ p.toNat)) := power_c news x p tx tp tb td x0 x8 p1 p4 lo hi
local macro_rules | `(tactic| walk_at "call ref") => `(tactic| (k_here; k_dflt (refine Cl.use (C := power_u) (ret := ?_)); walk_at "cl int"))
set_option maxHeartbeats 4000000 in
theorem raised_c {w : World} {mean : ExcName → Option Value} {mg mb : Str → Option Value} (news : List (Addr × Obj)) (x p : Int) (tx tp tb td : Tok) (x0 : 0 ≤ x) (x8 : x ≤ 8) (p1 : 1 ≤ p) (p4 : p ≤ 4) (lo : -2147483648 ≤ x ^ p.toNat) (hi : x ^ p.toNat < 2147483648) :
    Cl w mean mg mb 234 4 32 news [.int x tx, .int p tp, .int 32 tb, .int 9 td] (RetI news (x ^ p.toNat)) := by
  dsimp only [Cl, RetI, RetB]
  k_fill
  intro dp un gd cn cs a ccd cl outer A₀ base h₀ L m s Q E B F X N T hk hd hu hret
  refine wpAny_call ?_
  k_dflt cell_enter
  k_steps
  all_goals refine cb_retI hret ?_ ?_ ?_
  all_goals first | (with_reducible assumption) | rfl | assumption | exact cb_drop (by assumption) (fun p hp => .tail _ hp)
theorem raised_u {w : World} {mean : ExcName → Option Value} {mg mb : Str → Option Value} {news : List (Addr × Obj)} {x p : Int} {tx tp tb td : Tok} (x0 : 0 ≤ x := by first | assumption | omega) (x8 : x ≤ 8 := by first | assumption | omega) (p1 : 1 ≤ p := by first | assumption | omega) (p4 : p ≤ 4 := by first | assumption | omega) (lo : -2147483648 ≤ x ^ p.toNat := by assumption) (hi : x ^ p.toNat < 2147483648 := by assumption) : Cl w mean mg mb 234 4 32 news [.int x tx, .int p tp, .int 32 tb, .int 9 td] (RetI news (x ^ p.toNat)) := raised_c news x p tx tp tb td x0 x8 p1 p4 lo hi
local macro_rules | `(tactic| walk_at "call ref") => `(tactic| (k_here; k_dflt (refine Cl.use (C := raised_u) (ret := ?_)); walk_at "cl int"))
theorem pow_small {x p : Int} (x0 : 0 ≤ x) (x8 : x ≤ 8) (p1 : 1 ≤ p) (p4 : p ≤ 4) : 0 ≤ x ^ p.toNat ∧ x ^ p.toNat ≤ 4096 := by
  obtain ⟨y, rfl⟩ := Int.eq_ofNat_of_zero_le x0
  obtain ⟨q, rfl⟩ := Int.eq_ofNat_of_zero_le (show 0 ≤ p by omega)
  have h : ((List.range 9).all fun y => (List.range 5).all fun q => decide ((0 : Int) ≤ (y : Int) ^ q ∧ (y : Int) ^ q ≤ 4096)) = true := by decide +kernel
  have := List.all_eq_true.mp (List.all_eq_true.mp h y (List.mem_range.mpr (by omega))) q (List.mem_range.mpr (by omega))
  simpa using this
set_option maxHeartbeats 4000000 in
theorem rpow_c {w : World} {mean : ExcName → Option Value} {mg mb : Str → Option Value} (news : List (Addr × Obj)) (x p : Int) (to tx tp tb td : Tok) (x0 : 0 ≤ x) (x8 : x ≤ 8) (p1 : 1 ≤ p) (p4 : p ≤ 4) :
    Cl w mean mg mb 241 5 40 news [.str (Str.ofString "^") to, .int x tx, .int p tp, .int 32 tb, .int 9 td] (RetI news (x ^ p.toNat)) := by
  dsimp only [Cl, RetI, RetB]
  k_fill
  intro dp un gd cn cs a ccd cl outer A₀ base h₀ L m s Q E B F X N T hk hd hu hret
  have hb9 := pow_small x0 x8 p1 p4
  have lo : -2147483648 ≤ x ^ p.toNat := by omega
  have hi : x ^ p.toNat < 2147483648 := by omega
  refine wpAny_call ?_
  k_dflt cell_enter
  k_steps
  all_goals refine cb_retI hret ?_ ?_ ?_
  all_goals first | (with_reducible assumption) | rfl | assumption | exact cb_drop (by assumption) (fun p hp => .tail _ hp)
theorem rpow_u {w : World} {mean : ExcName → Option Value} {mg mb : Str → Option Value} {news : List (Addr × Obj)} {x p : Int} {to tx tp tb td : Tok} (x0 : 0 ≤ x := by first | assumption | omega) (x8 : x ≤ 8 := by first | assumption | omega) (p1 : 1 ≤ p := by first | assumption | omega) (p4 : p ≤ 4 := by first | assumption | omega) : Cl w mean mg mb 241 5 40 news [.str (Str.ofString "^") to, .int x tx, .int p tp, .int 32 tb, .int 9 td] (RetI news (x ^ p.toNat)) := rpow_c news x p to tx tp tb td x0 x8 p1 p4
set_option maxHeartbeats 4000000 in
theorem radd_c {w : World} {mean : ExcName → Option Value} {mg mb : Str → Option Value} (news : List (Addr × Obj)) (x y : Int) (to tx ty tb td : Tok) (lo : -2147483648 ≤ x + y) (hi : x + y < 2147483648) :
    Cl w mean mg mb 241 5 40 news [.str (Str.ofString "+") to, .int x tx, .int y ty, .int 32 tb, .int 9 td] (RetI news (x + y)) := by
  dsimp only [Cl, RetI, RetB]
  k_fill
  intro dp un gd cn cs a ccd cl outer A₀ base h₀ L m s Q E B F X N T hk hd hu hret
  refine wpAny_call ?_
  k_dflt cell_enter
  k_steps
  all_goals refine cb_retI hret ?_ ?_ ?_
  all_goals first | (with_reducible assumption) | rfl | assumption | exact cb_drop (by assumption) (fun p hp => .tail _ hp)

theorem radd_u {w : World} {mean : ExcName → Option Value} {mg mb : Str → Option Value} {news : List (Addr × Obj)} {x y : Int} {to tx ty tb td : Tok} (lo : -2147483648 ≤ x + y := by assumption) (hi : x + y < 2147483648 := by assumption) : Cl w mean mg mb 241 5 40 news [.str (Str.ofString "+") to, .int x tx, .int y ty, .int 32 tb, .int 9 td] (RetI news (x + y)) := radd_c news x y to tx ty tb td lo hi
local macro_rules | `(tactic| walk_at "call ref") => `(tactic| (k_here; k_dflt (refine Cl.use (C := radd_u) (ret := ?_)); walk_at "cl int"))
local macro_rules | `(tactic| walk_at "call ref") => `(tactic| (k_here; k_dflt (refine Cl.use (C := rpow_u) (ret := ?_)); walk_at "cl int"))
abbrev RetD (Bg Sl : Addr) (ws : List Value) (c2 : Nat) (sp bl : Int) (rest : List (Addr × Obj)) (h₀ : Heap) (L : Addr) (m : Str → Option Value) (s : Shared) (Q : Value → Shared → Prop) : Prop :=
  ∀ (d : Int) (t t' : Tok) (c' : Nat) (h' : Heap) (tk' : Nat), 0 ≤ d → d < bl → Fr h₀ L h' m → News h₀ L h' ((Bg, W.listOf #[.ref Sl, .int (sp + 1) t'] c') :: (Sl, W.listOf ws.toArray c2) :: rest) → Q (.int d t) { s with heap := h', toks := tk' }
local macro_rules | `(tactic| k_all) => `(tactic| assumption)
set_option maxHeartbeats 4000000 in
theorem draw_c {w : World} {mean : ExcName → Option Value} {mg mb : Str → Option Value} (rest : List (Addr × Obj)) (Bg Sl : Addr) (ws : List Value) (ns : List Int) (sp : Int) (ts : Tok) (c c2 : Nat) (bl : Int) (tb : Tok)
    (hI : IntsAre ws ns) (hl : ns.length ≤ 2) (s0 : 0 ≤ sp) (s1 : sp ≤ 1) (b0 : 1 ≤ bl) (b1 : bl ≤ 6) (hSB : @Ne Nat Sl Bg) (hr : ∀ p ∈ rest, p.1 ≠ Bg) :
    Cl w mean mg mb 248 1 8 ((Bg, W.listOf #[.ref Sl, .int sp ts] c) :: (Sl, W.listOf ws.toArray c2) :: rest) [.ref Bg, .int bl tb] (RetD Bg Sl ws c2 sp bl rest) := by
  dsimp only [Cl, RetD]
  k_fill
  intro dp un gd cn cs a ccd cl outer A₀ base h₀ L m s Q E B F X N T hk hd hu hret
  refine wpAny_call ?_
  k_dflt cell_enter
  k_steps
  all_goals exact hret _ _ _ _ _ _ (Int.fmod_nonneg_of_pos _ (by omega)) (Int.fmod_lt_of_pos _ (by omega)) (by assumption) (by assumption)
theorem draw_u {w : World} {mean : ExcName → Option Value} {mg mb : Str → Option Value} {rest : List (Addr × Obj)} {Bg Sl : Addr} {ws : List Value} {ns : List Int} {sp : Int} {ts : Tok} {c c2 : Nat} {bl : Int} {tb : Tok}
    (hI : IntsAre ws ns := by l_ints) (hl : ns.length ≤ 2 := by first | exact List.length_take_le _ _ | omega) (s0 : 0 ≤ sp := by decide) (s1 : sp ≤ 1 := by decide) (b0 : 1 ≤ bl := by decide) (b1 : bl ≤ 6 := by decide) (hSB : @Ne Nat Sl Bg := by assumption) (hr : ∀ p ∈ rest, p.1 ≠ Bg := by assumption) :
    Cl w mean mg mb 248 1 8 ((Bg, W.listOf #[.ref Sl, .int sp ts] c) :: (Sl, W.listOf ws.toArray c2) :: rest) [.ref Bg, .int bl tb] (RetD Bg Sl ws c2 sp bl rest) := draw_c rest Bg Sl ws ns sp ts c c2 bl tb hI hl s0 s1 b0 b1 hSB hr
abbrev RetN5 (news : List (Addr × Obj)) (h₀ : Heap) (L : Addr) (m : Str → Option Value) (s : Shared) (Q : Value → Shared → Prop) : Prop :=
  ∀ (Nn B0 B1 B2 B3 B4 : Addr) (c t0 u0 c0 t1 u1 c1 t2 u2 c2 t3 u3 c3 t4 u4 c4 : Nat) (h' : Heap) (tk' : Nat), Fr h₀ L h' m →
    News h₀ L h' ((Nn, W.listOf #[.ref B0, .ref B1, .ref B2, .ref B3, .ref B4] c) :: (B0, ({ cls := .type "tuple", data := .seq #[.int 1 t0, .int 1 u0] c0 } : Obj)) :: (B1, ({ cls := .type "tuple", data := .seq #[.int (-1) t1, .int 2 u1] c1 } : Obj)) :: (B2, ({ cls := .type "tuple", data := .seq #[.int 1 t2, .int 6 u2] c2 } : Obj)) :: (B3, ({ cls := .type "tuple", data := .seq #[.int 0 t3, .int 1 u3] c3 } : Obj)) :: (B4, ({ cls := .type "tuple", data := .seq #[.int (-1) t4, .int 30 u4] c4 } : Obj)) :: news) →
    (AllLt Nn news ∧ AllLt B0 news ∧ AllLt B1 news ∧ AllLt B2 news ∧ AllLt B3 news ∧ AllLt B4 news) → Q (.ref Nn) { s with heap := h', toks := tk' }
theorem five {α : Type} {vs : List α} {b0 b1 b2 b3 b4 : α} (h : vs.length = 5) (e0 : vs[0]? = some b0) (e1 : vs[1]? = some b1) (e2 : vs[2]? = some b2) (e3 : vs[3]? = some b3) (e4 : vs[4]? = some b4) : vs = [b0, b1, b2, b3, b4] :=
  List.ext_getElem? fun i => by
    rcases i with _ | _ | _ | _ | _ | i
    · exact e0
    · exact e1
    · exact e2
    · exact e3
    · exact e4
    · rw [List.getElem?_eq_none (h ▸ Nat.le_add_left 5 i)]
      rfl
theorem numbers_c5 {w : World} {mean : ExcName → Option Value} {mg mb : Str → Option Value} (news : List (Addr × Obj)) (tx : Tok) : Cl w mean mg mb 269 5 40 news [.int 4 tx] (RetN5 news) := by
  intro dp un gd cn cs a ccd cl outer A₀ base h₀ L m s Q E B F X N T hk hd hu hret
  refine numbers_c news tx dp un gd cn cs a ccd cl outer A₀ base h₀ L m s Q E B F X N T hk hd hu ?_
  intro Nn vs c rest h' tk' F' N' hv hn hs hl
  obtain ⟨B0, t0, u0, c0, e0, m0, l0⟩ := hn 0 (hv ▸ (by decide : 0 < 5))
  obtain ⟨B1, t1, u1, c1, e1, m1, l1⟩ := hn 1 (hv ▸ (by decide : 1 < 5))
  obtain ⟨B2, t2, u2, c2, e2, m2, l2⟩ := hn 2 (hv ▸ (by decide : 2 < 5))
  obtain ⟨B3, t3, u3, c3, e3, m3, l3⟩ := hn 3 (hv ▸ (by decide : 3 < 5))
  obtain ⟨B4, t4, u4, c4, e4, m4, l4⟩ := hn 4 (hv ▸ (by decide : 4 < 5))
  have hvs := five hv e0 e1 e2 e3 e4
  subst hvs
  refine hret Nn B0 B1 B2 B3 B4 c t0 u0 c0 t1 u1 c1 t2 u2 c2 t3 u3 c3 t4 u4 c4 h' tk' F' (cb_drop N' fun p hp => ?_) ⟨hl, l0, l1, l2, l3, l4⟩
  rcases List.mem_cons.mp hp with rfl | hp
  · exact .head _
  rcases List.mem_cons.mp hp with rfl | hp
  · exact .tail _ m0
  rcases List.mem_cons.mp hp with rfl | hp
  · exact .tail _ m1
  rcases List.mem_cons.mp hp with rfl | hp
  · exact .tail _ m2
  rcases List.mem_cons.mp hp with rfl | hp
  · exact .tail _ m3
  rcases List.mem_cons.mp hp with rfl | hp
  · exact .tail _ m4
  · exact .tail _ (hs p hp)
theorem pick {h₀ h : Heap} {L : Addr} {e1 e2 e3 e4 e5 e6 e7 nn b0 b1 b2 b3 b4 bg sl cl : Addr × Obj} (N : News h₀ L h [e1, e2, e3, e4, e5, e6, e7, nn, b0, b1, b2, b3, b4, bg, sl, cl]) (hb : @LT.lt Nat _ sl.1 bg.1 ∧ @LT.lt Nat _ cl.1 bg.1)
    (l9 : AllLt nn.1 [bg, sl, cl] ∧ AllLt b0.1 [bg, sl, cl] ∧ AllLt b1.1 [bg, sl, cl] ∧ AllLt b2.1 [bg, sl, cl] ∧ AllLt b3.1 [bg, sl, cl] ∧ AllLt b4.1 [bg, sl, cl]) :
    News h₀ L h [bg, sl, cl, nn, b0, b1, b2, b3, b4] ∧ (∀ p ∈ [cl, nn, b0, b1, b2, b3, b4], p.1 ≠ bg.1) ∧ @Ne Nat sl.1 bg.1 ∧ (@LT.lt Nat _ cl.1 bg.1 ∧ @LT.lt Nat _ cl.1 nn.1 ∧ @LT.lt Nat _ cl.1 b0.1 ∧ @LT.lt Nat _ cl.1 b1.1 ∧ @LT.lt Nat _ cl.1 b2.1 ∧ @LT.lt Nat _ cl.1 b3.1 ∧ @LT.lt Nat _ cl.1 b4.1) := by
  refine ⟨cb_drop N (SubL.mem (by k_subL)), fun p hp => ?_, Nat.ne_of_lt hb.1, hb.2, l9.1.2.2.1, l9.2.1.2.2.1, l9.2.2.1.2.2.1, l9.2.2.2.1.2.2.1, l9.2.2.2.2.1.2.2.1, l9.2.2.2.2.2.2.2.1⟩
  simp only [List.mem_cons, List.not_mem_nil, or_false] at hp
  rcases hp with rfl | rfl | rfl | rfl | rfl | rfl | rfl
  · exact Nat.ne_of_lt hb.2
  · exact Nat.ne_of_gt l9.1.1
  · exact Nat.ne_of_gt l9.2.1.1
  · exact Nat.ne_of_gt l9.2.2.1.1
  · exact Nat.ne_of_gt l9.2.2.2.1.1
  · exact Nat.ne_of_gt l9.2.2.2.2.1.1
  · exact Nat.ne_of_gt l9.2.2.2.2.2.1
theorem pick2 {h₀ h : Heap} {L : Addr} {e1 nn b0 b1 b2 b3 b4 bg sl cl : Addr × Obj} (N : News h₀ L h [e1, bg, sl, cl, nn, b0, b1, b2, b3, b4]) : News h₀ L h [cl, nn, b0, b1, b2, b3, b4] :=
  cb_drop N (SubL.mem (by k_subL))
theorem nums_of {news : List (Addr × Obj)} {B0 B1 B2 B3 B4 : Addr} {t0 u0 c0 t1 u1 c1 t2 u2 c2 t3 u3 c3 t4 u4 c4 : Nat}
    (m0 : (B0, ({ cls := .type "tuple", data := .seq #[.int 1 t0, .int 1 u0] c0 } : Obj)) ∈ news) (m1 : (B1, ({ cls := .type "tuple", data := .seq #[.int (-1) t1, .int 2 u1] c1 } : Obj)) ∈ news) (m2 : (B2, ({ cls := .type "tuple", data := .seq #[.int 1 t2, .int 6 u2] c2 } : Obj)) ∈ news) (m3 : (B3, ({ cls := .type "tuple", data := .seq #[.int 0 t3, .int 1 u3] c3 } : Obj)) ∈ news) (m4 : (B4, ({ cls := .type "tuple", data := .seq #[.int (-1) t4, .int 30 u4] c4 } : Obj)) ∈ news) :
    Nums news [.ref B0, .ref B1, .ref B2, .ref B3, .ref B4] := fun j hj => by
  rcases j with _ | _ | _ | _ | _ | j
  · exact ⟨B0, t0, u0, c0, rfl, m0⟩
  · exact ⟨B1, t1, u1, c1, rfl, m1⟩
  · exact ⟨B2, t2, u2, c2, rfl, m2⟩
  · exact ⟨B3, t3, u3, c3, rfl, m3⟩
  · exact ⟨B4, t4, u4, c4, rfl, m4⟩
  · exact absurd hj (Nat.not_lt.mpr (Nat.le_add_left 5 j))
def S (p : Int) : Nat → Int
  | 0 => 0
  | k + 1 => S p k + (k : Int) ^ p.toNat
def okS : Bool := (List.range 4).all fun q => (List.range 10).all fun x => decide (0 ≤ S ((q + 1 : Nat) : Int) x ∧ S ((q + 1 : Nat) : Int) x ≤ 100000) && (decide (x ≥ 9) || decide (mul (frac 1 (((q + 1 : Nat) : Int) + 1)) (tot ((q + 1 : Nat) : Int) x (q + 2)) = (S ((q + 1 : Nat) : Int) x, 1)))
theorem okS_is : okS = true := by decide +kernel
theorem S_at {q x : Nat} (hq : q < 4) (hx : x < 10) : (decide (0 ≤ S ((q + 1 : Nat) : Int) x ∧ S ((q + 1 : Nat) : Int) x ≤ 100000) && (decide (x ≥ 9) || decide (mul (frac 1 (((q + 1 : Nat) : Int) + 1)) (tot ((q + 1 : Nat) : Int) x (q + 2)) = (S ((q + 1 : Nat) : Int) x, 1)))) = true := by
  have h := okS_is
  unfold okS at h
  exact List.all_eq_true.mp (List.all_eq_true.mp h q (List.mem_range.mpr hq)) x (List.mem_range.mpr hx)
theorem S_bound {p : Int} {x : Nat} (p1 : 1 ≤ p) (p4 : p ≤ 4) (hx : x < 10) : 0 ≤ S p x ∧ S p x ≤ 100000 := by
  obtain ⟨q, rfl⟩ : ∃ q : Nat, p = ((q + 1 : Nat) : Int) := ⟨(p - 1).toNat, by omega⟩
  have h := S_at (q := q) (by omega) hx
  rw [Bool.and_eq_true, decide_eq_true_eq] at h
  exact h.1
theorem curve_is {p k : Int} {i : Nat} (p1 : 1 ≤ p) (p4 : p ≤ 4) (hk : k = i) (hi : i < 9) : mul (frac 1 (p + 1)) (tot p k (p + 1).toNat) = (S p i, 1) := by
  subst hk
  obtain ⟨q, rfl⟩ : ∃ q : Nat, p = ((q + 1 : Nat) : Int) := ⟨(p - 1).toNat, by omega⟩
  have h := S_at (q := q) (x := i) (by omega) (by omega)
  rw [Bool.and_eq_true, Bool.or_eq_true, decide_eq_true_eq, decide_eq_true_eq, decide_eq_true_eq] at h
  exact h.2.resolve_left (by omega)
theorem law_facts {d1 d2 : Int} (dl1 : 0 ≤ d1) (dh1 : d1 < 4) (dl2 : 0 ≤ d2) (dh2 : d2 < 6) : 1 ≤ 1 + d1 ∧ 1 + d1 ≤ 4 ∧ Builtin.Range.small 0 (3 + d2 + 1) 1 = true ∧ Builtin.Range.rangeSize 0 (3 + d2 + 1) 1 = (((3 + d2 + 1).toNat : Nat) : Int) ∧ (3 + d2 + 1).toNat ≤ sizeLine :=
  ⟨by omega, by omega, small_one (by omega) (by omega) (by omega) (by omega), range_size (by omega), by rw [sizeLine_eq]; omega⟩
theorem turn_facts {d1 d2 k : Int} {i : Nat} (p1 : 1 ≤ 1 + d1) (p4 : 1 + d1 ≤ 4) (dh2 : d2 < 6) (hi : i < (3 + d2 + 1).toNat) (hk : (0 : Int) + (i : Int) = k) :
    i < 9 ∧ k = (i : Int) ∧ 0 ≤ k ∧ k ≤ 8 ∧ -2147483648 ≤ S (1 + d1) i + k ^ (1 + d1).toNat ∧ S (1 + d1) i + k ^ (1 + d1).toNat < 2147483648 := by
  have h9 : i < 9 := by omega
  have k0 : 0 ≤ k := by omega
  have k8 : k ≤ 8 := by omega
  have hS := S_bound (x := i) p1 p4 (by omega)
  have hP := pow_small k0 k8 p1 p4
  exact ⟨h9, by omega, k0, k8, by omega, by omega⟩
theorem sum_is (p : Int) (n : Nat) : (List.map (fun k : Int => k ^ p.toNat) (rangeKs 0 n)).sum = S p n := by
  induction n with
  | zero => rfl
  | succ n ih =>
    have e : rangeKs 0 (n + 1) = rangeKs 0 n ++ [(n : Int)] := by
      unfold rangeKs
      rw [List.range_succ, List.map_append]
      simp
    rw [e, List.map_append, List.sum_append, ih]
    simp [S]
theorem S_step {p k : Int} {i : Nat} (hk : k = i) : S p i + k ^ p.toNat = S p (i + 1) := by
  subst hk
  rfl
theorem curve_u {w : World} {mean : ExcName → Option Value} {mg mb : Str → Option Value} {news : List (Addr × Obj)} {Nn : Addr} {vs : List Value} {cN : Nat} {p x : Int} {tp tx : Tok} (hN : (Nn, W.listOf vs.toArray cN) ∈ news := by (repeat (first | assumption | exact List.Mem.head _ | refine List.Mem.tail _ ?_))) (hv : Nums news vs := by exact nums_of (by k_mem) (by k_mem) (by k_mem) (by k_mem) (by k_mem)) (hl : vs.length = 5 := by rfl) (p1 : 1 ≤ p := by assumption) (p4 : p ≤ 4 := by assumption) (x0 : 0 ≤ x := by assumption) (x8 : x ≤ 8 := by assumption) :
    Cl w mean mg mb 276 5 40 news [.ref Nn, .int p tp, .int x tx] (RetP news (mul (frac 1 (p + 1)) (tot p x (p + 1).toNat))) := curve_c news Nn vs cN p x tp tx hN hv hl p1 p4 x0 x8
local macro_rules | `(tactic| walk_at "call ref") => `(tactic| (k_here; (with_reducible show wpAny _ _ (call (Value.ref 269) _) _ _ _); refine Hold.mk' ?_))
local macro_rules | `(tactic| walk_at "call ref") => `(tactic| (k_here; (with_reducible show wpAny _ _ (call (Value.ref 248) _) _ _ _); refine Hold.mk' ?_))
local macro_rules | `(tactic| walk_at "call ref") => `(tactic| (k_here; (with_reducible show wpAny _ _ (call (Value.ref 276) _) _ _ _); refine Hold.mk' ?_))
local macro_rules | `(tactic| walk_at "eval ListComp") => `(tactic| refine Hold.mk' ?_)
local macro_rules | `(tactic| walk_at "CompEnd") => `(tactic| refine Hold.mk' ?_)
local macro_rules | `(tactic| walk_at "compareOp Eq int int") => `(tactic| refine Hold.mk' ?_)
local macro_rules | `(tactic| walk_at "CompSrc") => `(tactic| refine Hold.mk' ?_)
set_option maxRecDepth 100000 in
set_option maxHeartbeats 8000000 in
theorem law_holds : PySem.Challenge.rw_xm0064_01.Holds := Mine.hd (by
  k_go0
  all_goals try k_fold
  k_steps
  refine Hold.out ?_
  rename @LT.lt Nat _ _ _ ∧ _ => hbag
  k_dflt (refine Cl.use (C := numbers_c5 _ _) (ret := ?_))
  intro Nn B0 B1 B2 B3 B4 cN t0 u0 c0 t1 u1 c1 t2 u2 c2 t3 u3 c3 t4 u4 c4 h9 tk9 F9 N9 l9
  try dsimp only
  try k_fold
  k_steps
  refine Hold.out ?_
  rename News _ _ _ _ => hN
  obtain ⟨hN2, hrest, hSB, hcl⟩ := pick hN hbag l9
  clear hN
  revert hcl
  repeat (rename @LT.lt Nat _ _ _ ∧ _ => hx9; clear hx9)
  intro hcl
  k_dflt (refine Cl.use (C := draw_u) (ret := ?_))
  intro d1 td1 tb1 cb1 hd1 tkd1 dl1 dh1 Fd1 Nd1
  try dsimp only
  try k_fold
  k_steps
  refine Hold.out ?_
  k_dflt (refine Cl.use (C := draw_u) (ret := ?_))
  intro d2 td2 tb2 cb2 hd2 tkd2 dl2 dh2 Fd2 Nd2
  try dsimp only
  try k_fold
  k_steps
  refine Hold.out ?_
  rename IsRange _ _ _ _ _ _ _ _ => hR
  rename Fr _ _ _ _ => hF
  rename News _ _ _ _ => hNw
  have hNp := pick2 hNw
  obtain ⟨p1, p4, hsm, hrs, hsl⟩ := law_facts dl1 dh1 dl2 dh2
  refine rr_start2 (3 + d2 + 1).toNat (fun _ i m => m (Str.ofString "numbers") = some (.ref Nn) ∧ (∃ t, m (Str.ofString "most") = some (.int (3 + d2) t)) ∧ ∃ t, m (Str.ofString "total") = some (.int (S (1 + d1) i) t)) hR rfl hsm hrs hF hNp ?start ?turn ?done
  case start => exact ⟨by with_unfolding_all rfl, ⟨_, by with_unfolding_all rfl⟩, ⟨_, by with_unfolding_all rfl⟩⟩
  case turn =>
    rintro I lI i mm hi ⟨e1, ⟨tm, e2⟩, ⟨tt, e3⟩⟩ t h tk F₁ N₁
    rw [canon3 e1 e2 e3] at F₁
    generalize hk9 : (0 : Int) + (i : Int) = k at F₁
    obtain ⟨hi9, hki, k0, k8, lo, hi2⟩ := turn_facts p1 p4 dh2 hi hk9
    clear hF hNw hR hNp
    k_steps
    refine Hold.out ?_
    k_dflt (refine Cl.use (C := curve_u) (ret := ?_))
    intro Dc tc1 tc2 cc hc tkc Fc Nc lc
    rw [curve_is p1 p4 hki hi9] at Nc
    dsimp only at Nc
    try simp only [AllLt, and_true] at lc
    try dsimp only
    try k_fold
    k_steps
    rename Fr _ _ _ _ => hF9
    rename News _ _ _ _ => hN9
    rw [S_step hki] at hF9
    exact tp_keep hF9 hN9 (fun p hp => .tail _ (.tail _ hp)) lI ⟨by with_unfolding_all rfl, ⟨_, by with_unfolding_all rfl⟩, ⟨_, by with_unfolding_all rfl⟩⟩
  case done =>
    rintro mm ⟨e1, ⟨tm, e2⟩, ⟨tt, e3⟩⟩ h tk F₁ N₁
    rw [canon3 e1 e2 e3] at F₁
    clear hF hNw hR hNp
    dsimp only
    k_steps
    refine Hold.out ?_
    k_dflt (refine LCg.ListComp_U (F₀ := by k_asm) (by with_unfolding_all rfl) (by decide) (by rfl) (by decide) (by rfl) ?_)
    k_steps
    refine Hold.out ?_
    rename IsRange _ _ _ _ _ _ _ _ => hR
    k_dflt (refine LCg.CompSrc.range (by rfl) (by k_asm) (by k_asm) hR hsm hrs hsl ?_)
    intro g9
    refine kcf_range (fun k => k ^ (1 + d1).toNat) ?cturn ?cfin
    case cturn =>
      intro k' t' I' oI' C' oC' D' m' ys' h' tk' E' hlo' hhi' hC' hx' F' N' off' ne' hMark'
      have ne2 := Hold.out ne'
      clear ne'
      k_steps
      refine Hold.out ?_
      exact LCg.CompEnd.intro (by assumption) (by assumption) _ (fun _ hp => hp) off' trivial ⟨rfl, _, rfl⟩
    case cfin =>
      refine fun ys hys => ?_
      intro D9 h9 tk9 F9 N9 off9
      try dsimp only
      k_steps
      refine Hold.out ?_
      rw [sum_is]
      refine eq_int ?_
      rw [beq_self_eq_true]
      k_steps)
end Mine
theorem PySem.Challenge.cw_xm0064_01_holds : PySem.Challenge.rw_xm0064_01.Holds :=
  Mine.law_holds
#print axioms PySem.Challenge.cw_xm0064_01_holds
