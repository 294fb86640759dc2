import PyProof.Rows.All
import Wide.All
import OpenK.AllK
import Wide.FinOn
import PySem.Challenge.RW_og0140_01
open PySem PySem.W PyProof.Rows PySem.Spec PySem.Calls
set_option Elab.async false
namespace Og
set_option maxRecDepth 100000 in
set_option maxHeartbeats 8000000 in
open_top hd for PySem.Challenge.rw_og0140_01
section OgDraw

abbrev penObj (li : Addr) (spot : Int) (t1 : Tok) (gr : Int) (t2 : Tok) (n : Nat) : Obj := listOf [Value.ref li, Value.int spot t1, Value.int gr t2].toArray n

def DrawPost (h₀ : Heap) (L : Addr) (m : Str → Option Value) (s : Shared) (lp li e0 : Addr) (o0 : Obj) (items : Array Value) (n2 : Nat) (spot many : Int) (v : Value) (s' : Shared) : Prop :=
  ∃ (r spot' gr' : Int) (t u1 u2 : Tok) (n' : Nat) (h' : Heap) (tk' : Nat), v = .int r t ∧ s' = { s with heap := h', toks := tk' } ∧ 0 ≤ r ∧ r < many ∧ 0 ≤ spot' ∧ spot' ≤ spot + 1 ∧ 0 ≤ gr' ∧ Fr h₀ L h' m ∧ News h₀ L h' [(lp, penObj li spot' u1 gr' u2 n'), (li, listOf items n2), (e0, o0)]

def DrawSpec (prog : Program) (w : World) (K : Frag) (p : Program) (loose : List Str) (mean : ExcName → Option Value) (mg mb : Str → Option Value) (f : Addr) : Prop :=
  ∀ (dp un : Nat) (gd : Option (List Code)) (cn : Str) (cs : Scope) (a : Addr) (ccd : Value) (cl : List (Str × Addr)) (outer : List Env) (A₀ : Around) (base h₀ : Heap) (L : Addr) (m : Str → Option Value) (s : Shared)
    (lp li e0 : Addr) (o0 : Obj) (items : List Value) (ns : List Int) (n1 n2 : Nat) (spot gr many : Int) (t1 t2 tm : Tok),
    Below A₀ base outer h₀ → Fr h₀ L s.heap m → K.In h₀ → News h₀ L s.heap [(lp, penObj li spot t1 gr t2 n1), (li, listOf items.toArray n2), (e0, o0)] → @LT.lt Nat _ li lp → @Ne Nat e0 lp →
    Top p loose mean mg mb h₀ → cs.kind = .function → IntsAre items ns → ns.length ≤ 63 → 0 ≤ spot → spot ≤ 100 → 0 ≤ gr → 0 < many → many < 100000 → dp + 1 < recursionLimit → un + 200 < cLine →
    wpAny (model prog w) (ktrTop dp un gd cn cs L a ccd cl outer) (call (.ref f) [.ref lp, .int many tm]) (DrawPost h₀ L m s lp li e0 o0 items.toArray n2 spot many) (fun _ _ => False) s

/-- a branch met again: one name of the frame holds an int -/
def JoinI (x : Str) (g : Heap) (L : Addr) (m : Str → Option Value) (news : List (Addr × Obj)) (s s' : Shared) : Prop :=
  ∃ (c : Int) (t : Tok) (h' : Heap) (tk : Nat), s' = { s with heap := h', toks := tk } ∧ Fr g L h' (fun y => if y = x then some (.int c t) else m y) ∧ News g L h' news
theorem cut_i {M : Model} {A : Around} {E : Value → Shared → Prop} {Q : Flow → Shared → Prop} {st : Stmt} {rest : List Stmt} {env : Env} {g : Heap} {L : Addr} {m : Str → Option Value} {news : List (Addr × Obj)} {s : Shared} (x : Str)
    (_F : Fr g L s.heap m) (_N : News g L s.heap news)
    (h1 : wpAny M A (exec st env) (fun f s' => match f with | .next => JoinI x g L m news s s' | f => Q f s') E s)
    (h2 : ∀ (c : Int) (t : Tok) (h' : Heap) (tk : Nat), Fr g L h' (fun y => if y = x then some (.int c t) else m y) → News g L h' news → wpAny M A (execs rest env) Q E { s with heap := h', toks := tk }) :
    wpAny M A (execs (st :: rest) env) Q E s := by
  refine wpAny_execs_cons (wpAny_mono h1 (fun f s' q => ?_) fun _ _ e => e)
  cases f with
  | next =>
    obtain ⟨c, t, h', tk, rfl, F, N⟩ := q
    exact h2 c t h' tk F N
  | _ => exact q
theorem joinI_same {x : Str} {g h : Heap} {L : Addr} {m : Str → Option Value} {news news' : List (Addr × Obj)} {s : Shared} {tk : Nat} {c : Int} {t : Tok} {s' : Shared} (es : s' = { s with heap := h, toks := tk }) (F : Fr g L h m) (e : m x = some (.int c t)) (N : News g L h news') (hs : ∀ p ∈ news, p ∈ news') :
    JoinI x g L m news s s' := by
  refine ⟨c, t, h, tk, es, ?_, fun p hp => N p (hs p hp)⟩
  have : (fun y => if y = x then some (.int c t) else m y) = m := by
    funext y
    by_cases hy : y = x
    · rw [if_pos hy, hy, e]
    · rw [if_neg hy]
  rw [this]
  exact F
theorem joinI_new {x : Str} {g h : Heap} {L : Addr} {m : Str → Option Value} {news news' : List (Addr × Obj)} {s : Shared} {tk : Nat} {c : Int} {t : Tok} {s' : Shared} (es : s' = { s with heap := h, toks := tk }) (F : Fr g L h (fun y => if y = x then some (.int c t) else m y)) (N : News g L h news') (hs : ∀ p ∈ news, p ∈ news') :
    JoinI x g L m news s s' := ⟨c, t, h, tk, es, F, fun p hp => N p (hs p hp)⟩
/-- a branch met again: nothing of the frame is turned -/
def JoinN (g : Heap) (L : Addr) (m : Str → Option Value) (news : List (Addr × Obj)) (s s' : Shared) : Prop :=
  ∃ (h' : Heap) (tk : Nat), s' = { s with heap := h', toks := tk } ∧ Fr g L h' m ∧ News g L h' news
theorem cut_n {M : Model} {A : Around} {E : Value → Shared → Prop} {Q : Flow → Shared → Prop} {st : Stmt} {rest : List Stmt} {env : Env} {g : Heap} {L : Addr} {m : Str → Option Value} {news : List (Addr × Obj)} {s : Shared}
    (_F : Fr g L s.heap m) (_N : News g L s.heap news)
    (h1 : wpAny M A (exec st env) (fun f s' => match f with | .next => JoinN g L m news s s' | f => Q f s') E s)
    (h2 : ∀ (h' : Heap) (tk : Nat), Fr g L h' m → News g L h' news → wpAny M A (execs rest env) Q E { s with heap := h', toks := tk }) :
    wpAny M A (execs (st :: rest) env) Q E s := by
  refine wpAny_execs_cons (wpAny_mono h1 (fun f s' q => ?_) fun _ _ e => e)
  cases f with
  | next =>
    obtain ⟨h', tk, rfl, F, N⟩ := q
    exact h2 h' tk F N
  | _ => exact q
theorem joinN_end {g h : Heap} {L : Addr} {m : Str → Option Value} {news news' : List (Addr × Obj)} {s : Shared} {tk : Nat} {s' : Shared} (es : s' = { s with heap := h, toks := tk }) (F : Fr g L h m) (N : News g L h news') (hs : ∀ p ∈ news, p ∈ news') :
    JoinN g L m news s s' := ⟨h, tk, es, F, fun p hp => N p (hs p hp)⟩

local macro_rules | `(tactic| walk_at "compareOp NotEq ref ref") => `(tactic| (k_here; (with_reducible show wpAny _ _ (compareOp CmpOp.NotEq (Value.ref _) (Value.ref _)) _ _ _); k_dflt (refine' ke_ne_ints ?k1 ?k2 ?k3 ?k4 ?k5 ?_; (case k1 => is_list); (case k2 => is_list); (case k3 => assumption); (case k4 => first | exact IntsAre.nil | l_ints); (case k5 => ktr_units); k_whole)))
local macro_rules | `(tactic| walk_at "JoinI") => `(tactic| first
  | exact joinI_new rfl (by assumption) (by assumption) (by kcj_all)
  | exact joinI_same rfl (by assumption) (by exact rfl) (by assumption) (by kcj_all))
local macro_rules | `(tactic| walk_at "JoinN") => `(tactic| exact joinN_end rfl (by assumption) (by assumption) (by kcj_all))
theorem drawPost_intro {h₀ : Heap} {L : Addr} {m : Str → Option Value} {s : Shared} {lp li e0 : Addr} {o0 : Obj} {items : Array Value} {n2 : Nat} {spot many r spot' gr' : Int} {t u1 u2 : Tok} {n' : Nat} {h' : Heap} {tk' : Nat} {news : List (Addr × Obj)}
    {v : Value} {s' : Shared} (ev : v = .int r t) (es : s' = { s with heap := h', toks := tk' }) (F : Fr h₀ L h' m) (N : News h₀ L h' news) (hs : ∀ p ∈ [(lp, penObj li spot' u1 gr' u2 n'), (li, listOf items n2), (e0, o0)], p ∈ news) (hr : 0 ≤ r ∧ r < many) (h1 : 0 ≤ spot' ∧ spot' ≤ spot + 1) (hg : 0 ≤ gr') :
    DrawPost h₀ L m s lp li e0 o0 items n2 spot many v s' :=
  ⟨r, spot', gr', t, u1, u2, n', h', tk', ev, es, hr.1, hr.2, h1.1, h1.2, hg, F, fun p hp => N p (hs p hp)⟩
theorem fmod_in (x : Int) {m : Int} (h : 0 < m) : 0 ≤ Int.fmod x m ∧ Int.fmod x m < m := ⟨Int.fmod_nonneg_of_pos x h, Int.fmod_lt_of_pos x h⟩
theorem len_ne_of {ns : List Int} (h : decide (ns = []) = false) : (ns.length : Int) ≠ 0 := by
  intro e
  have : ns = [] := List.length_eq_zero_iff.mp (by omega)
  rw [this] at h
  cases h
local macro_rules | `(tactic| walk_at "binaryOp Mod int int") => `(tactic| ((have hne9 := len_ne_of (by assumption)); refine mod_int' hne9 ?_))
theorem base1 (c : Int) {spot : Int} (h0 : 0 ≤ spot) (h1 : spot ≤ 100) : (Int.fmod c 2147483587 + 90007 * spot + 6007).natAbs < 2 ^ 64 := by
  have := fmod_in c (m := 2147483587) (by decide)
  omega
theorem base2 (c : Int) {spot : Int} (h0 : 0 ≤ spot) (h1 : spot ≤ 100) : (Int.fmod c 2147483629 * (2 * spot + 3011) + 701 * spot * spot + 37).natAbs < 2 ^ 64 := by
  have h := fmod_in c (m := 2147483629) (by decide)
  have a1 : Int.fmod c 2147483629 * (2 * spot + 3011) ≤ 2147483629 * 3211 := Int.mul_le_mul (by omega) (by omega) (by omega) (by decide)
  have a0 : 0 ≤ Int.fmod c 2147483629 * (2 * spot + 3011) := Int.mul_nonneg h.1 (by omega)
  have b1 : 701 * spot * spot ≤ 70100 * 100 := Int.mul_le_mul (by omega) h1 h0 (by decide)
  have b0 : 0 ≤ 701 * spot * spot := Int.mul_nonneg (by omega) h0
  omega
local macro_rules | `(tactic| walk_at "binaryOp Pow int int") => `(tactic| (refine pow_int_small ?a ?b ?c ?_; (case a => decide); (case b => decide); (case c => first | exact base1 _ (by assumption) (by assumption) | exact base2 _ (by assumption) (by assumption))))
local macro_rules | `(tactic| walk_at "DrawPost") => `(tactic| exact drawPost_intro rfl rfl (by assumption) (by assumption) (by kcj_all) (by exact fmod_in _ (by assumption)) (by exact ⟨by omega, by omega⟩) (by first | assumption | exact Int.fdiv_nonneg (by first | assumption | omega) (by omega)))
set_option maxRecDepth 100000 in
set_option maxHeartbeats 8000000 in
theorem draw_ok (w : World) (p : Program) (loose : List Str) (mean : ExcName → Option Value) (mg mb : Str → Option Value) :
    DrawSpec PySem.Challenge.pw_og0140_01 w (Og.hd.heap_39 w.params) p loose mean mg mb 194 := by
  w_on
  have hfill : (PySem.Challenge.rw_og0140_01, Og.hd.heap_39) = (PySem.Challenge.rw_og0140_01, Og.hd.heap_39) := by k_fill; rfl
  clear hfill
  unfold DrawSpec
  intro dp un gd cn cs a ccd cl outer A₀ base h₀ L m s lp li e0 o0 items ns n1 n2 spot gr many t1 t2 tm B F X N hlt hne T hk hI hlen h0 h1 hg hm0 hm1 hd hu
  refine wpAny_call ?_
  k_dflt cell_enter
  -- the first test: a great cell's rest
  repeat' ((fail_if_success (with_reducible show wpAny _ _ (execs (Stmt.If (Expr.Compare _ [CmpOp.NotEq] _ _) _ _ _ :: _) _) _ _ _)); (first | (k_unfold; (try dsimp only)) | (k_end; wrow_close) | walk1 | (dsimp only; walk1) | (leave1; walk_say "STEP leave1"; try dsimp only) | fail "no step"))
  rename Fr _ _ _ _ => F1
  rename News _ _ _ _ => N1
  refine' cut_i (Str.ofString "cell") F1 N1 ?h1 ?h2
  case h1 =>
    repeat' (first | (k_unfold; (try dsimp only)) | (k_end; wrow_close) | walk1 | (dsimp only; walk1) | (leave1; walk_say "STEP leave1"; try dsimp only) | fail "no step")
  case h2 =>
    intro c t h' tk F2 N2
    clear F1 N1
    refine cut_n F2 N2 ?h1 ?h2
    case h1 =>
      repeat' (first | (k_unfold; (try dsimp only)) | (k_end; wrow_close) | walk1 | (dsimp only; walk1) | (leave1; walk_say "STEP leave1"; try dsimp only) | fail "no step")
    case h2 =>
      intro h3 tk3 F3 N3
      clear F2 N2
      repeat' (first | (k_unfold; (try dsimp only)) | (k_end; wrow_close) | walk1 | (dsimp only; walk1) | (leave1; walk_say "STEP leave1"; try dsimp only) | fail "no step")

end OgDraw

section OgGcd

def IntPost (h₀ : Heap) (L : Addr) (m : Str → Option Value) (news : List (Addr × Obj)) (s : Shared) (P : Int → Prop) (v : Value) (s' : Shared) : Prop :=
  ∃ (r : Int) (t : Tok) (h' : Heap) (tk' : Nat), v = .int r t ∧ s' = { s with heap := h', toks := tk' } ∧ Fr h₀ L h' m ∧ News h₀ L h' news ∧ P r
theorem intPost_intro {h₀ : Heap} {L : Addr} {m : Str → Option Value} {news news' : List (Addr × Obj)} {s : Shared} {P : Int → Prop} {v : Value} {s' : Shared} {r : Int} {t : Tok} {h' : Heap} {tk' : Nat}
    (ev : v = .int r t) (es : s' = { s with heap := h', toks := tk' }) (F : Fr h₀ L h' m) (N : News h₀ L h' news') (hs : ∀ p ∈ news, p ∈ news') (hP : P r) : IntPost h₀ L m news s P v s' :=
  ⟨r, t, h', tk', ev, es, F, fun p hp => N p (hs p hp), hP⟩

def GcdSpec (prog : Program) (w : World) (K : Frag) (p : Program) (loose : List Str) (mean : ExcName → Option Value) (mg mb : Str → Option Value) (f : Addr) : Prop :=
  ∀ (dp un : Nat) (gd : Option (List Code)) (cn : Str) (cs : Scope) (a : Addr) (ccd : Value) (cl : List (Str × Addr)) (outer : List Env) (A₀ : Around) (base h₀ : Heap) (L : Addr) (m : Str → Option Value) (s : Shared)
    (news : List (Addr × Obj)) (x y : Int) (tx ty : Tok),
    Below A₀ base outer h₀ → Fr h₀ L s.heap m → K.In h₀ → News h₀ L s.heap news →
    Top p loose mean mg mb h₀ → cs.kind = .function → dp + 1 < recursionLimit → un + 200 < cLine →
    wpAny (model prog w) (ktrTop dp un gd cn cs L a ccd cl outer) (call (.ref f) [.int x tx, .int y ty]) (IntPost h₀ L m news s (fun r => r = (Int.gcd x y : Int))) (fun _ _ => False) s

theorem abs_is (c : Int) : (if c < 0 then -c else c) = (c.natAbs : Int) := by split <;> omega
theorem gcd_start (x y : Int) : 0 ≤ (if x < 0 then -x else x) ∧ 0 ≤ (if y < 0 then -y else y) ∧ Int.gcd (if x < 0 then -x else x) (if y < 0 then -y else y) = Int.gcd x y := by
  rw [abs_is, abs_is]
  exact ⟨by omega, by omega, by simp [Int.gcd]⟩
theorem fmod_nat {a b : Int} (ha : 0 ≤ a) (hb : 0 < b) : Int.fmod a b = ((a.natAbs % b.natAbs : Nat) : Int) := by
  obtain ⟨n, rfl⟩ := Int.eq_ofNat_of_zero_le ha
  obtain ⟨k, rfl⟩ := Int.eq_ofNat_of_zero_le (Int.le_of_lt hb)
  rw [Int.fmod_eq_emod_of_nonneg _ (Int.le_of_lt hb)]
  simp
theorem gcd_turn {x y a b : Int} (h3 : Int.gcd a b = Int.gcd x y) (h1 : 0 ≤ a) (h2 : 0 ≤ b) (hb : 0 < b) : 0 ≤ b ∧ 0 ≤ Int.fmod a b ∧ Int.gcd b (Int.fmod a b) = Int.gcd x y := by
  rw [fmod_nat h1 hb, ← h3]
  refine ⟨h2, by omega, ?_⟩
  unfold Int.gcd
  rw [Int.natAbs_natCast, Nat.gcd_comm b.natAbs, ← Nat.gcd_rec, Nat.gcd_comm]
theorem gcd_end {x y a b : Int} (h3 : Int.gcd a b = Int.gcd x y) (h1 : 0 ≤ a) (h2 : 0 ≤ b) (hb : ¬ 0 < b) : a = (Int.gcd x y : Int) := by
  have : b = 0 := by omega
  subst this
  rw [← h3, Int.gcd_zero_right]
  omega
theorem gcd_less {a b : Int} (hb : 0 < b) : (Int.fmod a b).toNat < b.toNat := by
  have h1 := Int.fmod_lt_of_pos a hb
  have h2 := Int.fmod_nonneg_of_pos a hb
  omega
local macro_rules | `(tactic| walk_at "IntPost") => `(tactic| exact intPost_intro rfl rfl (by assumption) (by assumption) (by kcj_all) (by exact gcd_end (by assumption) (by assumption) (by assumption) (by assumption)))
set_option maxRecDepth 100000 in
set_option maxHeartbeats 8000000 in
theorem gcd_ok (w : World) (p : Program) (loose : List Str) (mean : ExcName → Option Value) (mg mb : Str → Option Value) :
    GcdSpec PySem.Challenge.pw_og0140_01 w (Og.hd.heap_39 w.params) p loose mean mg mb 175 := by
  w_on
  have hfill : (PySem.Challenge.rw_og0140_01, Og.hd.heap_39) = (PySem.Challenge.rw_og0140_01, Og.hd.heap_39) := by k_fill; rfl
  clear hfill
  unfold GcdSpec
  intro dp un gd cn cs a ccd cl outer A₀ base h₀ L m s news x y tx ty B F X N T hk hd hu
  refine wpAny_call ?_
  k_dflt cell_enter
  k_with "exec While Compare cons nil" => k_while (fun _ a b => 0 ≤ a ∧ 0 ≤ b ∧ Int.gcd a b = Int.gcd x y) (fun _ _ b => b.toNat) "first" "second"
  k_with "state" => first | exact gcd_start _ _ | exact gcd_turn (by assumption) (by assumption) (by assumption) (by assumption)
  k_with "measure" => exact gcd_less (by assumption)
  repeat' (first | (k_unfold; (try dsimp only)) | (k_end; wrow_close) | walk1 | (dsimp only; walk1) | (leave1; walk_say "STEP leave1"; try dsimp only) | fail "no step")

end OgGcd

section OgRow

abbrev tup3 (a b c : Int) (ta tb tc : Tok) (n : Nat) : Obj := { cls := .type "tuple", data := .seq [Value.int a ta, Value.int b tb, Value.int c tc].toArray n }

/-- what the rows of the law's own road keep -/
structure RowInv (x y : Int) (k : Nat) (a b c a' b' c' : Int) : Prop where
  hk : k + a'.toNat ≤ 2 ^ 20
  h0 : 0 ≤ a
  h0' : 0 ≤ a'
  h1 : a ≤ 2 ^ 20
  h1' : a' ≤ 2 ^ 20
  hg : Int.gcd a a' = Int.gcd x y
  hl : b * x + c * y = a
  hl' : b' * x + c' * y = a'

structure RowSt where
  lr : Addr
  d1 : Addr
  d2 : Addr
  oR : Obj
  oT : Obj
  w : Option Value
  vs : List Value
  n : Nat
  a : Int
  b : Int
  c : Int
  a' : Int
  b' : Int
  c' : Int
  ta : Tok
  tb : Tok
  tc : Tok
  ta' : Tok
  tb' : Tok
  tc' : Tok
  n1 : Nat
  n2 : Nat
abbrev RowSt.led (L e1 e2 : Addr) (o1 o2 : Obj) (q : RowSt) : List (Addr × Obj) :=
  [(q.lr, listOf (q.vs ++ [Value.ref q.d1, Value.ref q.d2]).toArray q.n), (q.d2, tup3 q.a' q.b' q.c' q.ta' q.tb' q.tc' q.n2), (q.d1, tup3 q.a q.b q.c q.ta q.tb q.tc q.n1), (L + 1 + 1, q.oT), (L + 1, q.oR), (e1, o1), (e2, o2)]
structure RowFacts (L e1 e2 : Addr) (q : RowSt) : Prop where
  he : @LT.lt Nat _ e1 L ∧ @LT.lt Nat _ e2 L
  eR : q.oR.data = .cell (some (.ref q.lr))
  eT : q.oT.data = .cell q.w
  l1 : @LT.lt Nat _ L q.lr ∧ @LT.lt Nat _ (L + 1) q.lr ∧ @LT.lt Nat _ (L + 1 + 1) q.lr
  l2 : @LT.lt Nat _ (L + 1 + 1) q.d1 ∧ @LT.lt Nat _ (L + 1 + 1) q.d2
  l3 : @Ne Nat q.d1 q.lr ∧ @Ne Nat q.d2 q.lr

def JoinRows (x y : Int) (e1 e2 : Addr) (o1 o2 : Obj) (g : Heap) (L : Addr) (m : Str → Option Value) (s s' : Shared) : Prop :=
  ∃ (q : RowSt) (h' : Heap) (tk : Nat), s' = { s with heap := h', toks := tk } ∧ Fr g L h' m ∧ News g L h' (q.led L e1 e2 o1 o2) ∧ RowFacts L e1 e2 q ∧ RowInv x y q.vs.length q.a q.b q.c q.a' q.b' q.c'
theorem cut_rows {M : Model} {A : Around} {E : Value → Shared → Prop} {Q : Flow → Shared → Prop} {st : Stmt} {rest : List Stmt} {env : Env} {g : Heap} {L : Addr} {m : Str → Option Value} {s : Shared} (x y : Int) (e1 e2 : Addr) (o1 o2 : Obj)
    (_F : Fr g L s.heap m)
    (h1 : wpAny M A (exec st env) (fun f s' => match f with | .next => JoinRows x y e1 e2 o1 o2 g L m s s' | f => Q f s') E s)
    (h2 : ∀ (q : RowSt) (h' : Heap) (tk : Nat), Fr g L h' m → News g L h' (q.led L e1 e2 o1 o2) → RowFacts L e1 e2 q → RowInv x y q.vs.length q.a q.b q.c q.a' q.b' q.c' → wpAny M A (execs rest env) Q E { s with heap := h', toks := tk }) :
    wpAny M A (execs (st :: rest) env) Q E s := by
  refine wpAny_execs_cons (wpAny_mono h1 (fun f s' q => ?_) fun _ _ e => e)
  cases f with
  | next =>
    obtain ⟨q, h', tk, rfl, F, N, a, b⟩ := q
    exact h2 q h' tk F N a b
  | _ => exact q
theorem abs_is' (c : Int) : (if c < 0 then -c else c) = (c.natAbs : Int) := by split <;> omega
theorem rowInv0 {x y sx sy : Int} (hx0 : -(2 ^ 20) ≤ x) (hx1 : x ≤ 2 ^ 20) (hy0 : -(2 ^ 20) ≤ y) (hy1 : y ≤ 2 ^ 20) (hx : (0 ≤ x ∧ sx = 1) ∨ (¬ 0 ≤ x ∧ sx = -1)) (hy : (0 ≤ y ∧ sy = 1) ∨ (¬ 0 ≤ y ∧ sy = -1)) :
    RowInv x y 0 (if x < 0 then -x else x) sx 0 (if y < 0 then -y else y) 0 sy where
  hk := by split <;> omega
  h0 := by split <;> omega
  h0' := by split <;> omega
  h1 := by split <;> omega
  h1' := by split <;> omega
  hg := by rw [abs_is', abs_is']; simp [Int.gcd]
  hl := by rcases hx with ⟨h, rfl⟩ | ⟨h, rfl⟩ <;> split <;> omega
  hl' := by rcases hy with ⟨h, rfl⟩ | ⟨h, rfl⟩ <;> split <;> omega
theorem joinRows_intro {x y : Int} {e1 e2 : Addr} {o1 o2 : Obj} {g : Heap} {L : Addr} {m : Str → Option Value} {s s' : Shared} {h' : Heap} {tk : Nat} {lr d1 d2 : Addr} {oR oT : Obj} {w : Option Value} {n n1 n2 : Nat} {sx sy : Int} {ta tb tc ta' tb' tc' : Tok} {news : List (Addr × Obj)}
    (es : s' = { s with heap := h', toks := tk }) (F : Fr g L h' m) (N : News g L h' news)
    (hs : ∀ p ∈ [(lr, listOf [Value.ref d1, Value.ref d2].toArray n), (d2, tup3 (if y < 0 then -y else y) 0 sy ta' tb' tc' n2), (d1, tup3 (if x < 0 then -x else x) sx 0 ta tb tc n1), (L + 1 + 1, oT), (L + 1, oR), (e1, o1), (e2, o2)], p ∈ news)
    (he : @LT.lt Nat _ e1 L ∧ @LT.lt Nat _ e2 L) (eR : oR.data = .cell (some (.ref lr))) (eT : oT.data = .cell w) (l1 : @LT.lt Nat _ L lr ∧ @LT.lt Nat _ (L + 1) lr ∧ @LT.lt Nat _ (L + 1 + 1) lr) (l2 : @LT.lt Nat _ (L + 1 + 1) d1 ∧ @LT.lt Nat _ (L + 1 + 1) d2) (l3 : @Ne Nat d1 lr ∧ @Ne Nat d2 lr)
    (I : RowInv x y 0 (if x < 0 then -x else x) sx 0 (if y < 0 then -y else y) 0 sy) : JoinRows x y e1 e2 o1 o2 g L m s s' :=
  ⟨⟨lr, d1, d2, oR, oT, w, [], n, _, sx, 0, _, 0, sy, ta, tb, tc, ta', tb', tc', n1, n2⟩, h', tk, es, F, fun p hp => N p (hs p hp), ⟨he, eR, eT, l1, l2, l3⟩, I⟩
local macro_rules | `(tactic| walk_at "JoinRows") => `(tactic| exact joinRows_intro rfl (by assumption) (by assumption) (by kcj_all) (by assumption) (by assumption) (by assumption) (by exact ⟨by omega, by omega, by omega⟩) (by exact ⟨by omega, by omega⟩) (by exact ⟨by omega, by omega⟩) (by exact rowInv0 (by assumption) (by assumption) (by assumption) (by assumption) (by first | exact .inl ⟨by assumption, rfl⟩ | exact .inr ⟨by assumption, rfl⟩) (by first | exact .inl ⟨by assumption, rfl⟩ | exact .inr ⟨by assumption, rfl⟩)))

theorem item_m1 {prog : Program} {w : World} {A : Around} {E : Value → Shared → Prop} {s : Shared} {value slice : PySem.Expr} {l : Addr} {x y : Value} {vs : List Value} {n : Nat} {u : Tok} {Q : Value → Shared → Prop} {h₀ : Heap} {L : Addr} {news : List (Addr × Obj)}
    (N : News h₀ L s.heap news) (hm : (l, listOf (vs ++ [x, y]).toArray n) ∈ news) (h : Q y s)
    (hs : subscripted slice false (.ref l) (.int (-1) u) = operate [.ref l, .int (-1) u] (getItem (.ref l) (.int (-1) u))) :
    wpAny (model prog w) A (subscriptTail value slice (.ref l) (.int (-1) u)) Q E s :=
  tail_any (News.isList N hm).typeIs slot_list_getitem.lookup (wpAny_getItem_list_neg (News.isList N hm) (by decide) (by simp only [List.size_toArray, List.length_append, List.length_cons, List.length_nil]; omega) (by decide) (by
    have : ((-1 : Int) + ((vs ++ [x, y]).toArray.size : Int)).toNat = vs.length + 1 := by simp only [List.size_toArray, List.length_append, List.length_cons, List.length_nil]; omega
    rw [this]; simp) h) hs
theorem item_m2 {prog : Program} {w : World} {A : Around} {E : Value → Shared → Prop} {s : Shared} {value slice : PySem.Expr} {l : Addr} {x y : Value} {vs : List Value} {n : Nat} {u : Tok} {Q : Value → Shared → Prop} {h₀ : Heap} {L : Addr} {news : List (Addr × Obj)}
    (N : News h₀ L s.heap news) (hm : (l, listOf (vs ++ [x, y]).toArray n) ∈ news) (h : Q x s)
    (hs : subscripted slice false (.ref l) (.int (-2) u) = operate [.ref l, .int (-2) u] (getItem (.ref l) (.int (-2) u))) :
    wpAny (model prog w) A (subscriptTail value slice (.ref l) (.int (-2) u)) Q E s :=
  tail_any (News.isList N hm).typeIs slot_list_getitem.lookup (wpAny_getItem_list_neg (News.isList N hm) (by decide) (by simp only [List.size_toArray, List.length_append, List.length_cons, List.length_nil]; omega) (by decide) (by
    have : ((-2 : Int) + ((vs ++ [x, y]).toArray.size : Int)).toNat = vs.length := by simp only [List.size_toArray, List.length_append, List.length_cons, List.length_nil]; omega
    rw [this]; simp) h) hs
local macro_rules | `(tactic| walk_at "subscriptTail") => `(tactic| (k_here; (with_reducible show wpAny _ _ (subscriptTail _ _ (Value.ref _) (Value.int (-1) _)) _ _ _); (with_unfolding_all refine' item_m1 ?k1 ?k2 ?_ ?k3; (case k1 => k_asm); (case k2 => k_mem); (case k3 => with_unfolding_all rfl); k_whole)))
local macro_rules | `(tactic| walk_at "subscriptTail") => `(tactic| (k_here; (with_reducible show wpAny _ _ (subscriptTail _ _ (Value.ref _) (Value.int (-2) _)) _ _ _); (with_unfolding_all refine' item_m2 ?k1 ?k2 ?_ ?k3; (case k1 => k_asm); (case k2 => k_mem); (case k3 => with_unfolding_all rfl); k_whole)))
theorem fdiv_in {a b : Int} (ha : 0 ≤ a) (hb : 0 ≤ b) : 0 ≤ Int.fdiv a b ∧ Int.fdiv a b ≤ a := by
  rw [Int.fdiv_eq_ediv_of_nonneg _ hb]
  exact ⟨Int.ediv_nonneg ha hb, Int.ediv_le_self _ ha⟩
theorem rowMul {x y : Int} {k : Nat} {a b c a' b' c' : Int} (I : RowInv x y k a b c a' b' c') (z : Int) : IntMulOk (Int.fdiv a a') z := by
  have h := fdiv_in I.h0 I.h0'
  have := I.h1
  exact IntMulOk.of_left (intBits_le_64 (by omega) (by omega))
theorem rowPy {x y : Int} {k : Nat} {a b c a' b' c' : Int} (I : RowInv x y k a b c a' b' c') : a'.natAbs < 1073741824 := by
  have := I.h0'
  have := I.h1'
  omega
local macro_rules | `(tactic| walk_at "binaryOp FloorDiv int int") => `(tactic| (refine floordiv_int ?h ?_ (.inl (PyProof.noPylong_small (rowPy (by assumption)))); (case h => assumption)))
local macro_rules | `(tactic| mul_fits) => `(tactic| exact rowMul (by assumption) _)

local macro_rules | `(tactic| walk_at "CompSrc") => `(tactic| (k_here; k_dflt (refine LCg.CompSrc.range (by rfl) (by k_asm) (by k_asm) (by with_reducible assumption) (by decide) (by rfl) (by exact Nat.le_of_ble_eq_true rfl) ?_; intro g'; lcg_lit)))
def RowPost (e1 e2 : Addr) (o1 o2 : Obj) (h₀ : Heap) (L : Addr) (m : Str → Option Value) (s : Shared) (x y : Int) (v : Value) (s' : Shared) : Prop :=
  ∃ (d : Addr) (a b c : Int) (ta tb tc : Tok) (n : Nat) (h' : Heap) (tk' : Nat), v = .ref d ∧ s' = { s with heap := h', toks := tk' } ∧ a = (Int.gcd x y : Int) ∧ b * x + c * y = (Int.gcd x y : Int) ∧ Fr h₀ L h' m ∧ News h₀ L h' [(d, tup3 a b c ta tb tc n), (e1, o1), (e2, o2)]
theorem rowPost_intro {e1 e2 : Addr} {o1 o2 : Obj} {h₀ : Heap} {L : Addr} {m : Str → Option Value} {s : Shared} {x y : Int} {v : Value} {s' : Shared} {d : Addr} {k : Nat} {a b c a' b' c' : Int} {ta tb tc : Tok} {n : Nat} {h' : Heap} {tk' : Nat} {news : List (Addr × Obj)}
    (ev : v = .ref d) (es : s' = { s with heap := h', toks := tk' }) (F : Fr h₀ L h' m) (N : News h₀ L h' news) (hs : ∀ p ∈ [(d, tup3 a b c ta tb tc n), (e1, o1), (e2, o2)], p ∈ news) (I : RowInv x y k a b c a' b' c') (h0 : a' = 0) : RowPost e1 e2 o1 o2 h₀ L m s x y v s' := by
  have e : a = (Int.gcd x y : Int) := by
    have h1 := I.h0
    rw [← I.hg, h0, Int.gcd_zero_right]
    omega
  exact ⟨d, a, b, c, ta, tb, tc, n, h', tk', ev, es, e, e ▸ I.hl, F, fun p hp => N p (hs p hp)⟩
local macro_rules | `(tactic| walk_at "RowPost") => `(tactic| exact rowPost_intro rfl rfl (by assumption) (by assumption) (by kcj_all) (by assumption) (by assumption))
theorem rowLen {x y : Int} {vs : List Value} {u v : Value} {a b c a' b' c' : Int} (I : RowInv x y vs.length a b c a' b' c') : (vs ++ [u, v]).toArray.size ≤ sizeLine := by
  have := I.hk
  simp only [List.size_toArray, List.length_append, List.length_cons, List.length_nil, sizeLine_eq]
  omega
theorem rowTurn {x y : Int} {k : Nat} {a b c a' b' c' : Int} (I : RowInv x y k a b c a' b' c') (ha : a' ≠ 0) :
    RowInv x y (k + 1) a' b' c' (a - Int.fdiv a a' * a') (b - Int.fdiv a a' * b') (c - Int.fdiv a a' * c') ∧ (a - Int.fdiv a a' * a').toNat < a'.toNat := by
  have h0 := I.h0
  have h0' := I.h0'
  have h1' := I.h1'
  have hk := I.hk
  have hp : 0 < a' := by omega
  have e : a - Int.fdiv a a' * a' = Int.fmod a a' := by rw [Int.fmod_def, Int.mul_comm]
  have m0 := Int.fmod_nonneg_of_pos a hp
  have m1 := Int.fmod_lt_of_pos a hp
  have hg : Int.gcd a' (Int.fmod a a') = Int.gcd a a' := by
    obtain ⟨n, rfl⟩ := Int.eq_ofNat_of_zero_le h0
    obtain ⟨j, rfl⟩ := Int.eq_ofNat_of_zero_le h0'
    rw [Int.fmod_eq_emod_of_nonneg _ h0']
    show Nat.gcd j (n % j) = Nat.gcd n j
    rw [Nat.gcd_comm j, ← Nat.gcd_rec, Nat.gcd_comm]
  refine ⟨⟨by rw [e]; omega, h0', by rw [e]; exact m0, h1', by rw [e]; omega, by rw [e, hg]; exact I.hg, I.hl', ?_⟩, by rw [e]; omega⟩
  have e1 := I.hl
  have e2 := I.hl'
  generalize Int.fdiv a a' = q at *
  rw [← e1, ← e2]
  simp only [Int.sub_mul, Int.mul_add, Int.mul_assoc]
  omega
def RowNew (L lr d1 d2 d3 : Addr) : Prop := @LT.lt Nat _ lr d3 ∧ @LT.lt Nat _ d2 d3 ∧ @LT.lt Nat _ d1 d3 ∧ @LT.lt Nat _ (L + 1 + 1) d3 ∧ @LT.lt Nat _ (L + 1) d3
theorem rowAppend {prog : Program} {w : World} {A : Around} {E : Value → Shared → Prop} {Q : Value → Shared → Prop} {s : Shared} {g : Heap} {L : Addr} {m : Str → Option Value} {news' : List (Addr × Obj)} {lr d1 d2 d3 dd : Addr} {e1 e2 : Addr} {q1 q2 : Obj} {o3 o2 oR oT : Obj} {vs : List Value} {n : Nat} {x y a b c a' b' c' : Int}
    (F : Fr g L s.heap m) (N : News g L s.heap news')
    (hs : ∀ p ∈ [(lr, listOf (vs ++ [Value.ref d1, Value.ref d2]).toArray n), (d3, o3), (d2, o2), (L + 1 + 1, oT), (L + 1, oR), (e1, q1), (e2, q2)], p ∈ news')
    (l1 : @LT.lt Nat _ L lr ∧ @LT.lt Nat _ (L + 1) lr ∧ @LT.lt Nat _ (L + 1 + 1) lr) (l3 : @Ne Nat d1 lr ∧ @Ne Nat d2 lr) (he : @LT.lt Nat _ e1 L ∧ @LT.lt Nat _ e2 L)
    (hd : @LT.lt Nat _ dd d3 ∧ @LT.lt Nat _ lr d3 ∧ @LT.lt Nat _ d2 d3 ∧ @LT.lt Nat _ d1 d3 ∧ @LT.lt Nat _ (L + 1 + 1) d3 ∧ @LT.lt Nat _ (L + 1) d3 ∧ @LT.lt Nat _ e1 d3 ∧ @LT.lt Nat _ e2 d3) (I : RowInv x y vs.length a b c a' b' c')
    (h : ∀ h', Fr g L h' m → News g L h' [(lr, listOf ((vs ++ [Value.ref d1, Value.ref d2]).toArray.push (Value.ref d3)) (n + 1)), (d3, o3), (d2, o2), (L + 1 + 1, oT), (L + 1, oR), (e1, q1), (e2, q2)] → RowNew L lr d1 d2 d3 → Q .none { s with heap := h' }) :
    wpAny (model prog w) A (call (.builtin "list.append") ([Value.ref lr] ++ [Value.ref d3])) Q E s :=
  append_K F (fun p hp => N p (hs p hp)) (Upd.head (by
    intro p hp
    rcases List.mem_cons.mp hp with rfl | hp
    · exact Nat.ne_of_gt hd.2.1
    rcases List.mem_cons.mp hp with rfl | hp
    · exact l3.2
    rcases List.mem_cons.mp hp with rfl | hp
    · exact Nat.ne_of_lt l1.2.2
    rcases List.mem_cons.mp hp with rfl | hp
    · exact Nat.ne_of_lt l1.2.1
    rcases List.mem_cons.mp hp with rfl | hp
    · exact Nat.ne_of_lt (Nat.lt_trans he.1 l1.1)
    rcases List.mem_cons.mp hp with rfl | hp
    · exact Nat.ne_of_lt (Nat.lt_trans he.2 l1.1)
    · cases hp)) (fun h' F' N' => h h' F' N' ⟨hd.2.1, hd.2.2.1, hd.2.2.2.1, hd.2.2.2.2.1, hd.2.2.2.2.2.1⟩) (rowLen I)
theorem rowEnd {x y : Int} {e1 e2 : Addr} {o1 o2 : Obj} {g : Heap} {L : Addr} {s s' : Shared} {m₀ m' : Str → Option Value} {h' : Heap} {tk : Nat} {news' : List (Addr × Obj)} {lr d1 d2 d3 : Addr} {oR oT oT' : Obj} {wT w' : Option Value} {vs : List Value} {n : Nat} {a b c a' b' c' : Int} {ta tb tc ta' tb' tc' ta'' tb'' tc'' : Tok} {n1 n2 : Nat}
    (es : s' = { s with heap := h', toks := tk }) (F : Fr g L h' m') (hm : ∀ z, m' z = m₀ z) (N : News g L h' news')
    (hs : ∀ p ∈ [(lr, listOf ((vs ++ [Value.ref d1, Value.ref d2]).toArray.push (Value.ref d3)) (n + 1)), (d3, tup3 (a - Int.fdiv a a' * a') (b - Int.fdiv a a' * b') (c - Int.fdiv a a' * c') ta'' tb'' tc'' 0), (d2, tup3 a' b' c' ta' tb' tc' n2), (L + 1 + 1, oT'), (L + 1, oR), (e1, o1), (e2, o2)], p ∈ news')
    (he : @LT.lt Nat _ e1 L ∧ @LT.lt Nat _ e2 L) (eR : oR.data = .cell (some (.ref lr))) (eT : oT'.data = .cell w') (l1 : @LT.lt Nat _ L lr ∧ @LT.lt Nat _ (L + 1) lr ∧ @LT.lt Nat _ (L + 1 + 1) lr) (l2 : @LT.lt Nat _ (L + 1 + 1) d1 ∧ @LT.lt Nat _ (L + 1 + 1) d2) (l3 : @Ne Nat d1 lr ∧ @Ne Nat d2 lr) (hd : RowNew L lr d1 d2 d3)
    (I : RowInv x y vs.length a b c a' b' c') (ha : a' ≠ 0) :
    KswEnd g L s (RowSt.led L e1 e2 o1 o2) (fun _ => []) (RowFacts L e1 e2) [] m₀ (fun q : RowSt => RowInv x y q.vs.length q.a q.b q.c q.a' q.b' q.c') (fun q : RowSt => q.a'.toNat) ⟨lr, d1, d2, oR, oT, wT, vs, n, a, b, c, a', b', c', ta, tb, tc, ta', tb', tc', n1, n2⟩ s' := by
  subst es
  have R := rowTurn I ha
  refine ksw_end (Led := RowSt.led L e1 e2 o1 o2) (ps := fun _ => []) (Facts := RowFacts L e1 e2) (P := fun q : RowSt => RowInv x y q.vs.length q.a q.b q.c q.a' q.b' q.c') (μ := fun q : RowSt => q.a'.toNat) (⟨lr, d2, d3, oR, oT', w', vs ++ [Value.ref d1], n + 1, a', b', c', a - Int.fdiv a a' * a', b - Int.fdiv a a' * b', c - Int.fdiv a a' * c', ta', tb', tc', ta'', tb'', tc'', n2, 0⟩ : RowSt) F N (fun p hp => hs p ?_) ⟨he, eR, eT, l1, ⟨l2.2, hd.2.2.2.1⟩, ⟨l3.2, Nat.ne_of_gt hd.1⟩⟩ (fun _ h => nomatch h) (fun z _ _ => hm z) ?_ R.2
  · have e : ((vs ++ [Value.ref d1, Value.ref d2]).toArray.push (Value.ref d3)) = ((vs ++ [Value.ref d1]) ++ [Value.ref d2, Value.ref d3]).toArray := by simp
    rw [e]
    exact hp
  · show RowInv x y (vs ++ [Value.ref d1]).length _ _ _ _ _ _
    rw [List.length_append]
    exact R.1

local macro_rules | `(tactic| walk_at "call builtin:list.append") => `(tactic| (k_here; k_dflt (refine' rowAppend ?k1 ?k2 ?k3 ?l1 ?l3 ?he ?d ?I ?_; (case k1 => k_asm); (case k2 => k_asm); (case l1 => assumption); (case l3 => assumption); (case he => assumption); (case d => assumption); (case k3 => kcj_all); (case I => assumption); k_whole); intro h' F' N' hd'))
local macro_rules | `(tactic| walk_at "KswEnd") => `(tactic| exact rowEnd rfl (by assumption) (by exact fun _ => rfl) (by assumption) (by kcj_all) (by assumption) (by assumption) (by assumption) (by assumption) (by assumption) (by assumption) (by assumption) (by assumption) (by assumption))
def RowSpec (prog : Program) (w : World) (K : Frag) (p : Program) (loose : List Str) (mean : ExcName → Option Value) (mg mb : Str → Option Value) (f : Addr) : Prop :=
  ∀ (dp un : Nat) (gd : Option (List Code)) (cn : Str) (cs : Scope) (a : Addr) (ccd : Value) (cl : List (Str × Addr)) (outer : List Env) (A₀ : Around) (base h₀ : Heap) (L : Addr) (m : Str → Option Value) (s : Shared)
    (e1 e2 : Addr) (o1 o2 : Obj) (x y : Int) (tx ty : Tok),
    Below A₀ base outer h₀ → Fr h₀ L s.heap m → K.In h₀ → News h₀ L s.heap [(e1, o1), (e2, o2)] →
    Top p loose mean mg mb h₀ → cs.kind = .function → -(2 ^ 20) ≤ x → x ≤ 2 ^ 20 → -(2 ^ 20) ≤ y → y ≤ 2 ^ 20 → dp + 1 < recursionLimit → un + 200 < cLine →
    wpAny (model prog w) (ktrTop dp un gd cn cs L a ccd cl outer) (call (.ref f) [.int x tx, .int y ty]) (RowPost e1 e2 o1 o2 h₀ L m s x y) (fun _ _ => False) s

set_option maxRecDepth 100000 in
set_option maxHeartbeats 8000000 in
theorem row_ok (w : World) (p : Program) (loose : List Str) (mean : ExcName → Option Value) (mg mb : Str → Option Value) :
    RowSpec PySem.Challenge.pw_og0140_01 w (Og.hd.heap_39 w.params) p loose mean mg mb 199 := by
  w_on
  have hfill : (PySem.Challenge.rw_og0140_01, Og.hd.heap_39) = (PySem.Challenge.rw_og0140_01, Og.hd.heap_39) := by k_fill; rfl
  clear hfill
  unfold RowSpec
  intro dp un gd cn cs a ccd cl outer A₀ base h₀ L m s e1 e2 o1 o2 x y tx ty B F X N T hk hx0 hx1 hy0 hy1 hd hu
  refine wpAny_call ?_
  k_dflt (refine' code_defC ?k1 ?k2 ?k3 ?k4 ?k5 ?kA ?kF ?kK ?k6 ?k7 ?k8 ?k9 ?kB ?kD ?_ ?c2 ?c3 ?c4; (case kA => exact rfl); (case kF => exact rfl); (case kK => assumption); (case k1 => k_asm); (case k2 => k_asm); (case k3 => k_asm); (case k4 => k_asm); (case k5 => k_asm); (case k6 => k_is); (case k7 => k_is); (case k8 => ktr_room); (case k9 => exact BindsTo.of_eq rfl); (case kB => exact rfl); (case kD => decide +kernel); (case c2 => exact rfl); (case c3 => exact rfl); (case c4 => exact rfl); k_whole; intro g' L' h' tk' cells' FG' F' N' Y' B' X' T' l1; (try k_lt l1); k_cells Y'; (try simp only [List.cons_append, List.nil_append] at N'); (try dsimp only); (try k_lift B'); (try k_fold))
  have he : @LT.lt Nat _ e1 L' ∧ @LT.lt Nat _ e2 L' := by assumption
  refine cut_rows x y e1 e2 o1 o2 F' ?h1 ?h2
  case h1 =>
    repeat' (first | (k_unfold; (try dsimp only)) | (k_end; wrow_close) | walk1 | (dsimp only; walk1) | (leave1; walk_say "STEP leave1"; try dsimp only) | fail "no step")
  case h2 =>
    intro q h2 tk2 F2 N2 C2 I2
    clear F' N'
    refine' wpAny_execs_cons ?_
    refine' ksw_while (σ := RowSt) (RowSt.led L' e1 e2 o1 o2) (fun _ => []) (RowFacts L' e1 e2) [] (fun q => RowInv x y q.vs.length q.a q.b q.c q.a' q.b' q.c') (fun q => q.a'.toNat) q F2 N2 C2 ?hk I2 ?_
    case hk => exact fun _ h => nomatch h
    clear N2 C2 I2 F2 q
    intro q u h3 tk3 C2 I2 F2 N2
    obtain ⟨lr, d1, d2, oR, oT, wT, vs, n, a, b, c, a', b', c', ta, tb, tc, ta', tb', tc', n1, n2⟩ := q
    obtain ⟨-, eR, eT, l1, l2, l3⟩ := C2
    dsimp only [RowSt.led] at N2 I2 eR eT l1 l2 l3
    repeat' ((fail_if_success (with_reducible show wpAny _ _ (execs _ _) _ _ _)); (first | (k_unfold; (try dsimp only)) | (k_end; wrow_close) | walk1 | (dsimp only; walk1) | (leave1; walk_say "STEP leave1"; try dsimp only) | fail "no step"))
    · refine wpAny_execs_cons ?_
      repeat' ((fail_if_success (with_reducible show wpAny _ _ (execs _ _) _ _ _)); (first | (k_unfold; (try dsimp only)) | (k_end; wrow_close) | walk1 | (dsimp only; walk1) | (leave1; walk_say "STEP leave1"; try dsimp only) | fail "no step"))
      · refine wpAny_execs_cons ?_
        repeat' ((fail_if_success (with_reducible show wpAny _ _ (call (Value.type "tuple") _) _ _ _)); (first | (k_unfold; (try dsimp only)) | (k_end; wrow_close) | walk1 | (dsimp only; walk1) | (leave1; walk_say "STEP leave1"; try dsimp only) | fail "no step"))
        repeat' (first | (k_unfold; (try dsimp only)) | (k_end; wrow_close) | walk1 | (dsimp only; walk1) | (leave1; walk_say "STEP leave1"; try dsimp only) | fail "no step")

    · repeat' (first | (k_unfold; (try dsimp only)) | (k_end; wrow_close) | walk1 | (dsimp only; walk1) | (leave1; walk_say "STEP leave1"; try dsimp only) | fail "no step")


end OgRow

section OgUse

abbrev DrawAll (prog : Program) (K : Params → Frag) (f : Addr) : Prop := ∀ (w : World) (p : Program) (loose : List Str) (mean : ExcName → Option Value) (mg mb : Str → Option Value), DrawSpec prog w (K w.params) p loose mean mg mb f
abbrev GcdAll (prog : Program) (K : Params → Frag) (f : Addr) : Prop := ∀ (w : World) (p : Program) (loose : List Str) (mean : ExcName → Option Value) (mg mb : Str → Option Value), GcdSpec prog w (K w.params) p loose mean mg mb f
abbrev RowAll (prog : Program) (K : Params → Frag) (f : Addr) : Prop := ∀ (w : World) (p : Program) (loose : List Str) (mean : ExcName → Option Value) (mg mb : Str → Option Value), RowSpec prog w (K w.params) p loose mean mg mb f

section
variable {prog : Program} {w : World} {K : Params → Frag} {p : Program} {loose : List Str} {mean : ExcName → Option Value} {mg mb : Str → Option Value} {f : Addr}
  {dp un : Nat} {gd : Option (List Code)} {cn : Str} {cs : Scope} {a : Addr} {ccd : Value} {cl : List (Str × Addr)} {outer : List Env} {A₀ : Around} {base h₀ : Heap} {L : Addr} {m : Str → Option Value} {s : Shared} {Q E : Value → Shared → Prop}
theorem draw_use {lp li e0 : Addr} {o0 : Obj} {items : List Value} {ns : List Int} {n1 n2 : Nat} {spot gr many : Int} {t1 t2 tm : Tok} {news : List (Addr × Obj)} (D : DrawAll prog K f)
    (B : Below A₀ base outer h₀) (F : Fr h₀ L s.heap m) (X : (K w.params).In h₀) (N : News h₀ L s.heap news) (hs : ∀ q ∈ [(lp, penObj li spot t1 gr t2 n1), (li, listOf items.toArray n2), (e0, o0)], q ∈ news) (hlt : @LT.lt Nat _ li lp) (hne : @Ne Nat e0 lp)
    (T : Top p loose mean mg mb h₀) (hk : cs.kind = .function) (hI : IntsAre items ns) (hlen : ns.length ≤ 63) (h0 : 0 ≤ spot) (h1 : spot ≤ 100) (hg : 0 ≤ gr) (hm0 : 0 < many) (hm1 : many < 100000) (hd : dp + 1 < recursionLimit) (hu : un + 200 < cLine)
    (ret : ∀ (r spot' gr' : Int) (t u1 u2 : Tok) (n' : Nat) (h' : Heap) (tk' : Nat), 0 ≤ r → r < many → 0 ≤ spot' → spot' ≤ spot + 1 → 0 ≤ gr' → Fr h₀ L h' m → News h₀ L h' [(lp, penObj li spot' u1 gr' u2 n'), (li, listOf items.toArray n2), (e0, o0)] → Q (.int r t) { s with heap := h', toks := tk' }) :
    wpAny (model prog w) (ktrTop dp un gd cn cs L a ccd cl outer) (call (.ref f) [.ref lp, .int many tm]) Q E s := by
  refine wpAny_mono (D w p loose mean mg mb dp un gd cn cs a ccd cl outer A₀ base h₀ L m s lp li e0 o0 items ns n1 n2 spot gr many t1 t2 tm B F X (fun q hq => N q (hs q hq)) hlt hne T hk hI hlen h0 h1 hg hm0 hm1 hd hu) (fun v s' q => ?_) fun _ _ e => e.elim
  obtain ⟨r, spot', gr', t, u1, u2, n', h', tk', rfl, rfl, a1, a2, a3, a4, a5, F', N'⟩ := q
  exact ret r spot' gr' t u1 u2 n' h' tk' a1 a2 a3 a4 a5 F' N'
theorem draw_use2 {lp li : Addr} {items : List Value} {ns : List Int} {n1 n2 : Nat} {spot gr many : Int} {t1 t2 tm : Tok} {news : List (Addr × Obj)} (D : DrawAll prog K f)
    (B : Below A₀ base outer h₀) (F : Fr h₀ L s.heap m) (X : (K w.params).In h₀) (N : News h₀ L s.heap news) (hs : ∀ q ∈ [(lp, penObj li spot t1 gr t2 n1), (li, listOf items.toArray n2)], q ∈ news) (hlt : @LT.lt Nat _ li lp)
    (T : Top p loose mean mg mb h₀) (hk : cs.kind = .function) (hI : IntsAre items ns) (hlen : ns.length ≤ 63) (h0 : 0 ≤ spot) (h1 : spot ≤ 100) (hg : 0 ≤ gr) (hm0 : 0 < many) (hm1 : many < 100000) (hd : dp + 1 < recursionLimit) (hu : un + 200 < cLine)
    (ret : ∀ (r spot' gr' : Int) (t u1 u2 : Tok) (n' : Nat) (h' : Heap) (tk' : Nat), 0 ≤ r → r < many → 0 ≤ spot' → spot' ≤ spot + 1 → 0 ≤ gr' → Fr h₀ L h' m → News h₀ L h' [(lp, penObj li spot' u1 gr' u2 n'), (li, listOf items.toArray n2)] → Q (.int r t) { s with heap := h', toks := tk' }) :
    wpAny (model prog w) (ktrTop dp un gd cn cs L a ccd cl outer) (call (.ref f) [.ref lp, .int many tm]) Q E s :=
  draw_use (e0 := li) (o0 := listOf items.toArray n2) D B F X N (fun q hq => by
    rcases List.mem_cons.mp hq with rfl | hq
    · exact hs _ (.head _)
    rcases List.mem_cons.mp hq with rfl | hq
    · exact hs _ (.tail _ (.head _))
    rcases List.mem_cons.mp hq with rfl | hq
    · exact hs _ (.tail _ (.head _))
    · cases hq) hlt (Nat.ne_of_lt hlt) T hk hI hlen h0 h1 hg hm0 hm1 hd hu
    (fun r spot' gr' t u1 u2 n' h' tk' a1 a2 a3 a4 a5 F' N' => ret r spot' gr' t u1 u2 n' h' tk' a1 a2 a3 a4 a5 F' fun q hq => N' q (by
      rcases List.mem_cons.mp hq with rfl | hq
      · exact .head _
      rcases List.mem_cons.mp hq with rfl | hq
      · exact .tail _ (.head _)
      · cases hq))
theorem gcd_use {news : List (Addr × Obj)} {x y : Int} {tx ty : Tok} (G : GcdAll prog K f)
    (B : Below A₀ base outer h₀) (F : Fr h₀ L s.heap m) (X : (K w.params).In h₀) (N : News h₀ L s.heap news)
    (T : Top p loose mean mg mb h₀) (hk : cs.kind = .function) (hd : dp + 1 < recursionLimit) (hu : un + 200 < cLine)
    (ret : ∀ (t : Tok) (h' : Heap) (tk' : Nat), Fr h₀ L h' m → News h₀ L h' news → Q (.int (Int.gcd x y : Int) t) { s with heap := h', toks := tk' }) :
    wpAny (model prog w) (ktrTop dp un gd cn cs L a ccd cl outer) (call (.ref f) [.int x tx, .int y ty]) Q E s := by
  refine wpAny_mono (G w p loose mean mg mb dp un gd cn cs a ccd cl outer A₀ base h₀ L m s news x y tx ty B F X N T hk hd hu) (fun v s' q => ?_) fun _ _ e => e.elim
  obtain ⟨r, t, h', tk', rfl, rfl, F', N', rfl⟩ := q
  exact ret t h' tk' F' N'
theorem row_use {e1 e2 : Addr} {o1 o2 : Obj} {news : List (Addr × Obj)} {x y : Int} {tx ty : Tok} (R : RowAll prog K f)
    (B : Below A₀ base outer h₀) (F : Fr h₀ L s.heap m) (X : (K w.params).In h₀) (N : News h₀ L s.heap news) (hs : ∀ q ∈ [(e1, o1), (e2, o2)], q ∈ news)
    (T : Top p loose mean mg mb h₀) (hk : cs.kind = .function) (b : (-(2 ^ 20) ≤ x ∧ x ≤ 2 ^ 20) ∧ (-(2 ^ 20) ≤ y ∧ y ≤ 2 ^ 20)) (hd : dp + 1 < recursionLimit) (hu : un + 200 < cLine)
    (ret : ∀ (d : Addr) (b c : Int) (ta tb tc : Tok) (n : Nat) (h' : Heap) (tk' : Nat), b * x + c * y = (Int.gcd x y : Int) → Fr h₀ L h' m → News h₀ L h' [(d, tup3 (Int.gcd x y : Int) b c ta tb tc n), (e1, o1), (e2, o2)] → Q (.ref d) { s with heap := h', toks := tk' }) :
    wpAny (model prog w) (ktrTop dp un gd cn cs L a ccd cl outer) (call (.ref f) [.int x tx, .int y ty]) Q E s := by
  refine wpAny_mono (R w p loose mean mg mb dp un gd cn cs a ccd cl outer A₀ base h₀ L m s e1 e2 o1 o2 x y tx ty B F X (fun q hq => N q (hs q hq)) T hk b.1.1 b.1.2 b.2.1 b.2.2 hd hu) (fun v s' q => ?_) fun _ _ e => e.elim
  obtain ⟨d, a', b', c', ta, tb, tc, n, h', tk', rfl, rfl, rfl, e, F', N'⟩ := q
  exact ret d b' c' ta tb tc n h' tk' e F' N'
end

end OgUse

section OgEx
local macro_rules | `(tactic| walk_at "idle OgEx 0") => `(tactic| fail)

abbrev decDict (P : Params) (top : Int) (k1 k2 t1 t2 : Tok) : Obj := dictOf [⟨PyData.keyHash P (Str.ofString "top"), .str (Str.ofString "top") k1, .int top t1⟩, ⟨PyData.keyHash P (Str.ofString "places"), .str (Str.ofString "places") k2, .int 0 t2⟩] 2
def ExPost (P : Params) (e1 e2 e3 e4 e5 : Addr) (o1 o2 o3 o4 o5 : Obj) (h₀ : Heap) (L : Addr) (m : Str → Option Value) (s : Shared) (q : Int) (v : Value) (s' : Shared) : Prop :=
  ∃ (x dx : Addr) (k1 k2 t1 t2 : Tok) (h' : Heap) (tk' : Nat), v = .ref x ∧ s' = { s with heap := h', toks := tk' } ∧ Fr h₀ L h' m ∧ News h₀ L h' [(x, instObj 143 dx), (dx, decDict P q k1 k2 t1 t2), (e1, o1), (e2, o2), (e3, o3), (e4, o4), (e5, o5)]
theorem exPost_intro {P : Params} {e1 e2 e3 e4 e5 : Addr} {o1 o2 o3 o4 o5 : Obj} {h₀ : Heap} {L : Addr} {m : Str → Option Value} {s : Shared} {q : Int} {v : Value} {s' : Shared} {x dx : Addr} {k1 k2 t1 t2 : Tok} {h' : Heap} {tk' : Nat} {news : List (Addr × Obj)}
    (ev : v = .ref x) (es : s' = { s with heap := h', toks := tk' }) (F : Fr h₀ L h' m) (N : News h₀ L h' news) (hs : ∀ p ∈ [(x, instObj 143 dx), (dx, decDict P q k1 k2 t1 t2), (e1, o1), (e2, o2), (e3, o3), (e4, o4), (e5, o5)], p ∈ news) : ExPost P e1 e2 e3 e4 e5 o1 o2 o3 o4 o5 h₀ L m s q v s' :=
  ⟨x, dx, k1, k2, t1, t2, h', tk', ev, es, F, fun p hp => N p (hs p hp)⟩
local macro_rules | `(tactic| walk_at "ExPost") => `(tactic| exact exPost_intro rfl rfl (by assumption) (by assumption) (by kcj_all))

def ExSpec (prog : Program) (w : World) (K : Frag) (p : Program) (loose : List Str) (mean : ExcName → Option Value) (mg mb : Str → Option Value) (f : Addr) : Prop :=
  ∀ (dp un : Nat) (gd : Option (List Code)) (cn : Str) (cs : Scope) (a : Addr) (ccd : Value) (cl : List (Str × Addr)) (outer : List Env) (A₀ : Around) (base h₀ : Heap) (L : Addr) (m : Str → Option Value) (s : Shared)
    (e1 e2 e3 e4 e5 : Addr) (o1 o2 o3 o4 o5 : Obj) (x g : Int) (tx tg : Tok),
    Below A₀ base outer h₀ → Fr h₀ L s.heap m → K.In h₀ → News h₀ L s.heap [(e1, o1), (e2, o2), (e3, o3), (e4, o4), (e5, o5)] →
    Top p loose mean mg mb h₀ → cs.kind = .function → 0 < g → g ≤ 2 ^ 20 → (Int.gcd x g : Int) = g → dp + 5 < recursionLimit → un + 300 < cLine →
    wpAny (model prog w) (ktrTop dp un gd cn cs L a ccd cl outer) (call (.ref f) [.int x tx, .int g tg]) (ExPost w.params e1 e2 e3 e4 e5 o1 o2 o3 o4 o5 h₀ L m s (Int.fdiv x g)) (fun _ _ => False) s

section
variable {prog : Program} {w : World} {A : Around} {E Q : Value → Shared → Prop} {s : Shared}
theorem pow0 {a n : Int} {t u : Tok} (hn : n = 0) (h : Q (.int 1 s.toks) { s with toks := s.toks + 1 }) (ha : a.natAbs < 2 ^ 64 := by decide) : wpAny (model prog w) A (binaryOp .Pow (.int a t) (.int n u)) Q E s := by
  subst hn
  exact pow_int_small (by decide) (by decide) ha (by simpa using h)
theorem mul1 {a b : Int} {t u : Tok} (hb : b = 1) (h : Q (.int a s.toks) { s with toks := s.toks + 1 }) : wpAny (model prog w) A (binaryOp .Mult (.int a t) (.int b u)) Q E s := by
  subst hb
  exact mul_int (by rw [Int.mul_one]; exact h) (IntMulOk.of_right (by decide))
theorem rest1 {x g : Int} {t u : Tok} (h0 : 0 < g) (h1 : g ≤ 2 ^ 20) (e : (Int.gcd x g : Int) = g) (h : Q (.int 1 s.toks) { s with toks := s.toks + 1 }) : wpAny (model prog w) A (binaryOp .FloorDiv (.int (if g < 0 then -g else g) t) (.int (Int.gcd x g : Int) u)) Q E s := by
  rw [e, if_neg (by omega)]
  refine floordiv_int (by omega) ?_ (.inl (PyProof.noPylong_small (by omega)))
  rw [Int.fdiv_self (by omega)]
  exact h
theorem over1 {x g : Int} {t u : Tok} (h0 : 0 < g) (h1 : g ≤ 2 ^ 20) (h : Q (.int (Int.fdiv x g) s.toks) { s with toks := s.toks + 1 }) : wpAny (model prog w) A (binaryOp .FloorDiv (.int x t) (.int g u)) Q E s :=
  floordiv_int (by omega) h (.inl (PyProof.noPylong_small (by omega)))
end
def Stops (P : Prop) (b : Bool) : Prop := b = false ∧ P
theorem Stops.no {P : Prop} (h : P) : Stops P false := ⟨rfl, h⟩
theorem while_false {prog : Program} {w : World} {A : Around} {E : Value → Shared → Prop} {Q : Flow → Shared → Prop} {s : Shared} {env : Env} {test : Expr} {body : List Stmt} {pos : Pos}
    (h : wpAny (model prog w) A (isTrue test env (eval test env)) (fun b s₂ => Stops (Q .next s₂) b) E s) (hE : PassesOwn (model prog w) A env E := by passes_own) :
    wpAny (model prog w) A (exec (.While test body [] pos) env) Q E s :=
  whl_start 1 (whl_turn hE (wpAny_mono h (fun _ _ p => WhlIf.no p.1 (wpAny_execs_nil p.2)) fun _ _ e => e))
abbrev ExAll (prog : Program) (K : Params → Frag) (f : Addr) : Prop := ∀ (w : World) (p : Program) (loose : List Str) (mean : ExcName → Option Value) (mg mb : Str → Option Value), ExSpec prog w (K w.params) p loose mean mg mb f
theorem pick_tail {α : Type} {l l' : List α} {a : α} (h : ∀ q ∈ l, q ∈ l') : ∀ q ∈ l, q ∈ a :: l' := fun q hq => .tail _ (h q hq)
theorem ex_use {prog : Program} {w : World} {K : Params → Frag} {p : Program} {loose : List Str} {mean : ExcName → Option Value} {mg mb : Str → Option Value} {f : Addr}
    {dp un : Nat} {gd : Option (List Code)} {cn : Str} {cs : Scope} {a : Addr} {ccd : Value} {cl : List (Str × Addr)} {outer : List Env} {A₀ : Around} {base h₀ : Heap} {L : Addr} {m : Str → Option Value} {s : Shared} {Q E : Value → Shared → Prop}
    {e1 e2 e3 e4 e5 : Addr} {o1 o2 o3 o4 o5 : Obj} {news : List (Addr × Obj)} {x g : Int} {tx tg : Tok} (X0 : ExAll prog K f)
    (B : Below A₀ base outer h₀) (F : Fr h₀ L s.heap m) (X : (K w.params).In h₀) (N : News h₀ L s.heap news) (hs : ∀ q ∈ [(e1, o1), (e2, o2), (e3, o3), (e4, o4), (e5, o5)], q ∈ news)
    (T : Top p loose mean mg mb h₀) (hk : cs.kind = .function) (hg : 0 < g ∧ g ≤ 2 ^ 20) (he : (Int.gcd x g : Int) = g) (hd : dp + 5 < recursionLimit) (hu : un + 300 < cLine)
    (ret : ∀ (d dx : Addr) (k1 k2 t1 t2 : Tok) (h' : Heap) (tk' : Nat), Fr h₀ L h' m → News h₀ L h' [(d, instObj 143 dx), (dx, decDict w.params (Int.fdiv x g) k1 k2 t1 t2), (e1, o1), (e2, o2), (e3, o3), (e4, o4), (e5, o5)] → Q (.ref d) { s with heap := h', toks := tk' }) :
    wpAny (model prog w) (ktrTop dp un gd cn cs L a ccd cl outer) (call (.ref f) [.int x tx, .int g tg]) Q E s := by
  refine wpAny_mono (X0 w p loose mean mg mb dp un gd cn cs a ccd cl outer A₀ base h₀ L m s e1 e2 e3 e4 e5 o1 o2 o3 o4 o5 x g tx tg B F X (fun q hq => N q (hs q hq)) T hk hg.1 hg.2 he hd hu) (fun v s' q => ?_) fun _ _ e => e.elim
  obtain ⟨d, dx, k1, k2, t1, t2, h', tk', rfl, rfl, F', N'⟩ := q
  exact ret d dx k1 k2 t1 t2 h' tk' F' N'
local macro_rules | `(tactic| k_room) => `(tactic| ktr_room)
local macro_rules | `(tactic| walk_at "exec While BoolOp cons nil") => `(tactic| (refine while_false ?_))
local macro_rules | `(tactic| walk_at "exec While Compare cons nil") => `(tactic| (refine while_false ?_))
local macro_rules | `(tactic| walk_at "Stops") => `(tactic| (with_unfolding_all refine Stops.no ?_))
local macro_rules | `(tactic| walk_at "binaryOp Pow int int") => `(tactic| (with_reducible refine pow0 ?h ?_; (case h => first | rfl | omega)))
local macro_rules | `(tactic| walk_at "binaryOp Mult int int") => `(tactic| (with_reducible refine mul1 ?h ?_; (case h => rfl)))
local macro_rules | `(tactic| walk_at "binaryOp FloorDiv int int") => `(tactic| first
  | (with_reducible refine rest1 ?a ?b ?c ?_; (case a => assumption); (case b => assumption); (case c => assumption))
  | (with_reducible refine over1 ?a ?b ?_; (case a => assumption); (case b => assumption)))
local macro_rules | `(tactic| walk_at "call ref") => `(tactic| (k_here; (with_reducible show wpAny _ _ (call (Value.ref 175) _) _ _ _); k_dflt (refine' gcd_use ?G ?B ?F ?X ?N ?T ?hk ?hd ?hu ?_; (case G => assumption); (case B => k_asm); (case F => k_asm); (case X => k_asm); (case N => k_asm); (case T => k_asm); (case hk => exact rfl); (case hd => ktr_room); (case hu => ktr_units); k_whole); intro t9 h9 tk9 F9 N9; (try dsimp only); (try k_sweep)))
set_option maxRecDepth 100000 in
set_option maxHeartbeats 8000000 in
theorem ex_ok (G9 : GcdAll PySem.Challenge.pw_og0140_01 Og.hd.heap_39 175) (w : World) (p : Program) (loose : List Str) (mean : ExcName → Option Value) (mg mb : Str → Option Value) :
    ExSpec PySem.Challenge.pw_og0140_01 w (Og.hd.heap_39 w.params) p loose mean mg mb 182 := by
  w_on
  have hfill : (PySem.Challenge.rw_og0140_01, Og.hd.heap_39) = (PySem.Challenge.rw_og0140_01, Og.hd.heap_39) := by k_fill; rfl
  clear hfill
  unfold ExSpec
  intro dp un gd cn cs a ccd cl outer A₀ base h₀ L m s e1 e2 e3 e4 e5 o1 o2 o3 o4 o5 x g tx tg B F X N T hk hg0 hg1 hgd hd hu
  refine wpAny_call ?_
  k_dflt cell_enter
  repeat' (first | (k_unfold; (try dsimp only)) | (k_end; wrow_close) | walk1 | (dsimp only; walk1) | (leave1; walk_say "STEP leave1"; try dsimp only) | fail "no step")
  all_goals (exfalso; omega)

end OgEx

section OgMeth
/-- a new Decimal and six old things -/
def DecPost (P : Params) (e0 e1 e2 e3 e4 e5 : Addr) (o0 o1 o2 o3 o4 o5 : Obj) (h₀ : Heap) (L : Addr) (m : Str → Option Value) (s : Shared) (q : Int) (v : Value) (s' : Shared) : Prop :=
  ∃ (x dx : Addr) (k1 k2 t1 t2 : Tok) (h' : Heap) (tk' : Nat), v = .ref x ∧ s' = { s with heap := h', toks := tk' } ∧ Fr h₀ L h' m ∧ News h₀ L h' [(x, instObj 143 dx), (dx, decDict P q k1 k2 t1 t2), (e0, o0), (e1, o1), (e2, o2), (e3, o3), (e4, o4), (e5, o5)]
theorem decPost_intro {P : Params} {e0 e1 e2 e3 e4 e5 : Addr} {o0 o1 o2 o3 o4 o5 : Obj} {h₀ : Heap} {L : Addr} {m : Str → Option Value} {s : Shared} {q : Int} {v : Value} {s' : Shared} {x dx : Addr} {k1 k2 t1 t2 : Tok} {h' : Heap} {tk' : Nat} {news : List (Addr × Obj)}
    (ev : v = .ref x) (es : s' = { s with heap := h', toks := tk' }) (F : Fr h₀ L h' m) (N : News h₀ L h' news) (hs : ∀ p ∈ [(x, instObj 143 dx), (dx, decDict P q k1 k2 t1 t2), (e0, o0), (e1, o1), (e2, o2), (e3, o3), (e4, o4), (e5, o5)], p ∈ news) : DecPost P e0 e1 e2 e3 e4 e5 o0 o1 o2 o3 o4 o5 h₀ L m s q v s' :=
  ⟨x, dx, k1, k2, t1, t2, h', tk', ev, es, F, fun p hp => N p (hs p hp)⟩
def DecSpec (prog : Program) (w : World) (K : Frag) (p : Program) (loose : List Str) (mean : ExcName → Option Value) (mg mb : Str → Option Value) (f : Addr) : Prop :=
  ∀ (dp un : Nat) (gd : Option (List Code)) (cn : Str) (cs : Scope) (a : Addr) (ccd : Value) (cl : List (Str × Addr)) (outer : List Env) (A₀ : Around) (base h₀ : Heap) (L : Addr) (m : Str → Option Value) (s : Shared)
    (e0 e1 e2 e3 e4 e5 : Addr) (o0 o1 o2 o3 o4 o5 : Obj) (x : Int) (tx : Tok),
    Below A₀ base outer h₀ → Fr h₀ L s.heap m → K.In h₀ → News h₀ L s.heap [(e0, o0), (e1, o1), (e2, o2), (e3, o3), (e4, o4), (e5, o5)] →
    Top p loose mean mg mb h₀ → cs.kind = .function → dp + 5 < recursionLimit → un + 300 < cLine →
    wpAny (model prog w) (ktrTop dp un gd cn cs L a ccd cl outer) (call (.ref f) [.int x tx]) (DecPost w.params e0 e1 e2 e3 e4 e5 o0 o1 o2 o3 o4 o5 h₀ L m s x) (fun _ _ => False) s
/-- times: d = the old Decimal, e0 = its dict -/
def TimesSpec (prog : Program) (w : World) (K : Frag) (p : Program) (loose : List Str) (mean : ExcName → Option Value) (mg mb : Str → Option Value) (f : Addr) : Prop :=
  ∀ (dp un : Nat) (gd : Option (List Code)) (cn : Str) (cs : Scope) (a : Addr) (ccd : Value) (cl : List (Str × Addr)) (outer : List Env) (A₀ : Around) (base h₀ : Heap) (L : Addr) (m : Str → Option Value) (s : Shared)
    (d dd e1 e2 e3 e4 e5 : Addr) (o1 o2 o3 o4 o5 : Obj) (q g : Int) (k1 k2 t1 t2 tg : Tok),
    Below A₀ base outer h₀ → Fr h₀ L s.heap m → K.In h₀ → News h₀ L s.heap [(d, instObj 143 dd), (dd, decDict w.params q k1 k2 t1 t2), (e1, o1), (e2, o2), (e3, o3), (e4, o4), (e5, o5)] →
    Top p loose mean mg mb h₀ → cs.kind = .function → 0 < g → g ≤ 2 ^ 20 → dp + 5 < recursionLimit → un + 300 < cLine →
    wpAny (model prog w) (ktrTop dp un gd cn cs L a ccd cl outer) (call (.ref f) [.ref d, .int g tg]) (ExPost w.params e1 e2 e3 e4 e5 o1 o2 o3 o4 o5 h₀ L m s (q * g)) (fun _ _ => False) s
def CompSpec (prog : Program) (w : World) (K : Frag) (p : Program) (loose : List Str) (mean : ExcName → Option Value) (mg mb : Str → Option Value) (f : Addr) : Prop :=
  ∀ (dp un : Nat) (gd : Option (List Code)) (cn : Str) (cs : Scope) (a : Addr) (ccd : Value) (cl : List (Str × Addr)) (outer : List Env) (A₀ : Around) (base h₀ : Heap) (L : Addr) (m : Str → Option Value) (s : Shared)
    (d dd e1 e2 e3 e4 e5 : Addr) (o1 o2 o3 o4 o5 : Obj) (q x : Int) (k1 k2 t1 t2 tx : Tok),
    Below A₀ base outer h₀ → Fr h₀ L s.heap m → K.In h₀ → News h₀ L s.heap [(d, instObj 143 dd), (dd, decDict w.params q k1 k2 t1 t2), (e1, o1), (e2, o2), (e3, o3), (e4, o4), (e5, o5)] →
    Top p loose mean mg mb h₀ → cs.kind = .function → q - x = 0 → dp + 5 < recursionLimit → un + 300 < cLine →
    wpAny (model prog w) (ktrTop dp un gd cn cs L a ccd cl outer) (call (.ref f) [.ref d, .int x tx]) (IntPost h₀ L m [(e1, o1), (e2, o2), (e3, o3), (e4, o4), (e5, o5)] s (fun r => r = 0)) (fun _ _ => False) s
theorem eqT {prog : Program} {w : World} {A : Around} {E Q : Value → Shared → Prop} {s : Shared} {a b : Int} {t u : Tok} (e : a = b) (h : Q (.bool true) s) : wpAny (model prog w) A (compareOp .Eq (.int a t) (.int b u)) Q E s := by
  subst e
  refine eq_int ?_
  rw [show (a == a) = true from by simp]
  exact h
local macro_rules | `(tactic| k_room) => `(tactic| ktr_room)
local macro_rules | `(tactic| walk_at "DecPost") => `(tactic| exact decPost_intro rfl rfl (by assumption) (by assumption) (by kcj_all))
local macro_rules | `(tactic| walk_at "ExPost") => `(tactic| exact exPost_intro rfl rfl (by assumption) (by assumption) (by kcj_all))
local macro_rules | `(tactic| walk_at "IntPost") => `(tactic| exact intPost_intro rfl rfl (by assumption) (by assumption) (by kcj_all) (by exact rfl))
local macro_rules | `(tactic| walk_at "exec While BoolOp cons nil") => `(tactic| (refine while_false ?_))
local macro_rules | `(tactic| walk_at "Stops") => `(tactic| (with_unfolding_all refine Stops.no ?_))
local macro_rules | `(tactic| walk_at "binaryOp Pow int int") => `(tactic| (with_reducible refine pow0 ?kp09 ?_; (case kp09 => first | rfl | omega)))
local macro_rules | `(tactic| walk_at "binaryOp Mult int int") => `(tactic| (with_reducible refine mul1 ?km19 ?_; (case km19 => rfl)))
local macro_rules | `(tactic| walk_at "compareOp Eq int int") => `(tactic| (refine eqT ?keq9 ?_; (case keq9 => with_reducible assumption)))
set_option maxRecDepth 100000 in
set_option maxHeartbeats 8000000 in
theorem dec_ok (w : World) (p : Program) (loose : List Str) (mean : ExcName → Option Value) (mg mb : Str → Option Value) :
    DecSpec PySem.Challenge.pw_og0140_01 w (Og.hd.heap_39 w.params) p loose mean mg mb 161 := by
  w_on
  have hfill : (PySem.Challenge.rw_og0140_01, Og.hd.heap_39) = (PySem.Challenge.rw_og0140_01, Og.hd.heap_39) := by k_fill; rfl
  clear hfill
  unfold DecSpec
  intro dp un gd cn cs a ccd cl outer A₀ base h₀ L m s e0 e1 e2 e3 e4 e5 o0 o1 o2 o3 o4 o5 x tx B F X N T hk hd hu
  refine wpAny_call ?_
  k_dflt cell_enter
  repeat' (first | (k_unfold; (try dsimp only)) | (k_end; wrow_close) | walk1 | (dsimp only; walk1) | (leave1; walk_say "STEP leave1"; try dsimp only) | fail "no step")
set_option maxRecDepth 100000 in
set_option maxHeartbeats 8000000 in
theorem times_ok (w : World) (p : Program) (loose : List Str) (mean : ExcName → Option Value) (mg mb : Str → Option Value) :
    TimesSpec PySem.Challenge.pw_og0140_01 w (Og.hd.heap_39 w.params) p loose mean mg mb 84 := by
  w_on
  have hfill : (PySem.Challenge.rw_og0140_01, Og.hd.heap_39) = (PySem.Challenge.rw_og0140_01, Og.hd.heap_39) := by k_fill; rfl
  clear hfill
  unfold TimesSpec
  intro dp un gd cn cs a ccd cl outer A₀ base h₀ L m s d dd e1 e2 e3 e4 e5 o1 o2 o3 o4 o5 q g k1 k2 t1 t2 tg B F X N T hk hg0 hg1 hd hu
  refine wpAny_call ?_
  k_dflt cell_enter
  repeat' (first | (k_unfold; (try dsimp only)) | (k_end; wrow_close) | walk1 | (dsimp only; walk1) | (leave1; walk_say "STEP leave1"; try dsimp only) | fail "no step")
set_option maxRecDepth 100000 in
set_option maxHeartbeats 8000000 in
theorem comp_ok (w : World) (p : Program) (loose : List Str) (mean : ExcName → Option Value) (mg mb : Str → Option Value) :
    CompSpec PySem.Challenge.pw_og0140_01 w (Og.hd.heap_39 w.params) p loose mean mg mb 98 := by
  w_on
  have hfill : (PySem.Challenge.rw_og0140_01, Og.hd.heap_39) = (PySem.Challenge.rw_og0140_01, Og.hd.heap_39) := by k_fill; rfl
  clear hfill
  unfold CompSpec
  intro dp un gd cn cs a ccd cl outer A₀ base h₀ L m s d dd e1 e2 e3 e4 e5 o1 o2 o3 o4 o5 q x k1 k2 t1 t2 tx B F X N T hk hq hd hu
  refine wpAny_call ?_
  k_dflt cell_enter
  repeat' (first | (k_unfold; (try dsimp only)) | (k_end; wrow_close) | walk1 | (dsimp only; walk1) | (leave1; walk_say "STEP leave1"; try dsimp only) | fail "no step")

abbrev DecAll (prog : Program) (K : Params → Frag) (f : Addr) : Prop := ∀ (w : World) (p : Program) (loose : List Str) (mean : ExcName → Option Value) (mg mb : Str → Option Value), DecSpec prog w (K w.params) p loose mean mg mb f
abbrev TimesAll (prog : Program) (K : Params → Frag) (f : Addr) : Prop := ∀ (w : World) (p : Program) (loose : List Str) (mean : ExcName → Option Value) (mg mb : Str → Option Value), TimesSpec prog w (K w.params) p loose mean mg mb f
abbrev CompAll (prog : Program) (K : Params → Frag) (f : Addr) : Prop := ∀ (w : World) (p : Program) (loose : List Str) (mean : ExcName → Option Value) (mg mb : Str → Option Value), CompSpec prog w (K w.params) p loose mean mg mb f
section
variable {prog : Program} {w : World} {K : Params → Frag} {p : Program} {loose : List Str} {mean : ExcName → Option Value} {mg mb : Str → Option Value} {f : Addr}
  {dp un : Nat} {gd : Option (List Code)} {cn : Str} {cs : Scope} {a : Addr} {ccd : Value} {cl : List (Str × Addr)} {outer : List Env} {A₀ : Around} {base h₀ : Heap} {L : Addr} {m : Str → Option Value} {s : Shared} {Q E : Value → Shared → Prop}
theorem dec_use {e0 e1 e2 e3 e4 e5 d dd : Addr} {o0 o1 o2 o3 o4 o5 od odd : Obj} {x : Int} {tx : Tok} (D : DecAll prog K f)
    (B : Below A₀ base outer h₀) (F : Fr h₀ L s.heap m) (X : (K w.params).In h₀) (N : News h₀ L s.heap [(e0, o0), (d, od), (dd, odd), (e1, o1), (e2, o2), (e3, o3), (e4, o4), (e5, o5)])
    (T : Top p loose mean mg mb h₀) (hk : cs.kind = .function) (hd : dp + 5 < recursionLimit) (hu : un + 300 < cLine)
    (ret : ∀ (d dx : Addr) (k1 k2 t1 t2 : Tok) (h' : Heap) (tk' : Nat), Fr h₀ L h' m → News h₀ L h' [(d, instObj 143 dx), (dx, decDict w.params x k1 k2 t1 t2), (e0, o0), (e1, o1), (e2, o2), (e3, o3), (e4, o4), (e5, o5)] → Q (.ref d) { s with heap := h', toks := tk' }) :
    wpAny (model prog w) (ktrTop dp un gd cn cs L a ccd cl outer) (call (.ref f) [.int x tx]) Q E s := by
  refine wpAny_mono (D w p loose mean mg mb dp un gd cn cs a ccd cl outer A₀ base h₀ L m s e0 e1 e2 e3 e4 e5 o0 o1 o2 o3 o4 o5 x tx B F X (fun q hq => N q ?_) T hk hd hu) (fun v s' q => ?_) fun _ _ e => e.elim
  · rcases List.mem_cons.mp hq with rfl | hq
    · exact .head _
    · exact .tail _ (.tail _ (.tail _ hq))
  · obtain ⟨d, dx, k1, k2, t1, t2, h', tk', rfl, rfl, F', N'⟩ := q
    exact ret d dx k1 k2 t1 t2 h' tk' F' N'
theorem times_use {d dd e1 e2 e3 e4 e5 : Addr} {o1 o2 o3 o4 o5 : Obj} {q g : Int} {k1 k2 t1 t2 tg : Tok} (D : TimesAll prog K f)
    (B : Below A₀ base outer h₀) (F : Fr h₀ L s.heap m) (X : (K w.params).In h₀) (N : News h₀ L s.heap [(d, instObj 143 dd), (dd, decDict w.params q k1 k2 t1 t2), (e1, o1), (e2, o2), (e3, o3), (e4, o4), (e5, o5)])
    (T : Top p loose mean mg mb h₀) (hk : cs.kind = .function) (h0 : 0 < g) (h1 : g ≤ 2 ^ 20) (hd : dp + 5 < recursionLimit) (hu : un + 300 < cLine)
    (ret : ∀ (d dx : Addr) (k1 k2 t1 t2 : Tok) (h' : Heap) (tk' : Nat), Fr h₀ L h' m → News h₀ L h' [(d, instObj 143 dx), (dx, decDict w.params (q * g) k1 k2 t1 t2), (e1, o1), (e2, o2), (e3, o3), (e4, o4), (e5, o5)] → Q (.ref d) { s with heap := h', toks := tk' }) :
    wpAny (model prog w) (ktrTop dp un gd cn cs L a ccd cl outer) (call (.ref f) [.ref d, .int g tg]) Q E s := by
  refine wpAny_mono (D w p loose mean mg mb dp un gd cn cs a ccd cl outer A₀ base h₀ L m s d dd e1 e2 e3 e4 e5 o1 o2 o3 o4 o5 q g k1 k2 t1 t2 tg B F X N T hk h0 h1 hd hu) (fun v s' q => ?_) fun _ _ e => e.elim
  obtain ⟨d, dx, k1, k2, t1, t2, h', tk', rfl, rfl, F', N'⟩ := q
  exact ret d dx k1 k2 t1 t2 h' tk' F' N'
theorem comp_use {d dd e1 e2 e3 e4 e5 : Addr} {o1 o2 o3 o4 o5 : Obj} {q x : Int} {k1 k2 t1 t2 tx : Tok} (D : CompAll prog K f)
    (B : Below A₀ base outer h₀) (F : Fr h₀ L s.heap m) (X : (K w.params).In h₀) (N : News h₀ L s.heap [(d, instObj 143 dd), (dd, decDict w.params q k1 k2 t1 t2), (e1, o1), (e2, o2), (e3, o3), (e4, o4), (e5, o5)])
    (T : Top p loose mean mg mb h₀) (hk : cs.kind = .function) (hq : q - x = 0) (hd : dp + 5 < recursionLimit) (hu : un + 300 < cLine)
    (ret : ∀ (t : Tok) (h' : Heap) (tk' : Nat), Fr h₀ L h' m → News h₀ L h' [(e1, o1), (e2, o2), (e3, o3), (e4, o4), (e5, o5)] → Q (.int 0 t) { s with heap := h', toks := tk' }) :
    wpAny (model prog w) (ktrTop dp un gd cn cs L a ccd cl outer) (call (.ref f) [.ref d, .int x tx]) Q E s := by
  refine wpAny_mono (D w p loose mean mg mb dp un gd cn cs a ccd cl outer A₀ base h₀ L m s d dd e1 e2 e3 e4 e5 o1 o2 o3 o4 o5 q x k1 k2 t1 t2 tx B F X N T hk hq hd hu) (fun v s' q => ?_) fun _ _ e => e.elim
  obtain ⟨r, t, h', tk', rfl, rfl, F', N', rfl⟩ := q
  exact ret t h' tk' F' N'
end

end OgMeth

section
variable {prog : Program} {w : World} {A : Around} {E Q : Value → Shared → Prop} {s : Shared}
theorem mul_bd {a b : Int} (ha : 0 ≤ a ∧ a ≤ 256) (hb : -2000 ≤ b ∧ b ≤ 2000) : -(2 ^ 20) ≤ a * b ∧ a * b ≤ 2 ^ 20 := by
  have h1 : a * b ≤ a * 2000 := Int.mul_le_mul_of_nonneg_left hb.2 ha.1
  have h2 : a * (-2000) ≤ a * b := Int.mul_le_mul_of_nonneg_left hb.1 ha.1
  omega
theorem shared_bd {a b c : Int} (a0 : 0 ≤ a) (a1 : a < 60) (b0 : 0 ≤ b) (b1 : b < 9) (c0 : 0 ≤ c) (c1 : c < 4) : 0 ≤ List.getD [1, 0, 1 + a, 2 ^ Int.toNat b] (Int.toNat c) 0 ∧ List.getD [1, 0, 1 + a, 2 ^ Int.toNat b] (Int.toNat c) 0 ≤ 256 := by
  have hb : (2 : Int) ^ Int.toNat b ≤ 2 ^ 8 := by
    have : (2 : Nat) ^ Int.toNat b ≤ 2 ^ 8 := Nat.pow_le_pow_right (by decide) (by omega)
    exact_mod_cast this
  have hb0 : 0 ≤ (2 : Int) ^ Int.toNat b := Int.le_of_lt (Int.pow_pos (by decide))
  have hc : Int.toNat c = 0 ∨ Int.toNat c = 1 ∨ Int.toNat c = 2 ∨ Int.toNat c = 3 := by omega
  rcases hc with h | h | h | h <;> rw [h] <;> simp only [List.getD_cons_zero, List.getD_cons_succ] <;> omega
theorem mul_one' {a r : Int} {t u : Tok} (ha : 0 ≤ a ∧ a ≤ 256) (hr : 0 ≤ r ∧ r < 4001) (h : ∀ z, -(2 ^ 20) ≤ z → z ≤ 2 ^ 20 → Q (.int z s.toks) { s with toks := s.toks + 1 }) :
    wpAny (model prog w) A (binaryOp .Mult (.int a t) (.int (r - 2000) u)) Q E s :=
  have b := mul_bd ha (b := r - 2000) (by omega)
  mul_int (h _ b.1 b.2) (IntMulOk.of_left (intBits_le_64 (by omega) (by omega)))
theorem mul_other' {a r : Int} {t u : Tok} (ha : 0 ≤ a ∧ a ≤ 256) (hr : 0 ≤ r ∧ r < 901) (h : ∀ z, -(2 ^ 20) ≤ z → z ≤ 2 ^ 20 → Q (.int z s.toks) { s with toks := s.toks + 1 }) :
    wpAny (model prog w) A (binaryOp .Mult (.int a t) (.int (r - 450) u)) Q E s :=
  have b := mul_bd ha (b := r - 450) (by omega)
  mul_int (h _ b.1 b.2) (IntMulOk.of_left (intBits_le_64 (by omega) (by omega)))
end
theorem gcd_add1 (x y t : Int) : (Int.gcd x (y + t * x) : Int) = (Int.gcd x y : Int) := by
  simp
theorem gcd_add2 (x y t : Int) : (Int.gcd (x + t * y) y : Int) = (Int.gcd x y : Int) := by
  simp
theorem abs_is'' (c : Int) : (if c < 0 then -c else c) = (c.natAbs : Int) := by split <;> omega
theorem gcd_mulT (t x y : Int) : (Int.gcd (t * x) (t * y) : Int) = (if t < 0 then -t else t) * (Int.gcd x y : Int) := by
  rw [abs_is'', Int.gcd_mul_left]
  exact Int.natCast_mul _ _
theorem gcd_c (x y : Int) : (Int.gcd y x : Int) = (Int.gcd x y : Int) := by rw [Int.gcd_comm]
theorem gcd_n1 (x y : Int) : (Int.gcd (-x) y : Int) = (Int.gcd x y : Int) := by rw [Int.neg_gcd]
theorem gcd_n2 (x y : Int) : (Int.gcd x (-y) : Int) = (Int.gcd x y : Int) := by rw [Int.gcd_neg]
theorem gcd_z1 (x : Int) : (Int.gcd x 0 : Int) = (if x < 0 then -x else x) := by rw [abs_is'', Int.gcd_zero_right]
theorem gcd_z2 (x : Int) : (Int.gcd 0 x : Int) = (if x < 0 then -x else x) := by rw [abs_is'', Int.gcd_zero_left]
theorem gcd_00 : (Int.gcd 0 0 : Int) = 0 := by decide
theorem neF {prog : Program} {w : World} {A : Around} {E Q : Value → Shared → Prop} {s : Shared} {a b : Int} {t u : Tok} (e : a = b) (h : Q (.bool false) s) : wpAny (model prog w) A (compareOp .NotEq (.int a t) (.int b u)) Q E s := by
  subst e
  refine ne_int ?_
  rw [show (a != a) = false from by simp]
  exact h
theorem ne2 {prog : Program} {w : World} {A : Around} {E Q : Value → Shared → Prop} {s : Shared} {h₀ : Heap} {L : Addr} {news : List (Addr × Obj)} {d1 d2 : Addr} {a c : Int} {t1 t2 t3 t4 : Tok} {n k : Nat} (N : News h₀ L s.heap news)
    (h1 : (d1, ({ cls := .type "tuple", data := .seq [Value.int a t1, Value.int c t2].toArray n } : Obj)) ∈ news) (h2 : (d2, ({ cls := .type "tuple", data := .seq [Value.int a t3, Value.int c t4].toArray k } : Obj)) ∈ news)
    (hu : A.units + 64 < cLine) (h : Q (.bool false) s) : wpAny (model prog w) A (compareOp .NotEq (.ref d1) (.ref d2)) Q E s := by
  have sh : SeqAt.shaped (.tuple [PyData.int a, PyData.int c]) = true := by rfl
  have ev : PyData.eqv (.tuple [PyData.int a, PyData.int c]) (.tuple [PyData.int a, PyData.int c]) = true := by simp [PyData.eqv, PyData.eqvAll]
  refine ne_dataH (reads_tuple_at (N.get h1) rfl rfl (.cons (.int _ _) (.cons (.int _ _) .nil))) (reads_tuple_at (N.get h2) rfl rfl (.cons (.int _ _) (.cons (.int _ _) .nil))) sh sh hu ?_
  rw [ev]
  exact h
theorem ne3 {prog : Program} {w : World} {A : Around} {E Q : Value → Shared → Prop} {s : Shared} {h₀ : Heap} {L : Addr} {news : List (Addr × Obj)} {l1 l2 : Addr} {a b c g : Int} {ta tb tc tg : Tok} {n k : Nat} (N : News h₀ L s.heap news)
    (h1 : (l1, listOf [Value.int a ta, Value.int b tb, Value.int c tc].toArray n) ∈ news) (h2 : (l2, listOf (List.flatten (List.replicate (Int.toNat 3) [Value.int g tg])).toArray k) ∈ news)
    (ea : a = g) (eb : b = g) (ec : c = g) (hu : A.units + 64 < cLine) (h : Q (.bool false) s) : wpAny (model prog w) A (compareOp .NotEq (.ref l1) (.ref l2)) Q E s := by
  subst ea
  subst eb
  subst ec
  refine ke_ne_ints (News.isList N h1) (News.isList N h2) (.cons _ _ (.cons _ _ (.cons _ _ .nil))) (.cons _ _ (.cons _ _ (.cons _ _ .nil))) hu ?_
  rw [decide_eq_true rfl]
  exact h
theorem joinI_gen {x : Str} {g h : Heap} {L : Addr} {m m' : Str → Option Value} {news news' : List (Addr × Obj)} {s : Shared} {tk : Nat} {c : Int} {t : Tok} {s' : Shared} (es : s' = { s with heap := h, toks := tk }) (F : Fr g L h m') (e : m' x = some (.int c t)) (e2 : ∀ y, y ≠ x → m' y = m y) (N : News g L h news') (hs : ∀ p ∈ news, p ∈ news') :
    JoinI x g L m news s s' := by
  refine ⟨c, t, h, tk, es, ?_, fun p hp => N p (hs p hp)⟩
  have : (fun y => if y = x then some (.int c t) else m y) = m' := by
    funext y
    by_cases hy : y = x
    · rw [if_pos hy, hy, e]
    · rw [if_neg hy, e2 y hy]
  rw [this]
  exact F
theorem gcd_le20 {x y : Int} (hx0 : -(2 ^ 20) ≤ x) (hx1 : x ≤ 2 ^ 20) (hy0 : -(2 ^ 20) ≤ y) (hy1 : y ≤ 2 ^ 20) : (Int.gcd x y : Int) ≤ 2 ^ 20 := by
  by_cases h : x = 0
  · subst h
    rw [Int.gcd_zero_left]
    omega
  · have := Nat.le_of_dvd (by omega : 0 < x.natAbs) (Nat.gcd_dvd_left x.natAbs y.natAbs)
    have e : Int.gcd x y = Nat.gcd x.natAbs y.natAbs := rfl
    omega
theorem gcd_le20' {b c x y : Int} (_e : b * x + c * y = (Int.gcd x y : Int)) (hx0 : -(2 ^ 20) ≤ x) (hx1 : x ≤ 2 ^ 20) (hy0 : -(2 ^ 20) ≤ y) (hy1 : y ≤ 2 ^ 20) : (Int.gcd x y : Int) ≤ 2 ^ 20 := gcd_le20 hx0 hx1 hy0 hy1
theorem gcd_pos {b c x y : Int} (_e : b * x + c * y = (Int.gcd x y : Int)) : 0 < (Int.gcd x y : Int) ∨ ¬ 0 < (Int.gcd x y : Int) := Classical.em _
theorem exd_l (x y : Int) : Int.fdiv x (Int.gcd x y : Int) * (Int.gcd x y : Int) - x = 0 := by
  rw [Int.fdiv_mul_cancel (Int.gcd_dvd_left x y)]
  omega
theorem exd_r (x y : Int) : Int.fdiv y (Int.gcd x y : Int) * (Int.gcd x y : Int) - y = 0 := by
  rw [Int.fdiv_mul_cancel (Int.gcd_dvd_right x y)]
  omega
theorem gtT {prog : Program} {w : World} {A : Around} {E Q : Value → Shared → Prop} {s : Shared} {a b : Int} {t u : Tok} (e : b < a) (h : Q (.bool true) s) : wpAny (model prog w) A (compareOp .Gt (.int a t) (.int b u)) Q E s :=
  gt_int (by rw [decide_eq_true e]; exact h)
theorem gtF {prog : Program} {w : World} {A : Around} {E Q : Value → Shared → Prop} {s : Shared} {a b : Int} {t u : Tok} (e : ¬ b < a) (h : Q (.bool false) s) : wpAny (model prog w) A (compareOp .Gt (.int a t) (.int b u)) Q E s :=
  gt_int (by rw [show decide (a > b) = false from decide_eq_false e]; exact h)
theorem gcd_l (x y : Int) : (Int.gcd x (Int.gcd x y : Int) : Int) = (Int.gcd x y : Int) := by
  have : Int.gcd x (Int.gcd x y : Int) = Int.gcd x y := by
    show Nat.gcd x.natAbs (Nat.gcd x.natAbs y.natAbs) = Nat.gcd x.natAbs y.natAbs
    exact Nat.gcd_eq_right (Nat.gcd_dvd_left _ _)
  rw [this]
theorem gcd_r (x y : Int) : (Int.gcd y (Int.gcd x y : Int) : Int) = (Int.gcd x y : Int) := by
  have : Int.gcd y (Int.gcd x y : Int) = Int.gcd x y := by
    show Nat.gcd y.natAbs (Nat.gcd x.natAbs y.natAbs) = Nat.gcd x.natAbs y.natAbs
    exact Nat.gcd_eq_right (Nat.gcd_dvd_right _ _)
  rw [this]
end Og
open Og
local macro_rules | `(tactic| walk_at "call ref") => `(tactic| (k_here; (with_reducible show wpAny _ _ (call (Value.ref 194) _) _ _ _); k_dflt (refine' draw_use2 ?D ?B ?F ?X ?N ?hs ?hlt ?T ?hk ?hI ?hlen ?h0 ?h1 ?hg ?hm0 ?hm1 ?hd ?hu ?_; (case D => assumption); (case B => k_asm); (case F => k_asm); (case X => k_asm); (case N => k_asm); (case hs => kcj_all); (case hlt => first | assumption | omega); (case T => k_asm); (case hk => exact rfl); (case hI => assumption); (case hlen => (simp only [List.length_map, List.length_take]; omega)); (case h0 => first | assumption | omega); (case h1 => omega); (case hg => first | assumption | omega); (case hm0 => decide); (case hm1 => decide); (case hd => k_room); (case hu => exact Nat.le_of_ble_eq_true rfl); k_whole); intro r9 sp9 gr9 t9 u19 u29 n9 h9 tk9 a19 a29 a39 a49 a59 F9 N9; (try dsimp only); (try k_sweep)))
local macro_rules | `(tactic| walk_at "call ref") => `(tactic| (k_here; (with_reducible show wpAny _ _ (call (Value.ref 194) [Value.ref _, Value.int 4 _]) _ _ _); k_dflt (refine' draw_use ?D ?B ?F ?X ?N ?hs ?hlt ?hne ?T ?hk ?hI ?hlen ?h0 ?h1 ?hg ?hm0 ?hm1 ?hd ?hu ?_; (case D => assumption); (case B => k_asm); (case F => k_asm); (case X => k_asm); (case N => k_asm); (case hs => kcj_all); (case hlt => first | assumption | omega); (case hne => first | exact Nat.ne_of_gt (And.left (by assumption)) | (refine neN ?_; omega)); (case T => k_asm); (case hk => exact rfl); (case hI => assumption); (case hlen => (simp only [List.length_map, List.length_take]; omega)); (case h0 => first | assumption | omega); (case h1 => omega); (case hg => first | assumption | omega); (case hm0 => decide); (case hm1 => decide); (case hd => k_room); (case hu => exact Nat.le_of_ble_eq_true rfl); k_whole); intro r9 sp9 gr9 t9 u19 u29 n9 h9 tk9 a19 a29 a39 a49 a59 F9 N9; (try dsimp only); (try k_sweep)))
local macro_rules | `(tactic| walk_at "binaryOp Mult int int") => `(tactic| first
  | (with_reducible refine mul_one' ?ha ?hr ?_; (case ha => exact shared_bd (by assumption) (by assumption) (by assumption) (by assumption) (by assumption) (by assumption)); (case hr => exact ⟨by assumption, by assumption⟩); intro z9 b19 b29)
  | (with_reducible refine mul_other' ?ha ?hr ?_; (case ha => exact shared_bd (by assumption) (by assumption) (by assumption) (by assumption) (by assumption) (by assumption)); (case hr => exact ⟨by assumption, by assumption⟩); intro z9 b19 b29))
local macro_rules | `(tactic| walk_at "call ref") => `(tactic| (k_here; (with_reducible show wpAny _ _ (call (Value.ref 175) _) _ _ _); k_dflt (refine' gcd_use ?G ?B ?F ?X ?N ?T ?hk ?hd ?hu ?_; (case G => assumption); (case B => k_asm); (case F => k_asm); (case X => k_asm); (case N => k_asm); (case T => k_asm); (case hk => exact rfl); (case hd => k_room); (case hu => exact Nat.le_of_ble_eq_true rfl); k_whole); intro t9 h9 tk9 F9 N9; (try dsimp only); (try k_sweep)))
local macro_rules | `(tactic| walk_at "call ref") => `(tactic| (k_here; (with_reducible show wpAny _ _ (call (Value.ref 199) _) _ _ _); k_dflt (refine' row_use ?R ?B ?F ?X ?N ?hs ?T ?hk ?b ?hd ?hu ?_; (case R => assumption); (case B => k_asm); (case F => k_asm); (case X => k_asm); (case N => k_asm); (case hs => exact fun _ h => h); (case T => k_asm); (case hk => exact rfl); (case b => exact ⟨⟨by assumption, by assumption⟩, ⟨by assumption, by assumption⟩⟩); (case hd => k_room); (case hu => exact Nat.le_of_ble_eq_true rfl); k_whole); intro d9 b9 c9 ta9 tb9 tc9 n9 h9 tk9 e9 F9 N9; (try dsimp only); (try k_sweep)))
local macro_rules | `(tactic| walk_at "compareOp NotEq int int") => `(tactic| (refine neF ?kne9 ?_; (case kne9 => with_reducible (first | exact rfl | exact gcd_add1 _ _ _ | exact gcd_add2 _ _ _ | exact gcd_mulT _ _ _ | assumption))))
local macro_rules | `(tactic| walk_at "compareOp Eq int int") => `(tactic| (refine eqT ?keq9 ?_; (case keq9 => with_reducible (first | exact gcd_00 | exact gcd_z1 _ | exact gcd_z2 _ | exact exd_l _ _ | exact exd_r _ _))))
local macro_rules | `(tactic| walk_at "call ref") => `(tactic| (k_here; (with_reducible show wpAny _ _ (call (Value.ref 182) _) _ _ _); k_dflt (refine' ex_use ?X0 ?B ?F ?X ?N ?hs ?T ?hk ?hg ?he ?hd ?hu ?_; (case X0 => assumption); (case B => k_asm); (case F => k_asm); (case X => k_asm); (case N => k_asm); (case hs => repeat (first | exact fun _ h => h | refine pick_tail ?_)); (case T => k_asm); (case hk => exact rfl); (case hg => exact ⟨by assumption, gcd_le20 (by assumption) (by assumption) (by assumption) (by assumption)⟩); (case he => first | exact gcd_l _ _ | exact gcd_r _ _); (case hd => k_room); (case hu => exact Nat.le_of_ble_eq_true rfl); k_whole); intro d9 dx9 k19 k29 t19 t29 h9 tk9 F9 N9; (try dsimp only); (try k_sweep)))
local macro_rules | `(tactic| walk_at "JoinI") => `(tactic| exact joinI_gen rfl (by assumption) (by exact rfl) (by (intro y hy; dsimp only; simp only [if_neg hy])) (by assumption) (by kcj_all))
local macro_rules | `(tactic| walk_at "compareOp NotEq ref ref") => `(tactic| (k_here; (with_reducible show wpAny _ _ (compareOp CmpOp.NotEq (Value.ref _) (Value.ref _)) _ _ _); k_dflt (refine' ne3 ?N ?h1 ?h2 ?ea ?eb ?ec ?hu ?_; (case N => k_asm); (case h1 => k_mem); (case h2 => k_mem); (case ea => exact gcd_c _ _); (case eb => exact gcd_n1 _ _); (case ec => exact gcd_n2 _ _); (case hu => exact Nat.le_of_ble_eq_true rfl); k_whole)))
local macro_rules | `(tactic| walk_at "compareOp Gt int int") => `(tactic| first
  | (refine gtT ?kgt9 ?_; (case kgt9 => with_reducible assumption))
  | (refine gtF ?kgt9 ?_; (case kgt9 => with_reducible assumption)))
local macro_rules | `(tactic| walk_at "exec While BoolOp cons nil") => `(tactic| (refine while_false ?_))
local macro_rules | `(tactic| walk_at "Stops") => `(tactic| (with_unfolding_all refine Stops.no ?_))
local macro_rules | `(tactic| walk_at "binaryOp Pow int int") => `(tactic| (with_reducible refine pow0 ?kp09 ?_; (case kp09 => first | rfl | omega)))
local macro_rules | `(tactic| walk_at "binaryOp Mult int int") => `(tactic| (with_reducible refine mul1 ?km19 ?_; (case km19 => rfl)))
local macro_rules | `(tactic| walk_at "binaryOp FloorDiv int int") => `(tactic| (with_reducible refine over1 ?ko19 ?ko29 ?_; (case ko19 => assumption); (case ko29 => assumption)))
local macro_rules | `(tactic| walk_at "compareOp NotEq ref ref") => `(tactic| (k_here; (with_reducible show wpAny _ _ (compareOp CmpOp.NotEq (Value.ref _) (Value.ref _)) _ _ _); k_dflt (refine' ne2 ?N ?h1 ?h2 ?hu ?_; (case N => k_asm); (case h1 => k_mem); (case h2 => k_mem); (case hu => exact Nat.le_of_ble_eq_true rfl); k_whole)))
local macro_rules | `(tactic| walk_at "call ref") => `(tactic| (k_here; (with_reducible show wpAny _ _ (call (Value.ref 161) _) _ _ _); k_dflt (refine' dec_use ?D ?B ?F ?X ?N ?T ?hk ?hd ?hu ?_; (case D => assumption); (case B => k_asm); (case F => k_asm); (case X => k_asm); (case N => k_asm); (case T => k_asm); (case hk => exact rfl); (case hd => k_room); (case hu => exact Nat.le_of_ble_eq_true rfl); k_whole); intro d9 dx9 k19 k29 t19 t29 h9 tk9 F9 N9; (try dsimp only); (try k_sweep)))
local macro_rules | `(tactic| walk_at "call ref") => `(tactic| (k_here; (with_reducible show wpAny _ _ (call (Value.ref 84) _) _ _ _); k_dflt (refine' times_use ?D ?B ?F ?X ?N ?T ?hk ?h0 ?h1 ?hd ?hu ?_; (case D => assumption); (case B => k_asm); (case F => k_asm); (case X => k_asm); (case N => k_asm); (case T => k_asm); (case hk => exact rfl); (case h0 => assumption); (case h1 => assumption); (case hd => k_room); (case hu => exact Nat.le_of_ble_eq_true rfl); k_whole); intro d9 dx9 k19 k29 t19 t29 h9 tk9 F9 N9; (try dsimp only); (try k_sweep)))
local macro_rules | `(tactic| walk_at "call ref") => `(tactic| (k_here; (with_reducible show wpAny _ _ (call (Value.ref 98) _) _ _ _); k_dflt (refine' comp_use ?D ?B ?F ?X ?N ?T ?hk ?hq ?hd ?hu ?_; (case D => assumption); (case B => k_asm); (case F => k_asm); (case X => k_asm); (case N => k_asm); (case T => k_asm); (case hk => exact rfl); (case hq => first | exact exd_l _ _ | exact exd_r _ _); (case hd => k_room); (case hu => exact Nat.le_of_ble_eq_true rfl); k_whole); intro t9 h9 tk9 F9 N9; (try dsimp only); (try k_sweep)))
set_option maxRecDepth 100000 in
set_option maxHeartbeats 0 in
theorem PySem.Challenge.cw_og0140_01_holds : PySem.Challenge.rw_og0140_01.Holds := by
  refine Og.hd ?_
  have D9 : DrawAll PySem.Challenge.pw_og0140_01 Og.hd.heap_39 194 := draw_ok
  have G9 : GcdAll PySem.Challenge.pw_og0140_01 Og.hd.heap_39 175 := gcd_ok
  have R9 : RowAll PySem.Challenge.pw_og0140_01 Og.hd.heap_39 199 := row_ok
  have X9 : ExAll PySem.Challenge.pw_og0140_01 Og.hd.heap_39 182 := ex_ok gcd_ok
  have DE9 : DecAll PySem.Challenge.pw_og0140_01 Og.hd.heap_39 161 := dec_ok
  have TI9 : TimesAll PySem.Challenge.pw_og0140_01 Og.hd.heap_39 84 := times_ok
  have CO9 : CompAll PySem.Challenge.pw_og0140_01 Og.hd.heap_39 98 := comp_ok
  w_strict (
    k_go0
    (all_goals try k_fold)
    repeat' ((fail_if_success (with_reducible show wpAny _ _ (call (Value.ref 194) _) _ _ _)); (first | (k_unfold; (try dsimp only)) | (k_end; wrow_close) | walk1 | (dsimp only; walk1) | (leave1; walk_say "STEP leave1"; try dsimp only) | fail "no step"))
    repeat' ((fail_if_success (with_reducible show wpAny _ _ (execs (Stmt.If _ _ _ _ :: _) _) _ _ _)); (first | (k_unfold; (try dsimp only)) | (k_end; wrow_close) | walk1 | (dsimp only; walk1) | (leave1; walk_say "STEP leave1"; try dsimp only) | fail "no step"))
    repeat' ((fail_if_success (with_reducible show wpAny _ _ (execs (Stmt.For _ _ _ _ _ :: _) _) _ _ _)); (first | (k_unfold; (try dsimp only)) | (k_end; wrow_close) | walk1 | (dsimp only; walk1) | (leave1; walk_say "STEP leave1"; try dsimp only) | fail "no step"))
    rename Fr _ _ _ _ => F8
    rename News _ _ _ _ => N8
    dsimp only
    refine cut_i (Str.ofString "number") F8 N8 ?h1 ?h2
    case h1 =>
      (rename (_ * _ + _ * _ = ((Int.gcd _ _ : Nat) : Int)) => e8)
      have hG9 := gcd_le20' e8 (by assumption) (by assumption) (by assumption) (by assumption)
      rcases gcd_pos e8 with hp9 | hp9
      · repeat' (first | (k_unfold; (try dsimp only)) | (k_end; wrow_close) | walk1 | (dsimp only; walk1) | (leave1; walk_say "STEP leave1"; try dsimp only) | fail "no step")
        dsimp only
        rename Fr _ _ _ _ => F6
        rename News _ _ _ _ => N6
        exact joinI_gen rfl F6 (by exact rfl) (by (intro y hy; first | exact if_neg hy | simp only [if_neg hy] | (dsimp only; simp only [if_neg hy]))) N6 (by kcj_all)
      · repeat' (first | (k_unfold; (try dsimp only)) | (k_end; wrow_close) | walk1 | (dsimp only; walk1) | (leave1; walk_say "STEP leave1"; try dsimp only) | fail "no step")
    case h2 =>
      intro c8 t8 h8 tk8 F7 N7
      clear F8 N8
      repeat' (first | (k_unfold; (try dsimp only)) | (k_end; wrow_close) | walk1 | (dsimp only; walk1) | (leave1; walk_say "STEP leave1"; try dsimp only) | fail "no step"))
