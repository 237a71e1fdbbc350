import PyProof.Rows.All
import Wide.All
import OpenK.AllK
import Wide.FinOn
import PySem.Challenge.RW_xm0057_01
open PySem PySem.W PyProof.Rows
set_option Elab.async false
namespace Mine57
set_option maxRecDepth 100000 in
set_option maxHeartbeats 8000000 in
open_top hd for PySem.Challenge.rw_xm0057_01
end Mine57
namespace Mine57
/-- what a call of the def at f says of what it hands back and of the ledger behind it -/
def ConAt (w : World) (f : Addr) (vs : List Value) (dep : Nat) (news : List (Addr × Obj)) (Post : Value → List (Addr × Obj) → Prop) : Prop :=
  ∀ (mean : ExcName → Option Value) (mg mb : Str → Option Value) (dp un : Nat) (gd : Option (List Code)) (cn : Str) (cs : Scope) (a : Addr) (ccd : Value) (cl : List (Str × Addr)) (outer : List Env) (A₀ : Around) (base h₀ : Heap) (L : Addr) (m : Str → Option Value) (s : Shared) (Q E : Value → Shared → Prop),
    Below A₀ base outer h₀ → Fr h₀ L s.heap m → (hd.heap_39 w.params).In h₀ → News h₀ L s.heap news → Top hd.view_39 (looseW hd.view_39 []) mean mg mb h₀ → cs.kind = .function → dp + dep < recursionLimit → un + 8 * dep < cLine →
    (∀ r news' h' tk', Post r news' → Fr h₀ L h' m → News h₀ L h' news' → Q r { s with heap := h', toks := tk' }) →
    wpAny (model PySem.Challenge.rw_xm0057_01.row.prog w) (ktrTop dp un gd cn cs L a ccd cl outer) (PySem.call (.ref f) vs) Q E s
theorem ConAt.use {w : World} {f : Addr} {vs : List Value} {dep : Nat} {news : List (Addr × Obj)} {Post : Value → List (Addr × Obj) → Prop} (C : ConAt w f vs dep news Post)
    {mean : ExcName → Option Value} {mg mb : Str → Option Value} {dp un : Nat} {gd : Option (List Code)} {cn : Str} {cs : Scope} {a : Addr} {ccd : Value} {cl : List (Str × Addr)} {outer : List Env} {A₀ : Around} {base h₀ : Heap} {L : Addr} {m : Str → Option Value} {s : Shared} {Q E : Value → Shared → Prop}
    (B : Below A₀ base outer h₀) (F : Fr h₀ L s.heap m) (X : (hd.heap_39 w.params).In h₀) (N : News h₀ L s.heap news) (T : Top hd.view_39 (looseW hd.view_39 []) mean mg mb h₀) (hk : cs.kind = .function) (hd : dp + dep < recursionLimit) (hu : un + 8 * dep < cLine)
    (k : ∀ r news' h' tk', Post r news' → Fr h₀ L h' m → News h₀ L h' news' → Q r { s with heap := h', toks := tk' }) :
    wpAny (model PySem.Challenge.rw_xm0057_01.row.prog w) (ktrTop dp un gd cn cs L a ccd cl outer) (PySem.call (.ref f) vs) Q E s :=
  C mean mg mb dp un gd cn cs a ccd cl outer A₀ base h₀ L m s Q E B F X N T hk hd hu k
theorem ConAt.at {w : World} {f : Addr} {vs : List Value} {dep : Nat} {news : List (Addr × Obj)} {Post : Value → List (Addr × Obj) → Prop}
    {mean : ExcName → Option Value} {mg mb : Str → Option Value} {dp un : Nat} {gd : Option (List Code)} {cn : Str} {cs : Scope} {a : Addr} {ccd : Value} {cl : List (Str × Addr)} {outer : List Env} {A₀ : Around} {base h₀ : Heap} {L : Addr} {m : Str → Option Value} {s : Shared} {Q E : Value → Shared → Prop}
    (N : News h₀ L s.heap news) (B : Below A₀ base outer h₀) (F : Fr h₀ L s.heap m) (X : (hd.heap_39 w.params).In h₀) (T : Top hd.view_39 (looseW hd.view_39 []) mean mg mb h₀) (C : ConAt w f vs dep news Post) (hk : cs.kind = .function) (hd : dp + dep < recursionLimit) (hu : un + 8 * dep < cLine)
    (k : ∀ r news' h' tk', Post r news' → Fr h₀ L h' m → News h₀ L h' news' → Q r { s with heap := h', toks := tk' }) :
    wpAny (model PySem.Challenge.rw_xm0057_01.row.prog w) (ktrTop dp un gd cn cs L a ccd cl outer) (PySem.call (.ref f) vs) Q E s :=
  C mean mg mb dp un gd cn cs a ccd cl outer A₀ base h₀ L m s Q E B F X N T hk hd hu k

def gcdI (x y : Int) : Int := (Nat.gcd x.natAbs y.natAbs : Nat)
abbrev tupI (a : Int) (ta : Tok) (b : Int) (tb : Tok) : Obj := { cls := .type "tuple", data := .seq #[.int a ta, .int b tb] }
end Mine57
namespace Mine57
theorem cd_start (x y : Int) : 0 ≤ (if x < 0 then -x else x) ∧ 0 ≤ (if y < 0 then -y else y) ∧ gcdI (if x < 0 then -x else x) (if y < 0 then -y else y) = gcdI x y := by
  have e : ∀ z : Int, (if z < 0 then -z else z).natAbs = z.natAbs := fun z => by split <;> omega
  refine ⟨by split <;> omega, by split <;> omega, ?_⟩
  unfold gcdI
  rw [e, e]
theorem cd_turn {a b g : Int} (ha : 0 ≤ a) (hb' : 0 ≤ b) (hg : gcdI a b = g) (hb : 0 < b) : 0 ≤ b ∧ 0 ≤ a.fmod b ∧ gcdI b (a.fmod b) = g := by
  have e : a.fmod b = a % b := Int.fmod_eq_emod_of_nonneg a hb'
  refine ⟨hb', by rw [e]; exact Int.emod_nonneg _ (by omega), ?_⟩
  rw [← hg, e]
  unfold gcdI
  obtain ⟨m, rfl⟩ := Int.eq_ofNat_of_zero_le ha
  obtain ⟨n, rfl⟩ := Int.eq_ofNat_of_zero_le hb'
  rw [← Int.natCast_emod]
  simp only [Int.natAbs_natCast]
  rw [Nat.gcd_comm m n, Nat.gcd_rec n m, Nat.gcd_comm]
theorem cd_less {a b : Int} (hb : 0 < b) : (a.fmod b).toNat < b.toNat := by
  have e : a.fmod b = a % b := Int.fmod_eq_emod_of_nonneg a (by omega)
  have := Int.emod_lt_of_pos a hb
  have := Int.emod_nonneg a (show b ≠ 0 by omega)
  omega
theorem cd_end {a b g : Int} (hg : gcdI a b = g) (ha : 0 ≤ a) (hb' : 0 ≤ b) (hb : ¬ 0 < b) : a = g := by
  have : b = 0 := by omega
  subst this
  rw [← hg]
  unfold gcdI
  simp only [Int.natAbs_zero, Nat.gcd_zero_right]
  omega
set_option maxRecDepth 100000
set_option maxHeartbeats 4000000
theorem cd_con (w : World) (x y : Int) (tx ty : Tok) (news : List (Addr × Obj)) :
    ConAt w 21 [.int x tx, .int y ty] 1 news (fun r news' => news = news' ∧ ∃ t, r = .int (gcdI x y) t) := by
  k_with_none
  w_top off
  unfold ConAt
  k_fill
  intro mean mg mb dp un gd cn cs a ccd cl outer A₀ base h₀ L m s Q E B F X N T hk hd hu hret
  refine wpAny_call ?_
  k_dflt cell_enter
  k_with "exec While Compare cons nil" => (k_while (fun (_ : List Int) one other => 0 ≤ one ∧ 0 ≤ other ∧ gcdI one other = gcdI x y) (fun _ _ other => other.toNat) "one" "other")
  k_with "state" => first | exact cd_start x y | exact cd_turn (by assumption) (by assumption) (by assumption) (by assumption)
  k_with "measure" => exact cd_less (by assumption)
  k_steps
  all_goals (have hc_end := cd_end (by assumption) (by assumption) (by assumption) (by assumption); subst hc_end; refine hret _ _ _ _ ⟨rfl, _, rfl⟩ (by k_asm) (cb_drop (by assumption) (by kcj_all)))
end Mine57
namespace Mine57
theorem gcd_pos (x : Int) {y : Int} (h : 0 < y) : 0 < gcdI x y := by
  unfold gcdI
  have : 0 < Nat.gcd x.natAbs y.natAbs := Nat.gcd_pos_of_pos_right _ (by omega)
  omega
theorem log_small {a : Int} (h0 : 0 < a) (h : a < 2 ^ 60) : a.natAbs.log2 < 9000 := by
  have h1 : a.natAbs < 2 ^ 60 := by omega
  have h2 : a.natAbs.log2 < 60 := (Nat.log2_lt (by omega)).mpr h1
  omega
theorem gcd_le (x : Int) {y : Int} (h : 0 < y) : gcdI x y ≤ y := by
  unfold gcdI
  have : Nat.gcd x.natAbs y.natAbs ≤ y.natAbs := Nat.gcd_le_right _ (by omega)
  omega
set_option maxRecDepth 100000
set_option maxHeartbeats 4000000
theorem fr_con (w : World) (x y : Int) (tx ty : Tok) (news : List (Addr × Obj)) (hy : 0 < y) (hyb : y < 2 ^ 60) :
    ConAt w 28 [.int x tx, .int y ty] 2 news (fun r news' => ∃ D t1 t2, r = .ref D ∧ news' = (D, tupI (x.fdiv (gcdI x y)) t1 (y.fdiv (gcdI x y)) t2) :: news ∧ ∀ p ∈ news, p.1 < D) := by
  k_with_none
  w_top off
  unfold ConAt
  k_fill
  intro mean mg mb dp un gd cn cs a ccd cl outer A₀ base h₀ L m s Q E B F X N T hk hd hu hret
  have hg := gcd_pos x hy
  have hgl := log_small hg (Int.lt_of_le_of_lt (gcd_le x hy) hyb)
  refine wpAny_call ?_
  k_dflt cell_enter
  k_with "call ref" => (k_here; k_dflt (refine' ConAt.use (cd_con _ _ _ _ _ _) ?k1 ?k2 ?k3 ?k4 ?k5 ?kK ?kd ?ku ?kR; (case k1 => k_asm); (case k2 => k_asm); (case k3 => k_asm); (case k4 => k_asm); (case k5 => k_asm); (case kK => first | exact rfl | assumption); (case kd => ktr_room); (case ku => ktr_units)); (rintro r9 n9 h9 tk9 ⟨rfl, t9, rfl⟩ F9 N9); (try dsimp only); (try k_fold))
  k_with "binaryOp FloorDiv int int" => (with_reducible refine floordiv_int ?kbe ?_ (Or.inl (PyProof.noPylong_of_log2 (by assumption)))); (case kbe => omega)
  k_steps
  all_goals (refine hret _ _ _ _ ⟨_, _, _, rfl, rfl, by assumption⟩ (by k_asm) (by k_asm))
end Mine57
namespace Mine57
def fracF (x y : Int) : Int × Int := (x.fdiv (gcdI x y), y.fdiv (gcdI x y))
def lessF (p q : Int × Int) : Int × Int := fracF (p.1 * q.2 - q.1 * p.2) (p.2 * q.2)
set_option maxRecDepth 100000
set_option maxHeartbeats 4000000
theorem fl_con (w : World) (p q : Addr) (x y : Int × Int) (ta tb tc td : Tok) (news : List (Addr × Obj)) (hp : (p, tupI x.1 ta x.2 tb) ∈ news) (hq : (q, tupI y.1 tc y.2 td) ∈ news) (hx1 : -1152921504606846976 < x.1) (hx2 : x.1 < 1152921504606846976) (hx3 : 0 < x.2) (hx4 : x.2 < 1152921504606846976) (hy : 0 < x.2 * y.2) (hyb : x.2 * y.2 < 2 ^ 60) :
    ConAt w 35 [.ref p, .ref q] 3 news (fun r news' => ∃ D t1 t2, r = .ref D ∧ news' = (D, tupI (lessF x y).1 t1 (lessF x y).2 t2) :: news ∧ ∀ p ∈ news, p.1 < D) := by
  k_with_none
  w_top off
  unfold ConAt
  k_fill
  intro mean mg mb dp un gd cn cs a ccd cl outer A₀ base h₀ L m s Q E B F X N T hk hd hu hret
  refine wpAny_call ?_
  k_dflt cell_enter
  k_with "call ref" => (k_here; k_dflt (refine' ConAt.use (fr_con _ _ _ _ _ _ (by assumption) (by assumption)) ?k1 ?k2 ?k3 ?k4 ?k5 ?kK ?kd ?ku ?kR; (case k1 => k_asm); (case k2 => k_asm); (case k3 => k_asm); (case k4 => k_asm); (case k5 => k_asm); (case kK => first | exact rfl | assumption); (case kd => ktr_room); (case ku => ktr_units)); (rintro r9 n9 h9 tk9 ⟨D9, t8, t9, rfl, rfl, l9⟩ F9 N9); (try dsimp only); (try k_fold))
  k_steps
  all_goals (refine hret _ _ _ _ ⟨_, _, _, rfl, rfl, by assumption⟩ (by k_asm) (by k_asm))
end Mine57
namespace Mine57
local macro_rules | `(tactic| k_all) => `(tactic| assumption)
local macro_rules | `(tactic| is_list) => `(tactic| exact News.isList (by assumption) (by k_mem))
local macro_rules | `(tactic| k_mem) => `(tactic| first | assumption | (refine' List.Mem.tail _ ?_; assumption))
theorem fm_nn (a : Int) {b : Int} (h : 0 < b) : 0 ≤ a.fmod b := by
  rw [Int.fmod_eq_emod_of_nonneg a (by omega)]
  exact Int.emod_nonneg _ (by omega)
theorem fm_lt (a : Int) {b : Int} (h : 0 < b) : a.fmod b < b := by
  rw [Int.fmod_eq_emod_of_nonneg a (by omega)]
  exact Int.emod_lt_of_pos _ h
set_option maxRecDepth 100000
set_option maxHeartbeats 4000000
theorem dr_con (w : World) (b l : Addr) (vs : List Value) (ns : List Int) (c n : Nat) (spot below : Int) (ts tb : Tok) (rest : List (Addr × Obj)) (hb : ∀ p ∈ rest, p.1 ≠ b) (hl : (l, listOf vs.toArray n) ∈ rest) (hi : IntsAre vs ns) (hlen : ns.length ≤ 63) (hs : 0 ≤ spot) (hs2 : spot ≤ 5) (hbe : 0 < below) (hbl : below ≤ 20) :
    ConAt w 42 [.ref b, .int below tb] 2 ((b, listOf #[.ref l, .int spot ts] c) :: rest) (fun r news' => ∃ v t t' c', r = .int v t ∧ 0 ≤ v ∧ v < below ∧ news' = (b, listOf #[.ref l, .int (spot + 1) t'] c') :: rest) := by
  k_with_none
  w_top off
  unfold ConAt
  k_fill
  intro mean mg mb dp un gd cn cs a ccd cl outer A₀ base h₀ L m s Q E B F X N T hk hd hu hret
  have kMark0 := kstMark
  refine wpAny_call ?_
  k_dflt cell_enter
  k_steps
  all_goals (refine hret _ _ _ _ ⟨_, _, _, _, rfl, fm_nn _ hbe, fm_lt _ hbe, rfl⟩ (by k_asm) (by k_asm))
end Mine57
namespace Mine57
local macro_rules | `(tactic| k_all) => `(tactic| assumption)
local macro_rules | `(tactic| size_fits) => `(tactic| assumption)
def gBot (p : Int × Int) : Int := (p.2 + p.1 - 1).fdiv p.1
def gNext (p : Int × Int) : Int × Int := lessF p (1, gBot p)
structure OkTurn (p : Int × Int) : Prop where
  a1 : p.1 < 1152921504606846976
  b0 : 0 < p.2
  b1 : p.2 < 1152921504606846976
  c0 : 0 < gBot p
  c1 : p.2 * gBot p < 1152921504606846976
  d0 : 0 ≤ (gNext p).1
  d1 : (gNext p).1 < p.1
def OkG : Nat → Int × Int → Prop
  | 0, p => p.1 ≤ 0
  | k + 1, p => 0 < p.1 → OkTurn p ∧ OkG k (gNext p)
def runG : Nat → Int × Int → List Int
  | 0, _ => []
  | k + 1, p => if 0 < p.1 then gBot p :: runG k (gNext p) else []
theorem okG_turn {j : Nat} {p : Int × Int} (h : OkG j p) (h0 : 0 < p.1) : OkTurn p ∧ ∃ i, j = i + 1 ∧ OkG i (gNext p) ∧ runG j p = gBot p :: runG i (gNext p) := by
  cases j with
  | zero => exact absurd h0 (Int.not_lt.mpr h)
  | succ i => exact ⟨(h h0).1, i, rfl, (h h0).2, by simp only [runG, if_pos h0]⟩
theorem okG_end {j : Nat} {p : Int × Int} (h0 : ¬ 0 < p.1) : runG j p = [] := by
  cases j with
  | zero => rfl
  | succ i => simp only [runG, if_neg h0]
structure GSt where
  vs : List Value
  xs : List Int
  n : Nat
  lv : Addr
  a : Int
  ta : Tok
  b : Int
  tb : Tok
  j : Nat
abbrev gLed (fa : Addr) (news : List (Addr × Obj)) (c : GSt) : List (Addr × Obj) := (fa, listOf c.vs.toArray c.n) :: (c.lv, tupI c.a c.ta c.b c.tb) :: news
abbrev gPs (c : GSt) : List (Str × Value) := [(Str.ofString "left", .ref c.lv)]
abbrev gFacts (fa : Addr) (c : GSt) : Prop := IntsAre c.vs c.xs ∧ c.lv ≠ fa
abbrev gP (all : List Int) (c : GSt) : Prop := OkG c.j (c.a, c.b) ∧ c.xs ++ runG c.j (c.a, c.b) = all
section
variable {prog : Program} {w : World} {A : Around} {E : Value → Shared → Prop} {Q : Flow → Shared → Prop} {s : Shared} {env : Env} {h₀ : Heap} {L : Addr}
theorem g_while {test : PySem.Expr} {body : List Stmt} {pos : Pos} {m₀ : Str → Option Value} {news : List (Addr × Obj)} {fa D p : Addr} {o : Obj} {a b : Int} {ta tb : Tok} {k : Nat}
    (F : Fr h₀ L s.heap m₀) (N : News h₀ L s.heap ((D, o) :: (fa, listOf #[] 0) :: news)) (hp : (p, tupI a ta b tb) ∈ news) (hl : ∀ q ∈ news, q.1 < fa) (hk : m₀ (Str.ofString "left") = some (.ref p)) (hok : OkG k (a, b))
    (turn : ∀ (vs : List Value) (xs : List Int) (n : Nat) (lv : Addr) (a' : Int) (ta' : Tok) (b' : Int) (tb' : Tok) (j : Nat) (u : Str → Option Value) h tk, IntsAre vs xs → lv ≠ fa → OkG j (a', b') → xs ++ runG j (a', b') = runG k (a, b) →
      Fr h₀ L h (kstB (fun z => if [Str.ofString "bottom", Str.ofString "later"].contains z then u z else m₀ z) [(Str.ofString "left", .ref lv)]) → News h₀ L h ((fa, listOf vs.toArray n) :: (lv, tupI a' ta' b' tb') :: news) →
      wpAny (model prog w) A (isTrue test env (eval test env)) (fun yes s₂ =>
        if yes = true then wpAny (model prog w) A (execs body env) (KswPost h₀ L s (gLed fa news) gPs (gFacts fa) [Str.ofString "bottom", Str.ofString "later"] m₀ (gP (runG k (a, b))) GSt.j Q ⟨vs, xs, n, lv, a', ta', b', tb', j⟩) E s₂ else Q .next s₂) E { s with heap := h, toks := tk })
    (hE : PassesOwn (model prog w) A env E := by passes_own) :
    wpAny (model prog w) A (exec (.While test body [] pos) env) Q E s := by
  refine ksw_while (gLed fa news) gPs (gFacts fa) [Str.ofString "bottom", Str.ofString "later"] (gP (runG k (a, b))) GSt.j ⟨[], [], 0, p, a, ta, b, tb, k⟩ F (kst_newsOf N ?_) ⟨IntsAre.nil, ?_⟩ ?_ ⟨hok, rfl⟩ ?_ hE
  · intro q hq
    rcases List.mem_cons.mp hq with rfl | hq
    · exact .tail _ (.head _)
    · rcases List.mem_cons.mp hq with rfl | hq
      · exact .tail _ (.tail _ hp)
      · exact .tail _ (.tail _ hq)
  · exact Nat.ne_of_lt (hl _ hp)
  · exact List.forall_mem_cons.mpr ⟨hk, List.forall_mem_nil _⟩
  · rintro ⟨vs, xs, n, lv, a, ta, b, tb, j⟩ u h tk ⟨h1, h2⟩ ⟨h3, h4⟩ F' N'
    exact turn vs xs n lv a ta b tb j u h tk h1 h2 h3 h4 F' N'
theorem g_step {news : List (Addr × Obj)} {fa D lv : Addr} {q r : Addr × Obj} {a b : Int} {ta tb t8 t9 tk : Tok} {vs : List Value} {xs all : List Int} {n i j tk' : Nat} {h' : Heap} {m₀ m' : Str → Option Value} {stored : List Str}
    (F : Fr h₀ L h' m') (N : News h₀ L h' ((D, tupI (gNext (a, b)).1 t8 (gNext (a, b)).2 t9) :: q :: (fa, listOf (vs ++ [Value.int (gBot (a, b)) tk]).toArray (n + 1)) :: r :: news)) (hI : IntsAre vs xs) (hD : @LT.lt Nat _ fa D) (hk : m' (Str.ofString "left") = some (.ref D))
    (hr : ∀ z, (∀ p ∈ [(Str.ofString "left", Value.ref D)], z ≠ p.1) → stored.contains z = false → m' z = m₀ z) (hO : OkG i (gNext (a, b))) (hR : xs ++ runG j (a, b) = all) (hr9 : runG j (a, b) = gBot (a, b) :: runG i (gNext (a, b))) (hj : j = i + 1) :
    KswEnd h₀ L s (gLed fa news) gPs (gFacts fa) stored m₀ (gP all) GSt.j ⟨vs, xs, n, lv, a, ta, b, tb, j⟩ { s with heap := h', toks := tk' } := by
  refine ksw_end (⟨vs ++ [Value.int (gBot (a, b)) tk], xs ++ [gBot (a, b)], n + 1, D, (gNext (a, b)).1, t8, (gNext (a, b)).2, t9, i⟩ : GSt) F N (fun q hq => ?_) ⟨hI.append (.cons _ _ .nil), Nat.ne_of_gt hD⟩ (List.forall_mem_cons.mpr ⟨hk, List.forall_mem_nil _⟩) hr ⟨hO, ?_⟩ (by rw [hj]; exact Nat.lt_succ_self _)
  · rcases List.mem_cons.mp hq with rfl | hq
    · exact .tail _ (.tail _ (.head _))
    · rcases List.mem_cons.mp hq with rfl | hq
      · exact .head _
      · exact .tail _ (.tail _ (.tail _ (.tail _ hq)))
  · show (xs ++ [gBot (a, b)]) ++ runG i (gNext (a, b)) = all
    rw [List.append_assoc, List.singleton_append, ← hR, hr9]
end
theorem runG_len : ∀ (k : Nat) (p : Int × Int), (runG k p).length ≤ k
  | 0, _ => Nat.le_refl _
  | k + 1, p => by
    unfold runG
    split
    · exact Nat.succ_le_succ (runG_len k _)
    · exact Nat.zero_le _
theorem run_size {vs : List Value} {xs ys : List Int} {k : Nat} {p : Int × Int} (hI : IntsAre vs xs) (hR : xs ++ ys = runG k p) (hk : k ≤ 60) : vs.toArray.size ≤ sizeLine := by
  have h1 := hI.length
  have h2 := runG_len k p
  rw [← hR, List.length_append] at h2
  rw [List.size_toArray, PySem.sizeLine_eq]
  omega
theorem ltNat {a b : Addr} (h : a < b) : @LT.lt Nat _ a b := h
theorem neNat {a b : Addr} (h : a ≠ b) : @Ne Nat a b := h
theorem allNe {news : List (Addr × Obj)} {f : Addr} (h : ∀ q ∈ news, q.1 < f) : ∀ q ∈ news, q.1 ≠ f := fun q hq => Nat.ne_of_lt (h q hq)
set_option maxRecDepth 100000
set_option maxHeartbeats 4000000
theorem gr_con (w : World) (p : Addr) (x y : Int) (ta tb : Tok) (k : Nat) (news : List (Addr × Obj)) (hp : (p, tupI x ta y tb) ∈ news) (hok : OkG k (x, y)) (hks : k ≤ 60) :
    ConAt w 49 [.ref p] 4 news (fun r news' => ∃ D vs n, r = .ref D ∧ IntsAre vs (runG k (x, y)) ∧ news' = (D, listOf vs.toArray n) :: news ∧ ∀ p ∈ news, p.1 < D) := by
  k_with_none
  w_top off
  unfold ConAt
  k_fill
  intro mean mg mb dp un gd cn cs a ccd cl outer A₀ base h₀ L m s Q E B F X N T hk hd hu hret
  refine wpAny_call ?_
  k_dflt cell_enter
  k_with "exec While Compare cons nil" => (k_here; (rename Fr _ _ _ _ => lF'); (rename News _ _ _ _ => lN'); (with_unfolding_all refine' g_while lF' lN' hp (by assumption) (by exact rfl) hok (fun vs xs n lv a' ta' b' tb' j u h tk hI hne hO hR F' N' => ?_)); (clear lF' lN'); (dsimp only [kstB] at F'); (try k_fold))
  k_with "binaryOp FloorDiv int int" => (k_here; (obtain ⟨hT, i, hj, hi, hr⟩ := okG_turn hO (by assumption)); (have hgl := log_small (show 0 < a' by assumption) hT.a1); (with_reducible refine floordiv_int ?kbe ?_ (Or.inl (PyProof.noPylong_of_log2 (by assumption)))); (case kbe => omega))
  k_with "call ref" => (k_here; (have u1 := hT.a1; have u2 := hT.b0; have u3 := hT.b1; have u4 := hT.c0; have u5 := hT.c1; have u6 := hT.d0; have u7 := hT.d1; have u8 := Int.mul_pos u2 u4); (dsimp only [gBot] at u4 u5 u8); (dsimp only [gNext, gBot] at u6 u7); k_dflt (refine' ConAt.use (fl_con _ _ _ (a', b') (1, (b' + a' - 1).fdiv a') ta' tb' _ _ _ ?m1 ?m2 ?x1 (by assumption) (by assumption) (by assumption) (by assumption) (by assumption)) ?k1 ?k2 ?k3 ?k4 ?k5 ?kK ?kd ?ku ?kR; (case k1 => k_asm); (case k2 => k_asm); (case k3 => k_asm); (case k4 => k_asm); (case k5 => k_asm); (case kK => first | exact rfl | assumption); (case kd => ktr_room); (case ku => ktr_units)); (case x1 => (dsimp only; omega)); (case m1 => exact .tail _ (.tail _ (.head _))); (case m2 => exact .head _); (rintro r9 n9 h9 tk9 ⟨D9, t8, t9, rfl, rfl, l9⟩ F9 N9); (have l8 := ltNat (l9 _ (.tail _ (.head _)))); (have l6 := neNat hne); (have l7 := allNe (news := news) (by assumption)); (have hsz := run_size hI hR hks); (try dsimp only); (try dsimp only at l8); (try k_fold))
  k_steps
  · (rename News _ _ _ _ => nE')
    (try simp only [List.push_toArray] at nE')
    exact g_step (by assumption) nE' hI l8 rfl (by ksw_same) hi hR hr hj
  · refine hret _ _ _ _ ⟨_, vs, n, rfl, ?_, rfl, by assumption⟩ (by k_asm) ?_
    · have e := okG_end (j := j) (p := (a', b')) (by assumption)
      rw [e, List.append_nil] at hR
      rw [← hR]
      exact hI
    · (rename News h₀ L _ _ => kN9)
      intro q hq
      rcases List.mem_cons.mp hq with rfl | hq
      · exact kN9 _ (.head _)
      · exact kN9 _ (.tail _ (.tail _ hq))
end Mine57
namespace Mine57
structure OkStep (p : Int × Int) (n : Int) : Prop where
  a0 : -1152921504606846976 < p.1
  a1 : p.1 < 1152921504606846976
  b0 : 0 < p.2
  b1 : p.2 < 1152921504606846976
  c0 : 0 < p.2 * n
  c1 : p.2 * n < 1152921504606846976
def OkL : List Int → Int × Int → Prop
  | [], _ => True
  | n :: r, p => OkStep p n ∧ OkL r (lessF p (1, n))
def leftF : List Int → Int × Int → Int × Int
  | [], p => p
  | n :: r, p => leftF r (lessF p (1, n))
def LJ (news : List (Addr × Obj)) (m₀ : Str → Option Value) (all : Int × Int) (xs : List Int) (i : Nat) (m : Str → Option Value) (nx : List (Addr × Obj)) : Prop :=
  ∃ lv a b ta tb, nx = (lv, tupI a ta b tb) :: news ∧ m (Str.ofString "one") = some (.ref lv) ∧ (∀ z, z ≠ Str.ofString "bottom" → z ≠ Str.ofString "one" → m z = m₀ z) ∧ OkL (xs.drop i) (a, b) ∧ leftF (xs.drop i) (a, b) = all
section
variable {prog : Program} {w : World} {A : Around} {E : Value → Shared → Prop} {s : Shared} {env : Env} {h₀ : Heap} {body : List Stmt} {Q : Flow → Shared → Prop}
theorem l_frame {m m₀ : Str → Option Value} {v : Value} {lv : Addr} (h1 : m (Str.ofString "one") = some (.ref lv)) (h2 : ∀ z, z ≠ Str.ofString "bottom" → z ≠ Str.ofString "one" → m z = m₀ z) :
    (fun y => if y = Str.ofString "bottom" then some v else m y) = fun y => if y = Str.ofString "bottom" then some v else if y = Str.ofString "one" then some (.ref lv) else m₀ y := by
  funext y
  by_cases e : y = Str.ofString "bottom"
  · simp only [if_pos e]
  · by_cases e' : y = Str.ofString "one"
    · rw [if_neg e, if_neg e, if_pos e', e', h1]
    · rw [if_neg e, if_neg e, if_neg e', h2 y e e']
theorem l_loop {l p : Addr} {vs : List Value} {xs : List Int} {nn : Nat} {x y : Int} {tx ty : Tok} {m₀ : Str → Option Value} {news : List (Addr × Obj)}
    (hh : A.handled = none) (hl : (l, listOf vs.toArray nn) ∈ news) (hp : (p, tupI x tx y ty) ∈ news) (hI : IntsAre vs xs) (hok : OkL xs (x, y)) (F : Fr h₀ env.locals s.heap m₀) (N : News h₀ env.locals s.heap news) (hm : m₀ (Str.ofString "one") = some (.ref p))
    (turn : ∀ lv a b ta tb n i t h tk own, i < xs.length → xs.drop i = n :: xs.drop (i + 1) → OkL (n :: xs.drop (i + 1)) (a, b) → leftF (n :: xs.drop (i + 1)) (a, b) = leftF xs (x, y) → OwnOff own (news.map (·.1)) →
      Fr h₀ env.locals h (fun y => if y = Str.ofString "bottom" then some (.int n t) else if y = Str.ofString "one" then some (.ref lv) else m₀ y) → News h₀ env.locals h ((lv, tupI a ta b tb) :: (news ++ own)) →
      wpAny (model prog w) A (execs body env) (InvPostG h₀ env.locals (fun m' nx => (l, listOf vs.toArray nn) ∈ nx ∧ LJ news m₀ (leftF xs (x, y)) xs (i + 1) m' nx) own { s with heap := h, toks := tk } Q) E { s with heap := h, toks := tk })
    (done : ∀ lv t1 t2 (u : Str → Option Value) h tk, Fr h₀ env.locals h (fun y => if y = Str.ofString "bottom" then u y else if y = Str.ofString "one" then some (.ref lv) else m₀ y) → News h₀ env.locals h ((lv, tupI (leftF xs (x, y)).1 t1 (leftF xs (x, y)).2 t2) :: news) → Q .next { s with heap := h, toks := tk }) :
    wpAny (model prog w) A (pyIter (.ref l)) (fun it s₂ => LoopAtV prog w A h₀ env (Str.ofString "bottom") body Q E it s₂) E s := by
  refine kdl_iter (nn := nn) (news := (p, tupI x tx y ty) :: news) (LJ news m₀ (leftF xs (x, y)) xs) hh (.tail _ hl) F (fun q hq => ?_) ⟨p, x, y, tx, ty, rfl, hm, fun _ _ _ => rfl, hok, rfl⟩ ?_ ?_
  · rcases List.mem_cons.mp hq with rfl | hq
    · exact N _ hp
    · exact N _ hq
  · rintro i v m₁ news₁ h tk own hv hoff - ⟨lv, a, b, ta, tb, rfl, h1, h2, h3, h4⟩ F₁ N₁
    obtain ⟨n, t, rfl, hn⟩ := hI.at i v hv
    obtain ⟨hi, hn'⟩ := List.getElem?_eq_some_iff.mp hn
    have e : xs.drop i = n :: xs.drop (i + 1) := by rw [List.drop_eq_getElem_cons hi, hn']
    rw [l_frame h1 h2] at F₁
    rw [e] at h3 h4
    exact turn lv a b ta tb n i t h tk own hi e h3 h4 (fun q hq b hb => hoff q hq b (.tail _ hb)) F₁ N₁
  · rintro m₁ news₁ h tk ⟨lv, a, b, ta, tb, rfl, h1, h2, h3, h4⟩ F₁ N₁
    have e : xs.drop vs.length = [] := by rw [hI.length, List.drop_length]
    rw [e] at h4
    have h5 : (a, b) = leftF xs (x, y) := h4
    rw [← h5] at done
    refine done lv ta tb m₁ h tk ?_ N₁
    have e' : m₁ = fun y => if y = Str.ofString "bottom" then m₁ y else if y = Str.ofString "one" then some (.ref lv) else m₀ y := by
      funext y
      by_cases e : y = Str.ofString "bottom"
      · simp only [if_pos e]
      · by_cases e' : y = Str.ofString "one"
        · rw [if_neg e, if_pos e', e', h1]
        · rw [if_neg e, if_neg e', h2 y e e']
    rw [← e']
    exact F₁
theorem l_step {L D l : Addr} {vs : List Value} {nn : Nat} {news own : List (Addr × Obj)} {q : Addr × Obj} {lv : Addr} {o : Obj} {p : Int × Int} {n : Int} {t1 t2 : Tok} {tk i : Nat} {h' : Heap} {m₀ m' : Str → Option Value} {all : Int × Int} {xs : List Int}
    (F : Fr h₀ L h' m') (N : News h₀ L h' ((D, tupI (lessF p (1, n)).1 t1 (lessF p (1, n)).2 t2) :: q :: (lv, o) :: (news ++ own))) (hl : (l, listOf vs.toArray nn) ∈ news) (hD : ∀ r ∈ q :: (lv, o) :: (news ++ own), r.1 < D) (hoff : OwnOff own (news.map (·.1)))
    (h1 : m' (Str.ofString "one") = some (.ref D)) (h2 : ∀ z, z ≠ Str.ofString "bottom" → z ≠ Str.ofString "one" → m' z = m₀ z) (h3 : OkL (xs.drop (i + 1)) (lessF p (1, n))) (h4 : leftF (xs.drop (i + 1)) (lessF p (1, n)) = all) :
    InvEndG h₀ L (fun m' nx => (l, listOf vs.toArray nn) ∈ nx ∧ LJ news m₀ all xs (i + 1) m' nx) own s { s with heap := h', toks := tk } := by
  refine InvEndG.intro (nx := (D, tupI (lessF p (1, n)).1 t1 (lessF p (1, n)).2 t2) :: news) F N ⟨.tail _ hl, D, (lessF p (1, n)).1, (lessF p (1, n)).2, t1, t2, rfl, h1, h2, h3, h4⟩ ?_ ?_ ?_
  · intro r hr b hb
    rcases List.mem_cons.mp hb with rfl | hb
    · exact Nat.ne_of_lt (hD r (.tail _ (.tail _ (List.mem_append.mpr (.inr hr)))))
    · exact hoff r hr b hb
  · intro r hr
    rcases List.mem_cons.mp hr with rfl | hr
    · exact .head _
    · exact .tail _ (.tail _ (.tail _ (List.mem_append.mpr (.inl hr))))
  · intro r hr
    exact .tail _ (.tail _ (.tail _ (List.mem_append.mpr (.inr hr))))
end
set_option maxRecDepth 100000
set_option maxHeartbeats 4000000
theorem lf_con (w : World) (p l : Addr) (x y : Int) (ta tb : Tok) (vs : List Value) (xs : List Int) (nn : Nat) (news : List (Addr × Obj)) (hp : (p, tupI x ta y tb) ∈ news) (hl : (l, listOf vs.toArray nn) ∈ news) (hI : IntsAre vs xs) (hok : OkL xs (x, y)) :
    ConAt w 61 [.ref p, .ref l] 4 news (fun r news' => ∃ D t1 t2, r = .ref D ∧ news' = (D, tupI (leftF xs (x, y)).1 t1 (leftF xs (x, y)).2 t2) :: news) := by
  k_with_none
  w_top off
  unfold ConAt
  k_fill
  intro mean mg mb dp un gd cn cs a ccd cl outer A₀ base h₀ L m s Q E B F X N T hk hd hu hret
  refine wpAny_call ?_
  k_dflt cell_enter
  k_with "exec For Name Name cons nil" => (k_here; (rename Fr _ _ _ _ => lF'); (with_unfolding_all refine' For_invVF lF' ?k1 ?k2 ?_; (case k1 => exact rfl); (case k2 => exact rfl); k_whole))
  k_with "pyIter ref" => (k_here; (rename Fr _ _ _ _ => lF'); (rename News _ _ _ _ => lN'); (with_unfolding_all refine' l_loop (by rfl) hl hp hI hok lF' lN' (by rfl) (fun lv a' b' ta' tb' n i t h tk own hi9 hd9 hO hR hoff F' N' => ?_) (fun lv t1 t2 u h tk F' N' => ?_)); (all_goals (clear lF' lN')); (all_goals (try k_fold)))
  k_with "call ref" => (k_here; (have u1 := hO.1.a0; have u2 := hO.1.a1; have u3 := hO.1.b0; have u4 := hO.1.b1; have u5 := hO.1.c0; have u6 := hO.1.c1); k_dflt (refine' ConAt.use (fl_con _ _ _ (a', b') (1, n) ta' tb' _ _ _ ?m1 ?m2 u1 u2 u3 u4 u5 u6) ?k1 ?k2 ?k3 ?k4 ?k5 ?kK ?kd ?ku ?kR; (case k1 => k_asm); (case k2 => k_asm); (case k3 => k_asm); (case k4 => k_asm); (case k5 => k_asm); (case kK => first | exact rfl | assumption); (case kd => ktr_room); (case ku => ktr_units)); (case m1 => exact .tail _ (.head _)); (case m2 => exact .head _); (rintro r9 n9 h9 tk9 ⟨D9, t8, t9, rfl, rfl, l9⟩ F9 N9); (try dsimp only); (try k_fold))
  k_steps
  · refine l_step (by assumption) (by assumption) hl l9 hoff rfl ?_ hO.2 hR
    intro z h1 h2
    simp [h1, h2]
  · refine hret _ _ _ _ ⟨_, _, _, rfl, rfl⟩ (by k_asm) (by k_asm)
end Mine57
namespace Mine57
local macro_rules | `(tactic| k_all) => `(tactic| assumption)
local macro_rules | `(tactic| walk_at "eval ListComp") => `(tactic| k_extra "eval ListComp")
local macro_rules | `(tactic| walk_at "CompSrcT") => `(tactic| k_extra "CompSrcT")
local macro_rules | `(tactic| walk_at "CompEnd") => `(tactic| k_extra "CompEnd")
local macro_rules | `(tactic| size_fits) => `(tactic| assumption)
def oG (a b : Int) (l : List Int) (k : Int) : List Int := if (k * a).fmod b = 1 then l ++ [k] else l
theorem oG_pos {a b k : Int} {l : List Int} (h : (k * a).fmod b = 1) : oG a b l k = l ++ [k] := if_pos h
theorem oG_neg {a b k : Int} {l : List Int} (h : ¬ (k * a).fmod b = 1) : oG a b l k = l := if_neg h
theorem oG_grows (a b : Int) : KPfGrows (oG a b) := by
  intro l k
  unfold oG
  split
  · simp
  · simp
def opps (p : Int × Int) : List Int := List.foldl (oG p.1 p.2) [] (rangeKs 1 (p.2 - 1).toNat)
def opp (p : Int × Int) : Int := (opps p).headD 0
def oBot (p : Int × Int) : Int := opp p * p.2
def oNext (p : Int × Int) : Int × Int := lessF p (fracF 1 (oBot p))
structure OkOT (p : Int × Int) : Prop where
  a1 : p.1 < 1000
  b0 : 1 < p.2
  b1 : p.2 < 1000
  ne : opps p = opp p :: (opps p).tail
  c0 : 0 < opp p
  c1 : opp p < 1000
  d0 : 0 < oBot p
  d1 : oBot p < 1000000
  e0 : 0 < p.2 * (fracF 1 (oBot p)).2
  e1 : p.2 * (fracF 1 (oBot p)).2 < 1152921504606846976
  f0 : 0 < (oNext p).1
  f1 : (oNext p).2 < p.2
  f2 : (oNext p).2 = opp p
theorem opp_item {p : Int × Int} (hT : OkOT p) {ys : List Value} (h : IntsAre ys (opps p)) : ∃ t ys', ys = .int (opp p) t :: ys' := by
  rw [hT.ne] at h
  obtain ⟨t, ys', e, _⟩ := h.cons_inv
  exact ⟨t, ys', e⟩
theorem okOT_facts {a b : Int} (hT : OkOT (a, b)) : 0 < opp (a, b) ∧ opp (a, b) < 1000 ∧ 0 < opp (a, b) * b ∧ opp (a, b) * b < 1152921504606846976 ∧ 0 < b * (fracF 1 (opp (a, b) * b)).2 ∧ b * (fracF 1 (opp (a, b) * b)).2 < 1152921504606846976 ∧
    0 < (lessF (a, b) (fracF 1 (opp (a, b) * b))).1 ∧ (lessF (a, b) (fracF 1 (opp (a, b) * b))).2 < b ∧ (lessF (a, b) (fracF 1 (opp (a, b) * b))).2 = opp (a, b) :=
  ⟨hT.c0, hT.c1, hT.d0, Int.lt_trans hT.d1 (by decide), hT.e0, hT.e1, hT.f0, hT.f1, hT.f2⟩
theorem list_first {prog : Program} {w : World} {A : Around} {E : Value → Shared → Prop} {s : Shared} {value slice : PySem.Expr} {l : Addr} {v : Value} {vs : List Value} {u : Tok} {Q : Value → Shared → Prop} (hl : s.heap.IsList l (v :: vs).toArray) (h : Q v s)
    (hs : subscripted slice false (.ref l) (.int 0 u) = operate [.ref l, .int 0 u] (getItem (.ref l) (.int 0 u)) := by with_unfolding_all rfl) :
    wpAny (model prog w) A (subscriptTail value slice (.ref l) (.int 0 u)) Q E s :=
  tail_any hl.typeIs slot_list_getitem.lookup (wpAny_getItem_list hl (by decide) (by decide) (by simp) h) hs
def OkO : Nat → Int × Int → Prop
  | 0, p => ¬ (0 < p.1 ∧ p.1 ≠ 1)
  | k + 1, p => (0 < p.1 ∧ p.1 ≠ 1) → OkOT p ∧ OkO k (oNext p)
def runO : Nat → Int × Int → List Int
  | 0, p => [p.2]
  | k + 1, p => if 0 < p.1 ∧ p.1 ≠ 1 then oBot p :: runO k (oNext p) else [p.2]
theorem okO_turn {j : Nat} {p : Int × Int} (h : OkO j p) (h0 : 0 < p.1) (h1 : p.1 ≠ 1) : OkOT p ∧ ∃ i, j = i + 1 ∧ OkO i (oNext p) ∧ runO j p = oBot p :: runO i (oNext p) := by
  cases j with
  | zero => exact absurd ⟨h0, h1⟩ h
  | succ i => exact ⟨(h ⟨h0, h1⟩).1, i, rfl, (h ⟨h0, h1⟩).2, by simp only [runO, if_pos (show 0 < p.1 ∧ p.1 ≠ 1 from ⟨h0, h1⟩)]⟩
theorem okO_end {j : Nat} {p : Int × Int} (h0 : ¬ (0 < p.1 ∧ p.1 ≠ 1)) : runO j p = [p.2] := by
  cases j with
  | zero => rfl
  | succ i => simp only [runO, if_neg h0]
structure OSt where
  vs : List Value
  xs : List Int
  n : Nat
  lv : Addr
  a : Int
  ta : Tok
  b : Int
  tb : Tok
  j : Nat
  oc : Obj
abbrev oLed (fa ca : Addr) (news : List (Addr × Obj)) (c : OSt) : List (Addr × Obj) := (fa, listOf c.vs.toArray c.n) :: (ca, c.oc) :: (c.lv, tupI c.a c.ta c.b c.tb) :: news
abbrev oPs (_ : OSt) : List (Str × Value) := []
abbrev oFacts (fa ca : Addr) (c : OSt) : Prop := IntsAre c.vs c.xs ∧ @Ne Nat c.lv fa ∧ @Ne Nat c.lv ca ∧ c.oc.data = .cell (some (.ref c.lv))
abbrev oP (all : List Int) (c : OSt) : Prop := OkO c.j (c.a, c.b) ∧ c.xs ++ runO c.j (c.a, c.b) = all
abbrev oStored : List Str := [Str.ofString "opposite", Str.ofString "later"]
section
variable {prog : Program} {w : World} {A : Around} {E : Value → Shared → Prop} {Q : Flow → Shared → Prop} {s : Shared} {env : Env} {h₀ : Heap} {L : Addr}
theorem o_while {test : PySem.Expr} {body : List Stmt} {pos : Pos} {m₀ : Str → Option Value} {news : List (Addr × Obj)} {fa ca D p : Addr} {o oc : Obj} {a b : Int} {ta tb : Tok} {k : Nat}
    (F : Fr h₀ L s.heap m₀) (N : News h₀ L s.heap ((D, o) :: (fa, listOf #[] 0) :: (ca, oc) :: news)) (hp : (p, tupI a ta b tb) ∈ news) (hl : ∀ q ∈ news, q.1 ≠ fa) (hl2 : ∀ q ∈ news, q.1 ≠ ca) (hc : oc.data = .cell (some (.ref p))) (hok : OkO k (a, b))
    (turn : ∀ (vs : List Value) (xs : List Int) (n : Nat) (lv : Addr) (a' : Int) (ta' : Tok) (b' : Int) (tb' : Tok) (j : Nat) (oc' : Obj) (u : Str → Option Value) h tk, IntsAre vs xs → @Ne Nat lv fa → @Ne Nat lv ca → oc'.data = .cell (some (.ref lv)) → OkO j (a', b') → xs ++ runO j (a', b') = runO k (a, b) →
      Fr h₀ L h (kstB (fun z => if oStored.contains z then u z else m₀ z) []) → News h₀ L h ((fa, listOf vs.toArray n) :: (ca, oc') :: (lv, tupI a' ta' b' tb') :: news) →
      wpAny (model prog w) A (isTrue test env (eval test env)) (fun yes s₂ =>
        if yes = true then wpAny (model prog w) A (execs body env) (KswPost h₀ L s (oLed fa ca news) oPs (oFacts fa ca) oStored m₀ (oP (runO k (a, b))) OSt.j Q ⟨vs, xs, n, lv, a', ta', b', tb', j, oc'⟩) E s₂ else Q .next s₂) E { s with heap := h, toks := tk })
    (hE : PassesOwn (model prog w) A env E := by passes_own) :
    wpAny (model prog w) A (exec (.While test body [] pos) env) Q E s := by
  refine ksw_while (oLed fa ca news) oPs (oFacts fa ca) oStored (oP (runO k (a, b))) OSt.j ⟨[], [], 0, p, a, ta, b, tb, k, oc⟩ F (kst_newsOf N ?_) ⟨IntsAre.nil, ?_, ?_, hc⟩ (List.forall_mem_nil _) ⟨hok, rfl⟩ ?_ hE
  · intro q hq
    rcases List.mem_cons.mp hq with rfl | hq
    · exact .tail _ (.head _)
    · rcases List.mem_cons.mp hq with rfl | hq
      · exact .tail _ (.tail _ (.head _))
      · rcases List.mem_cons.mp hq with rfl | hq
        · exact .tail _ (.tail _ (.tail _ hp))
        · exact .tail _ (.tail _ (.tail _ hq))
  · exact hl _ hp
  · exact hl2 _ hp
  · rintro ⟨vs, xs, n, lv, a, ta, b, tb, j, oc⟩ u h tk ⟨h1, h2, h5, h6⟩ ⟨h3, h4⟩ F' N'
    exact turn vs xs n lv a ta b tb j oc u h tk h1 h2 h5 h6 h3 h4 F' N'
theorem o_step {news : List (Addr × Obj)} {fa ca D lv : Addr} {q1 q2 r : Addr × Obj} {o' oc : Obj} {a b : Int} {ta tb t8 t9 tk : Tok} {vs : List Value} {xs all : List Int} {n i j tk' : Nat} {h' : Heap} {m₀ m' : Str → Option Value}
    (F : Fr h₀ L h' m') (N : News h₀ L h' ((D, tupI (oNext (a, b)).1 t8 (oNext (a, b)).2 t9) :: q1 :: q2 :: (fa, listOf (vs ++ [Value.int (oBot (a, b)) tk]).toArray (n + 1)) :: (ca, o') :: r :: news)) (hI : IntsAre vs xs) (hD : @LT.lt Nat _ fa D) (hC : @LT.lt Nat _ ca D) (hk : o'.data = .cell (some (.ref D)))
    (hr : ∀ z, (∀ p ∈ ([] : List (Str × Value)), z ≠ p.1) → oStored.contains z = false → m' z = m₀ z) (hO : OkO i (oNext (a, b))) (hR : xs ++ runO j (a, b) = all) (hr9 : runO j (a, b) = oBot (a, b) :: runO i (oNext (a, b))) (hj : j = i + 1) :
    KswEnd h₀ L s (oLed fa ca news) oPs (oFacts fa ca) oStored m₀ (oP all) OSt.j ⟨vs, xs, n, lv, a, ta, b, tb, j, oc⟩ { s with heap := h', toks := tk' } := by
  refine ksw_end (⟨vs ++ [Value.int (oBot (a, b)) tk], xs ++ [oBot (a, b)], n + 1, D, (oNext (a, b)).1, t8, (oNext (a, b)).2, t9, i, o'⟩ : OSt) F N (fun q hq => ?_) ⟨hI.append (.cons _ _ .nil), Nat.ne_of_gt hD, Nat.ne_of_gt hC, hk⟩ (List.forall_mem_nil _) hr ⟨hO, ?_⟩ (by rw [hj]; exact Nat.lt_succ_self _)
  · rcases List.mem_cons.mp hq with rfl | hq
    · exact .tail _ (.tail _ (.tail _ (.head _)))
    · rcases List.mem_cons.mp hq with rfl | hq
      · exact .tail _ (.tail _ (.tail _ (.tail _ (.head _))))
      · rcases List.mem_cons.mp hq with rfl | hq
        · exact .head _
        · exact .tail _ (.tail _ (.tail _ (.tail _ (.tail _ (.tail _ hq)))))
  · show (xs ++ [oBot (a, b)]) ++ runO i (oNext (a, b)) = all
    rw [List.append_assoc, List.singleton_append, ← hR, hr9]
theorem o_last {ws : List Value} {xs : List Int} {a b : Int} {j : Nat} {all : List Int} (hI : IntsAre ws (xs ++ [b])) (hR : xs ++ runO j (a, b) = all) (h : ¬ (0 < a ∧ a ≠ 1)) : IntsAre ws all := by
  rw [okO_end (p := (a, b)) h] at hR
  rw [← hR]
  exact hI
theorem sub3 {h₀ h : Heap} {L : Addr} {p q r t u : Addr × Obj} {news : List (Addr × Obj)} (N : News h₀ L h (p :: q :: r :: t :: u :: news)) : News h₀ L h (p :: news) := fun z hz => by
  rcases List.mem_cons.mp hz with rfl | hz
  · exact N _ (.head _)
  · exact N _ (.tail _ (.tail _ (.tail _ (.tail _ (.tail _ hz)))))
end
theorem runO_len : ∀ (k : Nat) (p : Int × Int), (runO k p).length ≤ k + 1
  | 0, _ => Nat.le_refl _
  | k + 1, p => by
    unfold runO
    split
    · exact Nat.succ_le_succ (runO_len k _)
    · exact Nat.succ_le_succ (Nat.zero_le _)
theorem runO_size {xs ys : List Int} {k : Nat} {p : Int × Int} (hR : xs ++ ys = runO k p) (hk : k ≤ 60) : xs.length + 1 ≤ sizeLine := by
  have h2 := runO_len k p
  rw [← hR, List.length_append] at h2
  rw [PySem.sizeLine_eq]
  omega
theorem runO_room {vs : List Value} {xs ys : List Int} {k : Nat} {p : Int × Int} (hI : IntsAre vs xs) (hR : xs ++ ys = runO k p) (hk : k ≤ 60) : vs.toArray.size ≤ sizeLine := by
  have h1 := hI.length
  have h2 := runO_size hR hk
  rw [List.size_toArray]
  omega
theorem allLtOf {f : Addr} : ∀ (news : List (Addr × Obj)), AllLt f news → ∀ q ∈ news, q.1 ≠ f
  | [], _, q, hq => nomatch hq
  | p :: r, h, q, hq => by
    rcases List.mem_cons.mp hq with e | hq
    · exact e ▸ Nat.ne_of_lt h.1
    · exact allLtOf r h.2 q hq
theorem allNeN {news : List (Addr × Obj)} {f g : Addr} (h : @LT.lt Nat _ g f ∧ AllLt f news) : ∀ q ∈ news, q.1 ≠ f := allLtOf _ h.2
theorem allNe1 {news : List (Addr × Obj)} {f : Addr} (h : ∀ q ∈ news, q.1 < f) : ∀ q ∈ news, q.1 ≠ f + 1 := fun q hq => Nat.ne_of_lt (Nat.lt_succ_of_lt (h q hq))
set_option maxRecDepth 100000
set_option maxHeartbeats 4000000
theorem op_con (w : World) (p : Addr) (x y : Int) (ta tb : Tok) (k : Nat) (news : List (Addr × Obj)) (hp : (p, tupI x ta y tb) ∈ news) (hok : OkO k (x, y)) (hks : k ≤ 60) :
    ConAt w 54 [.ref p] 4 news (fun r news' => ∃ D vs n, r = .ref D ∧ IntsAre vs (runO k (x, y)) ∧ news' = (D, listOf vs.toArray n) :: news ∧ ∀ p ∈ news, p.1 < D) := by
  k_with_none
  w_top off
  unfold ConAt
  k_fill
  intro mean mg mb dp un gd cn cs a ccd cl outer A₀ base h₀ L m s Q E B F X N T hk hd hu hret
  refine wpAny_call ?_
  k_dflt (refine' code_defC ?k1 ?k2 ?k3 ?k4 ?k5 ?kA ?kF ?kK ?k6 ?k7 ?k8 ?k9 ?kB ?kD ?_ ?c2 ?c3 ?c4; (case kA => exact rfl); (case kF => exact rfl); (case kK => assumption); (case k1 => k_asm); (case k2 => k_asm); (case k3 => k_asm); (case k4 => k_asm); (case k5 => k_asm); (case k6 => k_is); (case k7 => k_is); (case k8 => ktr_room); (case k9 => exact BindsTo.of_eq rfl); (case kB => exact rfl); (case kD => decide +kernel); (case c2 => exact rfl); (case c3 => exact rfl); (case c4 => exact rfl); k_whole; intro g' L' h' tk' cells' FG' F' N' Y' B' X' T' l1; (have lC := allNe1 l1); (try k_lt l1); k_cells Y'; (try simp only [List.cons_append, List.nil_append] at N'); (try dsimp only); (try k_lift B'); (try k_fold))
  k_with "exec While BoolOp" => (k_here; (rename Fr _ _ _ _ => lF'); (rename News _ _ _ _ => lN'); (have lD := allNeN (by assumption)); (with_unfolding_all refine' o_while lF' lN' hp lD lC (by assumption) hok (fun vs xs n lv a' ta' b' tb' j oc u h tk hI hne hnc hoc hO hR F' N' => ?_)); (clear lF' lN'); (dsimp only [kstB] at F'); (try k_fold))
  k_with "eval ListComp" => ((k_here; (obtain ⟨hT, i, hj, hi, hr⟩ := okO_turn hO (by assumption) (by assumption)); (have b0 : 1 < b' := hT.b0); (have b1 : b' < 1000 := hT.b1); (have a1 : a' < 1000 := hT.a1); k_dflt (refine LCt.ListComp_T (F₀ := by k_asm) (by with_unfolding_all rfl) (by decide) (by rfl) (by decide) (by rfl) ?_); k_dflt lct_toSrc))
  k_with "CompSrcT" => ((k_here; k_dflt (refine LCt.CompSrcT.range (by rfl) (by k_asm) (by k_asm) (by assumption) (by first | decide | exact small_one (by l_bnd) (by l_bnd) (by l_bnd) (by l_bnd)) (rangeSize_nat _ _) (by rw [PySem.sizeLine_eq]; omega) ?_; intro g'; refine' kci_range (oG a' b') (fun k' t' I' oI' C' oC' D' m' ys' l' h' tk' E' hlo' hhi' hI' hC' hx' F' N' off' ne' kM => ?_) ?_ (oG_grows a' b'))))
  k_with "CompEnd" => ((first | (refine LCg.CompEnd.intro (by assumption) (by assumption) _ (fun p hp => hp) (by assumption) trivial (kci_el (oG_pos (by assumption)) rfl rfl)) | (refine LCg.CompEnd.intro (by assumption) (by assumption) _ (fun p hp => hp) (by assumption) trivial (kci_no (oG_neg (by assumption)) rfl))))
  k_with "subscriptTail" => ((k_here; (rename IntsAre _ (List.foldl _ _ _) => hq); (obtain ⟨tq, yq, eq⟩ := opp_item hT hq); (subst eq); (clear hq); k_dflt (refine list_first (News.isList (by assumption) (.head _)) ?_); (obtain ⟨c0, c1, d0, d1, e0, e1, f0, f1, f2⟩ := okOT_facts hT)))
  k_with "binaryOp Add ref ref" => ((k_here; k_dflt (refine' kmk_add_ints (vs := vs) (ns := xs) ?F ?N ?a ?b ?i ?j ?_ ?z; (case F => k_asm); (case N => k_asm); (case a => exact News.isList (by assumption) (.tail _ (.head _))); (case b => exact News.isList (by assumption) (.head _)); (case i => exact hI); (case j => exact .cons _ _ .nil); (case z => exact runO_size hR hks)); intro D8 ws8 h8 F8 N8 l8 hI8))
  k_with "call ref" => ((k_here; k_dflt first
    | (refine' ConAt.at (by k_asm) (by k_asm) (by k_asm) (by k_asm) (by k_asm) (fr_con _ _ _ _ _ _ d0 d1) (by first | exact rfl | assumption) (by ktr_room) (by ktr_units) ?_; (rintro r7 n7 h7 tk7 ⟨D7, t6, t7, rfl, rfl, l7⟩ F7 N7); (have lf7 := ltNat (l7 _ (.tail _ (.head _)))); (have lc7 := ltNat (l7 _ (.tail _ (.tail _ (.head _))))); (try dsimp only); (try dsimp only at lf7 lc7); (try k_fold))
    | (refine' ConAt.at (by k_asm) (by k_asm) (by k_asm) (by k_asm) (by k_asm) (fl_con _ _ _ (a', b') (fracF 1 (opp (a', b') * b')) ta' tb' _ _ _ (by exact .tail _ (.tail _ (.tail _ (.tail _ (.head _))))) (by exact .head _) (by dsimp only; omega) (by dsimp only; omega) (by dsimp only; omega) (by dsimp only; omega) e0 e1) (by first | exact rfl | assumption) (by ktr_room) (by ktr_units) ?_; (rintro r9 n9 h9 tk9 ⟨D9, t8, t9, rfl, rfl, l9⟩ F9 N9); (have lf9 := ltNat (l9 _ (.tail _ (.tail _ (.head _))))); (have lc9 := ltNat (l9 _ (.tail _ (.tail _ (.tail _ (.head _)))))); (have hsz := runO_room hI hR hks); (try dsimp only); (try dsimp only at lf9 lc9); (try k_fold))))
  k_steps
  · exact absurd f2 (by assumption)
  · (rename News _ _ _ _ => nE')
    (try simp only [List.push_toArray] at nE')
    exact o_step (by assumption) nE' hI lf9 lc9 (by assumption) (by ksw_same) hi hR hr hj
  all_goals (exact hret _ _ _ _ ⟨D8, ws8, 0, rfl, o_last hI8 hR (by omega), rfl, fun q hq => l8 q (.tail _ (.tail _ (.tail _ (.tail _ hq))))⟩ (by k_asm) (sub3 (by k_asm)))
end Mine57
namespace Mine57
/-- how many unlike ints a list has, as set() counts them -/
def many (xs : List Int) : Nat := (firstMet (fun i => xs.getD i 0) xs.length).length
def rG (xs : List Int) (l : List Int) (k : Int) : List Int := if xs.getD k.toNat 0 ≤ xs.getD (k - 1).toNat 0 * (xs.getD (k - 1).toNat 0 - 1) then l ++ [k] else l
structure LawOk (a b : Int) (xs ys : List Int) : Prop where
  okg : OkG 20 (a, b)
  oko : OkO 20 (a, b)
  exs : runG 20 (a, b) = xs
  eys : runO 20 (a, b) = ys
  nex : xs ≠ []
  ney : ys ≠ []
  mx : many xs = xs.length
  my : many ys = ys.length
  lx : OkL xs (a, b)
  ly : OkL ys (a, b)
  fx : leftF xs (a, b) = (0, 1)
  fy : leftF ys (a, b) = (0, 1)
  sx : (xs.length : Int) ≤ a
  sy : (ys.length : Int) ≤ a
  bx : ∀ v ∈ xs, 0 < v ∧ v < 10000000
  ri : List.foldl (rG xs) [] (rangeKs 1 ((xs.length : Int) - 1).toNat) = []
  x60 : xs.length ≤ 20
  y60 : ys.length ≤ 21
theorem len_ints {prog : Program} {w : World} {A : Around} {E : Value → Shared → Prop} {s : Shared} {l : Addr} {vs : List Value} {ns : List Int} {Q : Value → Shared → Prop} (hl : s.heap.IsList l vs.toArray) (hi : IntsAre vs ns) (hb : ns.length ≤ 100)
    (h : Q (.int (ns.length : Int) (s.toks + 1)) { s with toks := s.toks + 1 + 1 }) : wpAny (model prog w) A (PySem.call (.builtin "len") [.ref l]) Q E s := by
  have e : vs.toArray.size = ns.length := by rw [List.size_toArray]; exact hi.length
  exact len_list hl (by rw [e]; omega) (by rw [e]; exact h)
theorem cell_bound {ns : List Int} {k : Int} (hb : ∀ v ∈ ns, 0 < v ∧ v < 10000000) (h0 : 0 ≤ k) (h1 : k < (ns.length : Int)) : 0 < ns.getD k.toNat 0 ∧ ns.getD k.toNat 0 < 10000000 := by
  have hk : k.toNat < ns.length := by omega
  rw [List.getD_eq_getElem?_getD, List.getElem?_eq_getElem hk]
  exact hb _ (List.getElem_mem hk)
theorem cell_two {ns : List Int} {k : Int} (hb : ∀ v ∈ ns, 0 < v ∧ v < 10000000) (h1 : 1 ≤ k) (h2 : k < 1 + (((ns.length : Int) - 1).toNat : Int)) : 0 < ns.getD (k - 1).toNat 0 ∧ ns.getD (k - 1).toNat 0 < 10000000 :=
  cell_bound hb (by omega) (by omega)
theorem rG_pos {xs : List Int} {k : Int} {l : List Int} (h : xs.getD k.toNat 0 ≤ xs.getD (k - 1).toNat 0 * (xs.getD (k - 1).toNat 0 - 1)) : rG xs l k = l ++ [k] := if_pos h
theorem rG_neg {xs : List Int} {k : Int} {l : List Int} (h : ¬ xs.getD k.toNat 0 ≤ xs.getD (k - 1).toNat 0 * (xs.getD (k - 1).toNat 0 - 1)) : rG xs l k = l := if_neg h
theorem rG_grows (xs : List Int) : KPfGrows (rG xs) := by
  intro l k
  unfold rG
  split
  · simp
  · simp
theorem fin_nil {G : List Int → Int → List Int} {ks : List Int} {n : Nat} {news : List (Addr × Obj)} {Fin : List Value → List (Addr × Obj) → Prop} (e : List.foldl G [] ks = []) (h : Fin [] news) : KPfDone (∀ ys, IntsAre ys (List.foldl G [] ks) → ys.length ≤ n → Fin ys news) := by
  intro ys hy _
  rw [e] at hy
  rw [hy.nil_inv]
  exact h
theorem set_made {prog : Program} {w : World} {A : Around} {E : Value → Shared → Prop} {s : Shared} {h₀ : Heap} {L : Addr} {m : Str → Option Value} {news : List (Addr × Obj)} {l : Addr} {vs : List Value} {ns : List Int} {n : Nat} {Q : Value → Shared → Prop}
    (F : Fr h₀ L s.heap m) (N : News h₀ L s.heap news) (hh : A.handled = none) (hl : s.heap.IsList l vs.toArray) (hi : IntsAre vs ns) (hb : ns.length + 1 < scanBound) (hn : many ns = n)
    (h : ∀ h' (tk : Nat) D o S, Fr h₀ L h' m → News h₀ L h' ((D, o) :: news) → (∀ p ∈ news, p.1 < D) → o.SetObjOf (intKind prog w) S n → Q (.ref D) { s with heap := h', toks := tk }) :
    wpAny (model prog w) A (PySem.call (.type "set") [.ref l]) Q E s := by
  have hv : vs.toArray.size = ns.length := by rw [List.size_toArray]; exact hi.length
  refine PySem.call_set_list (items := vs.toArray) (ns := ns) hh hl (by simpa using hi) (by rw [hv]; exact hb) fun h' tk hS hk => ?_
  rw [hv] at hS
  have hn' : (firstMet (fun i => ns.getD i 0) ns.length).length = n := hn
  rw [hn'] at hS
  obtain ⟨o, ho, hso⟩ := hS.objOf
  have hlt : L < s.heap.objs.size := F.ns.lt
  refine h h' tk _ o _ ⟨F.ns.at' fun o' e => hk L o' hlt e, fun b o' e => hk b o' (Heap.lt_size (F.keep b o' e)) (F.keep b o' e), F.above⟩ (fun p hp => ?_) (fun p hp => Heap.lt_size (N p hp).1) hso
  rcases List.mem_cons.mp hp with rfl | hp
  · refine ⟨ho, Nat.ne_of_gt hlt, ?_⟩
    cases hq : h₀.get? s.heap.objs.size with
    | none => rfl
    | some o' => exact absurd (Heap.lt_size (F.keep _ _ hq)) (Nat.lt_irrefl _)
  · exact ⟨hk _ _ (Heap.lt_size (N p hp).1) (N p hp).1, (N p hp).2⟩
end Mine57
namespace Mine57
def turnB (p : Int × Int) : Bool :=
  decide (p.1 < 1152921504606846976) && decide (0 < p.2) && decide (p.2 < 1152921504606846976) && decide (0 < gBot p) && decide (p.2 * gBot p < 1152921504606846976) && decide (0 ≤ (gNext p).1) && decide ((gNext p).1 < p.1)
def okGB : Nat → Int × Int → Bool
  | 0, p => decide (p.1 ≤ 0)
  | k + 1, p => !decide (0 < p.1) || (turnB p && okGB k (gNext p))
def turnOB (p : Int × Int) : Bool :=
  decide (p.1 < 1000) && decide (1 < p.2) && decide (p.2 < 1000) && decide (opps p = opp p :: (opps p).tail) && decide (0 < opp p) && decide (opp p < 1000) && decide (0 < oBot p) && decide (oBot p < 1000000) &&
    decide (0 < p.2 * (fracF 1 (oBot p)).2) && decide (p.2 * (fracF 1 (oBot p)).2 < 1152921504606846976) && decide (0 < (oNext p).1) && decide ((oNext p).2 < p.2) && decide ((oNext p).2 = opp p)
def okOB : Nat → Int × Int → Bool
  | 0, p => !(decide (0 < p.1) && decide (p.1 ≠ 1))
  | k + 1, p => !(decide (0 < p.1) && decide (p.1 ≠ 1)) || (turnOB p && okOB k (oNext p))
def stepB (p : Int × Int) (n : Int) : Bool :=
  decide (-1152921504606846976 < p.1) && decide (p.1 < 1152921504606846976) && decide (0 < p.2) && decide (p.2 < 1152921504606846976) && decide (0 < p.2 * n) && decide (p.2 * n < 1152921504606846976)
def okLB : List Int → Int × Int → Bool
  | [], _ => true
  | n :: r, p => stepB p n && okLB r (lessF p (1, n))
def lawB (a b : Int) : Bool :=
  okGB 20 (a, b) && okOB 20 (a, b) && (let xs := runG 20 (a, b); let ys := runO 20 (a, b);
    decide (xs ≠ []) && decide (ys ≠ []) && decide (many xs = xs.length) && decide (many ys = ys.length) && okLB xs (a, b) && okLB ys (a, b) && decide (leftF xs (a, b) = (0, 1)) && decide (leftF ys (a, b) = (0, 1)) &&
    decide ((xs.length : Int) ≤ a) && decide ((ys.length : Int) ≤ a) && xs.all (fun v => decide (0 < v) && decide (v < 10000000)) && decide (List.foldl (rG xs) [] (rangeKs 1 ((xs.length : Int) - 1).toNat) = []) && decide (xs.length ≤ 20) && decide (ys.length ≤ 21))
theorem okG_of : ∀ (k : Nat) (p : Int × Int), okGB k p = true → OkG k p
  | 0, p, h => by
    simp only [okGB, decide_eq_true_eq] at h
    exact h
  | k + 1, p, h => fun h0 => by
    simp only [okGB, turnB, Bool.or_eq_true, Bool.not_eq_true', Bool.and_eq_true, decide_eq_true_eq, decide_eq_false_iff_not] at h
    rcases h with h | ⟨⟨⟨⟨⟨⟨⟨h1, h2⟩, h3⟩, h4⟩, h5⟩, h6⟩, h7⟩, h8⟩
    · exact absurd h0 h
    · exact ⟨⟨h1, h2, h3, h4, h5, h6, h7⟩, okG_of k _ h8⟩
theorem okO_of : ∀ (k : Nat) (p : Int × Int), okOB k p = true → OkO k p
  | 0, p, h => by
    simp only [okOB, Bool.not_eq_true', Bool.and_eq_false_iff, decide_eq_false_iff_not] at h
    exact fun h0 => h.elim (fun e => e h0.1) fun e => e h0.2
  | k + 1, p, h => fun h0 => by
    simp only [okOB, turnOB, Bool.or_eq_true, Bool.not_eq_true', Bool.and_eq_true, Bool.and_eq_false_iff, decide_eq_true_eq, decide_eq_false_iff_not] at h
    rcases h with h | ⟨⟨⟨⟨⟨⟨⟨⟨⟨⟨⟨⟨⟨h1, h2⟩, h3⟩, h4⟩, h5⟩, h6⟩, h7⟩, h8⟩, h9⟩, h10⟩, h11⟩, h12⟩, h13⟩, h14⟩
    · exact absurd h0 fun h0 => h.elim (fun e => e h0.1) fun e => e h0.2
    · exact ⟨⟨h1, h2, h3, h4, h5, h6, h7, h8, h9, h10, h11, h12, h13⟩, okO_of k _ h14⟩
theorem okL_of : ∀ (xs : List Int) (p : Int × Int), okLB xs p = true → OkL xs p
  | [], _, _ => trivial
  | n :: r, p, h => by
    simp only [okLB, stepB, Bool.and_eq_true, decide_eq_true_eq] at h
    obtain ⟨⟨⟨⟨⟨⟨h1, h2⟩, h3⟩, h4⟩, h5⟩, h6⟩, h7⟩ := h
    exact ⟨⟨h1, h2, h3, h4, h5, h6⟩, okL_of r _ h7⟩
theorem law_of {a b : Int} (h : lawB a b = true) : ∃ xs ys, LawOk a b xs ys := by
  simp only [lawB, Bool.and_eq_true, decide_eq_true_eq, List.all_eq_true] at h
  obtain ⟨⟨h1, h2⟩, ⟨⟨⟨⟨⟨⟨⟨⟨⟨⟨⟨⟨⟨h3, h4⟩, h5⟩, h6⟩, h7⟩, h8⟩, h9⟩, h10⟩, h11⟩, h12⟩, h13⟩, h14⟩, h15⟩, h16⟩⟩ := h
  exact ⟨_, _, ⟨okG_of _ _ h1, okO_of _ _ h2, rfl, rfl, h3, h4, h5, h6, okL_of _ _ h7, okL_of _ _ h8, h9, h10, h11, h12, h13, h14, h15, h16⟩⟩
def rowB (i : Nat) : Bool := (List.range (i + 2)).all fun j => lawB ((1 + (j : Int)).fdiv (gcdI (1 + j) (3 + i))) ((3 + (i : Int)).fdiv (gcdI (1 + j) (3 + i)))
set_option maxRecDepth 100000
set_option maxHeartbeats 4000000
theorem rows : (List.range 15).all rowB = true := by decide +kernel
theorem plain {u v : Int} (h1 : 0 ≤ u) (h2 : u < 15) (h3 : 0 ≤ v) (h4 : v < 3 + u - 1) :
    ∃ a b xs ys, (1 + v).fdiv (gcdI (1 + v) (3 + u)) = a ∧ (3 + u).fdiv (gcdI (1 + v) (3 + u)) = b ∧ LawOk a b xs ys := by
  obtain ⟨i, rfl⟩ := Int.eq_ofNat_of_zero_le h1
  obtain ⟨j, rfl⟩ := Int.eq_ofNat_of_zero_le h3
  have hi := List.all_eq_true.mp rows i (List.mem_range.mpr (by omega))
  have hj := List.all_eq_true.mp hi j (List.mem_range.mpr (by omega))
  obtain ⟨xs, ys, h⟩ := law_of hj
  exact ⟨_, _, xs, ys, rfl, rfl, h⟩
theorem last_ok : OkG 20 (4, 13) := okG_of _ _ (by decide +kernel)
theorem last_is : runG 20 (4, 13) = [4, 18, 468] := by decide +kernel
end Mine57
namespace Mine57
local macro_rules | `(tactic| walk_at "eval ListComp") => `(tactic| k_extra "eval ListComp")
local macro_rules | `(tactic| walk_at "CompSrcT") => `(tactic| k_extra "CompSrcT")
local macro_rules | `(tactic| walk_at "CompEnd") => `(tactic| k_extra "CompEnd")
theorem take2_len (ns : List Int) : (List.take 2 ns).length ≤ 63 := by
  rw [List.length_take]
  omega
set_option maxRecDepth 100000
set_option maxHeartbeats 0
theorem law_holds : PySem.Challenge.rw_xm0057_01.Holds := hd (by
  k_with_none
  k_go0
  all_goals (try k_fold)
  k_with "call ref" => ((k_here; k_dflt first
    | ((with_reducible show wpAny _ _ (PySem.call (Value.ref 42) _) _ _ _); refine' ConAt.at (by k_asm) (by k_asm) (by k_asm) (by k_asm) (by k_asm) (dr_con _ _ _ _ _ _ _ 0 _ _ _ _ (by k_all) (by k_mem) (by assumption) (take2_len _) (by decide) (by decide) (by decide) (by decide)) (by first | exact rfl | assumption) (by ktr_room) (by ktr_units) ?_; (rintro r1 n1 h1 tk1 ⟨v1, t1, t1', c1, rfl, lo1, hi1, rfl⟩ F1 N1); (try dsimp only); (try k_fold))
    | ((with_reducible show wpAny _ _ (PySem.call (Value.ref 42) _) _ _ _); refine' ConAt.at (by k_asm) (by k_asm) (by k_asm) (by k_asm) (by k_asm) (dr_con _ _ _ _ _ _ _ (0 + 1) _ _ _ _ (by k_all) (by k_mem) (by assumption) (take2_len _) (by decide) (by decide) (by omega) (by omega)) (by first | exact rfl | assumption) (by ktr_room) (by ktr_units) ?_; (rintro r2 n2 h2 tk2 ⟨v2, t2, t2', c2, rfl, lo2, hi2, rfl⟩ F2 N2); (try dsimp only); (try k_fold))
    | ((with_reducible show wpAny _ _ (PySem.call (Value.ref 28) _) _ _ _); refine' ConAt.at (by k_asm) (by k_asm) (by k_asm) (by k_asm) (by k_asm) (fr_con _ _ _ _ _ _ (by omega) (by omega)) (by first | exact rfl | assumption) (by ktr_room) (by ktr_units) ?_; (rintro r3 n3 h3 tk3 ⟨D3, t3, t3', rfl, rfl, l3⟩ F3 N3); (obtain ⟨pa, pb, xs, ys, ea, eb, hK⟩ := plain lo1 hi1 lo2 hi2); (rw [ea, eb] at N3); (try k_lt l3); (try dsimp only); (try k_fold))
    | ((with_reducible show wpAny _ _ (PySem.call (Value.ref 49) _) _ _ _); refine' ConAt.at (by k_asm) (by k_asm) (by k_asm) (by k_asm) (by k_asm) (gr_con _ _ pa pb t3 t3' 20 _ (by k_mem) hK.okg (by decide)) (by first | exact rfl | assumption) (by ktr_room) (by ktr_units) ?_; (rintro r4 n4 h4 tk4 ⟨D4, vs4, c4, rfl, hI4, rfl, l4⟩ F4 N4); (rw [hK.exs] at hI4); (try k_lt l4); (try dsimp only); (try k_fold))
    | ((with_reducible show wpAny _ _ (PySem.call (Value.ref 54) _) _ _ _); refine' ConAt.at (by k_asm) (by k_asm) (by k_asm) (by k_asm) (by k_asm) (op_con _ _ pa pb t3 t3' 20 _ (by k_mem) hK.oko (by decide)) (by first | exact rfl | assumption) (by ktr_room) (by ktr_units) ?_; (rintro r5 n5 h5 tk5 ⟨D5, vs5, c5, rfl, hI5, rfl, l5⟩ F5 N5); (rw [hK.eys] at hI5); (try k_lt l5); (try dsimp only); (try k_fold))
    | ((with_reducible show wpAny _ _ (PySem.call (Value.ref 61) _) _ _ _); refine' ConAt.at (by k_asm) (by k_asm) (by k_asm) (by k_asm) (by k_asm) (lf_con _ _ _ pa pb t3 t3' vs4 xs _ _ (by k_mem) (by k_mem) hI4 hK.lx) (by first | exact rfl | assumption) (by ktr_room) (by ktr_units) ?_; (rintro r6 n6 h6 tk6 ⟨D6, t6, t6', rfl, rfl⟩ F6 N6); (rw [hK.fx] at N6); (try dsimp only); (try k_fold))
    | ((with_reducible show wpAny _ _ (PySem.call (Value.ref 61) _) _ _ _); refine' ConAt.at (by k_asm) (by k_asm) (by k_asm) (by k_asm) (by k_asm) (lf_con _ _ _ pa pb t3 t3' vs5 ys _ _ (by k_mem) (by k_mem) hI5 hK.ly) (by first | exact rfl | assumption) (by ktr_room) (by ktr_units) ?_; (rintro r7 n7 h7 tk7 ⟨D7, t7, t7', rfl, rfl⟩ F7 N7); (rw [hK.fy] at N7); (try dsimp only); (try k_fold))
    | ((with_reducible show wpAny _ _ (PySem.call (Value.ref 49) _) _ _ _); refine' ConAt.at (by k_asm) (by k_asm) (by k_asm) (by k_asm) (by k_asm) (gr_con _ _ 4 13 _ _ 20 _ (by k_mem) last_ok (by decide)) (by first | exact rfl | assumption) (by ktr_room) (by ktr_units) ?_; (rintro r8 n8 h8 tk8 ⟨D8, vs8, c8, rfl, hI8, rfl, l8⟩ F8 N8); (rw [last_is] at hI8); (try dsimp only); (try k_fold))))
  k_with "call type:set" => ((k_here; k_dflt first
    | (refine' set_made (n := xs.length) (by k_asm) (by k_asm) (by rfl) (News.isList (by k_asm) (by k_mem)) hI4 (by have hx9 := hK.x60; unfold scanBound; omega) hK.mx ?_; intro h8 tk8 D8 o8 S8 F8 N8 l8 hS8; (try k_lt l8))
    | (refine' set_made (n := ys.length) (by k_asm) (by k_asm) (by rfl) (News.isList (by k_asm) (by k_mem)) hI5 (by have hx9 := hK.y60; unfold scanBound; omega) hK.my ?_; intro h9 tk9 D9 o9 S9 F9 N9 l9 hS9; (try k_lt l9))))
  k_with "call builtin:len" => ((k_here; k_dflt first
    | (refine len_ints (News.isList (by k_asm) (by k_mem)) hI4 (by have hx9 := hK.x60; omega) ?_)
    | (refine len_ints (News.isList (by k_asm) (by k_mem)) hI5 (by have hx9 := hK.y60; omega) ?_)
    | (refine len_sl1 (own := []) (by k_asm) hS8 (by have hx9 := hK.x60; omega) ?_; (have hx8 := hI4.length))
    | (refine len_sl1 (own := []) (by k_asm) hS9 (by have hx9 := hK.y60; omega) ?_; (have hx9 := hI5.length))))
  k_with "eval ListComp" => ((k_here; (have nn := hK.x60); k_dflt (refine LCt.ListComp_T (F₀ := by k_asm) (by with_unfolding_all rfl) (by decide) (by rfl) (by decide) (by rfl) ?_); k_dflt lct_toSrc))
  k_with "CompSrcT" => ((k_here; (rename IsRange _ _ _ _ _ _ _ _ => rgX); k_dflt (refine LCt.CompSrcT.range (by rfl) (by k_asm) (by k_asm) rgX (by exact small_one (by omega) (by omega) (by omega) (by omega)) (rangeSize_nat _ _) (by rw [PySem.sizeLine_eq]; omega) ?_; intro g'; refine' kci_range (rG xs) (fun k' t' I' oI' C' oC' D' m' ys' l' h' tk' E' hlo' hhi' hI' hC' hx' F' N' off' ne' kM => And.elim (fun kb1 kb2 => ?_) (cell_two hK.bx hlo' hhi')) (fin_nil hK.ri ?_) (rG_grows xs))))
  k_with "CompEnd" => ((first | (refine LCg.CompEnd.intro (by assumption) (by assumption) _ (fun p hp => hp) (by assumption) trivial (kci_el (rG_pos (by assumption)) rfl rfl)) | (refine LCg.CompEnd.intro (by assumption) (by assumption) _ (fun p hp => hp) (by assumption) trivial (kci_no (rG_neg (by assumption)) rfl))))
  k_steps
  all_goals (exfalso; first | exact hK.nex (of_decide_eq_true (by assumption)) | exact hK.ney (of_decide_eq_true (by assumption)) | (have q1 := hK.sx; have q2 := hK.sy; omega)))
end Mine57
theorem PySem.Challenge.cw_xm0057_01_holds : PySem.Challenge.rw_xm0057_01.Holds := by
  exact Mine57.law_holds
