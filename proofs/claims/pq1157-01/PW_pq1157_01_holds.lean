import PyProof.Rows.All
import Wide.All
import OpenK.AllK
import Wide.FinOn
import PySem.Challenge.RW_pq1157_01
open PySem PySem.W PySem.Calls PyProof.Rows
set_option Elab.async false
namespace Mine

set_option maxRecDepth 100000 in
set_option maxHeartbeats 8000000 in
open_top hd for PySem.Challenge.rw_pq1157_01

local macro_rules | `(tactic| walk_at "MINE ctx0") => `(tactic| ((case k1 => k_asm); (case k2 => k_asm); (case k3 => k_asm); (case k4 => k_asm); (case k5 => k_asm); (case kK => first | exact rfl | assumption); (case kd => ktr_room); (case ku => ktr_units)))
local macro_rules | `(tactic| walk_at "MINE all") => `(tactic| first | exact List.forall_mem_nil _ | (refine List.forall_mem_cons.mpr ⟨by k_mem, ?_⟩; walk_at "MINE all"))
local macro_rules | `(tactic| walk_at "MINE ctx") => `(tactic| (walk_at "MINE ctx0"; (case ks => walk_at "MINE all")))
local macro_rules | `(tactic| walk_at "MINE om1") => `(tactic| first | with_reducible assumption | omega | (simp only [List.length_cons, List.length_nil]; omega) | (split <;> omega))
local macro_rules | `(tactic| walk_at "MINE om") => `(tactic| repeat first | (case h1 => walk_at "MINE om1") | (case h2 => walk_at "MINE om1") | (case h3 => walk_at "MINE om1") | (case h4 => walk_at "MINE om1") | (case h5 => walk_at "MINE om1") | (case h6 => walk_at "MINE om1") | (case h7 => walk_at "MINE om1"))
local macro_rules | `(tactic| walk_at "MINE end") => `(tactic| ((try dsimp only); (try k_sweep); (try k_fold)))
local macro_rules | `(tactic| walk_at "MINE enter") => `(tactic| ((have kk9 : PySem.ScopeKind.function = PySem.ScopeKind.function := rfl); k_dflt cell_enter))

section
-- part CB

/-- a contract: a call of the def at f, its own objects in hand, any others kept -/
def Claim (w : World) (f : Addr) (vs : List Value) (own : List (Addr × Obj)) (d u : Nat) (Post : Value → List (Addr × Obj) → Prop) : Prop :=
  ∀ (rest : List (Addr × Obj)) (mean : ExcName → Option Value) (mg mb : Str → Option Value) (dp un : Nat) (gd : Option (List Code)) (cn : Str) (cs : Scope) (a : Addr) (ccd : Value) (cl : List (Str × Addr)) (outer : List Env) (A₀ : Around) (base h₀ : Heap) (L : Addr) (m : Str → Option Value) (s : Shared) (Q E : Value → Shared → Prop),
    OwnOff rest (own.map (·.1)) → Below A₀ base outer h₀ → Fr h₀ L s.heap m → (hd.heap_39 w.params).In h₀ → News h₀ L s.heap (own ++ rest) →
    Top hd.view_39 (looseW hd.view_39 [Str.ofString "SettingError"]) mean mg mb h₀ → cs.kind = .function → dp + d < recursionLimit → un + u < cLine →
    (∀ v own' h' tk', Post v own' → Fr h₀ L h' m → News h₀ L h' (own' ++ rest) → Q v { s with heap := h', toks := tk' }) →
    wpAny (model PySem.Challenge.rw_pq1157_01.row.prog w) (ktrTop dp un gd cn cs L a ccd cl outer) (PySem.call (.ref f) vs) Q E s

def Turned (own own' news news' : List (Addr × Obj)) : Prop := ∀ q ∈ news', q ∈ own' ∨ (q ∈ news ∧ ∀ p ∈ own, p.1 = q.1 → p ∈ own')

theorem Turned.same {own news : List (Addr × Obj)} : Turned own own news news := fun _ h => .inr ⟨h, fun _ hp _ => hp⟩
theorem Turned.upd {l : Addr} {o o' : Obj} {own own' news news' : List (Addr × Obj)} (U : Upd l o o' news news') (h1 : (l, o') ∈ own') (h2 : ∀ p ∈ own, p.1 ≠ l → p ∈ own') : Turned own own' news news' := by
  intro q hq
  obtain ⟨pre, post, rfl, rfl, ha, hb⟩ := U.split
  have main : q ∈ pre ∨ q ∈ post → q.1 ≠ l → q ∈ own' ∨ (q ∈ pre ++ (l, o) :: post ∧ ∀ p ∈ own, p.1 = q.1 → p ∈ own') := fun hm hne =>
    .inr ⟨hm.elim (fun h => List.mem_append_left _ h) fun h => List.mem_append_right _ (.tail _ h), fun p hp e => h2 p hp (by rw [e]; exact hne)⟩
  rcases List.mem_append.mp hq with h | h
  · exact main (.inl h) (ha q h)
  · rcases List.mem_cons.mp h with rfl | h
    · exact .inl h1
    · exact main (.inr h) (hb q h)

theorem Turned.one {l : Addr} {o o' : Obj} {news news' : List (Addr × Obj)} (U : Upd l o o' news news') : Turned [(l, o)] [(l, o')] news news' :=
  .upd U (.head _) (List.forall_mem_cons.mpr ⟨fun h => absurd rfl h, List.forall_mem_nil _⟩)
theorem Turned.fst {l a : Addr} {o o' oa : Obj} {news news' : List (Addr × Obj)} (U : Upd l o o' news news') : Turned [(l, o), (a, oa)] [(l, o'), (a, oa)] news news' :=
  .upd U (.head _) (List.forall_mem_cons.mpr ⟨fun h => absurd rfl h, List.forall_mem_cons.mpr ⟨fun _ => .tail _ (.head _), List.forall_mem_nil _⟩⟩)
theorem Turned.snd {l a : Addr} {o o' oa : Obj} {news news' : List (Addr × Obj)} (U : Upd l o o' news news') : Turned [(a, oa), (l, o)] [(a, oa), (l, o')] news news' :=
  .upd U (.tail _ (.head _)) (List.forall_mem_cons.mpr ⟨fun _ => .head _, List.forall_mem_cons.mpr ⟨fun h => absurd rfl h, List.forall_mem_nil _⟩⟩)
theorem Turned.four {l a b c : Addr} {o o' oa ob oc : Obj} {news news' : List (Addr × Obj)} (U : Upd l o o' news news') : Turned [(a, oa), (b, ob), (c, oc), (l, o)] [(a, oa), (b, ob), (c, oc), (l, o')] news news' :=
  .upd U (.tail _ (.tail _ (.tail _ (.head _)))) (List.forall_mem_cons.mpr ⟨fun _ => .head _, List.forall_mem_cons.mpr ⟨fun _ => .tail _ (.head _), List.forall_mem_cons.mpr ⟨fun _ => .tail _ (.tail _ (.head _)), List.forall_mem_cons.mpr ⟨fun h => absurd rfl h, List.forall_mem_nil _⟩⟩⟩⟩)

theorem claim_use {w : World} {f : Addr} {vs : List Value} {own : List (Addr × Obj)} {d u : Nat} {Post : Value → List (Addr × Obj) → Prop} (C : Claim w f vs own d u Post)
    {mean : ExcName → Option Value} {mg mb : Str → Option Value} {dp un : Nat} {gd : Option (List Code)} {cn : Str} {cs : Scope} {a : Addr} {ccd : Value} {cl : List (Str × Addr)} {outer : List Env} {A₀ : Around} {base h₀ : Heap} {L : Addr} {m : Str → Option Value} {news : List (Addr × Obj)} {s : Shared} {Q E : Value → Shared → Prop}
    (B : Below A₀ base outer h₀) (F : Fr h₀ L s.heap m) (X : (hd.heap_39 w.params).In h₀) (N : News h₀ L s.heap news) (T : Top hd.view_39 (looseW hd.view_39 [Str.ofString "SettingError"]) mean mg mb h₀) (hk : cs.kind = .function)
    (hsub : ∀ p ∈ own, p ∈ news) (hd' : dp + d < recursionLimit) (hu : un + u < cLine)
    (ret : ∀ v own' h' tk', Post v own' → Fr h₀ L h' m → (∀ news', Turned own own' news news' → News h₀ L h' news') → Q v { s with heap := h', toks := tk' }) :
    wpAny (model PySem.Challenge.rw_pq1157_01.row.prog w) (ktrTop dp un gd cn cs L a ccd cl outer) (PySem.call (.ref f) vs) Q E s := by
  refine C (news.filter fun p => decide (p.1 ∉ own.map (·.1))) mean mg mb dp un gd cn cs a ccd cl outer A₀ base h₀ L m s Q E ?_ B F X ?_ T hk hd' hu ?_
  · intro p hp b hb e
    have := (List.mem_filter.mp hp).2
    rw [decide_eq_true_eq] at this
    exact this (e ▸ hb)
  · intro p hp
    rcases List.mem_append.mp hp with h | h
    · exact N p (hsub p h)
    · exact N p (List.mem_filter.mp h).1
  · intro v own' h' tk' hp F' N'
    refine ret v own' h' tk' hp F' fun news' ht q hq => ?_
    rcases ht q hq with h | ⟨h, hc⟩
    · exact N' q (List.mem_append_left _ h)
    · by_cases hm : q.1 ∈ own.map (·.1)
      · obtain ⟨p, hp1, hp2⟩ := List.mem_map.mp hm
        have e1 := (N p (hsub p hp1)).1
        have e2 := (N q h).1
        rw [hp2, e2] at e1
        have e : q = p := Prod.ext hp2.symm (Option.some.inj e1)
        exact N' q (List.mem_append_left _ (e ▸ hc p hp1 hp2))
      · exact N' q (List.mem_append_right _ (List.mem_filter.mpr ⟨h, by simpa using hm⟩))
end

section
-- part CT

theorem m_sq (x a y : Int) : IntMulOk ([a, x.fmod 2147483647].getD (Int.toNat 1) 0) y := by
  refine IntMulOk.of_left ?_
  show Builtin.Int.intBits (x.fmod 2147483647) ≤ 64
  have h1 := Int.fmod_nonneg_of_pos x (show (0 : Int) < 2147483647 by decide)
  have h2 := Int.fmod_lt_of_pos x (show (0 : Int) < 2147483647 by decide)
  exact intBits_le_64 (by omega) (by omega)
local macro_rules | `(tactic| walk_at "binaryOp Mult int int") => `(tactic| (refine mul_int ?_ (m_sq _ _ _)))

def TakePost (l : Addr) (n : Nat) (top : Int) (v : Value) (nw : List (Addr × Obj)) : Prop :=
  ∃ (r : Int) (t : Tok) (a : Int) (ta : Tok) (b : Int) (tb : Tok), v = .int r t ∧ nw = [(l, listOf #[.int a ta, .int b tb] n)] ∧ 0 ≤ r ∧ r < top ∧ 0 ≤ b ∧ b < 2147483647

set_option maxRecDepth 100000 in
set_option maxHeartbeats 8000000 in
theorem take_claim (w : World) {l : Addr} {a b top : Int} {ta tb tt : Tok} {n : Nat} (h1 : 0 < top) (h2 : top ≤ 64) (hb0 : 0 ≤ b) (hb1 : b < 2147483647) :
    Claim w 187 [.ref l, .int top tt] [(l, listOf #[.int a ta, .int b tb] n)] 2 16 (TakePost l n top) := by
  w_on
  unfold Claim
  k_fill
  intro rest mean mg mb dp un gd cn cs a9 ccd cl outer A₀ base h₀ L m s Q E hoff B F X N T hk hd hu hret
  simp only [List.cons_append, List.nil_append, List.map_cons, List.map_nil] at N hoff
  refine wpAny_call ?_
  k_dflt cell_enter
  k_steps
  all_goals (refine hret _ _ _ _ ⟨_, _, _, _, _, _, rfl, rfl, ?_, ?_, ?_, ?_⟩ (by assumption) (by assumption))
  all_goals first | exact Int.fmod_nonneg_of_pos _ (by first | assumption | decide) | exact Int.fmod_lt_of_pos _ (by first | assumption | decide) | assumption
end
-- one datum drawn
local macro_rules | `(tactic| walk_at "call ref") => `(tactic| (k_here; (with_reducible show wpAny _ _ (PySem.call (Value.ref 187) [Value.ref _, Value.int _ _]) _ _ _); k_dflt (refine' claim_use (take_claim _ ?h1 ?h2 ?h3 ?h4) ?k1 ?k2 ?k3 ?k4 ?k5 ?kK ?ks ?kd ?ku ?_; walk_at "MINE ctx"; walk_at "MINE om"; intro v9 own9 h9 tk9 P9 F9 N9; (obtain ⟨r9, t9, a9, ta9, b9, tb9, e9, e8, g1, g2, g3, g4⟩ := P9); subst e9; subst e8; (have N8 := N9 _ (Turned.one (by k_upd))); clear N9); walk_at "MINE end"))

section
-- part C1


theorem getD_in {ns : List Int} {r : Int} (h0 : 0 ≤ r) (h : r < (ns.length : Int)) : ns.getD r.toNat 0 ∈ ns := by
  have hl : r.toNat < ns.length := by omega
  rw [List.getD_eq_getElem?_getD, List.getElem?_eq_getElem hl]
  exact List.getElem_mem hl

def OnePost (l : Addr) (n : Nat) (lt : Addr) (vs : List Value) (nt : Nat) (ns : List Int) (v : Value) (nw : List (Addr × Obj)) : Prop :=
  ∃ (r : Int) (t : Tok) (a : Int) (ta : Tok) (b : Int) (tb : Tok), v = .int r t ∧ nw = [(l, listOf #[.int a ta, .int b tb] n), (lt, listOf vs.toArray nt)] ∧ r ∈ ns ∧ 0 ≤ b ∧ b < 2147483647

set_option maxRecDepth 100000 in
set_option maxHeartbeats 8000000 in
theorem one_claim (w : World) {l lt : Addr} {a b : Int} {ta tb : Tok} {n nt : Nat} {vs : List Value} {ns : List Int} (hne : @Ne Nat l lt) (hi : IntsAre vs ns) (h1 : 0 < ns.length) (h2 : ns.length ≤ 64) (hb0 : 0 ≤ b) (hb1 : b < 2147483647) :
    Claim w 194 [.ref l, .ref lt] [(l, listOf #[.int a ta, .int b tb] n), (lt, listOf vs.toArray nt)] 4 32 (OnePost l n lt vs nt ns) := by
  w_on
  unfold Claim
  k_fill
  intro rest mean mg mb dp un gd cn cs a9 ccd cl outer A₀ base h₀ L m s Q E hoff B F X N T hk hd hu hret
  simp only [List.cons_append, List.nil_append, List.map_cons, List.map_nil] at N hoff
  refine wpAny_call ?_
  k_dflt cell_enter
  k_steps
  all_goals (refine hret _ _ _ _ ⟨_, _, _, _, _, _, rfl, rfl, getD_in (by omega) (by omega), by assumption, by assumption⟩ (by assumption) (by assumption))
end
-- one thing of a list
local macro_rules | `(tactic| walk_at "call ref") => `(tactic| (k_here; (with_reducible show wpAny _ _ (PySem.call (Value.ref 194) [Value.ref _, Value.ref _]) _ _ _); k_dflt (refine' claim_use (one_claim _ ?h5 ?hi ?h1 ?h2 ?h3 ?h4) ?k1 ?k2 ?k3 ?k4 ?k5 ?kK ?ks ?kd ?ku ?_; walk_at "MINE ctx"; (case hi => l_ints); walk_at "MINE om"; intro v9 own9 h9 tk9 P9 F9 N9; (obtain ⟨r9, t9, a9, ta9, b9, tb9, e9, e8, hr9, g3, g4⟩ := P9); subst e9; subst e8; (have N8 := N9 _ (Turned.fst (by k_upd))); clear N9; simp only [List.mem_cons, List.not_mem_nil, or_false] at hr9; (first | (have g5 : 1 ≤ r9 ∧ r9 ≤ 64 := by omega) | (have g5 : 0 ≤ r9 ∧ r9 ≤ 999 := by omega)); clear hr9; obtain ⟨g5, g6⟩ := g5); walk_at "MINE end"))

section
-- part CF

structure Keys where
  h1 : Int
  k1 : Tok
  h2 : Int
  k2 : Tok
  h3 : Int
  k3 : Tok
  h4 : Int
  k4 : Tok
  tr : Tok
  tb : Tok

/-- the bucket's dict -/
abbrev bDict (K : Keys) (rate burst g T : Int) (tg tT : Tok) : Obj :=
  dictOf [⟨K.h1, .str (Str.ofString "rate") K.k1, .int rate K.tr⟩, ⟨K.h2, .str (Str.ofString "burst") K.k2, .int burst K.tb⟩, ⟨K.h3, .str (Str.ofString "grains") K.k3, .int g tg⟩, ⟨K.h4, .str (Str.ofString "time") K.k4, .int T tT⟩] 4

def fillG (rate burst g T now : Int) : Int := if now ≤ T then g else min (g + rate * (now - T)) (burst * 100)
def fillT (T now : Int) : Int := if now ≤ T then T else now

def FillPost (y dy : Addr) (K : Keys) (rate burst g T now : Int) (_v : Value) (nw : List (Addr × Obj)) : Prop :=
  ∃ (tg tT : Tok), nw = [(y, instObj 127 dy), (dy, bDict K rate burst (fillG rate burst g T now) (fillT T now) tg tT)]

theorem fill_end1 {y dy : Addr} {K : Keys} {rate burst g T now : Int} {tg tT : Tok} {v : Value} (h : now ≤ T) : FillPost y dy K rate burst g T now v [(y, instObj 127 dy), (dy, bDict K rate burst g T tg tT)] := by
  refine ⟨tg, tT, ?_⟩
  unfold fillG fillT
  rw [if_pos h, if_pos h]
theorem fill_end2 {y dy : Addr} {K : Keys} {rate burst g T now : Int} {tg tT : Tok} {v : Value} (h : ¬ now ≤ T) : FillPost y dy K rate burst g T now v [(y, instObj 127 dy), (dy, bDict K rate burst (if burst * 100 < g + rate * (now - T) then burst * 100 else g + rate * (now - T)) now tg tT)] := by
  refine ⟨tg, tT, ?_⟩
  unfold fillG fillT
  rw [if_neg h, if_neg h]
  have e : (if burst * 100 < g + rate * (now - T) then burst * 100 else g + rate * (now - T)) = min (g + rate * (now - T)) (burst * 100) := by
    generalize g + rate * (now - T) = x
    generalize burst * 100 = z
    rw [Int.min_def]
    split <;> split <;> omega
  rw [e]

set_option maxRecDepth 100000 in
set_option maxHeartbeats 8000000 in
theorem fill_claim (w : World) {y dy : Addr} {K : Keys} {rate burst g T now : Int} {tg tT tn : Tok} (hne : @LT.lt Nat _ dy y) (h1 : 0 ≤ rate) (h2 : rate ≤ 999) :
    Claim w 82 [.ref y, .int now tn] [(y, instObj 127 dy), (dy, bDict K rate burst g T tg tT)] 3 24 (FillPost y dy K rate burst g T now) := by
  obtain ⟨h1, k1, h2, k2, h3, k3, h4, k4, tr, tb⟩ := K
  w_on
  unfold Claim
  k_fill
  intro rest mean mg mb dp un gd cn cs a9 ccd cl outer A₀ base h₀ L m s Q E hoff B F X N T hk hd hu hret
  simp only [List.cons_append, List.nil_append, List.map_cons, List.map_nil] at N hoff
  refine wpAny_call ?_
  k_dflt cell_enter
  k_steps
  · exact hret _ _ _ _ (fill_end1 (by first | assumption | omega)) (by assumption) (by assumption)
  · exact hret _ _ _ _ (fill_end2 (by first | assumption | omega)) (by assumption) (by assumption)
end

section
-- part CH

local macro_rules | `(tactic| walk_at "call ref") => `(tactic| (k_here; (with_reducible show wpAny _ _ (PySem.call (Value.ref 82) [Value.ref _, Value.int _ _]) _ _ _); k_dflt (refine' claim_use (fill_claim _ (K := ⟨_, _, _, _, _, _, _, _, _, _⟩) ?h1 ?h2 ?h3) ?k1 ?k2 ?k3 ?k4 ?k5 ?kK ?ks ?kd ?ku ?_; walk_at "MINE ctx"; walk_at "MINE om"); intro v9 own9 h9 tk9 P9 F9 N9; (obtain ⟨tg9, tT9, e9⟩ := P9); subst e9; (have N8 := N9 _ (Turned.snd (by k_upd))); clear N9; walk_at "MINE end"))

def HasPost (y dy : Addr) (K : Keys) (rate burst g T size now : Int) (v : Value) (nw : List (Addr × Obj)) : Prop :=
  v = .bool (decide (size * 100 ≤ fillG rate burst g T now)) ∧ ∃ (tg tT : Tok), nw = [(y, instObj 127 dy), (dy, bDict K rate burst (fillG rate burst g T now) (fillT T now) tg tT)]

set_option maxRecDepth 100000 in
set_option maxHeartbeats 8000000 in
theorem has_claim (w : World) {y dy : Addr} {K : Keys} {rate burst g T size now : Int} {tg tT ts tn : Tok} (hne : @LT.lt Nat _ dy y) (h1 : 0 ≤ rate) (h2 : rate ≤ 999) :
    Claim w 96 [.ref y, .int size ts, .int now tn] [(y, instObj 127 dy), (dy, bDict K rate burst g T tg tT)] 5 48 (HasPost y dy K rate burst g T size now) := by
  obtain ⟨h1, k1, h2, k2, h3, k3, h4, k4, tr, tb⟩ := K
  w_on
  unfold Claim
  k_fill
  intro rest mean mg mb dp un gd cn cs a9 ccd cl outer A₀ base h₀ L m s Q E hoff B F X N T hk hd hu hret
  simp only [List.cons_append, List.nil_append, List.map_cons, List.map_nil] at N hoff
  refine wpAny_call ?_
  k_dflt cell_enter
  k_steps
  all_goals exact hret _ _ _ _ ⟨rfl, _, _, rfl⟩ (by assumption) (by assumption)

def WaitPost (y dy : Addr) (K : Keys) (rate burst g T size now : Int) (v : Value) (nw : List (Addr × Obj)) : Prop :=
  (∃ (tg tT : Tok), nw = [(y, instObj 127 dy), (dy, bDict K rate burst (fillG rate burst g T now) (fillT T now) tg tT)]) ∧
  ((size * 100 - fillG rate burst g T now ≤ 0 ∧ ∃ t, v = .int 0 t) ∨ (¬ size * 100 - fillG rate burst g T now ≤ 0 ∧ rate = 0 ∧ v = .none) ∨
    (¬ size * 100 - fillG rate burst g T now ≤ 0 ∧ rate ≠ 0 ∧ ∃ t, v = .int ((size * 100 - fillG rate burst g T now + rate - 1).fdiv rate) t))

set_option maxRecDepth 100000 in
set_option maxHeartbeats 8000000 in
theorem wait_claim (w : World) {y dy : Addr} {K : Keys} {rate burst g T size now : Int} {tg tT ts tn : Tok} (hne : @LT.lt Nat _ dy y) (h1 : 0 ≤ rate) (h2 : rate ≤ 999) (h3 : size ≤ burst) :
    Claim w 124 [.ref y, .int size ts, .int now tn] [(y, instObj 127 dy), (dy, bDict K rate burst g T tg tT)] 5 48 (WaitPost y dy K rate burst g T size now) := by
  obtain ⟨h1, k1, h2, k2, h3, k3, h4, k4, tr, tb⟩ := K
  w_on
  unfold Claim
  k_fill
  intro rest mean mg mb dp un gd cn cs a9 ccd cl outer A₀ base h₀ L m s Q E hoff B F X N T hk hd hu hret
  simp only [List.cons_append, List.nil_append, List.map_cons, List.map_nil] at N hoff
  refine wpAny_call ?_
  k_dflt cell_enter
  k_steps
  · exact hret _ _ _ _ ⟨⟨_, _, rfl⟩, .inl ⟨by first | assumption | omega, _, rfl⟩⟩ (by assumption) (by assumption)
  · exact hret _ _ _ _ ⟨⟨_, _, rfl⟩, .inr (.inl ⟨by first | assumption | omega, by first | assumption | omega, rfl⟩)⟩ (by assumption) (by assumption)
  · exact hret _ _ _ _ ⟨⟨_, _, rfl⟩, .inr (.inr ⟨by first | assumption | omega, by first | assumption | omega, _, rfl⟩)⟩ (by assumption) (by assumption)
end

section
-- part CS

-- the small methods are entered
local macro_rules | `(tactic| walk_at "call ref") => `(tactic| (k_here; (first | (with_reducible show wpAny _ _ (PySem.call (Value.ref 103) _) _ _ _) | (with_reducible show wpAny _ _ (PySem.call (Value.ref 152) _) _ _ _)); refine wpAny_call ?_; walk_at "MINE enter"))
local macro_rules | `(tactic| walk_at "call ref") => `(tactic| (k_here; (with_reducible show wpAny _ _ (PySem.call (Value.ref 96) [Value.ref _, Value.int _ _, Value.int _ _]) _ _ _); k_dflt (refine' claim_use (has_claim _ (K := ⟨_, _, _, _, _, _, _, _, _, _⟩) ?h1 ?h2 ?h3) ?k1 ?k2 ?k3 ?k4 ?k5 ?kK ?ks ?kd ?ku ?_; walk_at "MINE ctx"; walk_at "MINE om"); intro v9 own9 h9 tk9 P9 F9 N9; (obtain ⟨e8, tg9, tT9, e9⟩ := P9); subst e8; subst e9; (have N8 := N9 _ (Turned.snd (by k_upd))); clear N9; walk_at "MINE end"))
local macro_rules | `(tactic| walk_at "call ref") => `(tactic| (k_here; (with_reducible show wpAny _ _ (PySem.call (Value.ref 124) [Value.ref _, Value.int _ _, Value.int _ _]) _ _ _); k_dflt (refine' claim_use (wait_claim _ (K := ⟨_, _, _, _, _, _, _, _, _, _⟩) ?h1 ?h2 ?h3 ?h4) ?k1 ?k2 ?k3 ?k4 ?k5 ?kK ?ks ?kd ?ku ?_; walk_at "MINE ctx"; walk_at "MINE om"); intro v9 own9 h9 tk9 P9 F9 N9; (obtain ⟨⟨tg9, tT9, e9⟩, P8⟩ := P9); subst e9; (have N8 := N9 _ (Turned.snd (by k_upd))); clear N9; (rcases P8 with ⟨g1, t8, e8⟩ | ⟨g1, g2, e8⟩ | ⟨g1, g2, t8, e8⟩) <;> subst e8 <;> walk_at "MINE end"))

def asked (size burst : Int) : Int := if burst < size then burst else size

/-- the shaper's four objects -/
abbrev four (x dx y dy : Addr) (h0 : Int) (k0 : Tok) (d : Obj) : List (Addr × Obj) :=
  [(x, instObj 169 dx), (dx, dictOf [⟨h0, .str (Str.ofString "bucket") k0, .ref y⟩] 1), (y, instObj 127 dy), (dy, d)]

def SentPost (x dx y dy : Addr) (h0 : Int) (k0 : Tok) (K : Keys) (rate burst g T size now : Int) (v : Value) (nw : List (Addr × Obj)) : Prop :=
  (asked size burst * 100 ≤ fillG rate burst g T now ∧ v = .bool true ∧ ∃ (tg tT : Tok), nw = four x dx y dy h0 k0 (bDict K rate burst (fillG rate burst g T now - size * 100) (fillT T now) tg tT)) ∨
  (¬ asked size burst * 100 ≤ fillG rate burst g T now ∧ v = .bool false ∧ ∃ (tg tT : Tok), nw = four x dx y dy h0 k0 (bDict K rate burst (fillG rate burst g T now) (fillT T now) tg tT))

set_option maxRecDepth 100000 in
set_option maxHeartbeats 8000000 in
theorem sent_claim (w : World) {x dx y dy : Addr} {h0 : Int} {k0 : Tok} {K : Keys} {rate burst g T size now : Int} {tg tT ts tn : Tok} (l1 : @LT.lt Nat _ dy y) (l2 : @LT.lt Nat _ dx x) (l3 : @LT.lt Nat _ x dy) (h1 : 0 ≤ rate) (h2 : rate ≤ 999) :
    Claim w 166 [.ref x, .int size ts, .int now tn] (four x dx y dy h0 k0 (bDict K rate burst g T tg tT)) 8 80 (SentPost x dx y dy h0 k0 K rate burst g T size now) := by
  obtain ⟨h1, k1, h2, k2, h3, k3, h4, k4, tr, tb⟩ := K
  w_on
  unfold Claim
  k_fill
  intro rest mean mg mb dp un gd cn cs a9 ccd cl outer A₀ base h₀ L m s Q E hoff B F X N T hk hd hu hret
  simp only [List.cons_append, List.nil_append, List.map_cons, List.map_nil] at N hoff
  refine wpAny_call ?_
  k_dflt cell_enter
  k_steps
  · exact hret _ _ _ _ (.inl ⟨by unfold asked; first | assumption | omega, rfl, _, _, rfl⟩) (by assumption) (by assumption)
  · exact hret _ _ _ _ (.inr ⟨by unfold asked; first | assumption | omega, rfl, _, _, rfl⟩) (by assumption) (by assumption)

def WhenPost (x dx y dy : Addr) (h0 : Int) (k0 : Tok) (K : Keys) (rate burst g T size now : Int) (v : Value) (nw : List (Addr × Obj)) : Prop :=
  (∃ (tg tT : Tok), nw = four x dx y dy h0 k0 (bDict K rate burst (fillG rate burst g T now) (fillT T now) tg tT)) ∧
  ((asked size burst * 100 - fillG rate burst g T now ≤ 0 ∧ ∃ t, v = .int now t) ∨ (¬ asked size burst * 100 - fillG rate burst g T now ≤ 0 ∧ rate = 0 ∧ v = .none) ∨
    (¬ asked size burst * 100 - fillG rate burst g T now ≤ 0 ∧ rate ≠ 0 ∧ ∃ t, v = .int (now + (asked size burst * 100 - fillG rate burst g T now + rate - 1).fdiv rate) t))

set_option maxRecDepth 100000 in
set_option maxHeartbeats 8000000 in
theorem when_claim (w : World) {x dx y dy : Addr} {h0 : Int} {k0 : Tok} {K : Keys} {rate burst g T size now : Int} {tg tT ts tn : Tok} (l1 : @LT.lt Nat _ dy y) (l2 : @LT.lt Nat _ dx x) (l3 : @LT.lt Nat _ x dy) (h1 : 0 ≤ rate) (h2 : rate ≤ 999) :
    Claim w 159 [.ref x, .int size ts, .int now tn] (four x dx y dy h0 k0 (bDict K rate burst g T tg tT)) 8 80 (WhenPost x dx y dy h0 k0 K rate burst g T size now) := by
  obtain ⟨h1, k1, h2, k2, h3, k3, h4, k4, tr, tb⟩ := K
  w_on
  unfold Claim
  k_fill
  intro rest mean mg mb dp un gd cn cs a9 ccd cl outer A₀ base h₀ L m s Q E hoff B F X N T hk hd hu hret
  simp only [List.cons_append, List.nil_append, List.map_cons, List.map_nil] at N hoff
  refine wpAny_call ?_
  k_dflt cell_enter
  k_steps
  · exact hret _ _ _ _ ⟨⟨_, _, rfl⟩, .inl ⟨by unfold asked; first | assumption | omega, _, congrArg (Value.int · _) (Int.add_zero _)⟩⟩ (by assumption) (by assumption)
  · exact hret _ _ _ _ ⟨⟨_, _, rfl⟩, .inr (.inl ⟨by unfold asked; first | assumption | omega, by first | assumption | omega, rfl⟩)⟩ (by assumption) (by assumption)
  · exact hret _ _ _ _ ⟨⟨_, _, rfl⟩, .inr (.inr ⟨by unfold asked; first | assumption | omega, by first | assumption | omega, _, rfl⟩)⟩ (by assumption) (by assumption)
end

section
-- part CR

def pairD (p : Int × Int) : Dat := .tuple [.int p.1, .int p.2]
abbrev pairO (x y : Int) (tx ty : Tok) (k : Nat) : Obj := { cls := .type "tuple", data := .seq #[.int x tx, .int y ty] k }

theorem pair_open {news : List (Addr × Obj)} {v : Value} {p : Int × Int} (h : DatIn news v (pairD p)) : ∃ a t1 t2 k, v = .ref a ∧ (a, pairO p.1 p.2 t1 t2 k) ∈ news := by
  unfold pairD at h
  cases h with
  | tuple hm hr =>
    cases hr with
    | cons h1 hr =>
      cases hr with
      | cons h2 hr =>
        cases hr
        cases h1
        cases h2
        exact ⟨_, _, _, _, rfl, hm⟩

section
variable {prog : Program} {w : World} {A : Around} {E : Value → Shared → Prop} {s : Shared} {env : Env} {h₀ : Heap} {target : PySem.Expr} {body : List Stmt} {Q : Flow → Shared → Prop}

/-- what a turn hands on -/
def TurnEnd (s : Shared) (h₀ : Heap) (L : Addr) (rest : List (Addr × Obj)) (J : (Str → Option Value) → Prop) (f : Flow) (s₄ : Shared) : Prop :=
  f = .next ∧ ∃ h' tk' m', s₄ = { s with heap := h', toks := tk' } ∧ Fr h₀ L h' m' ∧ News h₀ L h' rest ∧ J m'

theorem iter_pairs {D : Addr} {ws : List Value} {n : Nat} {news : List (Addr × Obj)} {es : List (Int × Int)} {m₀ : Str → Option Value} (J : List (Int × Int) → (Str → Option Value) → Prop)
    (hh : A.handled = none) (hD : (D, listOf ws.toArray n) ∈ news) (hd : DatAll news ws (es.map pairD)) (F : Fr h₀ env.locals s.heap m₀) (N : News h₀ env.locals s.heap news) (hj : J [] m₀)
    (turn : ∀ pre p post a t1 t2 k m₁ (s₁ : Shared) rest, es = pre ++ p :: post → J pre m₁ → Fr h₀ env.locals s₁.heap m₁ → News h₀ env.locals s₁.heap ((a, pairO p.1 p.2 t1 t2 k) :: rest) →
      wpAny (model prog w) A (assign target env (.ref a)) (fun _ s₃ => wpAny (model prog w) A (execs body env) (TurnEnd s₁ h₀ env.locals rest (J (pre ++ [p]))) E s₃) E s₁)
    (done : ∀ m₁ h tk, J es m₁ → Fr h₀ env.locals h m₁ → News h₀ env.locals h news → Q .next { s with heap := h, toks := tk }) :
    wpAny (model prog w) A (pyIter (.ref D)) (fun it s₂ => LoopAtT prog w A h₀ env target body Q E it s₂) E s := by
  have hol : s.heap.get? D = some (listOf ws.toArray n) := (N _ hD).1
  have hls : s.heap.IsList D ws.toArray := ⟨_, hol, rfl, n, rfl⟩
  have hne : D ≠ s.heap.objs.size := Nat.ne_of_lt (Heap.lt_size hol)
  have hlen : ws.length = es.length := by rw [hd.length, List.length_map]
  refine wpAny_pyIter_list hls ?_
  have W := Walks.list (prog := prog) (w := w) hh s.heap.objs.size D hne ws.toArray
  have hsz : ws.toArray.size = es.length := by rw [List.size_toArray, hlen]
  rw [hsz] at W
  refine ⟨_, _, _, es.length, _, _, m₀, news, (fun i m nx => nx = news ∧ J (es.take i) m), rfl, W, ?_, ?_, ?_, ⟨⟨_, Heap.get?_push_size _ rfl, rfl, rfl⟩, hls.at fun o e => Heap.get?_push_of_some _ e⟩, F.push _, (fun p hp => ⟨Heap.get?_push_of_some _ (N p hp).1, (N p hp).2⟩), (fun i s' v Q' st hQ' => letGo_listiter st.1 hQ'), ⟨rfl, hj⟩, ?_, ?_⟩
  · intro hm
    rcases List.mem_cons.mp hm with e | hm
    · exact absurd F.ns.lt (e ▸ Nat.lt_irrefl _)
    · exact (N _ hD).2.1 ((List.mem_singleton.mp hm).symm)
  · intro b hb
    rw [List.mem_singleton.mp hb]
    exact next_is_new F
  · intro p hp hI
    exact absurd (Heap.lt_size (N p hp).1) ((List.mem_singleton.mp hI) ▸ Nat.lt_irrefl _)
  · rintro i v m₁ nx s₁ own hin hP ⟨rfl, hJ⟩ hoff hown hget hfp hst F₁ N₁
    have hP' : ws[i]? = some v := by simpa using hP
    have hi : i < es.length := hin
    obtain ⟨v', hv', hD'⟩ := hd.get (k := i) (by rw [List.length_map]; exact hi)
    have ev : v' = v := by rw [hP'] at hv'; exact (Option.some.inj hv').symm
    subst ev
    rw [List.getElem_map] at hD'
    obtain ⟨a, t1, t2, k, rfl, hm⟩ := pair_open hD'
    have hs : es.take (i + 1) = es.take i ++ [es[i]] := by rw [List.take_add_one, List.getElem?_eq_getElem hi]; rfl
    have e : es = es.take i ++ es[i] :: es.drop (i + 1) := by
      have h9 := List.take_append_drop (i + 1) es
      rw [hs, List.append_assoc] at h9
      exact h9.symm
    refine wpAny_mono (turn _ _ _ a t1 t2 k m₁ s₁ (own ++ nx) e hJ F₁ (fun q hq => ?_)) (fun _ s₃ h₃ => wpAny_mono h₃ (fun f s₄ p => ?_) fun _ _ x => x) fun _ _ x => x
    · rcases List.mem_cons.mp hq with rfl | hq
      · exact N₁ _ (List.mem_append_right _ hm)
      · exact N₁ q hq
    · obtain ⟨rfl, h', tk', m', rfl, F', N', hJ'⟩ := p
      exact ⟨rfl, h', tk', m', nx, rfl, F', N', hoff, rfl, by rw [hs]; exact hJ'⟩
  · rintro h' tk m' news' F' N' _ ⟨rfl, hJ⟩
    rw [List.take_length] at hJ
    exact done m' h' tk hJ F' N'
end

def goR (rate burst now : Int) (st : Int × Int) (p : Int × Int) : Int × Int :=
  (if 100 * burst + rate * (now - p.1) - 100 * (st.2 + p.2) < st.1 then 100 * burst + rate * (now - p.1) - 100 * (st.2 + p.2) else st.1, st.2 + p.2)
def roomF (rate burst now : Int) (ds : List (Int × Int)) : Int := (ds.reverse.foldl (goR rate burst now) (100 * burst, 0)).1

def RoomJ (rate burst now : Int) (m₀ : Str → Option Value) (pre : List (Int × Int)) (m : Str → Option Value) : Prop :=
  ∃ f tf o to, (f, o) = pre.foldl (goR rate burst now) (100 * burst, 0) ∧ m (Str.ofString "found") = some (.int f tf) ∧ m (Str.ofString "octets") = some (.int o to) ∧
    ∀ z, z ≠ Str.ofString "found" → z ≠ Str.ofString "octets" → z ≠ Str.ofString "time" → z ≠ Str.ofString "size" → m z = m₀ z
theorem room_fr {h₀ h : Heap} {L : Addr} {m₀ m₁ : Str → Option Value} {a b c d : Str} {va vb : Value} (h1 : m₁ a = some va) (h2 : m₁ b = some vb) (h3 : ∀ z, z ≠ a → z ≠ b → z ≠ c → z ≠ d → m₁ z = m₀ z) (F : Fr h₀ L h m₁) :
    Fr h₀ L h (fun y => if y = a then some va else if y = b then some vb else if y = c then m₁ c else if y = d then m₁ d else m₀ y) := by
  have e : (fun y => if y = a then some va else if y = b then some vb else if y = c then m₁ c else if y = d then m₁ d else m₀ y) = m₁ := by
    funext y
    by_cases e1 : y = a
    · rw [if_pos e1, e1, h1]
    · rw [if_neg e1]
      by_cases e2 : y = b
      · rw [if_pos e2, e2, h2]
      · rw [if_neg e2]
        by_cases e3 : y = c
        · rw [if_pos e3, e3]
        · rw [if_neg e3]
          by_cases e4 : y = d
          · rw [if_pos e4, e4]
          · rw [if_neg e4, h3 y e1 e2 e3 e4]
  rw [e]
  exact F

section
variable {prog : Program} {w : World} {A : Around} {E : Value → Shared → Prop} {s : Shared} {env : Env} {h₀ : Heap} {target : PySem.Expr} {body : List Stmt} {Q : Flow → Shared → Prop}
abbrev roomM (m₀ : Str → Option Value) (f o : Int) (tf to : Tok) (u1 u2 : Option Value) (y : Str) : Option Value :=
  if y = Str.ofString "found" then some (.int f tf) else if y = Str.ofString "octets" then some (.int o to) else if y = Str.ofString "time" then u1 else if y = Str.ofString "size" then u2 else m₀ y
theorem iter_room (rate burst now : Int) {D : Addr} {ws : List Value} {n : Nat} {news : List (Addr × Obj)} {es : List (Int × Int)} {m₀ : Str → Option Value} {tf₀ to₀ : Tok}
    (hh : A.handled = none) (hD : (D, listOf ws.toArray n) ∈ news) (hd : DatAll news ws (es.map pairD)) (F : Fr h₀ env.locals s.heap m₀) (N : News h₀ env.locals s.heap news) (hf : m₀ (Str.ofString "found") = some (.int (100 * burst) tf₀)) (ho : m₀ (Str.ofString "octets") = some (.int 0 to₀))
    (turn : ∀ (pre : List (Int × Int)) (x y : Int) (f o : Int) (tf to : Tok) u1 u2 a t1 t2 k (s₁ : Shared) rest, (f, o) = pre.foldl (goR rate burst now) (100 * burst, 0) → Fr h₀ env.locals s₁.heap (fun z => roomM m₀ f o tf to u1 u2 z) → News h₀ env.locals s₁.heap ((a, pairO x y t1 t2 k) :: rest) →
      wpAny (model prog w) A (assign target env (.ref a)) (fun _ s₃ => wpAny (model prog w) A (execs body env) (TurnEnd s₁ h₀ env.locals rest (RoomJ rate burst now m₀ (pre ++ [(x, y)]))) E s₃) E s₁)
    (done : ∀ f o tf to u1 u2 h tk, (f, o) = es.foldl (goR rate burst now) (100 * burst, 0) → Fr h₀ env.locals h (fun z => roomM m₀ f o tf to u1 u2 z) → News h₀ env.locals h news → Q .next { s with heap := h, toks := tk }) :
    wpAny (model prog w) A (pyIter (.ref D)) (fun it s₂ => LoopAtT prog w A h₀ env target body Q E it s₂) E s := by
  refine iter_pairs (RoomJ rate burst now m₀) hh hD hd F N ⟨_, _, _, _, rfl, hf, ho, fun _ _ _ _ _ => rfl⟩ ?_ ?_
  · rintro pre ⟨x, y⟩ post a t1 t2 k m₁ s₁ rest _ ⟨f, tf, o, to, hfo, h1, h2, h3⟩ F₁ N₁
    exact turn pre x y f o tf to _ _ a t1 t2 k s₁ rest hfo (room_fr h1 h2 h3 F₁) N₁
  · rintro m₁ h tk ⟨f, tf, o, to, hfo, h1, h2, h3⟩ F₁ N₁
    exact done f o tf to _ _ h tk hfo (room_fr h1 h2 h3 F₁) N₁
end
local macro_rules | `(tactic| walk_at "exec For Tuple Subscript cons nil") => `(tactic| (k_here; (rename Fr _ _ _ _ => lF'); (with_unfolding_all refine' For_invTF lF' ?_ ?k1; (case k1 => (intro _; rfl)); k_whole)))
local macro_rules | `(tactic| walk_at "subscriptTail Name Slice ref ref") => `(tactic| (k_here; (with_reducible show wpAny _ _ (subscriptTail _ (PySem.Expr.Slice none none (some _) _) (Value.ref _) (Value.ref _)) _ _ _); k_dflt (refine' krv_lit ?F ?N ?l ?k ?e ?_ ?s ?t ?z; (case F => k_asm); (case N => k_asm); (case l => kmk_list); (case k => exact IsPart.int _ _); (case e => exact rfl); (case s => with_unfolding_all rfl); (case t => kmk_pure); (case z => assumption)); intro D' h' F' N' l1; (try k_lt l1); (try k_sweep)))

theorem datAll_reverse {news : List (Addr × Obj)} : ∀ {vs : List Value} {ds : List Dat}, DatAll news vs ds → DatAll news vs.reverse ds.reverse
  | _, _, .nil => .nil
  | _, _, .cons h r => by
    rw [List.reverse_cons, List.reverse_cons]
    exact (datAll_reverse r).append (.cons h .nil)

set_option maxRecDepth 100000 in
set_option maxHeartbeats 8000000 in
theorem room_claim (w : World) {ls : Addr} {vs : List Value} {nn : Nat} {tups : List (Addr × Obj)} {ds : List (Int × Int)} {rate burst now : Int} {tr tb tn : Tok} (hdat : DatAll tups vs (ds.map pairD)) (hlen : ds.length ≤ 64) (h1 : 0 ≤ rate) (h2 : rate ≤ 999) :
    Claim w 201 [.ref ls, .int rate tr, .int burst tb, .int now tn] ((ls, listOf vs.toArray nn) :: tups) 4 40 (fun v nw => nw = (ls, listOf vs.toArray nn) :: tups ∧ ∃ t, v = .int (roomF rate burst now ds) t) := by
  have hz : vs.toArray.size ≤ sizeLine := by rw [List.size_toArray, hdat.length, List.length_map, sizeLine_eq]; omega
  w_on
  unfold Claim
  k_fill
  intro rest mean mg mb dp un gd cn cs a9 ccd cl outer A₀ base h₀ L m s Q E hoff B F X N T hk hd hu hret
  simp only [List.cons_append, List.nil_append, List.map_cons, List.map_nil] at N hoff
  refine wpAny_call ?_
  k_dflt cell_enter
  k_steps
  rename Fr _ _ _ _ => lF
  rename News _ _ _ _ => lN
  with_unfolding_all refine' iter_room rate burst now (es := ds.reverse) rfl (List.mem_cons_self ..) ?hdd lF lN rfl rfl (fun pre x y f o tf to u1 u2 a t1 t2 k s₁ rest9 e F₁ N₁ => ?turn) (fun f o tf to u1 u2 h tk e F₁ N₁ => ?done)
  case hdd =>
    rw [List.map_reverse]
    exact datAll_reverse (DatAll.mono (fun _ h => List.mem_cons_of_mem _ (List.mem_cons_of_mem _ (List.mem_cons_of_mem _ (List.mem_append_left _ h)))) hdat)
  case turn =>
    clear lF lN
    k_fold
    k_steps
    all_goals (refine ⟨rfl, _, _, _, rfl, by assumption, kst_newsOf (by assumption) (fun _ h => List.mem_cons_of_mem _ h), ⟨_, _, _, _, ?e, rfl, rfl, ?z⟩⟩)
    case e => (rw [List.foldl_append, ← e]; rfl)
    case z =>
      intro z h1 h2 h3 h4
      simp only [if_neg h1, if_neg h2, if_neg h3, if_neg h4, roomM]
  case done =>
    clear lF lN
    k_steps
    have hf : f = roomF rate burst now ds := by
      unfold roomF
      rw [← e]
    subst hf
    exact hret _ _ _ _ ⟨rfl, _, rfl⟩ (by assumption) (kst_newsOf (by assumption) (fun _ h => List.mem_cons_of_mem _ (List.mem_cons_of_mem _ h)))
end

section
-- part CD

local macro_rules | `(tactic| walk_at "MINE sub") => `(tactic| (exact fun _ h => List.mem_cons_of_mem _ (List.mem_append_left _ h)))
local macro_rules | `(tactic| walk_at "call ref") => `(tactic| (k_here; (with_reducible show wpAny _ _ (PySem.call (Value.ref 201) [Value.ref _, Value.int _ _, Value.int _ _, Value.int _ _]) _ _ _); k_dflt (refine' claim_use (room_claim _ ?hdat ?h1 ?h2 ?h3) ?k1 ?k2 ?k3 ?k4 ?k5 ?kK ?ks ?kd ?ku ?_; walk_at "MINE ctx0"; (case ks => exact List.forall_mem_cons.mpr ⟨by k_mem, fun _ h => h⟩); (case hdat => (refine DatAll.mono ?hsub (by assumption); walk_at "MINE sub")); walk_at "MINE om"); intro v9 own9 h9 tk9 P9 F9 N9; (obtain ⟨e9, t8, e8⟩ := P9); subst e9; subst e8; (have N8 := N9 _ Turned.same); clear N9; walk_at "MINE end"))

def DuePost (ds : List (Int × Int)) (rate burst size now : Int) (v : Value) : Prop :=
  (100 * asked size burst - roomF rate burst now ds ≤ 0 ∧ ∃ t, v = .int now t) ∨ (¬ 100 * asked size burst - roomF rate burst now ds ≤ 0 ∧ rate = 0 ∧ v = .none) ∨
    (¬ 100 * asked size burst - roomF rate burst now ds ≤ 0 ∧ rate ≠ 0 ∧ ∃ t, v = .int (now + (100 * asked size burst - roomF rate burst now ds).fdiv rate + (if decide (0 < (100 * asked size burst - roomF rate burst now ds).fmod rate) = true then 1 else 0)) t)

set_option maxRecDepth 100000 in
set_option maxHeartbeats 8000000 in
theorem due_claim (w : World) {ls : Addr} {vs : List Value} {nn : Nat} {tups : List (Addr × Obj)} {ds : List (Int × Int)} {rate burst size now : Int} {tr tb ts tn : Tok} (hdat : DatAll tups vs (ds.map pairD)) (hlen : ds.length ≤ 64) (h1 : 0 ≤ rate) (h2 : rate ≤ 999) :
    Claim w 208 [.ref ls, .int rate tr, .int burst tb, .int size ts, .int now tn] ((ls, listOf vs.toArray nn) :: tups) 6 64 (fun v nw => nw = (ls, listOf vs.toArray nn) :: tups ∧ DuePost ds rate burst size now v) := by
  w_on
  unfold Claim
  k_fill
  intro rest mean mg mb dp un gd cn cs a9 ccd cl outer A₀ base h₀ L m s Q E hoff B F X N T hk hd hu hret
  simp only [List.cons_append, List.nil_append, List.map_cons, List.map_nil] at N hoff
  refine wpAny_call ?_
  k_dflt cell_enter
  k_steps
  · exact hret _ _ _ _ ⟨rfl, .inl ⟨by unfold asked; first | assumption | omega, _, rfl⟩⟩ (by assumption) (by assumption)
  · exact hret _ _ _ _ ⟨rfl, .inr (.inl ⟨by unfold asked; first | assumption | omega, by first | assumption | omega, rfl⟩)⟩ (by assumption) (by assumption)
  · exact hret _ _ _ _ ⟨rfl, .inr (.inr ⟨by unfold asked; first | assumption | omega, by first | assumption | omega, _, rfl⟩)⟩ (by assumption) (by assumption)
end

section
-- part PL

theorem ite_min (x f : Int) : (if x < f then x else f) = min f x := by
  rw [Int.min_def]
  split <;> split <;> omega

theorem fold_shift (R b t now s : Int) : ∀ (l : List (Int × Int)) (f o : Int),
    l.foldl (goR R b now) (f + (R * (now - t) - 100 * s), o + s) = ((l.foldl (goR R b t) (f, o)).1 + (R * (now - t) - 100 * s), (l.foldl (goR R b t) (f, o)).2 + s)
  | [], _, _ => rfl
  | (x, y) :: l, f, o => by
    rw [List.foldl_cons, List.foldl_cons]
    have e : goR R b now (f + (R * (now - t) - 100 * s), o + s) (x, y) = ((goR R b t (f, o) (x, y)).1 + (R * (now - t) - 100 * s), (goR R b t (f, o) (x, y)).2 + s) := by
      unfold goR
      dsimp only
      have h1 : R * (now - x) = R * (t - x) + R * (now - t) := by rw [← Int.mul_add]; congr 1; omega
      rw [h1]
      generalize R * (t - x) = u
      generalize R * (now - t) = v
      refine Prod.ext ?_ ?_
      · dsimp only
        split <;> split <;> omega
      · dsimp only
        omega
    rw [e]
    exact fold_shift R b t now s l _ _

theorem fold_min (R b now : Int) : ∀ (l : List (Int × Int)) (f f' o : Int),
    l.foldl (goR R b now) (min f f', o) = (min f (l.foldl (goR R b now) (f', o)).1, (l.foldl (goR R b now) (f', o)).2)
  | [], _, _, _ => rfl
  | (x, y) :: l, f, f', o => by
    rw [List.foldl_cons, List.foldl_cons]
    have e : goR R b now (min f f', o) (x, y) = (min f (goR R b now (f', o) (x, y)).1, (goR R b now (f', o) (x, y)).2) := by
      unfold goR
      dsimp only
      generalize 100 * b + R * (now - x) - 100 * (o + y) = u
      refine Prod.ext ?_ rfl
      dsimp only
      rw [ite_min, ite_min]
      omega
    rw [e]
    exact fold_min R b now l _ _ _

theorem room_nil (R b now : Int) : roomF R b now [] = 100 * b := rfl
theorem room_snoc (R b now t s : Int) (ds : List (Int × Int)) : roomF R b now (ds ++ [(t, s)]) = min (100 * b) (roomF R b t ds + (R * (now - t) - 100 * s)) := by
  unfold roomF
  rw [List.reverse_append, List.reverse_cons, List.reverse_nil, List.nil_append, List.cons_append, List.nil_append, List.foldl_cons]
  have e : goR R b now (100 * b, 0) (t, s) = (min (100 * b) (100 * b + (R * (now - t) - 100 * s)), 0 + s) := by
    unfold goR
    dsimp only
    rw [ite_min]
    refine Prod.ext ?_ rfl
    dsimp only
    generalize R * (now - t) = u
    omega
  rw [e, fold_min, fold_shift]

/-- the bucket and the list agree -/
structure Inv (R b : Int) (ds : List (Int × Int)) (g T now : Int) : Prop where
  time : T ≤ now ∨ R = 0
  top : g ≤ 100 * b
  room : ∀ n, T ≤ n ∨ R = 0 → roomF R b n ds = min (g + R * (n - T)) (100 * b)

theorem mul_le_of {R x : Int} (hR : 0 ≤ R) (hx : 0 ≤ x ∨ R = 0) : 0 ≤ R * x := by
  rcases hx with h | h
  · exact Int.mul_nonneg hR h
  · rw [h, Int.zero_mul]; exact Int.le_refl 0

theorem Inv.start {R b now : Int} (hR : 0 ≤ R) (h : 0 ≤ now) : Inv R b [] (b * 100) 0 now := by
  refine ⟨.inl h, by omega, fun n hn => ?_⟩
  rw [room_nil]
  have := mul_le_of (x := n - 0) hR (hn.imp (fun h => by omega) id)
  omega
theorem Inv.later {R b g T now n : Int} {ds : List (Int × Int)} (I : Inv R b ds g T now) (h : now ≤ n) : Inv R b ds g T n := ⟨I.time.imp (fun q => by omega) id, I.top, I.room⟩
theorem Inv.zero {R b g T now n : Int} {ds : List (Int × Int)} (I : Inv R b ds g T now) (h : R = 0) : Inv R b ds g T n := ⟨.inr h, I.top, I.room⟩

theorem Inv.fill {R b g T now : Int} {ds : List (Int × Int)} (hR : 0 ≤ R) (I : Inv R b ds g T now) : fillG R b g T now = roomF R b now ds ∧ Inv R b ds (fillG R b g T now) (fillT T now) now := by
  have h0 := I.room now I.time
  have ht := I.top
  unfold fillG fillT
  by_cases h : now ≤ T
  · rw [if_pos h, if_pos h]
    refine ⟨?_, I⟩
    have e : R * (now - T) = 0 := by
      rcases I.time with q | q
      · rw [show now - T = 0 by omega, Int.mul_zero]
      · rw [q, Int.zero_mul]
    rw [h0, e]
    omega
  · rw [if_neg h, if_neg h]
    refine ⟨by rw [h0, Int.mul_comm b 100], .inl (Int.le_refl _), by omega, fun n hn => ?_⟩
    have hn' : T ≤ n ∨ R = 0 := hn.imp (fun q => by omega) id
    have h1 : R * (n - T) = R * (now - T) + R * (n - now) := by rw [← Int.mul_add]; congr 1; omega
    have h2 := mul_le_of (x := n - now) hR (hn.imp (fun q => by omega) id)
    rw [I.room n hn', h1]
    generalize R * (now - T) = u at *
    generalize R * (n - now) = v at *
    omega

theorem Inv.spend {R b g T now s : Int} {ds : List (Int × Int)} (hR : 0 ≤ R) (hs : 0 ≤ s) (I : Inv R b ds g T now) : Inv R b (ds ++ [(now, s)]) (fillG R b g T now - s * 100) (fillT T now) now := by
  obtain ⟨e, J⟩ := I.fill hR
  have ht := J.top
  have hti := J.time
  rw [e] at ht ⊢
  refine ⟨hti, by omega, fun n hn => ?_⟩
  have e2 : R * (n - fillT T now) = R * (n - now) := by
    rcases I.time with q | q
    · have : fillT T now = now := by unfold fillT; split <;> omega
      rw [this]
    · rw [q, Int.zero_mul, Int.zero_mul]
  rw [room_snoc, e2]
  generalize R * (n - now) = v
  generalize roomF R b now ds = r at *
  omega

theorem Inv.ahead {R b g T now n : Int} {ds : List (Int × Int)} (hR : 0 ≤ R) (I : Inv R b ds g T now) (h : now ≤ n) : roomF R b n ds = min (roomF R b now ds + R * (n - now)) (100 * b) := by
  rw [I.room n (I.later h).time, I.room now I.time]
  have h1 : R * (n - T) = R * (now - T) + R * (n - now) := by rw [← Int.mul_add]; congr 1; omega
  have h2 := mul_le_of (x := n - now) hR (.inl (by omega))
  rw [h1]
  generalize R * (now - T) = u at *
  generalize R * (n - now) = v at *
  omega
theorem Inv.still {R b g T now n : Int} {ds : List (Int × Int)} (I : Inv R b ds g T now) (h : R = 0) : roomF R b n ds = roomF R b now ds := by
  rw [I.room n (.inr h), I.room now (.inr h), h, Int.zero_mul, Int.zero_mul]

/-- the first time at which it may go -/
def dueI (R b size now : Int) (ds : List (Int × Int)) : Int :=
  now + (100 * asked size b - roomF R b now ds).fdiv R + (if decide (0 < (100 * asked size b - roomF R b now ds).fmod R) = true then 1 else 0)

theorem ceil_eq {k R : Int} (hR : 0 < R) : (k + R - 1).fdiv R = k.fdiv R + (if decide (0 < k.fmod R) = true then 1 else 0) := by
  rw [Int.fdiv_eq_ediv_of_nonneg _ (Int.le_of_lt hR), Int.fdiv_eq_ediv_of_nonneg _ (Int.le_of_lt hR), Int.fmod_eq_emod_of_nonneg _ (Int.le_of_lt hR)]
  have h1 := Int.mul_ediv_add_emod k R
  have h2 := Int.emod_nonneg k (Int.ne_of_gt hR)
  have h3 := Int.emod_lt_of_pos k hR
  generalize k / R = q at *
  generalize k % R = r at *
  simp only [decide_eq_true_eq]
  split
  · have e : k + R - 1 = (r - 1) + R * (q + 1) := by rw [Int.mul_add, Int.mul_one]; omega
    rw [e, Int.add_mul_ediv_left _ _ (Int.ne_of_gt hR), Int.ediv_eq_zero_of_lt (by omega) (by omega)]
    omega
  · have e : k + R - 1 = (R - 1) + R * q := by omega
    rw [e, Int.add_mul_ediv_left _ _ (Int.ne_of_gt hR), Int.ediv_eq_zero_of_lt (by omega) (by omega)]
    omega

theorem asked_le (size b : Int) : asked size b ≤ b := by unfold asked; split <;> omega

theorem Inv.due {R b g T now size : Int} {ds : List (Int × Int)} (hR : 0 ≤ R) (h0 : R ≠ 0) (I : Inv R b ds g T now) (hl : ¬ 100 * asked size b - roomF R b now ds ≤ 0) :
    now < dueI R b size now ds ∧ roomF R b (dueI R b size now ds - 1) ds < 100 * asked size b ∧ 100 * asked size b ≤ roomF R b (dueI R b size now ds) ds := by
  have hR' : 0 < R := by omega
  have ha := asked_le size b
  have hd : ∃ q r, 100 * asked size b - roomF R b now ds = R * q + r ∧ 0 ≤ r ∧ r < R ∧ dueI R b size now ds = now + q + (if 0 < r then 1 else 0) := by
    refine ⟨(100 * asked size b - roomF R b now ds).fdiv R, (100 * asked size b - roomF R b now ds).fmod R, ?_, Int.fmod_nonneg_of_pos _ hR', Int.fmod_lt_of_pos _ hR', ?_⟩
    · rw [Int.add_comm]; exact (Int.fmod_add_mul_fdiv _ _).symm
    · unfold dueI
      simp only [decide_eq_true_eq]
  obtain ⟨q, r, e, hr0, hr1, hq⟩ := hd
  have hpos : 0 < q + (if 0 < r then 1 else 0) := by
    split
    · have : -1 < q := by
        refine Int.lt_of_mul_lt_mul_left (a := R) ?_ hR
        have : R * -1 = -R := by omega
        omega
      omega
    · have : 0 < q := by
        refine Int.lt_of_mul_lt_mul_left (a := R) ?_ hR
        rw [Int.mul_zero]
        omega
      omega
  have hlt : now < dueI R b size now ds := by omega
  refine ⟨hlt, ?_, ?_⟩
  · rw [I.ahead hR (by omega : now ≤ dueI R b size now ds - 1)]
    have e3 : R * (dueI R b size now ds - 1 - now) < R * q + r := by
      rw [hq]
      split
      · rw [show now + q + 1 - 1 - now = q by omega]; omega
      · rw [show now + q + 0 - 1 - now = q - 1 by omega, Int.mul_sub, Int.mul_one]; omega
    generalize R * (dueI R b size now ds - 1 - now) = v at *
    generalize R * q = u at *
    omega
  · rw [I.ahead hR (by omega : now ≤ dueI R b size now ds)]
    have e3 : R * q + r ≤ R * (dueI R b size now ds - now) := by
      rw [hq]
      split
      · rw [show now + q + 1 - now = q + 1 by omega, Int.mul_add, Int.mul_one]; omega
      · rw [show now + q + 0 - now = q by omega]; omega
    generalize R * (dueI R b size now ds - now) = v at *
    generalize R * q = u at *
    omega
end

section
-- part PM

theorem Claim.mono {w : World} {f : Addr} {vs : List Value} {own : List (Addr × Obj)} {d u : Nat} {P P' : Value → List (Addr × Obj) → Prop} (C : Claim w f vs own d u P) (h : ∀ v nw, P v nw → P' v nw) : Claim w f vs own d u P' := by
  intro rest mean mg mb dp un gd cn cs a ccd cl outer A₀ base h₀ L m s Q E hoff B F X N T hk hd hu hret
  exact C rest mean mg mb dp un gd cn cs a ccd cl outer A₀ base h₀ L m s Q E hoff B F X N T hk hd hu fun v own' h' tk' p => hret v own' h' tk' (h v own' p)

def Due2 (ds : List (Int × Int)) (rate burst size now : Int) (v : Value) : Prop :=
  (100 * asked size burst ≤ roomF rate burst now ds ∧ ∃ t, v = .int now t) ∨ (roomF rate burst now ds < 100 * asked size burst ∧ rate = 0 ∧ v = .none) ∨
    (roomF rate burst now ds < 100 * asked size burst ∧ rate ≠ 0 ∧ ∃ t, v = .int (dueI rate burst size now ds) t)

theorem due2_claim (w : World) {ls : Addr} {vs : List Value} {nn : Nat} {tups : List (Addr × Obj)} {ds : List (Int × Int)} {rate burst size now : Int} {tr tb ts tn : Tok} (hdat : DatAll tups vs (ds.map pairD)) (hlen : ds.length ≤ 64) (h1 : 0 ≤ rate) (h2 : rate ≤ 999) :
    Claim w 208 [.ref ls, .int rate tr, .int burst tb, .int size ts, .int now tn] ((ls, listOf vs.toArray nn) :: tups) 6 64 (fun v nw => nw = (ls, listOf vs.toArray nn) :: tups ∧ Due2 ds rate burst size now v) := by
  refine (due_claim w hdat hlen h1 h2).mono fun v nw p => ⟨p.1, ?_⟩
  rcases p.2 with ⟨a, b⟩ | ⟨a, b, c⟩ | ⟨a, b, c⟩
  · exact .inl ⟨by omega, b⟩
  · exact .inr (.inl ⟨by omega, b, c⟩)
  · exact .inr (.inr ⟨by omega, b, c⟩)

/-- the same, with what is asked of it later -/
def Due3 (ds : List (Int × Int)) (rate burst size now : Int) (v : Value) : Prop :=
  (100 * asked size burst ≤ roomF rate burst now ds ∧ ∃ t, v = .int now t) ∨ (roomF rate burst now ds < 100 * asked size burst ∧ rate = 0 ∧ roomF rate burst (now + 9) ds = roomF rate burst now ds ∧ v = .none) ∨
    (roomF rate burst now ds < 100 * asked size burst ∧ rate ≠ 0 ∧ now < dueI rate burst size now ds ∧ roomF rate burst (dueI rate burst size now ds - 1) ds < 100 * asked size burst ∧ 100 * asked size burst ≤ roomF rate burst (dueI rate burst size now ds) ds ∧ ∃ t, v = .int (dueI rate burst size now ds) t)

theorem due3_claim (w : World) {ls : Addr} {vs : List Value} {nn : Nat} {tups : List (Addr × Obj)} {ds : List (Int × Int)} {rate burst size now g T : Int} {tr tb ts tn : Tok} (hdat : DatAll tups vs (ds.map pairD)) (hlen : ds.length ≤ 64) (h1 : 0 ≤ rate) (h2 : rate ≤ 999) (I : Inv rate burst ds g T now) :
    Claim w 208 [.ref ls, .int rate tr, .int burst tb, .int size ts, .int now tn] ((ls, listOf vs.toArray nn) :: tups) 6 64 (fun v nw => nw = (ls, listOf vs.toArray nn) :: tups ∧ Due3 ds rate burst size now v) := by
  refine (due2_claim w hdat hlen h1 h2).mono fun v nw p => ⟨p.1, ?_⟩
  rcases p.2 with ⟨a, b⟩ | ⟨a, b, c⟩ | ⟨a, b, c⟩
  · exact .inl ⟨a, b⟩
  · exact .inr (.inl ⟨a, b, I.still b, c⟩)
  · obtain ⟨d1, d2, d3⟩ := I.due h1 b (by omega : ¬ 100 * asked size burst - roomF rate burst now ds ≤ 0)
    exact .inr (.inr ⟨a, b, d1, d2, d3, c⟩)

def Sent2 (x dx y dy : Addr) (h0 : Int) (k0 : Tok) (K : Keys) (rate burst : Int) (ds : List (Int × Int)) (size now : Int) (v : Value) (nw : List (Addr × Obj)) : Prop :=
  (100 * asked size burst ≤ roomF rate burst now ds ∧ v = .bool true ∧ ∃ (g' T' : Int) (tg tT : Tok), nw = four x dx y dy h0 k0 (bDict K rate burst g' T' tg tT) ∧ Inv rate burst (ds ++ [(now, size)]) g' T' now) ∨
  (roomF rate burst now ds < 100 * asked size burst ∧ v = .bool false ∧ ∃ (g' T' : Int) (tg tT : Tok), nw = four x dx y dy h0 k0 (bDict K rate burst g' T' tg tT) ∧ Inv rate burst ds g' T' now)

theorem sent2_claim (w : World) {x dx y dy : Addr} {h0 : Int} {k0 : Tok} {K : Keys} {rate burst g T size now : Int} {ds : List (Int × Int)} {tg tT ts tn : Tok} (l1 : @LT.lt Nat _ dy y) (l2 : @LT.lt Nat _ dx x) (l3 : @LT.lt Nat _ x dy) (h1 : 0 ≤ rate) (h2 : rate ≤ 999) (h3 : 0 ≤ size) (I : Inv rate burst ds g T now) :
    Claim w 166 [.ref x, .int size ts, .int now tn] (four x dx y dy h0 k0 (bDict K rate burst g T tg tT)) 8 80 (Sent2 x dx y dy h0 k0 K rate burst ds size now) := by
  have e := (I.fill h1).1
  refine (sent_claim w l1 l2 l3 h1 h2).mono fun v nw p => ?_
  rcases p with ⟨a, b, tg, tT, c⟩ | ⟨a, b, tg, tT, c⟩
  · exact .inl ⟨by rw [← e]; omega, b, _, _, _, _, c, I.spend h1 h3⟩
  · exact .inr ⟨by rw [← e]; omega, b, _, _, _, _, c, (I.fill h1).2⟩

def When2 (x dx y dy : Addr) (h0 : Int) (k0 : Tok) (K : Keys) (rate burst : Int) (ds : List (Int × Int)) (size now : Int) (v : Value) (nw : List (Addr × Obj)) : Prop :=
  (∃ (g' T' : Int) (tg tT : Tok), nw = four x dx y dy h0 k0 (bDict K rate burst g' T' tg tT) ∧ Inv rate burst ds g' T' now) ∧ Due2 ds rate burst size now v

theorem when2_claim (w : World) {x dx y dy : Addr} {h0 : Int} {k0 : Tok} {K : Keys} {rate burst g T size now : Int} {ds : List (Int × Int)} {tg tT ts tn : Tok} (l1 : @LT.lt Nat _ dy y) (l2 : @LT.lt Nat _ dx x) (l3 : @LT.lt Nat _ x dy) (h1 : 0 ≤ rate) (h2 : rate ≤ 999) (I : Inv rate burst ds g T now) :
    Claim w 159 [.ref x, .int size ts, .int now tn] (four x dx y dy h0 k0 (bDict K rate burst g T tg tT)) 8 80 (When2 x dx y dy h0 k0 K rate burst ds size now) := by
  have e := (I.fill h1).1
  refine (when_claim w l1 l2 l3 h1 h2).mono fun v nw p => ?_
  obtain ⟨⟨tg, tT, c⟩, p⟩ := p
  refine ⟨⟨_, _, _, _, c, (I.fill h1).2⟩, ?_⟩
  rw [e] at p
  rcases p with ⟨a, b⟩ | ⟨a, b, c⟩ | ⟨a, b, t, c⟩
  · exact .inl ⟨by omega, b⟩
  · exact .inr (.inl ⟨by omega, b, c⟩)
  · refine .inr (.inr ⟨by omega, b, t, ?_⟩)
    rw [c]
    unfold dueI
    rw [ceil_eq (by omega), Int.mul_comm (asked size burst) 100, Int.add_assoc]
end

section
-- part CV

/-- a contract whose end may say what is new -/
def ClaimR (w : World) (f : Addr) (vs : List Value) (own : List (Addr × Obj)) (d u : Nat) (Post : List (Addr × Obj) → Value → List (Addr × Obj) → Prop) : Prop :=
  ∀ (rest : List (Addr × Obj)) (mean : ExcName → Option Value) (mg mb : Str → Option Value) (dp un : Nat) (gd : Option (List Code)) (cn : Str) (cs : Scope) (a : Addr) (ccd : Value) (cl : List (Str × Addr)) (outer : List Env) (A₀ : Around) (base h₀ : Heap) (L : Addr) (m : Str → Option Value) (s : Shared) (Q E : Value → Shared → Prop),
    OwnOff rest (own.map (·.1)) → Below A₀ base outer h₀ → Fr h₀ L s.heap m → (hd.heap_39 w.params).In h₀ → News h₀ L s.heap (own ++ rest) →
    Top hd.view_39 (looseW hd.view_39 [Str.ofString "SettingError"]) mean mg mb h₀ → cs.kind = .function → dp + d < recursionLimit → un + u < cLine →
    (∀ v own' h' tk', Post rest v own' → Fr h₀ L h' m → News h₀ L h' (own' ++ rest) → Q v { s with heap := h', toks := tk' }) →
    wpAny (model PySem.Challenge.rw_pq1157_01.row.prog w) (ktrTop dp un gd cn cs L a ccd cl outer) (PySem.call (.ref f) vs) Q E s

def TurnPost (l dy ls x dx y : Addr) (n : Nat) (h0 : Int) (k0 : Tok) (K : Keys) (rate burst now : Int) (ds : List (Int × Int)) (tups rest : List (Addr × Obj)) (v : Value) (nw : List (Addr × Obj)) : Prop :=
  ∃ (now' : Int) (tn' : Tok) (a : Int) (ta : Tok) (b : Int) (tb : Tok) (g' T' : Int) (tg tT : Tok) (vs' : List Value) (nn' : Nat) (ds' : List (Int × Int)) (new : List (Addr × Obj)), v = .int now' tn' ∧
    nw = (l, listOf #[.int a ta, .int b tb] n) :: (dy, bDict K rate burst g' T' tg tT) :: (ls, listOf vs'.toArray nn') :: (x, instObj 169 dx) :: (dx, dictOf [⟨h0, .str (Str.ofString "bucket") k0, .ref y⟩] 1) :: (y, instObj 127 dy) :: (new ++ tups) ∧
    OwnOff new [l, dy, ls, x, dx, y] ∧ OwnOff new ((tups ++ rest).map (·.1)) ∧ DatAll ((x, instObj 169 dx) :: (dx, dictOf [⟨h0, .str (Str.ofString "bucket") k0, .ref y⟩] 1) :: (y, instObj 127 dy) :: (new ++ tups)) vs' (ds'.map pairD) ∧
    ds'.length ≤ ds.length + 1 ∧ Inv rate burst ds' g' T' now' ∧ 0 ≤ b ∧ b < 2147483647 ∧ now ≤ now'

theorem off_app {l dy ls x dx y : Addr} {tups rest : List (Addr × Obj)} {more : List Addr} (h1 : OwnOff tups [l, dy, ls, x, dx, y]) (h2 : OwnOff rest (l :: dy :: ls :: x :: dx :: y :: more)) : OwnOff (tups ++ rest) [l, dy, ls, x, dx, y] := by
  intro p hp b hb
  rcases List.mem_append.mp hp with h | h
  · exact h1 p h b hb
  · exact h2 p h b (List.mem_append_left more hb)

theorem dead_le {a b : Int} {P : Prop} (h1 : a ≤ b) (h2 : b < a) : P := absurd h2 (Int.not_lt.mpr h1)
theorem dead1 {now : Int} {P : Prop} (h : (true != (now == now)) = true) : P := by simp at h
theorem dead2 {now d : Int} {P : Prop} (h : (false != (d == now)) = true) (h2 : now < d) : P := by
  have e : (d == now) = false := by simp; omega
  rw [e] at h
  exact absurd h (by decide)
theorem dead3 {α : Type} {a : α} {P : Prop} (h : a ≠ a) : P := absurd rfl h
theorem allLt_mem {d : Nat} (l : List (Addr × Obj)) (h : AllLt d l) : ∀ p ∈ l, @LT.lt Nat _ p.1 d := by
  induction l with
  | nil => intro p hp; exact absurd hp List.not_mem_nil
  | cons q r ih =>
    intro p hp
    rcases List.mem_cons.mp hp with e | hp
    · rw [e]; exact h.1
    · exact ih h.2 p hp

section
variable {l dy ls x dx y : Addr} {n nn : Nat} {h0 : Int} {k0 : Tok} {K : Keys} {rate burst now a b g' T' : Int} {ta tb tg tT tn : Tok} {ds : List (Int × Int)} {vs : List Value} {tups rest news : List (Addr × Obj)} {h₀ h' : Heap} {L : Addr} {m : Str → Option Value} {s : Shared} {Q : Value → Shared → Prop} {tk' : Tok}
theorem end_same (hret : ∀ v own' h' tk', TurnPost l dy ls x dx y n h0 k0 K rate burst now ds tups rest v own' → Fr h₀ L h' m → News h₀ L h' (own' ++ rest) → Q v { s with heap := h', toks := tk' })
    (hdat : DatAll ((x, instObj 169 dx) :: (dx, dictOf [⟨h0, .str (Str.ofString "bucket") k0, .ref y⟩] 1) :: (y, instObj 127 dy) :: tups) vs (ds.map pairD))
    (I : Inv rate burst ds g' T' now) (F : Fr h₀ L h' m) (N : News h₀ L h' news)
    (m1 : (l, listOf #[.int a ta, .int b tb] n) ∈ news) (m2 : (dy, bDict K rate burst g' T' tg tT) ∈ news) (m3 : (ls, listOf vs.toArray nn) ∈ news) (m4 : (x, instObj 169 dx) ∈ news) (m5 : (dx, dictOf [⟨h0, .str (Str.ofString "bucket") k0, .ref y⟩] 1) ∈ news) (m6 : (y, instObj 127 dy) ∈ news) (mr : ∀ p ∈ tups ++ rest, p ∈ news)
    (b1 : 0 ≤ b) (b2 : b < 2147483647) : Q (.int now tn) { s with heap := h', toks := tk' } := by
  refine hret _ ((l, listOf #[.int a ta, .int b tb] n) :: (dy, bDict K rate burst g' T' tg tT) :: (ls, listOf vs.toArray nn) :: (x, instObj 169 dx) :: (dx, dictOf [⟨h0, .str (Str.ofString "bucket") k0, .ref y⟩] 1) :: (y, instObj 127 dy) :: ([] ++ tups)) h' tk' ?P F ?N
  case P =>
    refine ⟨now, tn, a, ta, b, tb, g', T', tg, tT, vs, nn, ds, [], rfl, rfl, ?off1, ?off2, ?dat, ?len, I, b1, b2, Int.le_refl _⟩
    case off1 => exact fun _ hp => absurd hp List.not_mem_nil
    case off2 => exact fun _ hp => absurd hp List.not_mem_nil
    case dat => exact hdat
    case len => exact Nat.le_succ _
  refine kst_newsOf N ?_
  simp only [List.nil_append, List.cons_append]
  exact List.forall_mem_cons.mpr ⟨m1, List.forall_mem_cons.mpr ⟨m2, List.forall_mem_cons.mpr ⟨m3, List.forall_mem_cons.mpr ⟨m4, List.forall_mem_cons.mpr ⟨m5, List.forall_mem_cons.mpr ⟨m6, mr⟩⟩⟩⟩⟩⟩
theorem end_new {D : Addr} {now' size : Int} {tn' ts' : Tok} (hret : ∀ v own' h' tk', TurnPost l dy ls x dx y n h0 k0 K rate burst now ds tups rest v own' → Fr h₀ L h' m → News h₀ L h' (own' ++ rest) → Q v { s with heap := h', toks := tk' })
    (hdat : DatAll ((x, instObj 169 dx) :: (dx, dictOf [⟨h0, .str (Str.ofString "bucket") k0, .ref y⟩] 1) :: (y, instObj 127 dy) :: tups) vs (ds.map pairD))
    (I : Inv rate burst (ds ++ [(now', size)]) g' T' now') (F : Fr h₀ L h' m) (N : News h₀ L h' news)
    (m1 : (l, listOf #[.int a ta, .int b tb] n) ∈ news) (m2 : (dy, bDict K rate burst g' T' tg tT) ∈ news) (m3 : (ls, listOf (vs ++ [Value.ref D]).toArray nn) ∈ news) (m4 : (x, instObj 169 dx) ∈ news) (m5 : (dx, dictOf [⟨h0, .str (Str.ofString "bucket") k0, .ref y⟩] 1) ∈ news) (m6 : (y, instObj 127 dy) ∈ news) (m7 : (D, pairO now' size tn' ts' 0) ∈ news) (mr : ∀ p ∈ tups ++ rest, p ∈ news)
    (b1 : 0 ≤ b) (b2 : b < 2147483647) (hnow : now ≤ now') (hD : AllLt D (tups ++ rest)) (o1 : @LT.lt Nat _ l D) (o2 : @LT.lt Nat _ dy D) (o3 : @LT.lt Nat _ ls D) (o4 : @LT.lt Nat _ x D) (o5 : @LT.lt Nat _ dx D) (o6 : @LT.lt Nat _ y D) : Q (.int now' tn) { s with heap := h', toks := tk' } := by
  refine hret _ ((l, listOf #[.int a ta, .int b tb] n) :: (dy, bDict K rate burst g' T' tg tT) :: (ls, listOf (vs ++ [Value.ref D]).toArray nn) :: (x, instObj 169 dx) :: (dx, dictOf [⟨h0, .str (Str.ofString "bucket") k0, .ref y⟩] 1) :: (y, instObj 127 dy) :: ([(D, pairO now' size tn' ts' 0)] ++ tups)) h' tk' ⟨now', tn, a, ta, b, tb, g', T', tg, tT, vs ++ [Value.ref D], nn, ds ++ [(now', size)], [(D, pairO now' size tn' ts' 0)], rfl, rfl, ?off1, ?off2, ?dat, ?len, I, b1, b2, hnow⟩ F ?_
  case off1 =>
    intro p hp c hc
    rw [List.mem_singleton] at hp
    subst hp
    simp only [List.mem_cons, List.not_mem_nil, or_false] at hc
    rcases hc with rfl | rfl | rfl | rfl | rfl | rfl <;> exact Nat.ne_of_gt (by assumption)
  case off2 =>
    intro p hp c hc
    rw [List.mem_singleton] at hp
    subst hp
    obtain ⟨q, hq, rfl⟩ := List.mem_map.mp hc
    exact Nat.ne_of_gt (allLt_mem _ hD q hq)
  case dat =>
    rw [List.map_append]
    refine DatAll.append (hdat.mono ?_) (.cons (DatIn.tuple (vs := [Value.int now' tn', Value.int size ts']) (n := 0) ?_ (.cons (.int _ _) (.cons (.int _ _) .nil))) .nil)
    · exact List.forall_mem_cons.mpr ⟨.head _, List.forall_mem_cons.mpr ⟨.tail _ (.head _), List.forall_mem_cons.mpr ⟨.tail _ (.tail _ (.head _)), fun p hp => .tail _ (.tail _ (.tail _ (.tail _ hp)))⟩⟩⟩
    · exact .tail _ (.tail _ (.tail _ (.head _)))
  case len =>
    rw [List.length_append]
    exact Nat.le_refl _
  refine kst_newsOf N ?_
  simp only [List.nil_append, List.cons_append]
  exact List.forall_mem_cons.mpr ⟨m1, List.forall_mem_cons.mpr ⟨m2, List.forall_mem_cons.mpr ⟨m3, List.forall_mem_cons.mpr ⟨m4, List.forall_mem_cons.mpr ⟨m5, List.forall_mem_cons.mpr ⟨m6, List.forall_mem_cons.mpr ⟨m7, mr⟩⟩⟩⟩⟩⟩⟩
end

end

section
-- part CU


theorem sub_cons {a : Addr × Obj} {T R : List (Addr × Obj)} (h : ∀ p ∈ T, p ∈ R) : ∀ p ∈ T, p ∈ a :: R := fun p hp => List.mem_cons_of_mem _ (h p hp)
theorem sub_app {T R : List (Addr × Obj)} : ∀ p ∈ T, p ∈ T ++ R := fun _ hp => List.mem_append_left _ hp
local macro_rules | `(tactic| walk_at "MINE sub") => `(tactic| first | exact sub_app | exact fun _ h => h | (refine List.forall_mem_cons.mpr ⟨by k_mem, ?_⟩; walk_at "MINE sub") | ((fail_if_success (refine List.forall_mem_cons.mpr ⟨?_, ?_⟩)); refine sub_cons ?_; walk_at "MINE sub"))
theorem Inv.still9 {R b g T now : Int} {ds : List (Int × Int)} (I : Inv R b ds g T now) (h : R = 0) : roomF R b (now + 9) ds = roomF R b now ds := I.still h
-- when it may go, by the law
local macro_rules | `(tactic| walk_at "call ref") => `(tactic| (plain_pass; k_here; (with_reducible show wpAny _ _ (PySem.call (Value.ref 208) [Value.ref _, Value.int _ _, Value.int _ _, Value.int _ _, Value.int _ _]) _ _ _); k_dflt (refine' claim_use (due3_claim _ ?hdat ?h1 ?h2 ?h3 ?h8) ?k1 ?k2 ?k3 ?k4 ?k5 ?kK ?ks ?kd ?ku ?_; walk_at "MINE ctx0"; (case ks => exact List.forall_mem_cons.mpr ⟨by k_mem, fun _ h => h⟩); (case hdat => (refine DatAll.mono ?hsub (by assumption); (case hsub => walk_at "MINE sub"))); walk_at "MINE om"; (case h8 => assumption)); intro v9 own9 h9 tk9 P9 F9 N9; (obtain ⟨e9, P8⟩ := P9); subst e9; (have N8 := N9 _ Turned.same); clear N9; (rcases P8 with ⟨q1, t8, e8⟩ | ⟨q1, q2, q3, e8⟩ | ⟨q1, q2, q3, q4, q5, t8, e8⟩) <;> subst e8 <;> walk_at "MINE end"))
-- the shaper is asked
local macro_rules | `(tactic| walk_at "MINE inv") => `(tactic| first | assumption | exact Inv.later (by assumption) (by omega) | exact Inv.zero (by assumption) (by assumption))
local macro_rules | `(tactic| walk_at "call ref") => `(tactic| (plain_pass; k_here; (with_reducible show wpAny _ _ (PySem.call (Value.ref 166) [Value.ref _, Value.int _ _, Value.int _ _]) _ _ _); k_dflt (refine' claim_use (sent2_claim _ (K := ⟨_, _, _, _, _, _, _, _, _, _⟩) ?h1 ?h2 ?h3 ?h5 ?h6 ?h7 ?h8) ?k1 ?k2 ?k3 ?k4 ?k5 ?kK ?ks ?kd ?ku ?_; walk_at "MINE ctx"; walk_at "MINE om"; (case h8 => walk_at "MINE inv")); intro v9 own9 h9 tk9 P9 F9 N9; (rcases P9 with ⟨q1, e8, g8, T8, tg8, tT8, e9, I8⟩ | ⟨q1, e8, g8, T8, tg8, tT8, e9, I8⟩) <;> (try (first | (exact dead_le q1 (by with_reducible assumption)) | (exact dead_le (by with_reducible assumption) q1) | (exact absurd (by with_reducible assumption) q2) | (exact absurd q2 (by with_reducible assumption)) | (exfalso; omega; done))) <;> subst e8 <;> subst e9 <;> (have N8 := N9 _ (Turned.four (by k_upd))) <;> clear N9 <;> walk_at "MINE end"))
local macro_rules | `(tactic| walk_at "call ref") => `(tactic| (plain_pass; k_here; (with_reducible show wpAny _ _ (PySem.call (Value.ref 159) [Value.ref _, Value.int _ _, Value.int _ _]) _ _ _); k_dflt (refine' claim_use (when2_claim _ (K := ⟨_, _, _, _, _, _, _, _, _, _⟩) ?h1 ?h2 ?h3 ?h5 ?h6 ?h8) ?k1 ?k2 ?k3 ?k4 ?k5 ?kK ?ks ?kd ?ku ?_; walk_at "MINE ctx"; walk_at "MINE om"; (case h8 => walk_at "MINE inv")); intro v9 own9 h9 tk9 P9 F9 N9; (obtain ⟨⟨g8, T8, tg8, tT8, e9, I8⟩, P8⟩ := P9); subst e9; (have N8 := N9 _ (Turned.four (by k_upd))); clear N9; (rcases P8 with ⟨q1, t8, e8⟩ | ⟨q1, q2, e8⟩ | ⟨q1, q2, t8, e8⟩) <;> (try (first | (exact dead_le q1 (by with_reducible assumption)) | (exact dead_le (by with_reducible assumption) q1) | (exact absurd (by with_reducible assumption) q2) | (exact absurd q2 (by with_reducible assumption)) | (exfalso; omega; done))) <;> subst e8 <;> walk_at "MINE end"))

section
variable {prog : Program} {w : World} {A : Around} {E : Value → Shared → Prop} {s : Shared} {h₀ : Heap} {L D b l : Addr} {m : Str → Option Value} {news news' : List (Addr × Obj)} {n n2 : Nat} {vs : List Value} {v : Value} {x : Int} {u : Tok} {Q : Value → Shared → Prop}
theorem int_same (k : Int) : (if (k == k) = true then (1 : Int) else 0) = 1 := by simp
theorem int_off {d k : Int} (h : d ≠ k) : (if (d == k) = true then (1 : Int) else 0) = 0 := by simp [h]
theorem mul_one (Fm : Fr h₀ L s.heap m) (N : News h₀ L s.heap news) (hm : (l, listOf [v].toArray n) ∈ news) (hx : x = 1)
    (h : ∀ D h', Fr h₀ L h' m → News h₀ L h' ((D, listOf [v].toArray 0) :: news) → (∀ p ∈ news, p.1 < D) → Q (.ref D) { s with heap := h' }) : wpAny (model prog w) A (binaryOp .Mult (.ref l) (.int x u)) Q E s := by
  subst hx
  exact KMa.mul (vs := [v]) Fm N (N.isList hm) (by decide) (by decide) (by simp) rfl h
theorem mul_zero (Fm : Fr h₀ L s.heap m) (N : News h₀ L s.heap news) (hm : (l, listOf [v].toArray n) ∈ news) (hx : x = 0)
    (h : ∀ D h', Fr h₀ L h' m → News h₀ L h' ((D, listOf [].toArray 0) :: news) → (∀ p ∈ news, p.1 < D) → Q (.ref D) { s with heap := h' }) : wpAny (model prog w) A (binaryOp .Mult (.ref l) (.int x u)) Q E s := by
  subst hx
  exact KMa.mul (vs := [v]) Fm N (N.isList hm) (by decide) (by decide) (by simp) rfl h
theorem room_of {k : Nat} (h : vs.length ≤ 62) (hk : k ≤ 1) : ¬(!vs.toArray.isEmpty && Builtin.List.listTooLong (vs.toArray.size + k)) = true := by
  have e : Builtin.List.listTooLong (vs.toArray.size + k) = false := by
    unfold Builtin.List.listTooLong
    rw [List.size_toArray, sizeLine_eq]
    simp only [gt_iff_lt, decide_eq_false_iff_not]
    omega
  rw [e]
  simp
theorem ext_one (F : Fr h₀ L s.heap m) (N : News h₀ L s.heap news) (hb : (b, listOf [v].toArray n2) ∈ news) (U : Upd D (listOf vs.toArray n) (listOf (vs ++ [v]).toArray (n + 1)) news news') (hv : vs.length ≤ 62)
    (h : ∀ h', Fr h₀ L h' m → News h₀ L h' news' → Q .none { s with heap := h' }) : wpAny (model prog w) A (call (.builtin "list.extend") [.ref D, .ref b]) Q E s :=
  kl_extend F N hb (its := vs.toArray) (l := vs ++ [v]) (by simp) (by simp) U (room_of hv (Nat.le_refl 1)) (by rw [sizeLine_eq]; simp; omega) (by rw [sizeLine_eq]; simp; omega) h
theorem ext_nil (F : Fr h₀ L s.heap m) (N : News h₀ L s.heap news) (hb : (b, listOf [].toArray n2) ∈ news) (U : Upd D (listOf vs.toArray n) (listOf vs.toArray n) news news') (hv : vs.length ≤ 62)
    (h : ∀ h', Fr h₀ L h' m → News h₀ L h' news' → Q .none { s with heap := h' }) : wpAny (model prog w) A (call (.builtin "list.extend") [.ref D, .ref b]) Q E s :=
  kxn_extend F N hb (by simp) U (room_of hv (Nat.zero_le 1)) (by rw [sizeLine_eq]; simp; omega) (by rw [sizeLine_eq]; simp; omega) h
theorem app_one (F : Fr h₀ L s.heap m) (N : News h₀ L s.heap news) (U : Upd D (listOf vs.toArray n) (listOf (vs ++ [v]).toArray (n + 1)) news news') (hv : vs.length ≤ 62)
    (h : ∀ h', Fr h₀ L h' m → News h₀ L h' news' → Q .none { s with heap := h' }) : wpAny (model prog w) A (call (.builtin "list.append") [.ref D, v]) Q E s :=
  append_K F N (its := vs.toArray) (by rw [List.push_toArray]; exact U) h (by rw [sizeLine_eq]; simp; omega)
end
local macro_rules | `(tactic| walk_at "binaryOp Mult ref int") => `(tactic| (plain_pass; k_here; (with_reducible show wpAny _ _ (binaryOp Operator.Mult (Value.ref _) (Value.int _ _)) _ _ _); k_dflt (first
  | (refine' mul_one ?F ?N ?l ?x ?_; (case F => k_asm); (case N => k_asm); (case l => k_mem); (case x => exact int_same _))
  | (refine' mul_zero ?F ?N ?l ?x ?_; (case F => k_asm); (case N => k_asm); (case l => k_mem); (case x => first | exact if_neg Bool.false_ne_true | exact int_off (by omega)))); intro D' h' F' N' l1; (try k_lt l1); (try k_sweep)))
local macro_rules | `(tactic| walk_at "call builtin:list.append") => `(tactic| (plain_pass; k_here; k_dflt (refine' app_one ?F ?N ?U ?z ?_; (case F => k_asm); (case N => k_asm); (case U => k_upd); (case z => assumption)); intro h' F' N'; (try k_sweep)))
local macro_rules | `(tactic| walk_at "call builtin:list.extend") => `(tactic| (plain_pass; k_here; k_dflt (first
  | (refine' ext_one ?F ?N ?b ?U ?z ?_; (case F => k_asm); (case N => k_asm); (case b => k_mem); (case U => k_upd); (case z => assumption))
  | (refine' ext_nil ?F ?N ?b ?U ?z ?_; (case F => k_asm); (case N => k_asm); (case b => k_mem); (case U => k_upd); (case z => assumption))); intro h' F' N'; (try k_sweep)))

set_option maxRecDepth 100000 in
set_option maxHeartbeats 8000000 in
theorem turn_claim (w : World) {l dy ls x dx y : Addr} {n nn : Nat} {h0 : Int} {k0 : Tok} {K : Keys} {rate burst now a b g T : Int} {ta tb tg tT tr tu tn : Tok} {ds : List (Int × Int)} {vs : List Value} {tups : List (Addr × Obj)}
    (l1 : @LT.lt Nat _ l dx) (l2 : @LT.lt Nat _ dx x) (l3 : @LT.lt Nat _ x dy) (l4 : @LT.lt Nat _ dy y) (l5 : @LT.lt Nat _ y ls)
    (htups : OwnOff tups [l, dy, ls, x, dx, y]) (hdat : DatAll ((x, instObj 169 dx) :: (dx, dictOf [⟨h0, .str (Str.ofString "bucket") k0, .ref y⟩] 1) :: (y, instObj 127 dy) :: tups) vs (ds.map pairD)) (hlen : ds.length ≤ 62)
    (r1 : 0 ≤ rate) (r2 : rate ≤ 999) (r3 : 1 ≤ burst) (r4 : burst ≤ 64) (b1 : 0 ≤ b) (b2 : b < 2147483647) (I : Inv rate burst ds g T now) :
    ClaimR w 215 [.ref l, .ref x, .int rate tr, .int burst tu, .ref ls, .int now tn] ((l, listOf #[.int a ta, .int b tb] n) :: (dy, bDict K rate burst g T tg tT) :: (ls, listOf vs.toArray nn) :: (x, instObj 169 dx) :: (dx, dictOf [⟨h0, .str (Str.ofString "bucket") k0, .ref y⟩] 1) :: (y, instObj 127 dy) :: tups) 10 120 (TurnPost l dy ls x dx y n h0 k0 K rate burst now ds tups) := by
  obtain ⟨e1, k1, e2, k2, e3, k3, e4, k4, tr', tb'⟩ := K
  w_on
  unfold ClaimR
  k_fill
  intro rest mean mg mb dp un gd cn cs a9 ccd cl outer A₀ base h₀ L m s Q E hoff B F X N T hk hd hu hret
  simp only [List.cons_append, List.nil_append, List.map_cons, List.map_nil] at N hoff
  have hto : OwnOff (tups ++ rest) [l, dy, ls, x, dx, y] := off_app htups hoff
  have hvl : vs.length ≤ 62 := by rw [hdat.length, List.length_map]; exact hlen
  refine wpAny_call ?_
  k_dflt cell_enter
  k_steps
  all_goals first | exact dead1 (by with_reducible assumption) | exact dead2 (by with_reducible assumption) (by with_reducible assumption) | exact dead3 (by with_reducible assumption) | skip
  all_goals (repeat (with_reducible rename (_ ∧ _) => q9; obtain ⟨_, q8⟩ := q9))
  all_goals first
    | (refine' end_same hret hdat ?I ?F ?N ?m1 ?m2 ?m3 ?m4 ?m5 ?m6 ?mr ?b1 ?b2
       case I => first | exact Inv.zero (by with_reducible assumption) (by with_reducible assumption) | with_reducible assumption
       case F => with_reducible assumption
       case N => with_reducible assumption
       case m1 => k_mem
       case m2 => k_mem
       case m3 => k_mem
       case m4 => k_mem
       case m5 => k_mem
       case m6 => k_mem
       case mr => (intro p9 hp9; repeat first | with_reducible exact hp9 | refine List.mem_cons_of_mem _ ?_)
       case b1 => with_reducible assumption
       case b2 => with_reducible assumption)
    | (refine' end_new hret hdat ?I ?F ?N ?m1 ?m2 ?m3 ?m4 ?m5 ?m6 ?m7 ?mr ?b1 ?b2 ?hn ?hD ?o1 ?o2 ?o3 ?o4 ?o5 ?o6
       case I => with_reducible assumption
       case F => with_reducible assumption
       case N => with_reducible assumption
       case m1 => k_mem
       case m2 => k_mem
       case m3 => k_mem
       case m4 => k_mem
       case m5 => k_mem
       case m6 => k_mem
       case m7 => k_mem
       case mr => (intro p9 hp9; repeat first | with_reducible exact hp9 | refine List.mem_cons_of_mem _ ?_)
       case b1 => with_reducible assumption
       case b2 => with_reducible assumption
       case hn => omega
       case hD => with_reducible assumption
       case o1 => with_reducible assumption
       case o2 => with_reducible assumption
       case o3 => with_reducible assumption
       case o4 => with_reducible assumption
       case o5 => with_reducible assumption
       case o6 => with_reducible assumption)
end

section
-- part CM

local macro_rules | `(tactic| walk_at "call ref") => `(tactic| (k_here; (with_reducible show wpAny _ _ (PySem.call (Value.ref _) [Value.int _ _, Value.int _ _]) _ _ _); k_dflt (refine' call_cls ?k1 ?k2 ?k3 ?k4 ?k5 ?k6 ?_; (case k1 => k_asm); (case k2 => k_asm); (case k3 => k_asm); (case k4 => k_is); (case k5 => k_is); (case k6 => k_is); k_whole; intro x' d' h' F' N' l1 l2; (try k_lt l1); (try k_lt2 l2); (try k_sweep); walk_at "MINE enter")))

def MakePost (rate burst : Int) (rest : List (Addr × Obj)) (v : Value) (nw : List (Addr × Obj)) : Prop :=
  ∃ (x dx y dy : Addr) (h0 : Int) (k0 : Tok) (K : Keys) (tg tT : Tok), v = .ref x ∧ nw = four x dx y dy h0 k0 (bDict K rate burst (burst * 100) 0 tg tT) ∧ (∀ p ∈ rest, p.1 < dx) ∧ @LT.lt Nat _ dx x ∧ @LT.lt Nat _ x dy ∧ @LT.lt Nat _ dy y

theorem make_end {x dx y dy : Addr} {h0 : Int} {k0 : Tok} {K : Keys} {rate burst : Int} {tg tT : Tok} {rest : List (Addr × Obj)} (hl : ∀ p ∈ rest, p.1 < dx) (a : @LT.lt Nat _ dx x) (b : @LT.lt Nat _ x dy) (c : @LT.lt Nat _ dy y) :
    MakePost rate burst rest (.ref x) (four x dx y dy h0 k0 (bDict K rate burst (burst * 100) 0 tg tT)) :=
  ⟨x, dx, y, dy, h0, k0, K, tg, tT, rfl, rfl, hl, a, b, c⟩

set_option maxRecDepth 100000 in
set_option maxHeartbeats 8000000 in
theorem make_claim (w : World) {rate burst : Int} {tr tb : Tok} (h1 : 0 ≤ rate) (h2 : 1 ≤ burst) :
    ClaimR w 169 [.int rate tr, .int burst tb] [] 6 60 (MakePost rate burst) := by
  w_on
  unfold ClaimR
  k_fill
  intro rest mean mg mb dp un gd cn cs a9 ccd cl outer A₀ base h₀ L m s Q E hoff B F X N T hk hd hu hret
  simp only [List.nil_append, List.map_nil] at N hoff
  k_steps
  refine' hret _ _ _ _ (make_end (K := ⟨_, _, _, _, _, _, _, _, _, _⟩) ?a ?b ?c ?d) ?F (kst_newsOf ?N ?S)
  case F => assumption
  case N => assumption
  case S =>
    refine List.forall_mem_cons.mpr ⟨by k_mem, List.forall_mem_cons.mpr ⟨by k_mem, List.forall_mem_cons.mpr ⟨by k_mem, List.forall_mem_cons.mpr ⟨by k_mem, ?_⟩⟩⟩⟩
    intro p9 hp8
    have hp9 : p9 ∈ rest := hp8
    repeat first | with_reducible exact hp9 | refine List.mem_cons_of_mem _ ?_
  case a => assumption
  case b => assumption
  case c => omega
  case d => assumption
end

section
-- part CN

theorem make_use {w : World} {rate burst : Int} {tr tb : Tok} (h1 : 0 ≤ rate) (h2 : 1 ≤ burst)
    {mean : ExcName → Option Value} {mg mb : Str → Option Value} {dp un : Nat} {gd : Option (List Code)} {cn : Str} {cs : Scope} {a : Addr} {ccd : Value} {cl : List (Str × Addr)} {outer : List Env} {A₀ : Around} {base h₀ : Heap} {L : Addr} {m : Str → Option Value} {news : List (Addr × Obj)} {s : Shared} {Q E : Value → Shared → Prop}
    (B : Below A₀ base outer h₀) (F : Fr h₀ L s.heap m) (X : (hd.heap_39 w.params).In h₀) (N : News h₀ L s.heap news) (T : Top hd.view_39 (looseW hd.view_39 [Str.ofString "SettingError"]) mean mg mb h₀) (hk : cs.kind = .function)
    (hd' : dp + 6 < recursionLimit) (hu : un + 60 < cLine)
    (ret : ∀ x dx y dy h0 k0 e1 k1 e2 k2 e3 k3 e4 k4 tr' tb' tg tT h' tk', (∀ p ∈ news, p.1 < dx) → @LT.lt Nat _ dx x → @LT.lt Nat _ x dy → @LT.lt Nat _ dy y → Fr h₀ L h' m → News h₀ L h' ((x, instObj 169 dx) :: (dx, dictOf [⟨h0, .str (Str.ofString "bucket") k0, .ref y⟩] 1) :: (y, instObj 127 dy) :: (dy, bDict ⟨e1, k1, e2, k2, e3, k3, e4, k4, tr', tb'⟩ rate burst (burst * 100) 0 tg tT) :: news) → Q (.ref x) { s with heap := h', toks := tk' }) :
    wpAny (model PySem.Challenge.rw_pq1157_01.row.prog w) (ktrTop dp un gd cn cs L a ccd cl outer) (PySem.call (.ref 169) [.int rate tr, .int burst tb]) Q E s := by
  refine make_claim w h1 h2 news mean mg mb dp un gd cn cs a ccd cl outer A₀ base h₀ L m s Q E (fun _ _ _ hb => absurd hb List.not_mem_nil) B F X N T hk hd' hu ?_
  rintro v own' h' tk' ⟨x, dx, y, dy, h0, k0, ⟨e1, k1, e2, k2, e3, k3, e4, k4, tr', tb'⟩, tg, tT, rfl, rfl, l1, l2, l3, l4⟩ F' N'
  exact ret x dx y dy h0 k0 e1 k1 e2 k2 e3 k3 e4 k4 tr' tb' tg tT h' tk' l1 l2 l3 l4 F' N'

section
variable {x dx y dy : Addr} {h0 : Int} {k0 : Tok} {K : Keys} {tg tT ts tn : Tok}
theorem near1 (w : World) (l1 : @LT.lt Nat _ dy y) (l2 : @LT.lt Nat _ dx x) (l3 : @LT.lt Nat _ x dy) :
    Claim w 166 [.ref x, .int 1 ts, .int 900 tn] (four x dx y dy h0 k0 (bDict K 100 2 200 0 tg tT)) 8 80 (fun v nw => v = .bool true ∧ ∃ tg tT, nw = four x dx y dy h0 k0 (bDict K 100 2 100 900 tg tT)) := by
  refine (sent_claim w l1 l2 l3 (by decide) (by decide)).mono fun v nw p => ?_
  rcases p with ⟨q, e, tg', tT', e'⟩ | ⟨q, e, tg', tT', e'⟩
  · exact ⟨e, tg', tT', e'⟩
  · exact absurd (by decide) q
theorem near2 (w : World) (l1 : @LT.lt Nat _ dy y) (l2 : @LT.lt Nat _ dx x) (l3 : @LT.lt Nat _ x dy) :
    Claim w 166 [.ref x, .int 1 ts, .int 900 tn] (four x dx y dy h0 k0 (bDict K 100 2 100 900 tg tT)) 8 80 (fun v nw => v = .bool true ∧ ∃ tg tT, nw = four x dx y dy h0 k0 (bDict K 100 2 0 900 tg tT)) := by
  refine (sent_claim w l1 l2 l3 (by decide) (by decide)).mono fun v nw p => ?_
  rcases p with ⟨q, e, tg', tT', e'⟩ | ⟨q, e, tg', tT', e'⟩
  · exact ⟨e, tg', tT', e'⟩
  · exact absurd (by decide) q
theorem near3 (w : World) (l1 : @LT.lt Nat _ dy y) (l2 : @LT.lt Nat _ dx x) (l3 : @LT.lt Nat _ x dy) :
    Claim w 166 [.ref x, .int 1 ts, .int 900 tn] (four x dx y dy h0 k0 (bDict K 100 2 0 900 tg tT)) 8 80 (fun v nw => v = .bool false ∧ ∃ tg tT, nw = four x dx y dy h0 k0 (bDict K 100 2 0 900 tg tT)) := by
  refine (sent_claim w l1 l2 l3 (by decide) (by decide)).mono fun v nw p => ?_
  rcases p with ⟨q, e, tg', tT', e'⟩ | ⟨q, e, tg', tT', e'⟩
  · exact absurd q (by decide)
  · exact ⟨e, tg', tT', e'⟩
theorem near4 (w : World) (l1 : @LT.lt Nat _ dy y) (l2 : @LT.lt Nat _ dx x) (l3 : @LT.lt Nat _ x dy) :
    Claim w 166 [.ref x, .int 5 ts, .int 902 tn] (four x dx y dy h0 k0 (bDict K 100 2 0 900 tg tT)) 8 80 (fun v nw => v = .bool true ∧ ∃ tg tT, nw = four x dx y dy h0 k0 (bDict K 100 2 (-300) 902 tg tT)) := by
  refine (sent_claim w l1 l2 l3 (by decide) (by decide)).mono fun v nw p => ?_
  rcases p with ⟨q, e, tg', tT', e'⟩ | ⟨q, e, tg', tT', e'⟩
  · exact ⟨e, tg', tT', e'⟩
  · exact absurd (by decide) q
theorem near5 (w : World) (l1 : @LT.lt Nat _ dy y) (l2 : @LT.lt Nat _ dx x) (l3 : @LT.lt Nat _ x dy) :
    Claim w 159 [.ref x, .int 1 ts, .int 902 tn] (four x dx y dy h0 k0 (bDict K 100 2 (-300) 902 tg tT)) 8 80 (fun v nw => (∃ t, v = .int 906 t) ∧ ∃ tg tT, nw = four x dx y dy h0 k0 (bDict K 100 2 (-300) 902 tg tT)) := by
  refine (when_claim w l1 l2 l3 (by decide) (by decide)).mono fun v nw p => ?_
  obtain ⟨⟨tg', tT', e'⟩, p⟩ := p
  rcases p with ⟨q, _⟩ | ⟨_, q, _⟩ | ⟨_, _, t, e⟩
  · exact absurd q (by decide)
  · exact absurd q (by decide)
  · exact ⟨⟨t, e⟩, tg', tT', e'⟩
end
def Stop (P : Prop) : Prop := P
theorem stop_here {P : Prop} (h : Stop P) : P := h
end

section
-- part CP
set_option maxRecDepth 100000 in
set_option maxHeartbeats 8000000 in
theorem pool_use (w : World) {scr : Addr} {vs : List Value} {ns : List Int} {k : Int} {ts : Tok}
    {mean : ExcName → Option Value} {mg mb : Str → Option Value} {dp un : Nat} {gd : Option (List Code)} {cn : Str} {cs : Scope} {a : Addr} {ccd : Value} {cl : List (Str × Addr)} {outer : List Env} {A₀ : Around} {base h₀ : Heap} {L : Addr} {m : Str → Option Value} {news : List (Addr × Obj)} {s : Shared} {Q E : Value → Shared → Prop}
    (B : Below A₀ base outer h₀) (F : Fr h₀ L s.heap m) (X : (hd.heap_39 w.params).In h₀) (N : News h₀ L s.heap news) (T : Top hd.view_39 (looseW hd.view_39 [Str.ofString "SettingError"]) mean mg mb h₀) (hk : cs.kind = .function)
    (hd' : dp + 6 < recursionLimit) (hu : un + 60 < cLine) (hl : base.IsList scr vs.toArray) (hi : IntsAre vs ns) (hlay : (PyData.list (ns.map PyData.int)).layable0 = true) (hlen : ns.length ≤ 63) (k0 : 0 ≤ k) (k1 : k ≤ 62)
    (ret : ∀ l a ta b tb h' tk', (∀ p ∈ news, p.1 < l) → 0 ≤ b → b < 2147483647 → Fr h₀ L h' m → News h₀ L h' ((l, listOf #[.int a ta, .int b tb] 0) :: news) → Q (.ref l) { s with heap := h', toks := tk' }) :
    wpAny (model PySem.Challenge.rw_pq1157_01.row.prog w) (ktrTop dp un gd cn cs L a ccd cl outer) (PySem.call (.ref 180) [.ref scr, .int k ts]) Q E s := by
  revert B F X N T hk hd' hu hl ret
  w_on
  k_fill
  intro B F X N T hk hd hu hl hret
  refine wpAny_call ?_
  k_dflt cell_enter
  k_steps
  all_goals exact hret _ _ _ _ _ _ _ (by assumption) (Int.fmod_nonneg_of_pos _ (by decide)) (Int.fmod_lt_of_pos _ (by decide)) (by assumption) (by assumption)
end

section
-- part CE

theorem off_six {R : List (Addr × Obj)} {l dy ls x dx y : Addr} (h : ∀ p ∈ R, p.1 < l) (h1 : @LT.lt Nat _ l dy) (h2 : @LT.lt Nat _ l ls) (h3 : @LT.lt Nat _ l x) (h4 : @LT.lt Nat _ l dx) (h5 : @LT.lt Nat _ l y) : OwnOff R [l, dy, ls, x, dx, y] := by
  intro p hp b hb
  have hp' : @LT.lt Nat _ p.1 l := h p hp
  have key : @Ne Nat p.1 b := by
    simp only [List.mem_cons, List.not_mem_nil, or_false] at hb
    rcases hb with rfl | rfl | rfl | rfl | rfl | rfl <;> omega
  exact key

/-- what a cell's loop carries -/
structure St where
  now : Int
  tn : Tok
  a : Int
  ta : Tok
  b : Int
  tb : Tok
  g : Int
  T : Int
  tg : Tok
  tT : Tok
  vs : List Value
  nn : Nat
  ds : List (Int × Int)

abbrev ledS (l dy ls : Addr) (K : Keys) (rate burst : Int) (c : St) : List (Addr × Obj) :=
  [(l, listOf #[.int c.a c.ta, .int c.b c.tb] 0), (dy, bDict K rate burst c.g c.T c.tg c.tT), (ls, listOf c.vs.toArray c.nn)]
abbrev cstS (x dx y dy : Addr) (h0 : Int) (k0 : Tok) (R : List (Addr × Obj)) : List (Addr × Obj) :=
  (x, instObj 169 dx) :: (dx, dictOf [⟨h0, .str (Str.ofString "bucket") k0, .ref y⟩] 1) :: (y, instObj 127 dy) :: R
def factS (nx : List (Addr × Obj)) (c : St) : Prop := DatAll nx c.vs (c.ds.map pairD)
def wordS (rate burst : Int) (pre : List Int) (c : St) : Prop := c.ds.length ≤ pre.length ∧ Inv rate burst c.ds c.g c.T c.now ∧ 0 ≤ c.b ∧ c.b < 2147483647
def psS (c : St) : List (Str × Value) := [(Str.ofString "now", .int c.now c.tn)]
def adrS (l dy ls x dx y : Addr) (R : List (Addr × Obj)) : List Addr := l :: dy :: ls :: x :: dx :: y :: R.map (·.1)
def CellJ (l dy ls x dx y : Addr) (K : Keys) (rate burst h0 : Int) (k0 : Tok) (R : List (Addr × Obj)) (xn : Str) (stored : List Str) (m₀ : Str → Option Value) (pre : List Int) : (Str → Option Value) → List (Addr × Obj) → Prop :=
  KdS (ledS l dy ls K rate burst) (cstS x dx y dy h0 k0 R) psS factS xn stored m₀ (wordS rate burst) (adrS l dy ls x dx y R) pre

/-- what a turn of the cell's loop finds -/
structure TurnIn (l dy ls x dx y : Addr) (rate burst h0 : Int) (k0 : Tok) (R tl own : List (Addr × Obj)) (pre : List Int) (c : St) : Prop where
  sep : KdSep own tl (adrS l dy ls x dx y R)
  tups : OwnOff (R ++ tl) [l, dy, ls, x, dx, y]
  off : OwnOff own (l :: dy :: ls :: x :: dx :: y :: (R ++ tl).map (·.1))
  dat : DatAll ((x, instObj 169 dx) :: (dx, dictOf [⟨h0, .str (Str.ofString "bucket") k0, .ref y⟩] 1) :: (y, instObj 127 dy) :: (R ++ tl)) c.vs (c.ds.map pairD)
  len : c.ds.length ≤ pre.length
  twelve : pre.length < 12
  inv : Inv rate burst c.ds c.g c.T c.now
  b1 : 0 ≤ c.b
  b2 : c.b < 2147483647

theorem TurnIn.whole {l dy ls x dx y : Addr} {rate burst h0 : Int} {k0 : Tok} {R tl own : List (Addr × Obj)} {pre : List Int} {c : St} (I : TurnIn l dy ls x dx y rate burst h0 k0 R tl own pre c) : OwnOff ((R ++ tl) ++ own) [l, dy, ls, x, dx, y] := by
  intro q hq e he
  rcases List.mem_append.mp hq with hq | hq
  · exact I.tups q hq e he
  · exact I.off q hq e (List.mem_append_left (as := [l, dy, ls, x, dx, y]) _ he)

section
variable {prog : Program} {w : World} {A : Around} {E : Value → Shared → Prop} {s : Shared} {env : Env} {h₀ : Heap} {xn : Str} {body : List Stmt} {Q : Flow → Shared → Prop}
theorem cell_range {r : Addr} {b₀ : Int} {t₀ u₀ v₀ : Tok} {m₀ : Str → Option Value} {news : List (Addr × Obj)} {l ls x dx y dy : Addr} {h0 : Int} {k0 : Tok} {K : Keys} {rate burst a b : Int} {ta tb tg tT tn : Tok} {R : List (Addr × Obj)} (stored : List Str)
    (hh : A.handled = none) (hr : IsRange s.heap r 0 b₀ 1 t₀ u₀ v₀) (F : Fr h₀ env.locals s.heap m₀) (N : News h₀ env.locals s.heap news)
    (m1 : (l, listOf #[.int a ta, .int b tb] 0) ∈ news) (m2 : (dy, bDict K rate burst (burst * 100) 0 tg tT) ∈ news) (m3 : (ls, listOf #[] 0) ∈ news) (m4 : (x, instObj 169 dx) ∈ news) (m5 : (dx, dictOf [⟨h0, .str (Str.ofString "bucket") k0, .ref y⟩] 1) ∈ news) (m6 : (y, instObj 127 dy) ∈ news) (mr : ∀ p ∈ R, p ∈ news)
    (hn : m₀ (Str.ofString "now") = some (.int 0 tn)) (lo : 0 ≤ b₀) (hi : b₀ ≤ 12)
    (o : OwnOff R [l, dy, ls, x, dx, y]) (r1 : 0 ≤ rate) (g1 : 0 ≤ b) (g2 : b < 2147483647)
    (turn : ∀ (c : St) (tl : List (Addr × Obj)) (pre : List Int) (k : Int) t (u : Str → Option Value) h tk own, TurnIn l dy ls x dx y rate burst h0 k0 R tl own pre c →
      Fr h₀ env.locals h (fun y => if y = xn then some (.int k t) else if y = Str.ofString "now" then some (.int c.now c.tn) else if stored.contains y then u y else m₀ y) →
      News h₀ env.locals h ((l, listOf #[.int c.a c.ta, .int c.b c.tb] 0) :: (dy, bDict K rate burst c.g c.T c.tg c.tT) :: (ls, listOf c.vs.toArray c.nn) :: (x, instObj 169 dx) :: (dx, dictOf [⟨h0, .str (Str.ofString "bucket") k0, .ref y⟩] 1) :: (y, instObj 127 dy) :: ((R ++ tl) ++ own)) →
      wpAny (model prog w) A (execs body env) (InvPostG h₀ env.locals (CellJ l dy ls x dx y K rate burst h0 k0 R xn stored m₀ (pre ++ [k])) own { s with heap := h, toks := tk } Q) E { s with heap := h, toks := tk })
    (done : ∀ (u : Str → Option Value) h tk, Fr h₀ env.locals h (fun y => if y = xn then u y else if y = Str.ofString "now" then u y else if stored.contains y then u y else m₀ y) → News h₀ env.locals h R → Q .next { s with heap := h, toks := tk }) :
    wpAny (model prog w) A (pyIter (.ref r)) (fun it s₂ => LoopAtV prog w A h₀ env xn body Q E it s₂) E s := by
  refine kd_range (n := (b₀ - 0).toNat) (ledS l dy ls K rate burst) (cstS x dx y dy h0 k0 R) psS factS stored (wordS rate burst) (adrS l dy ls x dx y R) ⟨0, tn, a, ta, b, tb, burst * 100, 0, tg, tT, [], 0, []⟩ hh hr (small_one (by omega) (by omega) (by omega) (by omega)) (rangeSize_nat _ _) F N ?ki ?ka ?kf ?kk ?kp ?turn ?done
  case ki =>
    intro p hp
    simp only [List.append_nil, List.mem_append, List.mem_cons, List.not_mem_nil, or_false] at hp
    rcases hp with (rfl | rfl | rfl) | (rfl | rfl | rfl | hp)
    · exact m1
    · exact m2
    · exact m3
    · exact m4
    · exact m5
    · exact m6
    · exact mr p hp
  case ka => exact fun _ => rfl
  case kf => exact .nil
  case kk => exact List.forall_mem_cons.mpr ⟨hn, List.forall_mem_nil _⟩
  case kp => exact ⟨Nat.le_refl _, Inv.start r1 (Int.le_refl _), g1, g2⟩
  case turn =>
    intro c tl pre k t u h tk own hk hlt sep off f p F₁ N₁
    refine turn c tl pre k t u h tk own ⟨sep, ?_, ?_, f, p.1, by omega, p.2.1, p.2.2.1, p.2.2.2⟩ F₁ ?_
    · intro q hq e he
      rcases List.mem_append.mp hq with hq | hq
      · exact o q hq e he
      · refine sep.three q hq e ?_
        exact List.mem_append_left (as := [l, dy, ls, x, dx, y]) _ he
    · intro q hq e he
      rcases (List.mem_append (s := [l, dy, ls, x, dx, y])).mp he with he | he
      · exact sep.one q hq e (List.mem_append_left (as := [l, dy, ls, x, dx, y]) _ he)
      · rw [List.map_append] at he
        rcases List.mem_append.mp he with he | he
        · exact sep.one q hq e (List.mem_append_right [l, dy, ls, x, dx, y] he)
        · exact sep.two q hq e he
    · rw [List.append_assoc]
      exact N₁
  case done =>
    intro c tl u h tk o3 f p F₁ N₁
    refine done (fun z => if z = xn then u z else if z = Str.ofString "now" then some (.int c.now c.tn) else u z) h tk ?_ (kst_newsOf N₁ ?_)
    · have e : (fun y => if y = xn then (fun z => if z = xn then u z else if z = Str.ofString "now" then some (Value.int c.now c.tn) else u z) y else if y = Str.ofString "now" then (fun z => if z = xn then u z else if z = Str.ofString "now" then some (Value.int c.now c.tn) else u z) y else if stored.contains y then (fun z => if z = xn then u z else if z = Str.ofString "now" then some (Value.int c.now c.tn) else u z) y else m₀ y) = (fun y => if y = xn then u y else kstB (fun z => if stored.contains z then u z else m₀ z) (psS c) y) := by
        funext y
        by_cases h1 : y = xn
        · simp only [h1, if_true]
        · simp only [h1, if_false]
          unfold psS kstB kstB
          by_cases h2 : y = Str.ofString "now"
          · simp only [h2, if_true]
          · simp only [h2, if_false]
      rw [e]
      exact F₁
    · intro q hq
      refine List.mem_append_right _ ?_
      exact .tail _ (.tail _ (.tail _ (List.mem_append_left _ hq)))
end

theorem cell_end {l ls x dx y dy : Addr} {h0 : Int} {k0 : Tok} {K : Keys} {rate burst : Int} {R tl own new : List (Addr × Obj)} {xn : Str} {stored : List Str} {m₀ m' : Str → Option Value} {pre : List Int} {k : Int} {c : St} {h₀ h' : Heap} {L : Addr} {s₁ : Shared} {tk : Nat}
    {now' a b g T : Int} {tn' ta tb tg tT : Tok} {vs : List Value} {nn : Nat} {ds : List (Int × Int)}
    (I : TurnIn l dy ls x dx y rate burst h0 k0 R tl own pre c) (F : Fr h₀ L h' m')
    (N : News h₀ L h' ((l, listOf #[.int a ta, .int b tb] 0) :: (dy, bDict K rate burst g T tg tT) :: (ls, listOf vs.toArray nn) :: (x, instObj 169 dx) :: (dx, dictOf [⟨h0, .str (Str.ofString "bucket") k0, .ref y⟩] 1) :: (y, instObj 127 dy) :: ((new ++ (R ++ tl)) ++ own)))
    (o1 : OwnOff new [l, dy, ls, x, dx, y]) (o2 : OwnOff new (((R ++ tl) ++ own).map (·.1)))
    (dat : DatAll ((x, instObj 169 dx) :: (dx, dictOf [⟨h0, .str (Str.ofString "bucket") k0, .ref y⟩] 1) :: (y, instObj 127 dy) :: (new ++ (R ++ tl))) vs (ds.map pairD))
    (len : ds.length ≤ c.ds.length + 1) (inv : Inv rate burst ds g T now') (b1 : 0 ≤ b) (b2 : b < 2147483647)
    (hn : m' (Str.ofString "now") = some (.int now' tn')) (hr : ∀ z, z ≠ xn → z ≠ Str.ofString "now" → stored.contains z = false → m' z = m₀ z) :
    InvEndG h₀ L (CellJ l dy ls x dx y K rate burst h0 k0 R xn stored m₀ (pre ++ [k])) own s₁ { s₁ with heap := h', toks := tk } := by
  refine kd_end (c := ⟨now', tn', a, ta, b, tb, g, T, tg, tT, vs, nn, ds⟩) (tl := tl) new I.sep F N ?hn ?ho ?hadr ?hb ?hw ?hk ?hr ?hf ?hp
  case hn =>
    intro q hq
    rcases List.mem_append.mp hq with hq | hq
    · simp only [List.mem_cons, List.not_mem_nil, or_false] at hq
      rcases hq with rfl | rfl | rfl
      · exact .head _
      · exact .tail _ (.head _)
      · exact .tail _ (.tail _ (.head _))
    · refine .tail _ (.tail _ (.tail _ ?_))
      rcases List.mem_append.mp hq with hq | hq
      · rcases List.mem_cons.mp hq with rfl | hq
        · exact .head _
        rcases List.mem_cons.mp hq with rfl | hq
        · exact .tail _ (.head _)
        rcases List.mem_cons.mp hq with rfl | hq
        · exact .tail _ (.tail _ (.head _))
        exact .tail _ (.tail _ (.tail _ (List.mem_append_left _ (List.mem_append_right _ (List.mem_append_left _ hq)))))
      · rcases List.mem_append.mp hq with hq | hq
        · exact .tail _ (.tail _ (.tail _ (List.mem_append_left _ (List.mem_append_left _ hq))))
        · exact .tail _ (.tail _ (.tail _ (List.mem_append_left _ (List.mem_append_right _ (List.mem_append_right _ hq)))))
  case ho => exact fun q hq => .tail _ (.tail _ (.tail _ (.tail _ (.tail _ (.tail _ (List.mem_append_right _ hq))))))
  case hadr => rfl
  case hb =>
    intro q hq e he
    rcases (List.mem_append (s := [l, dy, ls, x, dx, y])).mp he with he | he
    · exact (o1 q hq e he).symm
    · refine (o2 q hq e ?_).symm
      obtain ⟨p, hp, rfl⟩ := List.mem_map.mp he
      exact List.mem_map.mpr ⟨p, List.mem_append_left _ (List.mem_append_left _ hp), rfl⟩
  case hw =>
    intro q hq p hp
    exact (o2 q hq p.1 (List.mem_map.mpr ⟨p, List.mem_append_right _ hp, rfl⟩)).symm
  case hk => exact List.forall_mem_cons.mpr ⟨hn, List.forall_mem_nil _⟩
  case hr =>
    intro z h1 h2 h3
    exact hr z h1 (h2 _ (.head _)) h3
  case hf =>
    refine dat.mono ?_
    intro q hq
    rcases List.mem_cons.mp hq with rfl | hq
    · exact .head _
    rcases List.mem_cons.mp hq with rfl | hq
    · exact .tail _ (.head _)
    rcases List.mem_cons.mp hq with rfl | hq
    · exact .tail _ (.tail _ (.head _))
    refine .tail _ (.tail _ (.tail _ ?_))
    rcases List.mem_append.mp hq with hq | hq
    · exact List.mem_append_right _ (List.mem_append_left _ hq)
    rcases List.mem_append.mp hq with hq | hq
    · exact List.mem_append_left _ hq
    · exact List.mem_append_right _ (List.mem_append_right _ hq)
  case hp =>
    refine ⟨?_, inv, b1, b2⟩
    have := I.len
    rw [List.length_append]
    exact Nat.le_trans len (Nat.succ_le_succ this)

theorem turn_use {w : World} {l dy ls x dx y : Addr} {h0 : Int} {k0 : Tok} {K : Keys} {rate burst now : Int} {tr tu tn : Tok} {R tl own : List (Addr × Obj)} {pre : List Int} {c : St}
    {a b g T : Int} {ta tb tg tT : Tok} 
    (I : TurnIn l dy ls x dx y rate burst h0 k0 R tl own pre c) (l1 : @LT.lt Nat _ l dx) (l2 : @LT.lt Nat _ dx x) (l3 : @LT.lt Nat _ x dy) (l4 : @LT.lt Nat _ dy y) (l5 : @LT.lt Nat _ y ls)
    (r1 : 0 ≤ rate) (r2 : rate ≤ 999) (r3 : 1 ≤ burst) (r4 : burst ≤ 64) (b1 : 0 ≤ b) (b2 : b < 2147483647) (J : Inv rate burst c.ds g T now)
    {mean : ExcName → Option Value} {mg mb : Str → Option Value} {dp un : Nat} {gd : Option (List Code)} {cn : Str} {cs : Scope} {ad : Addr} {ccd : Value} {cl : List (Str × Addr)} {outer : List Env} {A₀ : Around} {base h₀ : Heap} {L : Addr} {m : Str → Option Value} {news : List (Addr × Obj)} {s : Shared} {Q E : Value → Shared → Prop}
    (B : Below A₀ base outer h₀) (F : Fr h₀ L s.heap m) (X : (hd.heap_39 w.params).In h₀) (N : News h₀ L s.heap news) (Tp : Top hd.view_39 (looseW hd.view_39 [Str.ofString "SettingError"]) mean mg mb h₀) (hk : cs.kind = .function)
    (hd' : dp + 10 < recursionLimit) (hu : un + 120 < cLine)
    (m1 : (l, listOf #[.int a ta, .int b tb] 0) ∈ news) (m2 : (dy, bDict K rate burst g T tg tT) ∈ news) (m3 : (ls, listOf c.vs.toArray c.nn) ∈ news) (m4 : (x, instObj 169 dx) ∈ news) (m5 : (dx, dictOf [⟨h0, .str (Str.ofString "bucket") k0, .ref y⟩] 1) ∈ news) (m6 : (y, instObj 127 dy) ∈ news) (mr : ∀ p ∈ (R ++ tl) ++ own, p ∈ news)
    (ret : ∀ now' tn' a ta b tb g T tg tT vs nn ds new h' tk', OwnOff new [l, dy, ls, x, dx, y] → OwnOff new (((R ++ tl) ++ own).map (·.1)) →
      DatAll ((x, instObj 169 dx) :: (dx, dictOf [⟨h0, .str (Str.ofString "bucket") k0, .ref y⟩] 1) :: (y, instObj 127 dy) :: (new ++ (R ++ tl))) vs (ds.map pairD) →
      ds.length ≤ c.ds.length + 1 → Inv rate burst ds g T now' → 0 ≤ b → b < 2147483647 → Fr h₀ L h' m →
      News h₀ L h' ((l, listOf #[.int a ta, .int b tb] 0) :: (dy, bDict K rate burst g T tg tT) :: (ls, listOf vs.toArray nn) :: (x, instObj 169 dx) :: (dx, dictOf [⟨h0, .str (Str.ofString "bucket") k0, .ref y⟩] 1) :: (y, instObj 127 dy) :: ((new ++ (R ++ tl)) ++ own)) →
      Q (.int now' tn') { s with heap := h', toks := tk' }) :
    wpAny (model PySem.Challenge.rw_pq1157_01.row.prog w) (ktrTop dp un gd cn cs L ad ccd cl outer) (PySem.call (.ref 215) [.ref l, .ref x, .int rate tr, .int burst tu, .ref ls, .int now tn]) Q E s := by
  have hl : c.ds.length ≤ 62 := Nat.le_trans I.len (Nat.le_trans (Nat.le_of_lt I.twelve) (by decide))
  refine turn_claim w (n := 0) (K := K) (a := a) (ta := ta) (tb := tb) (tg := tg) (tT := tT) (nn := c.nn) l1 l2 l3 l4 l5 I.tups I.dat hl r1 r2 r3 r4 b1 b2 J own mean mg mb dp un gd cn cs ad ccd cl outer A₀ base h₀ L m s Q E I.off B F X ?_ Tp hk hd' hu ?_
  · refine kst_newsOf N ?_
    intro q hq
    rcases List.mem_cons.mp hq with rfl | hq
    · exact m1
    rcases List.mem_cons.mp hq with rfl | hq
    · exact m2
    rcases List.mem_cons.mp hq with rfl | hq
    · exact m3
    rcases List.mem_cons.mp hq with rfl | hq
    · exact m4
    rcases List.mem_cons.mp hq with rfl | hq
    · exact m5
    rcases List.mem_cons.mp hq with rfl | hq
    · exact m6
    exact mr q hq
  · rintro v own' h' tk' ⟨now', tn', a', ta', b', tb', g', T', tg', tT', vs', nn', ds', new, rfl, rfl, o1, o2, d, hlen, J', b1', b2', _⟩ F' N'
    exact ret now' tn' a' ta' b' tb' g' T' tg' tT' vs' nn' ds' new h' tk' o1 o2 d hlen J' b1' b2' F' N'
end

section
-- part CL

-- a shaper is made
local macro_rules | `(tactic| walk_at "call ref") => `(tactic| (k_here; (with_reducible show wpAny _ _ (PySem.call (Value.ref 169) [Value.int _ _, Value.int _ _]) _ _ _); k_dflt (refine' make_use ?h1 ?h2 ?k1 ?k2 ?k3 ?k4 ?k5 ?kK ?kd ?ku ?_; walk_at "MINE ctx0"; walk_at "MINE om"); intro x9 dx9 y9 dy9 h0 k0 e1 q1 e2 q2 e3 q3 e4 q4 tr9 tb9 tg9 tT9 h9 tk9 l1 l2 l3 l4 F9 N9; (try k_lt l1); walk_at "MINE end"))
-- the near shaper
local macro_rules | `(tactic| walk_at "call ref") => `(tactic| (k_here; (with_reducible show wpAny _ _ (PySem.call (Value.ref 166) [Value.ref _, Value.int _ _, Value.int _ _]) _ _ _); k_dflt ((first | (refine' claim_use (near1 (K := ⟨_, _, _, _, _, _, _, _, _, _⟩) _ ?h1 ?h2 ?h3) ?k1 ?k2 ?k3 ?k4 ?k5 ?kK ?ks ?kd ?ku ?_; walk_at "MINE ctx") | (refine' claim_use (near2 (K := ⟨_, _, _, _, _, _, _, _, _, _⟩) _ ?h1 ?h2 ?h3) ?k1 ?k2 ?k3 ?k4 ?k5 ?kK ?ks ?kd ?ku ?_; walk_at "MINE ctx") | (refine' claim_use (near3 (K := ⟨_, _, _, _, _, _, _, _, _, _⟩) _ ?h1 ?h2 ?h3) ?k1 ?k2 ?k3 ?k4 ?k5 ?kK ?ks ?kd ?ku ?_; walk_at "MINE ctx") | (refine' claim_use (near4 (K := ⟨_, _, _, _, _, _, _, _, _, _⟩) _ ?h1 ?h2 ?h3) ?k1 ?k2 ?k3 ?k4 ?k5 ?kK ?ks ?kd ?ku ?_; walk_at "MINE ctx")); walk_at "MINE om"; intro v9 own9 h9 tk9 P9 F9 N9; (obtain ⟨e8, tg9, tT9, e9⟩ := P9); subst e8; subst e9; (have N8 := N9 _ (Turned.four (by k_upd))); clear N9); walk_at "MINE end"))
local macro_rules | `(tactic| walk_at "call ref") => `(tactic| (k_here; (with_reducible show wpAny _ _ (PySem.call (Value.ref 159) [Value.ref _, Value.int _ _, Value.int _ _]) _ _ _); k_dflt (refine' claim_use (near5 (K := ⟨_, _, _, _, _, _, _, _, _, _⟩) _ ?h1 ?h2 ?h3) ?k1 ?k2 ?k3 ?k4 ?k5 ?kK ?ks ?kd ?ku ?_; walk_at "MINE ctx"; walk_at "MINE om"; intro v9 own9 h9 tk9 P9 F9 N9; (obtain ⟨⟨t8, e8⟩, tg9, tT9, e9⟩ := P9); subst e8; subst e9; (have N8 := N9 _ (Turned.four (by k_upd))); clear N9); walk_at "MINE end"))
-- a turn of the cell
local macro_rules | `(tactic| walk_at "call ref") => `(tactic| (k_here; (with_reducible show wpAny _ _ (PySem.call (Value.ref 215) _) _ _ _); k_dflt (refine' turn_use (K := ⟨_, _, _, _, _, _, _, _, _, _⟩) ?I ?h1 ?h2 ?h3 ?h4 ?h5 ?r1 ?r2 ?r3 ?r4 ?h6 ?h7 ?J ?k1 ?k2 ?k3 ?k4 ?k5 ?kK ?kd ?ku ?m1 ?m2 ?m3 ?m4 ?m5 ?m6 ?mr ?_; walk_at "MINE ctx0"; (case I => assumption); (case m1 => k_mem); (case m2 => k_mem); (case m3 => k_mem); (case m4 => k_mem); (case m5 => k_mem); (case m6 => k_mem); (case mr => (intro p9 hp9; repeat first | with_reducible exact hp9 | refine List.mem_cons_of_mem _ ?_)); (case J => exact Inv.later (by assumption) (by omega)); (case r1 => omega); (case r2 => omega); (case r3 => omega); (case r4 => omega); walk_at "MINE om"; intro now9 tn9 a9 ta9 b9 tb9 g9 T9 tg9 tT9 vs9 nn9 ds9 new9 h9 tk9 o91 o92 d9 len9 J9 g3 g4 F9 N9); walk_at "MINE end"))
-- the pool
local macro_rules | `(tactic| walk_at "call ref") => `(tactic| (k_here; (with_reducible show wpAny _ _ (PySem.call (Value.ref 180) [Value.ref _, Value.int _ _]) _ _ _); k_dflt (refine' pool_use _ ?k1 ?k2 ?k3 ?k4 ?k5 ?kK ?kd ?ku ?hl ?hi ?hlay ?h3 ?h1 ?h2 ?_; walk_at "MINE ctx0"; (case hl => assumption); (case hi => assumption); (case hlay => assumption); walk_at "MINE om"; intro l9 a9 ta9 b9 tb9 h9 tk9 l1 g3 g4 F9 N9; (try k_lt l1)); walk_at "MINE end"))
local macro_rules | `(tactic| walk_at "pyIter ref") => `(tactic| (k_here; refine stop_here ?_))
set_option maxRecDepth 100000 in
set_option maxHeartbeats 8000000 in
theorem law_holds : PySem.Challenge.rw_pq1157_01.Holds := hd (by
  k_go0
  all_goals try k_fold
  k_steps
  unfold Stop
  rename Fr _ _ _ _ => lF'
  rename News _ _ _ _ => lN'
  rename IsRange _ _ _ _ _ _ _ _ => rgX
  with_unfolding_all refine' kd_range (σ := Unit) (fun _ => []) [] (fun _ => []) (fun _ _ => True) [Str.ofString "source", Str.ofString "rate", Str.ofString "burst", Str.ofString "shaper", Str.ofString "sent", Str.ofString "now", Str.ofString "turn"] (fun _ _ => True) [] () (by rfl) rgX ?hsm (rangeSize_nat _ _) lF' lN' ?ki ?ka trivial ?kk trivial ?turn ?done
  case hsm => exact small_one (by omega) (by omega) (by omega) (by omega)
  case ki => exact List.forall_mem_nil _
  case ka => exact fun _ => rfl
  case kk => exact List.forall_mem_nil _
  case done =>
    clear lF' lN' rgX
    intro c tl u h tk o3 f1 f2 kF kN
    try k_fold
    k_steps
  case turn =>
    clear lF' lN' rgX
    intro c tl pre k t u h tk own hk hlt sep off f1 f2 kF kN
    obtain ⟨R, hR⟩ : ∃ R, R = tl ++ own := ⟨_, rfl⟩
    simp only [List.nil_append] at kN
    rw [← hR] at kN
    try k_fold
    k_steps
    unfold Stop
    rename Fr _ _ _ _ => lF'
    rename News _ _ _ _ => lN'
    rename IsRange _ _ _ _ _ _ _ _ => rgX
    with_unfolding_all refine' cell_range (K := ⟨_, _, _, _, _, _, _, _, _, _⟩) (R := R) [] (by rfl) rgX lF' lN' ?m1 ?m2 ?m3 ?m4 ?m5 ?m6 ?mr ?hn ?lo ?hi ?o ?r1 ?g1 ?g2 ?turn ?done
    case m1 => k_mem
    case m2 => k_mem
    case m3 => k_mem
    case m4 => k_mem
    case m5 => k_mem
    case m6 => k_mem
    case mr => (intro p9 hp9; repeat first | with_reducible exact hp9 | refine List.mem_cons_of_mem _ ?_)
    case hn => with_unfolding_all rfl
    case lo => omega
    case hi => omega
    case o => exact off_six (by assumption) (by omega) (by omega) (by omega) (by omega) (by omega)
    case r1 => omega
    case g1 => omega
    case g2 => omega
    case turn =>
      clear lF' lN' rgX
      intro c tl2 pre2 k2 t2 u2 h2 tk2 own2 I2 kF2 kN2
      have ib1 := I2.b1
      have ib2 := I2.b2
      have ij := I2.inv
      have hto := I2.whole
      try k_fold
      k_steps
      refine' cell_end I2 ?F ?N ?o1 ?o2 ?dat ?len ?inv ?b1 ?b2 ?hn ?hr
      case F => assumption
      case N => assumption
      case o1 => assumption
      case o2 => assumption
      case dat => assumption
      case len => assumption
      case inv => assumption
      case b1 => assumption
      case b2 => assumption
      case hn => with_unfolding_all rfl
      case hr =>
        intro z h1 h2 h3
        simp only [if_neg h1, if_neg h2]
        rfl
    case done =>
      clear lF' lN' rgX
      intro u2 h2 tk2 kF2 kN2
      try k_fold
      k_steps
      refine' kd_end () [] (tl := tl) sep ?F ?N ?hn ?ho ?hadr ?hb ?hw ?hk ?hr ?hf ?hp
      case F => assumption
      case N => exact kN2
      case hn =>
        intro p hp
        rw [hR]
        exact List.mem_append_left _ hp
      case ho =>
        intro p hp
        rw [hR]
        exact List.mem_append_right _ hp
      case hadr => rfl
      case hb => exact List.forall_mem_nil _
      case hw => exact List.forall_mem_nil _
      case hk => exact List.forall_mem_nil _
      case hr =>
        intro z h1 _ h3
        simp only [List.contains_cons, List.contains_nil, Bool.or_false, Bool.or_eq_false_iff, beq_eq_false_iff_ne, ne_eq] at h3
        obtain ⟨c1, c2, c3, c4, c5, c6, c7⟩ := h3
        simp only [if_neg h1, if_neg c1, if_neg c2, if_neg c3, if_neg c4, if_neg c5, if_neg c6, if_neg c7, List.contains_nil, Bool.false_eq_true, if_false, kstB]
        simp [c1, c2, c3, c4, c5, c6, c7]
      case hf => trivial
      case hp => trivial
  )
end
end Mine

theorem PySem.Challenge.cw_pq1157_01_holds : PySem.Challenge.rw_pq1157_01.Holds := by
  exact Mine.law_holds
