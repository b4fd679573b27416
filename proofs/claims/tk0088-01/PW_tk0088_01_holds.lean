import PyProof.Rows.All
import Wide.All
import OpenK.AllK
import Wide.FinOn
import PySem.Challenge.RW_tk0088_01
open PySem PySem.W PyProof.Rows
set_option Elab.async false
set_option linter.unusedVariables false
set_option maxRecDepth 100000
set_option rowWalk.seconds 0
set_option maxHeartbeats 8000000
namespace Mine
open_top hd for PySem.Challenge.rw_tk0088_01
end Mine

namespace Mine
abbrev ent (w : World) (x : String) (k : Tok) (v : Value) : DictEntry := ⟨PyData.keyHash w.params (Str.ofString x), Value.str (Str.ofString x) k, v⟩
abbrev rtt (w : World) (k1 k2 k3 k4 k5 k6 : Tok) (la le s8 v4 fa : Value) : Obj :=
  dictOf [ent w "since" k1 .none, ent w "latest" k2 la, ent w "least" k3 le, ent w "smoothed8" k4 s8, ent w "variance4" k5 v4, ent w "first_at" k6 fa] 6

theorem news_swap {h₀ h : Heap} {L : Addr} {a b c d : Addr × Obj} {r : List (Addr × Obj)} (N : News h₀ L h (a :: b :: c :: d :: r)) : News h₀ L h (c :: d :: a :: b :: r) := fun p hp => N p (by
  rcases List.mem_cons.mp hp with rfl | hp
  · exact .tail _ (.tail _ (.head _))
  rcases List.mem_cons.mp hp with rfl | hp
  · exact .tail _ (.tail _ (.tail _ (.head _)))
  rcases List.mem_cons.mp hp with rfl | hp
  · exact .head _
  rcases List.mem_cons.mp hp with rfl | hp
  · exact .tail _ (.head _)
  · exact .tail _ (.tail _ (.tail _ (.tail _ hp))))

local macro_rules | `(tactic| k_room) => `(tactic| ktr_room)
local macro_rules | `(tactic| k_all) => `(tactic| assumption)
section
variable {w : World} {p : Program} {loose : List Str} {mean : ExcName → Option Value} {mg mb : Str → Option Value}
  {dp un : Nat} {gd : Option (List Code)} {cn : Str} {cs : Scope} {a : Addr} {ccd : Value} {cl : List (Str × Addr)} {outer : List Env} {A₀ : Around} {base h₀ : Heap} {L : Addr} {m : Str → Option Value} {news led : List (Addr × Obj)} {s : Shared}
  {Q E : Value → Shared → Prop}
theorem smooth_spec
    {x dx : Addr} {k1 k2 k3 k4 k5 k6 t3 : Tok} {la le v4 fa : Value} {s8 : Int}
    (hret : ∀ h' tk' j, Fr h₀ L h' m → News h₀ L h' led → Q (.int (s8.fdiv 8) j) { s with heap := h', toks := tk' })
    (B : Below A₀ base outer h₀ := by k_asm) (F : Fr h₀ L s.heap m := by k_asm) (X : (Mine.hd.heap_39 w.params).In h₀ := by k_asm) (T : Top p loose mean mg mb h₀ := by k_asm) (hk : cs.kind = .function := by first | assumption | exact rfl) (hd : dp + 2 < recursionLimit := by ktr_room) (hu : un + 12 < cLine := by ktr_units)
    (N9 : News h₀ L s.heap led := by k_asm) (N : News h₀ L s.heap led → News h₀ L s.heap ((x, instObj 81 dx) :: (dx, rtt w k1 k2 k3 k4 k5 k6 la le (.int s8 t3) v4 fa) :: news) := by first | exact id | exact news_swap)
    (hb : ∀ h', News h₀ L h' ((x, instObj 81 dx) :: (dx, rtt w k1 k2 k3 k4 k5 k6 la le (.int s8 t3) v4 fa) :: news) → News h₀ L h' led := by first | exact fun _ h => h | exact fun _ h => news_swap h) :
    wpAny (model PySem.Challenge.rw_tk0088_01.row.prog w) (ktrTop dp un gd cn cs L a ccd cl outer) (call (.ref 50) [.ref x]) Q E s := by
  replace N := N N9
  clear N9
  w_top off
  refine wpAny_call ?_
  k_dflt ktr_enter
  k_steps
  all_goals
    exact hret _ _ _ (by k_asm) (hb _ (by k_asm))
local macro_rules | `(tactic| walk_at "binaryOp Sub int int") => `(tactic| (refine sub_int ?_; (try dsimp only)))
local macro_rules | `(tactic| walk_at "binaryOp Add int int") => `(tactic| (refine add_int ?_; (try dsimp only)))
local macro_rules | `(tactic| walk_at "binaryOp FloorDiv int int") => `(tactic| (refine floordiv_int (by assumption) ?_ (Or.inl (‹∀ a, Builtin.divisionGoesByPylong a _ = false› _)); (try dsimp only)))
theorem less_spec
    {now was parts more : Int} {u1 u2 u3 u4 : Tok}
    (hT : ∀ h' tk', was - (was + parts - 1).fdiv parts - more ≤ now → now ≤ was - was.fdiv parts + more → Fr h₀ L h' m → News h₀ L h' news → Q (.bool true) { s with heap := h', toks := tk' })
    (hF : ∀ h' tk', (was - (was + parts - 1).fdiv parts - more ≤ now → was - was.fdiv parts + more < now) → Fr h₀ L h' m → News h₀ L h' news → Q (.bool false) { s with heap := h', toks := tk' })
    (hp : parts ≠ 0 := by decide) (hq : ∀ a, Builtin.divisionGoesByPylong a parts = false := by intro _; exact PyProof.noPylong_of_log2 (by decide +kernel))
    (B : Below A₀ base outer h₀ := by k_asm) (F : Fr h₀ L s.heap m := by k_asm) (X : (Mine.hd.heap_39 w.params).In h₀ := by k_asm) (T : Top p loose mean mg mb h₀ := by k_asm) (hk : cs.kind = .function := by first | assumption | exact rfl) (hd : dp + 2 < recursionLimit := by ktr_room) (hu : un + 12 < cLine := by ktr_units)
    (N : News h₀ L s.heap news := by k_asm) :
    wpAny (model PySem.Challenge.rw_tk0088_01.row.prog w) (ktrTop dp un gd cn cs L a ccd cl outer) (call (.ref 133) [.int now u1, .int was u2, .int parts u3, .int more u4]) Q E s := by
  w_top off
  refine wpAny_call ?_
  k_dflt ktr_enter
  k_steps
  · by_cases hc : now ≤ was - was.fdiv parts + more
    · rw [decide_eq_true hc]
      exact hT _ _ (by assumption) hc (by k_asm) (by k_asm)
    · rw [decide_eq_false hc]
      exact hF _ _ (fun _ => Int.not_le.mp hc) (by k_asm) (by k_asm)
  · rw [decide_eq_false (by assumption)]
    exact hF _ _ (fun h => absurd h (by assumption)) (by k_asm) (by k_asm)
end
end Mine

namespace Mine

/-! the plain side: what a sample makes of the numbers -/
def mi (a b : Int) : Int := if b < a then b else a
def ab (a : Int) : Int := if a < 0 then -a else a
def adj (la le ack : Int) : Int := if le + ack ≤ la then la - ack else la
def sS (s8 aj : Int) : Int := s8 - s8.fdiv 8 + aj
def sV (s8 v4 aj : Int) : Int := v4 - v4.fdiv 4 + ab (s8.fdiv 8 - aj)

theorem adj_pos {la le ack : Int} (h : le + ack ≤ la) : adj la le ack = la - ack := if_pos h
theorem adj_neg {la le ack : Int} (h : ¬ le + ack ≤ la) : adj la le ack = la := if_neg h

local macro_rules | `(tactic| k_room) => `(tactic| ktr_room)
local macro_rules | `(tactic| k_all) => `(tactic| assumption)

local macro_rules | `(tactic| walk_at "call ref") => `(tactic| (k_here; k_dflt (refine smooth_spec ?_); intros; (try dsimp only); (try k_sweep)))
section
variable {w : World} {p : Program} {loose : List Str} {mean : ExcName → Option Value} {mg mb : Str → Option Value}
  {dp un : Nat} {gd : Option (List Code)} {cn : Str} {cs : Scope} {a : Addr} {ccd : Value} {cl : List (Str × Addr)} {outer : List Env} {A₀ : Around} {base h₀ : Heap} {L : Addr} {m : Str → Option Value} {news : List (Addr × Obj)} {s : Shared}
  {Q E : Value → Shared → Prop}

theorem sample_next
    {x dx : Addr} {k1 k2 k3 k4 k5 k6 t1 t2 t3 t4 t5 : Tok} {la le s8 v4 fa : Int} {latest ack b now : Int} {u1 u2 u3 u4 : Tok}
    (hret : ∀ h' tk' j1 j2 j3 j4 le' s8' v4', le' = mi le latest → s8' = sS s8 (adj latest (mi le latest) (mi ack b)) → v4' = sV s8 v4 (adj latest (mi le latest) (mi ack b)) →
      Fr h₀ L h' m → News h₀ L h' ((x, instObj 81 dx) :: (dx, rtt w k1 k2 k3 k4 k5 k6 (.int latest j1) (.int le' j2) (.int s8' j3) (.int v4' j4) (.int fa t5)) :: news) → Q .none { s with heap := h', toks := tk' })
    (B : Below A₀ base outer h₀ := by k_asm) (F : Fr h₀ L s.heap m := by k_asm) (X : (Mine.hd.heap_39 w.params).In h₀ := by k_asm) (T : Top p loose mean mg mb h₀ := by k_asm) (hk : cs.kind = .function := by first | assumption | exact rfl) (hd : dp + 5 < recursionLimit := by ktr_room) (hu : un + 40 < cLine := by ktr_units)
    (N : News h₀ L s.heap ((x, instObj 81 dx) :: (dx, rtt w k1 k2 k3 k4 k5 k6 (.int la t1) (.int le t2) (.int s8 t3) (.int v4 t4) (.int fa t5)) :: news) := by first | k_asm | exact news_swap (by k_asm)) (hx : x ≠ dx := by k_ne) (hoff : ∀ q ∈ news, q.1 ≠ dx := by k_all) :
    wpAny (model PySem.Challenge.rw_tk0088_01.row.prog w) (ktrTop dp un gd cn cs L a ccd cl outer) (call (.ref 64) [.ref x, .int latest u1, .int ack u2, .int b u3, .int now u4]) Q E s := by
  w_top off
  refine wpAny_call ?_
  k_dflt ktr_enter
  k_steps
  all_goals
    refine hret _ _ _ _ _ _ _ _ _ ?_ ?_ ?_ (by k_asm) (by k_asm)
    · rfl
    · first | rw [adj_pos (by unfold mi; assumption)]; rfl | rw [adj_neg (by unfold mi; assumption)]; rfl
    · first | rw [adj_pos (by unfold mi; assumption)]; rfl | rw [adj_neg (by unfold mi; assumption)]; rfl

theorem sample_none
    {x dx : Addr} {k1 k2 k3 k4 k5 k6 t1 t2 t3 t4 t5 : Tok} {la le s8 v4 fa : Int} {latest ack now : Int} {u1 u2 u4 : Tok}
    (hret : ∀ h' tk' j1 j2 j3 j4 le' s8' v4', le' = mi le latest → s8' = sS s8 (adj latest (mi le latest) ack) → v4' = sV s8 v4 (adj latest (mi le latest) ack) →
      Fr h₀ L h' m → News h₀ L h' ((x, instObj 81 dx) :: (dx, rtt w k1 k2 k3 k4 k5 k6 (.int latest j1) (.int le' j2) (.int s8' j3) (.int v4' j4) (.int fa t5)) :: news) → Q .none { s with heap := h', toks := tk' })
    (B : Below A₀ base outer h₀ := by k_asm) (F : Fr h₀ L s.heap m := by k_asm) (X : (Mine.hd.heap_39 w.params).In h₀ := by k_asm) (T : Top p loose mean mg mb h₀ := by k_asm) (hk : cs.kind = .function := by first | assumption | exact rfl) (hd : dp + 5 < recursionLimit := by ktr_room) (hu : un + 40 < cLine := by ktr_units)
    (N : News h₀ L s.heap ((x, instObj 81 dx) :: (dx, rtt w k1 k2 k3 k4 k5 k6 (.int la t1) (.int le t2) (.int s8 t3) (.int v4 t4) (.int fa t5)) :: news) := by first | k_asm | exact news_swap (by k_asm)) (hx : x ≠ dx := by k_ne) (hoff : ∀ q ∈ news, q.1 ≠ dx := by k_all) :
    wpAny (model PySem.Challenge.rw_tk0088_01.row.prog w) (ktrTop dp un gd cn cs L a ccd cl outer) (call (.ref 64) [.ref x, .int latest u1, .int ack u2, .none, .int now u4]) Q E s := by
  w_top off
  refine wpAny_call ?_
  k_dflt ktr_enter
  k_steps
  all_goals
    refine hret _ _ _ _ _ _ _ _ _ ?_ ?_ ?_ (by k_asm) (by k_asm)
    · rfl
    · first | rw [adj_pos (by unfold mi; assumption)]; rfl | rw [adj_neg (by unfold mi; assumption)]; rfl
    · first | rw [adj_pos (by unfold mi; assumption)]; rfl | rw [adj_neg (by unfold mi; assumption)]; rfl

theorem sample_first
    {x dx : Addr} {k1 k2 k3 k4 k5 k6 : Tok} {v1 v2 v3 v4 : Value} {latest ack now : Int} {u1 u2 u4 : Tok} {bd : Value}
    (hret : ∀ h' tk' j1 j2 j3 j4 j5, 
      Fr h₀ L h' m → News h₀ L h' ((x, instObj 81 dx) :: (dx, rtt w k1 k2 k3 k4 k5 k6 (.int latest j1) (.int latest j2) (.int (8 * latest) j3) (.int (2 * latest) j4) (.int now j5)) :: news) → Q .none { s with heap := h', toks := tk' })
    (B : Below A₀ base outer h₀ := by k_asm) (F : Fr h₀ L s.heap m := by k_asm) (X : (Mine.hd.heap_39 w.params).In h₀ := by k_asm) (T : Top p loose mean mg mb h₀ := by k_asm) (hk : cs.kind = .function := by first | assumption | exact rfl) (hd : dp + 5 < recursionLimit := by ktr_room) (hu : un + 40 < cLine := by ktr_units)
    (N : News h₀ L s.heap ((x, instObj 81 dx) :: (dx, rtt w k1 k2 k3 k4 k5 k6 v1 v2 v3 v4 .none) :: news) := by first | k_asm | exact news_swap (by k_asm)) (hx : x ≠ dx := by k_ne) (hoff : ∀ q ∈ news, q.1 ≠ dx := by k_all) :
    wpAny (model PySem.Challenge.rw_tk0088_01.row.prog w) (ktrTop dp un gd cn cs L a ccd cl outer) (call (.ref 64) [.ref x, .int latest u1, .int ack u2, bd, .int now u4]) Q E s := by
  w_top off
  refine wpAny_call ?_
  k_dflt ktr_enter
  k_steps
  all_goals
    exact hret _ _ _ _ _ _ _ (by k_asm) (by k_asm)
end
end Mine

namespace Mine
local macro_rules | `(tactic| k_room) => `(tactic| ktr_room)
local macro_rules | `(tactic| k_all) => `(tactic| assumption)
section
variable {w : World} {p : Program} {loose : List Str} {mean : ExcName → Option Value} {mg mb : Str → Option Value}
  {dp un : Nat} {gd : Option (List Code)} {cn : Str} {cs : Scope} {a : Addr} {ccd : Value} {cl : List (Str × Addr)} {outer : List Env} {A₀ : Around} {base h₀ : Heap} {L : Addr} {m : Str → Option Value} {news : List (Addr × Obj)} {s : Shared}
  {Q E : Value → Shared → Prop}
theorem rtt_new
    
    (hret : ∀ x dx h' tk' k1 k2 k3 k4 k5 k6 j1 j2 j3 j4, Fr h₀ L h' m → (∀ q ∈ news, q.1 < dx) → dx < x →
      News h₀ L h' ((x, instObj 81 dx) :: (dx, rtt w k1 k2 k3 k4 k5 k6 (.int 0 j1) (.int 0 j2) (.int (8 * 333000) j3) (.int (2 * 333000) j4) .none) :: news) → Q (.ref x) { s with heap := h', toks := tk' })
    (B : Below A₀ base outer h₀ := by k_asm) (F : Fr h₀ L s.heap m := by k_asm) (X : (Mine.hd.heap_39 w.params).In h₀ := by k_asm) (T : Top p loose mean mg mb h₀ := by k_asm) (hk : cs.kind = .function := by first | assumption | exact rfl) (hd : dp + 5 < recursionLimit := by ktr_room) (_hu : un + 40 < cLine := by ktr_units)
    (N : News h₀ L s.heap news := by k_asm) :
    wpAny (model PySem.Challenge.rw_tk0088_01.row.prog w) (ktrTop dp un gd cn cs L a ccd cl outer) (call (.ref 81) []) Q E s := by
  w_top off
  k_dflt (refine' call_cls ?k1 ?k2 ?k3 ?k4 ?k5 ?k6 ?_; (case k1 => k_asm); (case k2 => k_asm); (case k3 => k_asm); (case k4 => k_is); (case k5 => k_is); (case k6 => k_is); k_whole)
  intro x dx h1 F1 N1 l1 l2
  have l1' := l1
  try k_lt l1
  try k_lt2 l2
  clear F N
  k_dflt (refine' code_def ?k1 ?k2 ?k3 ?k4 ?k5 ?kA ?kF ?kK ?k6 ?k7 ?k8 ?k9 ?kB ?_ ?c2 ?c3 ?c4 ?c5; (case kA => exact rfl); (case kF => exact rfl); (case kK => assumption); (case k1 => k_asm); (case k2 => k_asm); (case k3 => k_asm); (case k4 => k_asm); (case k5 => k_asm); (case k6 => k_is); (case k7 => k_is); (case k8 => k_room); (case k9 => first | exact BindsTo.of_eq rfl | exact binds_K (by k_in) rfl (by k_is) rfl rfl rfl); (case c5 => decide); (case kB => exact locs rfl); (case c2 => exact rfl); (case c3 => exact rfl); (case c4 => exact rfl); k_whole; intro g' L' h' FG' F' N' B' X' T'; (try dsimp only); (try k_fold))
  k_steps
  exact hret _ _ _ _ _ _ _ _ _ _ _ _ _ _ (by k_asm) l1' l2 (by k_asm)
end
end Mine

namespace Mine
local macro_rules | `(tactic| k_room) => `(tactic| ktr_room)
local macro_rules | `(tactic| k_all) => `(tactic| assumption)

section
variable {w : World} {p : Program} {loose : List Str} {mean : ExcName → Option Value} {mg mb : Str → Option Value}
  {dp un : Nat} {gd : Option (List Code)} {cn : Str} {cs : Scope} {a : Addr} {ccd : Value} {cl : List (Str × Addr)} {outer : List Env} {A₀ : Around} {base h₀ : Heap} {L : Addr} {m : Str → Option Value} {news : List (Addr × Obj)} {s : Shared}
  {Q E : Value → Shared → Prop}

theorem take_spec
    {bx c : Addr} {at_ many : Int} {t t1 : Tok} {n n2 : Nat} {vs : List Value} {ns : List Int}
    (hret : ∀ h' tk' r j1 j2, 0 ≤ r → r < many → Fr h₀ L h' m → News h₀ L h' ((bx, listOf [Value.ref c, Value.int (at_ + 1) j1].toArray n) :: (c, listOf vs.toArray n2) :: news) → Q (.int r j2) { s with heap := h', toks := tk' })
    (B : Below A₀ base outer h₀ := by k_asm) (F : Fr h₀ L s.heap m := by k_asm) (X : (Mine.hd.heap_39 w.params).In h₀ := by k_asm) (T : Top p loose mean mg mb h₀ := by k_asm) (hk : cs.kind = .function := by first | assumption | exact rfl) (hd : dp + 5 < recursionLimit := by ktr_room) (hu : un + 40 < cLine := by ktr_units)
    (N : News h₀ L s.heap ((bx, listOf [Value.ref c, Value.int at_ t].toArray n) :: (c, listOf vs.toArray n2) :: news) := by first | k_asm | exact perm1 (by k_asm) | exact perm2 (by k_asm) | exact perm3 (by k_asm)) (hoff : ∀ q ∈ news, q.1 ≠ bx := by k_all) (hcb : c ≠ bx := by k_ne) (hi : IntsAre vs ns := by assumption) (hlen : ns.length ≤ 40 := by first | assumption | (simp only [List.length_map, List.length_take]; omega)) (h0 : 0 ≤ at_ := by omega) (h9 : at_ ≤ 1000 := by omega) (hm : 1 ≤ many := by omega) (hm9 : many ≤ 1000 := by omega) :
    wpAny (model PySem.Challenge.rw_tk0088_01.row.prog w) (ktrTop dp un gd cn cs L a ccd cl outer) (call (.ref 126) [.ref bx, .int many t1]) Q E s := by
  w_top off
  refine wpAny_call ?_
  k_dflt ktr_enter
  k_steps
  all_goals exact hret _ _ _ _ _ (Int.fmod_nonneg_of_pos _ (by omega)) (Int.fmod_lt_of_pos _ (by omega)) (by k_asm) (by k_asm)
end
end Mine

namespace Mine

/-! a comprehension over a tuple of the base, any names closed over -/
section
variable {prog : Program} {w : World} {A : Around} {E : Value → Shared → Prop} {s : Shared} {h₀ : Heap} {L : Addr} {m : Str → Option Value} {env : Env}
def SrcT (prog : Program) (w : World) (A : Around) (h₀ : Heap) (L : Addr) (m : Str → Option Value) (env : Env) (elt : Expr) (x : Str) (scope : Scope) (cl : List (Str × Addr)) (Fin : Shared → List Value → List (Addr × Obj) → Prop) (xv : Value) (s₁ : Shared) : Prop :=
  ∃ ax its news, xv = .ref ax ∧ A.handled = none ∧ Fr h₀ L s₁.heap m ∧ News h₀ L s₁.heap news ∧ h₀.IsTuple ax its ∧ its.size ≤ sizeLine ∧
    ∀ s₂ : Shared, (∃ h, s₂ = { s₁ with heap := h }) → LCg.CompRest prog w A h₀ L m env elt x scope cl s₂ (fun _ => True) (fun i v => its[i]? = some v) (Fin s₂) its.size 0 [] news
theorem SrcT.intro {elt : Expr} {x : Str} {scope : Scope} {cl : List (Str × Addr)} {Fin : Shared → List Value → List (Addr × Obj) → Prop} {ax : Addr} {its : Array Value} {news : List (Addr × Obj)} {s₁ : Shared}
    (hh : A.handled = none) (F : Fr h₀ L s₁.heap m) (N : News h₀ L s₁.heap news) (hl : h₀.IsTuple ax its) (hsz : its.size ≤ sizeLine)
    (h : ∀ g, LCg.CompRest prog w A h₀ L m env elt x scope cl { s₁ with heap := g } (fun _ => True) (fun i v => its[i]? = some v) (Fin { s₁ with heap := g }) its.size 0 [] news) :
    SrcT prog w A h₀ L m env elt x scope cl Fin (.ref ax) s₁ := ⟨ax, its, news, rfl, hh, F, N, hl, hsz, fun _ ⟨g, e⟩ => e ▸ h g⟩

theorem tup_st {ax I : Addr} {its : Array Value} (ht : h₀.IsTuple ax its) (i : Nat) (h h' : Heap) (o : Obj) (nw : List (Addr × Obj)) (st : h.IsTupleIter I ax i ∧ h.IsTuple ax its) (e : h.get? I = some o) (e' : h'.get? I = some o)
    (k : ∀ b o, h₀.get? b = some o → h'.get? b = some o) (_ : News h₀ L h' nw) (_ : True) : h'.IsTupleIter I ax i ∧ h'.IsTuple ax its := by
  obtain ⟨o', q, r⟩ := st.1
  rw [e] at q; cases q
  exact ⟨⟨o, e', r⟩, ht.at fun o x => k ax o x⟩

theorem ListComp_tup {elt iter : Expr} {x : Str} {px : Pos} {scope : Scope} {cl : List (Str × Addr)} {pos : Pos} {Q : Value → Shared → Prop} (_F₀ : Fr h₀ L s.heap m)
    (hclos : closureFor scope env = pure cl) (hcell : ∀ y ∈ scope.names, y.2 ≠ .cell) (hkind : scope.kind = .function)
    (hnames : ∀ y ∈ scope.names, y.2 = .local → scope.names.lookup y.1 = some .local) (hx : scope.names.lookup x = some .local)
    (h : wpAny (model prog w) A (eval iter env) (SrcT prog w A h₀ L m env elt x scope cl (fun s₂ => LCg.FinE h₀ L m s₂ Q)) E s)
    (hs : ∀ x, foldedSetIterable iter env x = pure x := by intro _; rfl) :
    wpAny (model prog w) A (eval (.ListComp elt [⟨.Name x px, iter, [], 0⟩] scope pos) env) Q E s := by
  rw [eval_ListComp]
  refine wpAny_comprehension_free (use := none) rfl hs hclos hkind hnames (wpAny_mono h (fun xv s₁ h₁ => ?_) fun _ _ e => e)
  obtain ⟨ax, its, news, rfl, hh, F, N, ht, hsz, R⟩ := h₁
  have hl : s₁.heap.IsTuple ax its := ht.at fun o e => F.keep ax o e
  have hlt : ax < s₁.heap.objs.size := by obtain ⟨_, e, _⟩ := hl; exact Heap.lt_size e
  refine wpAny_pyIter_tuple hl ?_
  have up : ∀ b o, s₁.heap.get? b = some o → (s₁.heap.push { cls := .type "tuple_iterator", data := .fields #[.ref ax, .int 0 0] }).get? b = some o := fun b o e => Heap.get?_push_of_some _ e
  refine LCg.block_U (Walks.tuple hh s₁.heap.objs.size ax (Nat.ne_of_lt hlt) its) hsz (fun i h st => ?_) (tup_st ht) hcell hkind hx ⟨⟨_, Heap.get?_push_size _ rfl, rfl, rfl⟩, hl.at fun o e => up ax o e⟩ (fun b hb => ?_)
    (F.keeps up) (N.grown up) (Nat.ne_of_lt F.ns.lt) (next_is_new F) (fun p hp => Nat.ne_of_lt (Heap.lt_size (N p hp).1)) trivial (R _ ⟨_, rfl⟩) ?_
  · obtain ⟨o, e, _⟩ := st.1; exact ⟨o, e⟩
  · show b < (s₁.heap.push _).objs.size
    rw [Heap.size_push]
    rcases List.mem_cons.mp hb with rfl | hb
    · exact Nat.lt_succ_self _
    · rw [List.mem_singleton.mp hb]; exact Nat.lt_succ_of_lt hlt
  · intro D C h' tk m' ys news' F' N' o1 hn hC₀ hD₀ hCL hDL hCD offC fin
    refine ⟨m', hn, fun h'' hs'' => fin D h'' tk (F'.change hs'' hCL hC₀) (fun p hp => ?_) o1⟩
    refine ⟨hs''.extBut _ _ ?_ (N' p hp).1, (N' p hp).2⟩
    rcases List.mem_cons.mp hp with rfl | hp
    · exact Ne.symm hCD
    · exact offC p hp
end

theorem unrEndW_top {h₀ : Heap} {L I : Addr} {o : Obj} {rest : (Str → Option Value) → List (Addr × Obj) → Prop} {s₁ : Shared} {h' : Heap} {tk : Nat} {m' : Str → Option Value} {news' : List (Addr × Obj)} (F : Fr h₀ L h' m') (N : News h₀ L h' ((I, o) :: news'))
    (lt : AllLt I news') (r : rest m' news') : UnrEndW h₀ L s₁ [(I, o)] rest { s₁ with heap := h', toks := tk } :=
  ⟨h', tk, m', news', rfl, F, N, fun p hp q hq => by rw [List.mem_singleton.mp hq]; exact Nat.ne_of_lt (ktn_ltOf lt p hp), r⟩
theorem unrEndW_top2 {h₀ : Heap} {L I T : Addr} {o t : Obj} {rest : (Str → Option Value) → List (Addr × Obj) → Prop} {s₁ : Shared} {h' : Heap} {tk : Nat} {m' : Str → Option Value} {news' : List (Addr × Obj)} (F : Fr h₀ L h' m') (N : News h₀ L h' ((T, t) :: (I, o) :: news'))
    (hn : @LT.lt Nat _ I T) (lt : AllLt I news') (r : rest m' ((T, t) :: news')) : UnrEndW h₀ L s₁ [(I, o)] rest { s₁ with heap := h', toks := tk } := by
  refine ⟨h', tk, m', (T, t) :: news', rfl, F, fun p hp => N p ?_, fun p hp q hq => ?_, r⟩
  · rcases List.mem_cons.mp hp with rfl | hp
    · exact .tail _ (.head _)
    · rcases List.mem_cons.mp hp with rfl | hp
      · exact .head _
      · exact .tail _ (.tail _ hp)
  · rw [List.mem_singleton.mp hq]
    rcases List.mem_cons.mp hp with rfl | hp
    · exact Nat.ne_of_gt hn
    · exact Nat.ne_of_lt (ktn_ltOf lt p hp)
local macro_rules | `(tactic| walk_at "UnrEndW") => `(tactic| first
  | (refine unrEndW_top (by k_asm) (by k_asm) (by tbn_lt) ⟨trivial, ?_⟩)
  | (refine unrEndW_top2 (by k_asm) (by k_asm) (by tbn_below) (by tbn_lt) ⟨trivial, ?_⟩))
local macro_rules | `(tactic| walk_at "exec For Name Name cons nil") => `(tactic| (k_here; (rename Fr _ _ _ _ => lF'); (with_unfolding_all refine' For_turnsG lF' ?g ?_; (case g => exact rfl); k_whole)))
local macro_rules | `(tactic| k_room) => `(tactic| ktr_room)
local macro_rules | `(tactic| k_all) => `(tactic| assumption)
local macro_rules | `(tactic| walk_at "eval ListComp") => `(tactic| (k_here; k_dflt (refine ListComp_tup (by k_asm) (by with_unfolding_all rfl) (by decide) (by rfl) (by decide) (by rfl) ?_)))
local macro_rules | `(tactic| walk_at "exec Assign cons Tuple") => `(tactic| ((with_reducible show wpAny _ _ (exec (Stmt.Assign [Expr.Name _ _] _ _) _) _ _ _); k_dflt (refine wpAny_Assign_Name ?_)))
local macro_rules | `(tactic| walk_at "SrcT") => `(tactic| (k_here; k_dflt (refine SrcT.intro (by rfl) (by k_asm) (by k_asm) (tupK (by k_in) (by k_is)) (by exact Nat.le_of_ble_eq_true rfl) ?_; intro g'; lcg_lit)))
local macro_rules | `(tactic| walk_at "CompEnd") => `(tactic| (refine LCg.CompEnd.intro (by k_asm) (by k_asm) _ (fun _ hp => hp) (by first | assumption | (simp only [LCg.Off3, and_true]; assumption)) trivial ?_))
local macro_rules | `(tactic| mul_fits) => `(tactic| exact PySem.IntMulOk.of_right (by assumption))
theorem pow_bits {c : Int} (h0 : 0 ≤ c) (h2 : c ≤ 2) : Builtin.Int.intBits ((2 : Int) ^ c.toNat) ≤ 64 := by
  have h : c = 0 ∨ c = 1 ∨ c = 2 := by omega
  rcases h with rfl | rfl | rfl <;> decide
def mx (a b : Int) : Int := if b > a then b else a
def baseOf (s8 v4 : Int) : Int := s8.fdiv 8 + mx v4 1000
section
variable {w : World} {p : Program} {loose : List Str} {mean : ExcName → Option Value} {mg mb : Str → Option Value}
  {dp un : Nat} {gd : Option (List Code)} {cn : Str} {cs : Scope} {a : Addr} {ccd : Value} {cl : List (Str × Addr)} {outer : List Env} {A₀ : Around} {base h₀ : Heap} {L : Addr} {m : Str → Option Value} {news : List (Addr × Obj)} {s : Shared}
  {Q E : Value → Shared → Prop}

theorem probe_spec
    {x dx : Addr} {k1 k2 k3 k4 k5 k6 t1 t2 t3 t4 t5 : Tok} {la le s8 v4 fa : Int} {now count : Int} {u1 u2 : Tok}
    (hret : ∀ h' tk' j, Fr h₀ L h' m → News h₀ L h' ((x, instObj 81 dx) :: (dx, rtt w k1 k2 k3 k4 k5 k6 (.int la t1) (.int le t2) (.int s8 t3) (.int v4 t4) (.int fa t5)) :: news) → Q (.int (now + (baseOf s8 v4 + 25) * 2 ^ count.toNat) j) { s with heap := h', toks := tk' })
    (B : Below A₀ base outer h₀ := by k_asm) (F : Fr h₀ L s.heap m := by k_asm) (X : (Mine.hd.heap_39 w.params).In h₀ := by k_asm) (T : Top p loose mean mg mb h₀ := by k_asm) (hk : cs.kind = .function := by first | assumption | exact rfl) (hd : dp + 5 < recursionLimit := by ktr_room) (hu : un + 40 < cLine := by ktr_units)
    (N : News h₀ L s.heap ((x, instObj 81 dx) :: (dx, rtt w k1 k2 k3 k4 k5 k6 (.int la t1) (.int le t2) (.int s8 t3) (.int v4 t4) (.int fa t5)) :: news) := by first | k_asm | exact news_swap (by k_asm)) (hx : x ≠ dx := by k_ne) (hoff : ∀ q ∈ news, q.1 ≠ dx := by k_all) (h0 : 0 ≤ count := by assumption) (h2 : count ≤ 2 := by assumption) :
    wpAny (model PySem.Challenge.rw_tk0088_01.row.prog w) (ktrTop dp un gd cn cs L a ccd cl outer) (call (.ref 147) [.ref x, .int now u1, .int count u2]) Q E s := by
  have hb := pow_bits h0 h2
  w_top off
  refine wpAny_call ?_
  k_dflt ktr_enter
  k_steps
  all_goals
    rename News _ _ _ _ => hN
    exact hret _ _ _ (by k_asm) (fun p hp => hN p (by repeat (first | exact hp | refine List.Mem.tail _ ?_)))
end
end Mine

namespace Mine
/-! a loop over enumerate(a list of the ledger), by what holds between the turns -/
section
variable {prog : Program} {w : World} {A : Around} {E : Value → Shared → Prop} {s : Shared} {h₀ : Heap} {env : Env} {body : List Stmt} {Q : Flow → Shared → Prop}

theorem enum_rest {target : Expr} {I l : Addr} {lo : Obj} {adr : List Addr} {vs : List Value}
    (J : Nat → (Str → Option Value) → List (Addr × Obj) → Prop) (hkeep : ∀ i m nx, J i m nx → (l, lo) ∈ nx) (hadr : ∀ i m nx, J i m nx → nx.map (·.1) = adr) (hI : ∀ b ∈ adr, b < I)
    (turn : ∀ i x T t m₁ nx h tk its, vs[i]? = some x → J i m₁ nx → OwnOff its adr → IsTup h T #[.int (i : Int) t, x] → Fr h₀ env.locals h m₁ → News h₀ env.locals h (nx ++ its) →
      ∀ R : Flow → Shared → Prop, (∀ s', InvEndN h₀ env.locals (J (i + 1)) its adr { s with heap := h, toks := tk } s' → R .next s') →
      wpAny (model prog w) A (assign target env (.ref T)) (fun _ s₂ => wpAny (model prog w) A (execs body env) R E s₂) E { s with heap := h, toks := tk })
    (done : ∀ m₁ nx h tk, J vs.length m₁ nx → Fr h₀ env.locals h m₁ → News h₀ env.locals h nx → Q .next { s with heap := h, toks := tk }) :
    ∀ (r pre : List Value) m nx, vs = pre ++ r → J pre.length m nx →
      ItemsRest prog w A E h₀ env target body Q s [(I + 1, "enumerate"), (I, "list_iterator")] [(l, lo)] (enumItems pre.length r) m nx
  | [], pre, m, nx, e, hJ => ItemsRest.zero fun h tk F N => done m nx h tk (by rw [e, List.append_nil]; exact hJ) F N
  | x :: r, pre, m, nx, e, hJ => by
    refine ItemsRest.pair (f := fun t => .int (pre.length : Int) t) fun T t h tk hT F => ?_
    intro o ho o' ho' N
    have hlt : ∀ p ∈ nx, @LT.lt Nat _ p.1 I := fun p hp => hI _ (hadr _ _ _ hJ ▸ List.mem_map.mpr ⟨p, hp, rfl⟩)
    have hoff : OwnOff [(I + 1, o), (I, o')] adr := by
      intro p hp b hb
      have hb' : @LT.lt Nat _ b I := hI b hb
      rcases List.mem_cons.mp hp with rfl | hp
      · exact Nat.ne_of_gt (Nat.lt_succ_of_lt hb')
      · rw [List.mem_singleton.mp hp]; exact Nat.ne_of_gt hb'
    have hx : vs[pre.length]? = some x := by rw [e]; simp
    refine wpAny_mono (turn pre.length x T t m nx h tk _ hx hJ hoff hT F (fun p hp => N p ((List.mem_append.mp hp).elim (fun q => List.mem_append.mpr (.inr q)) fun q => List.mem_append.mpr (.inl q))) (InvPostN h₀ env.locals (J (pre.length + 1)) [(I + 1, o), (I, o')] adr { s with heap := h, toks := tk } Q) fun _ hE => hE) (fun _ s₂ h₂ => wpAny_mono h₂ (fun f s₃ p => ?_) fun _ _ e => e) fun _ _ e => e
    have fin : InvEndN h₀ env.locals (J (pre.length + 1)) [(I + 1, o), (I, o')] adr { s with heap := h, toks := tk } s₃ →
        UnrEndW h₀ env.locals { s with heap := h, toks := tk } [(I + 1, o), (I, o')] (fun m' n' => SubL [(l, lo)] n' ∧ ItemsRest prog w A E h₀ env target body Q s [(I + 1, "enumerate"), (I, "list_iterator")] [(l, lo)] (enumItems (pre.length + 1) r) m' n') s₃ := by
      rintro ⟨h', tk', m', news', nx', e', F', N', hn, hown, ha, hJ'⟩
      refine ⟨h', tk', m', nx', e', F', fun p hp => N' p ((List.mem_append.mp hp).elim (hown p) (hn p)), fun p hp q hq e9 => ?_, ⟨hkeep _ _ _ hJ', trivial⟩, ?_⟩
      · exact hoff q hq p.1 (ha ▸ List.mem_map.mpr ⟨p, hp, rfl⟩) e9.symm
      · have := enum_rest J hkeep hadr hI turn done r (pre ++ [x]) m' nx' (by rw [e]; simp) (by rw [List.length_append]; exact hJ')
        rw [List.length_append] at this
        exact this
    cases f with
    | ret v => exact p
    | brk => exact p
    | next => exact fin p
    | cont => exact fin p

theorem enum_inv {elts : List Expr} {k : Nat} {pos : Pos} {l : Addr} {lo : Obj} {vs : List Value} {n : Nat} {m₀ : Str → Option Value} {news : List (Addr × Obj)}
    (J : Nat → (Str → Option Value) → List (Addr × Obj) → Prop)
    (hh : A.handled = none) (F : Fr h₀ env.locals s.heap m₀) (N : News h₀ env.locals s.heap news) (hc : lo.cls = .type "list") (hd : lo.data = .seq vs.toArray n)
    (h0 : J 0 m₀ news) (hkeep : ∀ i m nx, J i m nx → (l, lo) ∈ nx) (hadr : ∀ i m nx, J i m nx → nx.map (·.1) = news.map (·.1))
    (turn : ∀ i x T t m₁ nx h tk its, vs[i]? = some x → J i m₁ nx → OwnOff its (news.map (·.1)) → IsTup h T #[.int (i : Int) t, x] → Fr h₀ env.locals h m₁ → News h₀ env.locals h (nx ++ its) →
      ∀ R : Flow → Shared → Prop, (∀ s', InvEndN h₀ env.locals (J (i + 1)) its (news.map (·.1)) { s with heap := h, toks := tk } s' → R .next s') →
      wpAny (model prog w) A (assign (.Tuple elts k pos) env (.ref T)) (fun _ s₂ => wpAny (model prog w) A (execs body env) R E s₂) E { s with heap := h, toks := tk })
    (done : ∀ m₁ nx h tk, J vs.length m₁ nx → Fr h₀ env.locals h m₁ → News h₀ env.locals h nx → Q .next { s with heap := h, toks := tk }) :
    wpAny (model prog w) A (call (.type "enumerate") [.ref l]) (fun xv s₁ => wpAny (model prog w) A (pyIter xv) (fun it s₂ => TurnsAt prog w A h₀ env (.Tuple elts k pos) body Q E it s₂) E s₁) E s :=
  ktu_enum hh F N (hkeep _ _ _ h0) hc hd rfl fun I hI =>
    enum_rest J hkeep hadr (fun b hb => by obtain ⟨p, hp, rfl⟩ := List.mem_map.mp hb; exact hI p hp) turn done vs [] m₀ news rfl h0

/-! two objects of the class Rtt in the ledger, and what holds of them between the turns -/
theorem news_tail {h₀ h : Heap} {L : Addr} {q : Addr × Obj} {l : List (Addr × Obj)} (N : News h₀ L h (q :: l)) : News h₀ L h l := fun p hp => N p (.tail _ hp)

theorem open2 {P : Prop} {h₀ h : Heap} {L x1 d1 x2 d2 : Addr} {D1 D2 : Obj} {q : Addr × Obj} {news : List (Addr × Obj)} (_N : News h₀ L h (q :: (x2, instObj 81 d2) :: (d2, D2) :: (x1, instObj 81 d1) :: (d1, D1) :: news))
    (k : ∀ y1 e1 y2 e2 : Addr, y1 = x1 → e1 = d1 → y2 = x2 → e2 = d2 → P) : P := k _ _ _ _ rfl rfl rfl rfl

def AllAt (m : Str → Option Value) (l : List (Str × Value)) : Prop := ∀ p ∈ l, m p.1 = some p.2
theorem AllAt.nil {m : Str → Option Value} : AllAt m [] := fun _ hp => nomatch hp
theorem AllAt.cons {m : Str → Option Value} {p : Str × Value} {l : List (Str × Value)} (h : m p.1 = some p.2) (r : AllAt m l) : AllAt m (p :: l) := List.forall_mem_cons.mpr ⟨h, r⟩

def J2 {σ : Type} (x1 d1 x2 d2 : Addr) (news : List (Addr × Obj)) (ps : σ → List (Str × Value)) (C : Nat → Obj → Obj → σ → Prop) (i : Nat) (m : Str → Option Value) (nx : List (Addr × Obj)) : Prop :=
  ∃ (D1 D2 : Obj) (c : σ), nx = (x2, instObj 81 d2) :: (d2, D2) :: (x1, instObj 81 d1) :: (d1, D1) :: news ∧ AllAt m (ps c) ∧ C i D1 D2 c
section
variable {σ : Type} {x1 d1 x2 d2 : Addr} {news : List (Addr × Obj)} {ps : σ → List (Str × Value)} {C : Nat → Obj → Obj → σ → Prop} {i : Nat} {m : Str → Option Value} {nx : List (Addr × Obj)}
theorem J2.keep {q : Addr × Obj} (hq : q ∈ news) (h : J2 x1 d1 x2 d2 news ps C i m nx) : q ∈ nx := by
  obtain ⟨D1, D2, c, rfl, _⟩ := h
  exact .tail _ (.tail _ (.tail _ (.tail _ hq)))
theorem J2.adr (h : J2 x1 d1 x2 d2 news ps C i m nx) : nx.map (·.1) = x2 :: d2 :: x1 :: d1 :: news.map (·.1) := by
  obtain ⟨D1, D2, c, rfl, _⟩ := h
  rfl
theorem J2.turn {P : Prop} {h₀ h : Heap} {L : Addr} {its : List (Addr × Obj)} {adr : List Addr} (hJ : J2 x1 d1 x2 d2 news ps C i m nx) (F : Fr h₀ L h m) (N : News h₀ L h (nx ++ its)) (hoff : OwnOff its adr) (hadr : adr = x2 :: d2 :: x1 :: d1 :: news.map (·.1)) (h1 : AllLt d1 news) (h2 : AllLt d2 news)
    (k : ∀ rest D1 D2 c, (∀ p ∈ news, p ∈ rest) → (∀ p ∈ its, p ∈ rest) → (∀ p ∈ rest, p.1 ≠ d1) → (∀ p ∈ rest, p.1 ≠ d2) → Fr h₀ L h (kstB m (ps c)) → News h₀ L h ((x2, instObj 81 d2) :: (d2, D2) :: (x1, instObj 81 d1) :: (d1, D1) :: rest) → C i D1 D2 c → P) : P := by
  subst hadr
  obtain ⟨D1, D2, c, rfl, hm, hC⟩ := hJ
  refine k (news ++ its) D1 D2 c (fun p hp => List.mem_append.mpr (.inl hp)) (fun p hp => List.mem_append.mpr (.inr hp)) (fun p hp => ?_) (fun p hp => ?_) ?_ N hC
  · rcases List.mem_append.mp hp with hp | hp
    · exact Nat.ne_of_lt (ktn_ltOf h1 p hp)
    · exact hoff p hp _ (.tail _ (.tail _ (.tail _ (.head _))))
  · rcases List.mem_append.mp hp with hp | hp
    · exact Nat.ne_of_lt (ktn_ltOf h2 p hp)
    · exact hoff p hp _ (.tail _ (.head _))
  · have e : kstB m (ps c) = m := funext fun z => kstB_eq hm fun _ => rfl
    rw [e]
    exact F
theorem J2.out {P : Prop} {h₀ h : Heap} {L : Addr} (hJ : J2 x1 d1 x2 d2 news ps C i m nx) (F : Fr h₀ L h m) (N : News h₀ L h nx)
    (k : ∀ D1 D2 c, Fr h₀ L h (kstB m (ps c)) → News h₀ L h ((x2, instObj 81 d2) :: (d2, D2) :: (x1, instObj 81 d1) :: (d1, D1) :: news) → C i D1 D2 c → P) : P := by
  obtain ⟨D1, D2, c, rfl, hm, hC⟩ := hJ
  have e : kstB m (ps c) = m := funext fun z => kstB_eq hm fun _ => rfl
  exact k D1 D2 c (by rw [e]; exact F) N hC
theorem J2.fin {h₀ h' : Heap} {L : Addr} {its rest all : List (Addr × Obj)} {m' : Str → Option Value} {s₁ : Shared} {tk : Nat} {D1 D2 : Obj} (c : σ) (F : Fr h₀ L h' m') (N : News h₀ L h' all)
    (hs : ∀ p ∈ (x2, instObj 81 d2) :: (d2, D2) :: (x1, instObj 81 d1) :: (d1, D1) :: rest, p ∈ all) (hn : ∀ p ∈ news, p ∈ rest) (hi : ∀ p ∈ its, p ∈ rest) (hm : AllAt m' (ps c)) (hC : C i D1 D2 c) {adr : List Addr} (hadr : adr = x2 :: d2 :: x1 :: d1 :: news.map (·.1)) :
    InvEndN h₀ L (J2 x1 d1 x2 d2 news ps C i) its adr s₁ { s₁ with heap := h', toks := tk } := by
  subst hadr
  refine ⟨h', tk, m', all, (x2, instObj 81 d2) :: (d2, D2) :: (x1, instObj 81 d1) :: (d1, D1) :: news, rfl, F, N, fun p hp => hs p ?_, fun p hp => hs p (.tail _ (.tail _ (.tail _ (.tail _ (hi p hp))))), rfl, D1, D2, c, rfl, hm, hC⟩
  rcases List.mem_cons.mp hp with rfl | hp
  · exact .head _
  rcases List.mem_cons.mp hp with rfl | hp
  · exact .tail _ (.head _)
  rcases List.mem_cons.mp hp with rfl | hp
  · exact .tail _ (.tail _ (.head _))
  rcases List.mem_cons.mp hp with rfl | hp
  · exact .tail _ (.tail _ (.tail _ (.head _)))
  · exact .tail _ (.tail _ (.tail _ (.tail _ (hn p hp))))
end
end

/-! a comprehension of ints over a list of the ledger of any length -/
section
variable {prog : Program} {w : World} {A : Around} {s : Shared} {h₀ : Heap} {L : Addr} {m : Str → Option Value} {env : Env}
theorem comp_ints {elt : Expr} {x : Str} {scope : Scope} {cl : List (Str × Addr)} {S : List (Addr × Obj) → Prop} {its : Array Value} {rs : List Int} {Fin : List Value → List (Addr × Obj) → Prop} {news : List (Addr × Obj)} (hS : S news)
    (step : ∀ (i : Nat) v I oI C oC D m₂ h tk E' ys, its[i]? = some v → LCg.NsObj oC m₂ → m₂ x = some v → Fr h₀ L h m → News h₀ L h ((I, oI) :: (C, oC) :: (D, LCg.lst ys) :: news) →
      ∀ R : Value → Shared → Prop, (∀ la t h' tk', rs[i]? = some la → Fr h₀ L h' m → News h₀ L h' ((I, oI) :: (C, oC) :: (D, LCg.lst ys) :: news) → R (.int la t) { s with heap := h', toks := tk' }) →
        wpAny (model prog w) A (eval elt (compEnvC scope cl C env)) R E' { s with heap := h, toks := tk })
    (fin : ∀ ys, IntsAre ys rs → Fin ys news) :
    ∀ (k i : Nat) (ys : List Value), i + k = rs.length → IntsAre ys (rs.take i) → LCg.CompRest prog w A h₀ L m env elt x scope cl s S (fun i v => its[i]? = some v) Fin k i ys news
  | 0, i, ys, e, hi => LCg.CompRest.zero (fin ys (by rw [show rs.take i = rs from List.take_of_length_le (by omega)] at hi; exact hi))
  | k + 1, i, ys, e, hi => LCg.CompRest.succ fun v I oI C oC D m₂ h tk E' hv hC hx F N off ne =>
      step i v I oI C oC D m₂ h tk E' ys hv hC hx F N _ fun la t h' tk' hla F' N' =>
        ⟨h', tk', news, rfl, F', N', off, hS, comp_ints hS step fin k (i + 1) (ys ++ [.int la t]) (by omega) (by
          rw [show rs.take (i + 1) = rs.take i ++ [la] by simp [List.take_add_one, hla]]
          exact hi.append (.cons _ _ .nil))⟩
end
end Mine

namespace Mine
theorem fd8 (a : Int) : a.fdiv 8 = a / 8 := Int.fdiv_eq_ediv_of_nonneg a (by decide)
theorem fd4 (a : Int) : a.fdiv 4 = a / 4 := Int.fdiv_eq_ediv_of_nonneg a (by decide)
theorem ab_cases (a : Int) : (0 ≤ a ∧ ab a = a) ∨ (a < 0 ∧ ab a = -a) := by unfold ab; split <;> omega
theorem adj0 (la le : Int) : adj la (mi le la) 0 = la := by unfold adj mi; split <;> split <;> omega
theorem first_math {S1 S2 V1 V2 fi se la le1 le2 s8a v4a s8b v4b : Int} (hfi : 0 ≤ fi) (e1 : fi = S2 - S1) (e2 : se = V2 - V1) (a1 : s8a = sS S1 (adj la (mi le1 la) 0)) (a2 : v4a = sV S1 V1 (adj la (mi le1 la) 0))
    (b1 : s8b = sS S2 (adj (la + 0) (mi le2 (la + 0)) 0)) (b2 : v4b = sV S2 V2 (adj (la + 0) (mi le2 (la + 0)) 0)) :
    fi - (fi + 8 - 1).fdiv 8 - 0 ≤ s8b - s8a ∧ s8b - s8a ≤ fi - fi.fdiv 8 + 0 ∧ 0 ≤ s8b - s8a ∧
    se - (se + 4 - 1).fdiv 4 - (S2.fdiv 8 - S1.fdiv 8) ≤ v4b - v4a ∧ v4b - v4a ≤ se - se.fdiv 4 + (S2.fdiv 8 - S1.fdiv 8) := by
  rw [adj0] at a1 a2 b1 b2
  rw [Int.add_zero] at b1 b2
  simp only [sS, sV, fd8, fd4] at *
  rcases ab_cases (S1 / 8 - la) with ⟨h1, h2⟩ | ⟨h1, h2⟩ <;> rcases ab_cases (S2 / 8 - la) with ⟨h3, h4⟩ | ⟨h3, h4⟩ <;> rw [h2] at a2 <;> rw [h4] at b2 <;> subst a1 a2 b1 b2 <;> clear h2 h4 <;> omega

/-- what a bound leaves of a told delay -/
def capd (bd : PySem.Value) (ack : Int) : Int := match bd with
  | .int b _ => mi ack b
  | _ => ack
theorem mi_add (a b d : Int) : mi (a + d) (b + d) = mi a b + d := by unfold mi; split <;> split <;> omega
theorem adj_add (la le ack d : Int) : adj (la + d) (le + d) ack = adj la le ack + d := by unfold adj; split <;> split <;> omega
theorem all_math {S1 S2 V1 V2 wd apart la le1 le2 ack lea sa va leb sb vb : Int} (eS : S2 = S1 + 8 * apart) (eL : le2 = le1 + apart) (hw : wd = V2 - V1) (h0 : 0 ≤ wd)
    (a0 : lea = mi le1 la) (a1 : sa = sS S1 (adj la (mi le1 la) ack)) (a2 : va = sV S1 V1 (adj la (mi le1 la) ack))
    (b0 : leb = mi le2 (la + apart)) (b1 : sb = sS S2 (adj (la + apart) (mi le2 (la + apart)) ack)) (b2 : vb = sV S2 V2 (adj (la + apart) (mi le2 (la + apart)) ack)) :
    sb = sa + 8 * apart ∧ leb = lea + apart ∧ wd - (wd + 4 - 1).fdiv 4 - 0 ≤ vb - va ∧ vb - va ≤ wd - wd.fdiv 4 + 0 ∧ 0 ≤ vb - va := by
  subst eS eL
  rw [mi_add] at b0 b1 b2
  rw [adj_add] at b1 b2
  generalize adj la (mi le1 la) ack = q at *
  simp only [sS, sV, fd8, fd4] at *
  rw [show (S1 + 8 * apart) / 8 - (q + apart) = S1 / 8 - q by omega] at b2
  omega
theorem probe_math {sa sb va vb apart nw P : Int} (h : sb = sa + 8 * apart) :
    (nw + (baseOf sb vb + 25) * P) - (nw + (baseOf sa va + 25) * P) = (apart + mx vb 1000 - mx va 1000) * P := by
  have e : baseOf sb vb + 25 - (baseOf sa va + 25) = apart + mx vb 1000 - mx va 1000 := by
    unfold baseOf
    rw [fd8, fd8]
    omega
  rw [← e, Int.sub_mul]
  omega
theorem done_math {sa sb apart : Int} (h : sb = sa + 8 * apart) : sb.fdiv 8 = sa.fdiv 8 + apart := by rw [fd8, fd8]; omega
end Mine

namespace Mine
local macro_rules | `(tactic| k_room) => `(tactic| ktr_room)
local macro_rules | `(tactic| k_all) => `(tactic| assumption)

abbrev rowO (la de nw : Int) (t1 t2 t3 : Tok) (k : Nat) : Obj := { cls := .type "tuple", data := .seq #[Value.int la t1, Value.int de t2, Value.int nw t3] k }
def RowsIn (news : List (Addr × Obj)) (l : Addr) (vs : List Value) (n : Nat) (rs : List Int) : Prop :=
  (l, listOf vs.toArray n) ∈ news ∧ vs.length = rs.length ∧ ∀ (i : Nat) (x : Value), vs[i]? = some x → ∃ (la de nw : Int) (t1 t2 t3 : Tok) (k : Nat) (a : Addr), rs[i]? = some la ∧ x = Value.ref a ∧ (a, rowO la de nw t1 t2 t3 k) ∈ news -- t2 t3 k a, rs[i]? = some la ∧ x = Value.ref a ∧ (a, rowO la de nw t1 t2 t3 k) ∈ news

section
variable {prog : Program} {w : World} {A : Around} {E : Value → Shared → Prop} {s : Shared} {h₀ : Heap} {L : Addr} {led : List (Addr × Obj)} {value slice : PySem.Expr} {a : Addr} {la de nw : Int} {t1 t2 t3 u : Tok} {k : Nat} {Q : Value → Shared → Prop}
theorem eq_no {x y : Int} {t u : Tok} (hn : x ≠ y) (h : Q (.bool false) s) : wpAny (model prog w) A (compareOp .Eq (.int x t) (.int y u)) Q E s := eq_int (by rw [beq_false_of_ne hn]; exact h)
theorem gt_yes {x y : Int} {t u : Tok} (hn : y < x) (h : Q (.bool true) s) : wpAny (model prog w) A (compareOp .Gt (.int x t) (.int y u)) Q E s := gt_int (by rw [decide_eq_true hn]; exact h)
theorem row0 (h : Q (.int la t1) s) (N : News h₀ L s.heap led := by k_asm) (hm : (a, rowO la de nw t1 t2 t3 k) ∈ led := by repeat (first | assumption | refine List.Mem.tail _ ?_))
    (hs : subscripted slice false (.ref a) (.int 0 u) = operate [.ref a, .int 0 u] (getItem (.ref a) (.int 0 u)) := by with_unfolding_all rfl) :
    wpAny (model prog w) A (subscriptTail value slice (.ref a) (.int 0 u)) Q E s := item_tupleT (l := [Value.int la t1, Value.int de t2, Value.int nw t3]) (News.isTup N hm) (by decide) (by decide) rfl rfl h hs
theorem row1 (h : Q (.int de t2) s) (N : News h₀ L s.heap led := by k_asm) (hm : (a, rowO la de nw t1 t2 t3 k) ∈ led := by repeat (first | assumption | refine List.Mem.tail _ ?_))
    (hs : subscripted slice false (.ref a) (.int 1 u) = operate [.ref a, .int 1 u] (getItem (.ref a) (.int 1 u)) := by with_unfolding_all rfl) :
    wpAny (model prog w) A (subscriptTail value slice (.ref a) (.int 1 u)) Q E s := item_tupleT (l := [Value.int la t1, Value.int de t2, Value.int nw t3]) (News.isTup N hm) (by decide) (by decide) rfl rfl h hs
theorem row2 (h : Q (.int nw t3) s) (N : News h₀ L s.heap led := by k_asm) (hm : (a, rowO la de nw t1 t2 t3 k) ∈ led := by repeat (first | assumption | refine List.Mem.tail _ ?_))
    (hs : subscripted slice false (.ref a) (.int 2 u) = operate [.ref a, .int 2 u] (getItem (.ref a) (.int 2 u)) := by with_unfolding_all rfl) :
    wpAny (model prog w) A (subscriptTail value slice (.ref a) (.int 2 u)) Q E s := item_tupleT (l := [Value.int la t1, Value.int de t2, Value.int nw t3]) (News.isTup N hm) (by decide) (by decide) rfl rfl h hs
end
local macro_rules | `(tactic| walk_at "subscriptTail Name") => `(tactic| (k_here; (with_reducible show wpAny _ _ (subscriptTail _ _ (Value.ref _) (Value.int 0 _)) _ _ _); k_dflt (refine row0 ?_)))
local macro_rules | `(tactic| walk_at "subscriptTail Name") => `(tactic| (k_here; (with_reducible show wpAny _ _ (subscriptTail _ _ (Value.ref _) (Value.int 1 _)) _ _ _); k_dflt (refine row1 ?_)))
local macro_rules | `(tactic| walk_at "subscriptTail Name") => `(tactic| (k_here; (with_reducible show wpAny _ _ (subscriptTail _ _ (Value.ref _) (Value.int 2 _)) _ _ _); k_dflt (refine row2 ?_)))
local macro_rules | `(tactic| walk_at "compareOp Eq int int") => `(tactic| (k_here; k_dflt (refine eq_no (by omega) ?_)))
local macro_rules | `(tactic| walk_at "compareOp Gt int int") => `(tactic| (k_here; k_dflt (refine gt_yes (by omega) ?_)))
local macro_rules | `(tactic| walk_at "binaryOp Sub int int") => `(tactic| (refine sub_int ?_; (try dsimp only)))
local macro_rules | `(tactic| walk_at "binaryOp Add int int") => `(tactic| (refine add_int ?_; (try dsimp only)))
local macro_rules | `(tactic| walk_at "binaryOp FloorDiv int int") => `(tactic| (refine floordiv_int (by decide) ?_; (try dsimp only)))
local macro_rules | `(tactic| walk_at "exec For Tuple Call cons nil") => `(tactic| (k_here; (rename Fr _ _ _ _ => lF'); (with_unfolding_all refine' For_turns lF' ?_; k_whole)))
local macro_rules | `(tactic| walk_at "call ref") => `(tactic| (k_here; k_dflt (refine rtt_new ?_); intro x d h t k1 k2 k3 k4 k5 k6 j1 j2 j3 j4 F l1 l2 N; (try dsimp only); (try k_lt l1); (try k_lt2 l2); (try k_sweep)))
local macro_rules | `(tactic| walk_at "call ref") => `(tactic| (k_here; k_dflt (first | refine sample_first ?_ | refine sample_none ?_ | refine smooth_spec ?_); intros; (try dsimp only); (try k_sweep)))
local macro_rules | `(tactic| walk_at "call ref") => `(tactic| (k_here; k_dflt (refine less_spec ?_ ?_) <;> (intros; (try dsimp only); (try k_sweep))))

/-- what holds of the two between the turns of the first law -/
def CF (w : World) (apart : Int) (i : Nat) (D1 D2 : Obj) (c : Int × Int × Tok × Tok) : Prop :=
  (i = 0 ∧ c.1 = 8 * apart ∧ c.2.1 = 2 * apart ∧ (∃ k1 k2 k3 k4 k5 k6 v1 v2 v3 v4 S t, v3 = Value.int S t ∧ D1 = rtt w k1 k2 k3 k4 k5 k6 v1 v2 v3 v4 .none) ∧ (∃ k1 k2 k3 k4 k5 k6 v1 v2 v3 v4 S t, v3 = Value.int S t ∧ D2 = rtt w k1 k2 k3 k4 k5 k6 v1 v2 v3 v4 .none)) ∨
  (0 < i ∧ 0 ≤ c.1 ∧ ∃ S1 S2 V1 V2 : Int, c.1 = S2 - S1 ∧ c.2.1 = V2 - V1 ∧ (∃ k1 k2 k3 k4 k5 k6 t1 t2 t3 t4 t5 la le fa, D1 = rtt w k1 k2 k3 k4 k5 k6 (.int la t1) (.int le t2) (.int S1 t3) (.int V1 t4) (.int fa t5)) ∧
    (∃ k1 k2 k3 k4 k5 k6 t1 t2 t3 t4 t5 la le fa, D2 = rtt w k1 k2 k3 k4 k5 k6 (.int la t1) (.int le t2) (.int S2 t3) (.int V2 t4) (.int fa t5)))
abbrev psF (l x1 x2 : Addr) (apart : Int) (ta : Tok) (c : Int × Int × Tok × Tok) : List (Str × Value) :=
  [(Str.ofString "rows", Value.ref l), (Str.ofString "apart", Value.int apart ta), (Str.ofString "one", Value.ref x1), (Str.ofString "other", Value.ref x2), (Str.ofString "first", Value.int c.1 c.2.2.1), (Str.ofString "second", Value.int c.2.1 c.2.2.2)]

section
variable {w : World} {apart : Int} {i : Nat} {x1 d1 x2 d2 l : Addr} {news rest its all : List (Addr × Obj)} {ta : Tok} {m m' : Str → Option Value} {nx : List (Addr × Obj)} {h₀ h h' : Heap} {L : Addr} {adr : List Addr} {G : Prop}
theorem CF.zero {k1 k2 k3 k4 k5 k6 t k1' k2' k3' k4' k5' k6' t' tf ts : Tok} {v1 v2 v4 v1' v2' v4' : Value} {S S' : Int} 
    (h1 : m (Str.ofString "rows") = some (Value.ref l)) (h2 : m (Str.ofString "apart") = some (Value.int apart ta)) (h3 : m (Str.ofString "one") = some (Value.ref x1)) (h4 : m (Str.ofString "other") = some (Value.ref x2)) (h5 : m (Str.ofString "first") = some (Value.int (8 * apart) tf)) (h6 : m (Str.ofString "second") = some (Value.int (2 * apart) ts)) :
    J2 x1 d1 x2 d2 news (psF l x1 x2 apart ta) (CF w apart) 0 m ((x2, instObj 81 d2) :: (d2, rtt w k1' k2' k3' k4' k5' k6' v1' v2' (.int S' t') v4' .none) :: (x1, instObj 81 d1) :: (d1, rtt w k1 k2 k3 k4 k5 k6 v1 v2 (.int S t) v4 .none) :: news) :=
  ⟨_, _, (8 * apart, 2 * apart, tf, ts), rfl, AllAt.cons h1 (.cons h2 (.cons h3 (.cons h4 (.cons h5 (.cons h6 .nil))))),
      Or.inl ⟨rfl, rfl, rfl, ⟨_, _, _, _, _, _, _, _, _, _, _, _, rfl, rfl⟩, ⟨_, _, _, _, _, _, _, _, _, _, _, _, rfl, rfl⟩⟩⟩
theorem CF.turn (hJ : J2 x1 d1 x2 d2 news (psF l x1 x2 apart ta) (CF w apart) i m nx) (F : Fr h₀ L h m) (N : News h₀ L h (nx ++ its)) (hoff : OwnOff its adr) (hadr : adr = x2 :: d2 :: x1 :: d1 :: news.map (·.1)) (h1 : AllLt d1 news) (h2 : AllLt d2 news)
    (k0 : ∀ rest fi se tf ts k1 k2 k3 k4 k5 k6 v1 v2 v4 S t k1' k2' k3' k4' k5' k6' v1' v2' v4' S' t', (∀ p ∈ news, p ∈ rest) → (∀ p ∈ its, p ∈ rest) → (∀ p ∈ rest, p.1 ≠ d1) → (∀ p ∈ rest, p.1 ≠ d2) → (i : Int) = 0 → fi = 8 * apart → se = 2 * apart →
      Fr h₀ L h (kstB m (psF l x1 x2 apart ta (fi, se, tf, ts))) → News h₀ L h ((x2, instObj 81 d2) :: (d2, rtt w k1' k2' k3' k4' k5' k6' v1' v2' (.int S' t') v4' .none) :: (x1, instObj 81 d1) :: (d1, rtt w k1 k2 k3 k4 k5 k6 v1 v2 (.int S t) v4 .none) :: rest) → G)
    (kk : ∀ rest fi se tf ts k1 k2 k3 k4 k5 k6 t1 t2 t3 t4 t5 la1 le1 S1 V1 fa1 k1' k2' k3' k4' k5' k6' t1' t2' t3' t4' t5' la2 le2 S2 V2 fa2, (∀ p ∈ news, p ∈ rest) → (∀ p ∈ its, p ∈ rest) → (∀ p ∈ rest, p.1 ≠ d1) → (∀ p ∈ rest, p.1 ≠ d2) → 0 < (i : Int) → 0 ≤ fi → fi = S2 - S1 → se = V2 - V1 →
      Fr h₀ L h (kstB m (psF l x1 x2 apart ta (fi, se, tf, ts))) → News h₀ L h ((x2, instObj 81 d2) :: (d2, rtt w k1' k2' k3' k4' k5' k6' (.int la2 t1') (.int le2 t2') (.int S2 t3') (.int V2 t4') (.int fa2 t5')) :: (x1, instObj 81 d1) :: (d1, rtt w k1 k2 k3 k4 k5 k6 (.int la1 t1) (.int le1 t2) (.int S1 t3) (.int V1 t4) (.int fa1 t5)) :: rest) → G) : G := by
  refine J2.turn hJ F N hoff hadr h1 h2 ?_
  rintro rest D1 D2 ⟨fi, se, tf, ts⟩ hn hi hr1 hr2 F7 N7 hC
  rcases hC with ⟨hi0, e1, e2, ⟨k1, k2, k3, k4, k5, k6, v1, v2, v3, v4, S, t', rfl, rfl⟩, ⟨k1', k2', k3', k4', k5', k6', v1', v2', v3', v4', S', t'', rfl, rfl⟩⟩ | ⟨hi0, hfi, S1, S2, V1, V2, e1, e2, ⟨k1, k2, k3, k4, k5, k6, t1, t2, t3, t4, t5, la1, le1, fa1, rfl⟩, ⟨k1', k2', k3', k4', k5', k6', t1', t2', t3', t4', t5', la2, le2, fa2, rfl⟩⟩
  · exact k0 _ _ _ _ _ _ _ _ _ _ _ _ _ _ _ _ _ _ _ _ _ _ _ _ _ _ _ hn hi hr1 hr2 (by omega) e1 e2 F7 N7
  · exact kk _ _ _ _ _ _ _ _ _ _ _ _ _ _ _ _ _ _ _ _ _ _ _ _ _ _ _ _ _ _ _ _ _ _ _ _ _ hn hi hr1 hr2 (by omega) hfi e1 e2 F7 N7
theorem CF.fin {s₁ : Shared} {tk : Nat} {k1 k2 k3 k4 k5 k6 t1 t2 t3 t4 t5 k1' k2' k3' k4' k5' k6' t1' t2' t3' t4' t5' tf ts : Tok} {la1 le1 S1 V1 fa1 la2 le2 S2 V2 fa2 : Int} (F : Fr h₀ L h' m') (N : News h₀ L h' all)
    (hs : ∀ p ∈ (x2, instObj 81 d2) :: (d2, rtt w k1' k2' k3' k4' k5' k6' (.int la2 t1') (.int le2 t2') (.int S2 t3') (.int V2 t4') (.int fa2 t5')) :: (x1, instObj 81 d1) :: (d1, rtt w k1 k2 k3 k4 k5 k6 (.int la1 t1) (.int le1 t2) (.int S1 t3) (.int V1 t4) (.int fa1 t5)) :: rest, p ∈ all) (hn : ∀ p ∈ news, p ∈ rest) (hi : ∀ p ∈ its, p ∈ rest)
    (h1 : m' (Str.ofString "rows") = some (Value.ref l)) (h2 : m' (Str.ofString "apart") = some (Value.int apart ta)) (h3 : m' (Str.ofString "one") = some (Value.ref x1)) (h4 : m' (Str.ofString "other") = some (Value.ref x2)) (h5 : m' (Str.ofString "first") = some (Value.int (S2 - S1) tf)) (h6 : m' (Str.ofString "second") = some (Value.int (V2 - V1) ts))
    (h0 : 0 ≤ S2 - S1) (hadr : adr = x2 :: d2 :: x1 :: d1 :: news.map (·.1)) :
    InvEndN h₀ L (J2 x1 d1 x2 d2 news (psF l x1 x2 apart ta) (CF w apart) (i + 1)) its adr s₁ { s₁ with heap := h', toks := tk } :=
  J2.fin (S2 - S1, V2 - V1, tf, ts) F N hs hn hi (.cons h1 (.cons h2 (.cons h3 (.cons h4 (.cons h5 (.cons h6 .nil))))))
    (Or.inr ⟨Nat.succ_pos _, h0, _, _, _, _, rfl, rfl, ⟨_, _, _, _, _, _, _, _, _, _, _, _, _, _, rfl⟩, ⟨_, _, _, _, _, _, _, _, _, _, _, _, _, _, rfl⟩⟩) hadr
end
section
variable {w : World} {p : Program} {loose : List Str} {mean : ExcName → Option Value} {mg mb : Str → Option Value}
  {dp un : Nat} {gd : Option (List Code)} {cn : Str} {cs : Scope} {a : Addr} {ccd : Value} {cl : List (Str × Addr)} {outer : List Env} {A₀ : Around} {base h₀ : Heap} {L : Addr} {m : Str → Option Value} {news : List (Addr × Obj)} {s : Shared}
  {Q E : Value → Shared → Prop}

theorem first_spec
    {l : Addr} {vs : List Value} {n : Nat} {rs : List Int} {apart : Int} {ta : Tok}
    (hret : ∀ h' tk', Fr h₀ L h' m → News h₀ L h' news → Q (.bool true) { s with heap := h', toks := tk' })
    (B : Below A₀ base outer h₀ := by k_asm) (F : Fr h₀ L s.heap m := by k_asm) (X : (Mine.hd.heap_39 w.params).In h₀ := by k_asm) (T : Top p loose mean mg mb h₀ := by k_asm) (hk : cs.kind = .function := by first | assumption | exact rfl) (hd : dp + 10 < recursionLimit := by ktr_room) (hu : un + 80 < cLine := by ktr_units)
    (N : News h₀ L s.heap news := by k_asm) (hrows : RowsIn news l vs n rs := by exact RowsT.led (by assumption)) (ha : 0 ≤ apart := by omega) :
    wpAny (model PySem.Challenge.rw_tk0088_01.row.prog w) (ktrTop dp un gd cn cs L a ccd cl outer) (call (.ref 140) [.ref l, .int apart ta]) Q E s := by
  w_top off
  refine wpAny_call ?_
  k_dflt ktr_enter
  k_steps
  rename Fr _ _ _ _ => F9
  rename News _ _ _ _ => N9
  refine enum_inv (lo := listOf vs.toArray n) (vs := vs) (n := n) (J2 _ _ _ _ news (psF l _ _ apart ta) (CF w apart)) (by rfl) F9 (news_tail N9) rfl rfl (CF.zero rfl rfl rfl rfl rfl rfl) (fun i m nx h => J2.keep hrows.1 h) (fun i m nx h => J2.adr h) ?_ ?_
  · intro i x T t m₁ nx h tk its hx hJ hoff hT F8 N8 R hR
    obtain ⟨la, de, nw, u1, u2, u3, kk, ra, hrs, rfl, hra⟩ := hrows.2.2 i x hx
    refine CF.turn hJ F8 N8 hoff rfl (by tbn_lt) (by tbn_lt) ?_ ?_
    · clear hJ F8 N8
      intro rest fi se tf ts k1 k2 k3 k4 k5 k6 v1 v2 v4 S t k1' k2' k3' k4' k5' k6' v1' v2' v4' S' t' hn hi hr1 hr2 hi0 e1 e2 F7 N7
      have hra' := hn _ hra
      dsimp only [kstB, psF] at F7
      try dsimp only
      rw [hi0] at hT
      k_steps
      all_goals first
        | (exfalso; omega)
        | (rename Fr _ _ _ _ => F6
           rename News _ _ _ _ => N6
           refine hR _ (CF.fin F6 N6 (fun p hp => by repeat (first | exact hp | refine List.Mem.tail _ ?_)) hn hi rfl rfl rfl rfl rfl rfl ?_ rfl)
           omega)
    · clear hJ F8 N8
      intro rest fi se tf ts k1 k2 k3 k4 k5 k6 t1 t2 t3 t4 t5 la1 le1 S1 V1 fa1 k1' k2' k3' k4' k5' k6' t1' t2' t3' t4' t5' la2 le2 S2 V2 fa2 hn hi hr1 hr2 hk0 hfi e1 e2 F7 N7
      have hra' := hn _ hra
      dsimp only [kstB, psF] at F7
      try dsimp only
      generalize (i : Int) = kt at hT hk0
      k_steps
      all_goals first
        | (exfalso; omega)
        | (have M := first_math (by assumption) (by assumption) (by assumption) (by assumption) (by assumption) (by assumption) (by assumption)
           exfalso; omega)
        | (have M := first_math (by assumption) (by assumption) (by assumption) (by assumption) (by assumption) (by assumption) (by assumption)
           rename Fr _ _ _ _ => F6
           rename News _ _ _ _ => N6
           refine hR _ (CF.fin F6 N6 (fun p hp => by repeat (first | exact hp | refine List.Mem.tail _ ?_)) hn hi rfl rfl rfl rfl rfl rfl ?_ rfl)
           omega)
  · intro m₁ nx h tk hJ F8 N8
    obtain ⟨D1, D2, c, rfl, _, _⟩ := hJ
    k_steps
    rename News _ _ _ _ => hN
    exact hret _ _ (by k_asm) (fun p hp => hN p (by repeat (first | exact hp | refine List.Mem.tail _ ?_)))
end
end Mine

namespace Mine
local macro_rules | `(tactic| k_room) => `(tactic| ktr_room)
local macro_rules | `(tactic| k_all) => `(tactic| assumption)
local macro_rules | `(tactic| mul_fits) => `(tactic| exact PySem.IntMulOk.of_right (by assumption))

section
variable {w : World} {p : Program} {loose : List Str} {mean : ExcName → Option Value} {mg mb : Str → Option Value}
  {dp un : Nat} {gd : Option (List Code)} {cn : Str} {cs : Scope} {a : Addr} {ccd : Value} {cl : List (Str × Addr)} {outer : List Env} {A₀ : Around} {base h₀ : Heap} {L : Addr} {m : Str → Option Value} {news : List (Addr × Obj)} {s : Shared}
  {Q E : Value → Shared → Prop}
theorem sample_any
    {x dx : Addr} {k1 k2 k3 k4 k5 k6 t1 t2 t3 t4 t5 : Tok} {la le s8 v4 fa : Int} {latest ack now : Int} {u1 u2 u4 : Tok} {bd : Value}
    (hret : ∀ h' tk' j1 j2 j3 j4 le' s8' v4', le' = mi le latest → s8' = sS s8 (adj latest (mi le latest) (capd bd ack)) → v4' = sV s8 v4 (adj latest (mi le latest) (capd bd ack)) →
      Fr h₀ L h' m → News h₀ L h' ((x, instObj 81 dx) :: (dx, rtt w k1 k2 k3 k4 k5 k6 (.int latest j1) (.int le' j2) (.int s8' j3) (.int v4' j4) (.int fa t5)) :: news) → Q .none { s with heap := h', toks := tk' })
    (B : Below A₀ base outer h₀ := by k_asm) (F : Fr h₀ L s.heap m := by k_asm) (X : (Mine.hd.heap_39 w.params).In h₀ := by k_asm) (T : Top p loose mean mg mb h₀ := by k_asm) (hk : cs.kind = .function := by first | assumption | exact rfl) (hd : dp + 5 < recursionLimit := by ktr_room) (hu : un + 40 < cLine := by ktr_units)
    (N : News h₀ L s.heap ((x, instObj 81 dx) :: (dx, rtt w k1 k2 k3 k4 k5 k6 (.int la t1) (.int le t2) (.int s8 t3) (.int v4 t4) (.int fa t5)) :: news) := by first | k_asm | exact news_swap (by k_asm)) (hx : x ≠ dx := by k_ne) (hoff : ∀ q ∈ news, q.1 ≠ dx := by k_all) (hb : bd = .none ∨ ∃ b t, bd = .int b t := by assumption) :
    wpAny (model PySem.Challenge.rw_tk0088_01.row.prog w) (ktrTop dp un gd cn cs L a ccd cl outer) (call (.ref 64) [.ref x, .int latest u1, .int ack u2, bd, .int now u4]) Q E s := by
  rcases hb with rfl | ⟨b, t, rfl⟩
  · exact sample_none hret
  · exact sample_next hret
end

local macro_rules | `(tactic| walk_at "subscriptTail Name") => `(tactic| (k_here; (with_reducible show wpAny _ _ (subscriptTail _ _ (Value.ref _) (Value.int 0 _)) _ _ _); k_dflt (refine row0 ?_)))
local macro_rules | `(tactic| walk_at "subscriptTail Name") => `(tactic| (k_here; (with_reducible show wpAny _ _ (subscriptTail _ _ (Value.ref _) (Value.int 1 _)) _ _ _); k_dflt (refine row1 ?_)))
local macro_rules | `(tactic| walk_at "subscriptTail Name") => `(tactic| (k_here; (with_reducible show wpAny _ _ (subscriptTail _ _ (Value.ref _) (Value.int 2 _)) _ _ _); k_dflt (refine row2 ?_)))
local macro_rules | `(tactic| walk_at "compareOp Eq int int") => `(tactic| (k_here; k_dflt (refine eq_no (by omega) ?_)))
local macro_rules | `(tactic| walk_at "compareOp Gt int int") => `(tactic| (k_here; k_dflt (refine gt_yes (by omega) ?_)))
local macro_rules | `(tactic| walk_at "binaryOp Sub int int") => `(tactic| (refine sub_int ?_; (try dsimp only)))
local macro_rules | `(tactic| walk_at "binaryOp Add int int") => `(tactic| (refine add_int ?_; (try dsimp only)))
local macro_rules | `(tactic| walk_at "binaryOp FloorDiv int int") => `(tactic| (refine floordiv_int (by decide) ?_; (try dsimp only)))
local macro_rules | `(tactic| walk_at "exec For Tuple Call cons nil") => `(tactic| (k_here; (rename Fr _ _ _ _ => lF'); (with_unfolding_all refine' For_turns lF' ?_; k_whole)))
local macro_rules | `(tactic| walk_at "call ref") => `(tactic| (k_here; k_dflt (refine rtt_new ?_); intro x d h t k1 k2 k3 k4 k5 k6 j1 j2 j3 j4 F l1 l2 N; (try dsimp only); (try k_lt l1); (try k_lt2 l2); (try k_sweep)))
local macro_rules | `(tactic| walk_at "call ref") => `(tactic| (k_here; k_dflt (first | refine sample_first ?_ | refine sample_any ?_ | refine smooth_spec ?_); intros; (try dsimp only); (try k_sweep)))
local macro_rules | `(tactic| walk_at "call ref") => `(tactic| (k_here; k_dflt (refine less_spec ?_ ?_) <;> (intros; (try dsimp only); (try k_sweep))))
local macro_rules | `(tactic| walk_at "call ref") => `(tactic| (k_here; k_dflt (refine probe_spec ?_); intros; (try dsimp only); (try k_sweep)))

/-- what holds of the two between the turns of the second law -/
def CA (w : World) (apart : Int) (i : Nat) (D1 D2 : Obj) (c : Int × Tok) : Prop :=
  (i = 0 ∧ c.1 = 2 * apart ∧ (∃ k1 k2 k3 k4 k5 k6 v1 v2 v3 v4, D1 = rtt w k1 k2 k3 k4 k5 k6 v1 v2 v3 v4 .none) ∧ (∃ k1 k2 k3 k4 k5 k6 v1 v2 v3 v4, D2 = rtt w k1 k2 k3 k4 k5 k6 v1 v2 v3 v4 .none)) ∨
  (0 < i ∧ ∃ S1 S2 V1 V2 le1 le2 : Int, (S2 = S1 + 8 * apart ∧ le2 = le1 + apart ∧ c.1 = V2 - V1 ∧ 0 ≤ c.1) ∧ (∃ k1 k2 k3 k4 k5 k6 t1 t2 t3 t4 t5 la fa, D1 = rtt w k1 k2 k3 k4 k5 k6 (.int la t1) (.int le1 t2) (.int S1 t3) (.int V1 t4) (.int fa t5)) ∧
    (∃ k1 k2 k3 k4 k5 k6 t1 t2 t3 t4 t5 la fa, D2 = rtt w k1 k2 k3 k4 k5 k6 (.int la t1) (.int le2 t2) (.int S2 t3) (.int V2 t4) (.int fa t5)))
abbrev psA (l x1 x2 : Addr) (apart : Int) (ta : Tok) (bd : Value) (count : Int) (tc : Tok) (c : Int × Tok) : List (Str × Value) :=
  [(Str.ofString "rows", Value.ref l), (Str.ofString "apart", Value.int apart ta), (Str.ofString "bound", bd), (Str.ofString "count", Value.int count tc), (Str.ofString "one", Value.ref x1), (Str.ofString "other", Value.ref x2), (Str.ofString "wide", Value.int c.1 c.2)]

section
variable {w : World} {apart count : Int} {i : Nat} {x1 d1 x2 d2 l : Addr} {news rest its all : List (Addr × Obj)} {ta tc : Tok} {bd : Value} {m m' : Str → Option Value} {nx : List (Addr × Obj)} {h₀ h h' : Heap} {L : Addr} {adr : List Addr} {G : Prop}
theorem CA.zero {k1 k2 k3 k4 k5 k6 k1' k2' k3' k4' k5' k6' tw : Tok} {v1 v2 v3 v4 v1' v2' v3' v4' : Value}
    (h1 : m (Str.ofString "rows") = some (Value.ref l)) (h2 : m (Str.ofString "apart") = some (Value.int apart ta)) (h3 : m (Str.ofString "bound") = some bd) (h4 : m (Str.ofString "count") = some (Value.int count tc)) (h5 : m (Str.ofString "one") = some (Value.ref x1)) (h6 : m (Str.ofString "other") = some (Value.ref x2)) (h7 : m (Str.ofString "wide") = some (Value.int (2 * apart) tw)) :
    J2 x1 d1 x2 d2 news (psA l x1 x2 apart ta bd count tc) (CA w apart) 0 m ((x2, instObj 81 d2) :: (d2, rtt w k1' k2' k3' k4' k5' k6' v1' v2' v3' v4' .none) :: (x1, instObj 81 d1) :: (d1, rtt w k1 k2 k3 k4 k5 k6 v1 v2 v3 v4 .none) :: news) :=
  ⟨_, _, (2 * apart, tw), rfl, AllAt.cons h1 (.cons h2 (.cons h3 (.cons h4 (.cons h5 (.cons h6 (.cons h7 .nil)))))), Or.inl ⟨rfl, rfl, ⟨_, _, _, _, _, _, _, _, _, _, rfl⟩, ⟨_, _, _, _, _, _, _, _, _, _, rfl⟩⟩⟩
theorem CA.turn (hJ : J2 x1 d1 x2 d2 news (psA l x1 x2 apart ta bd count tc) (CA w apart) i m nx) (F : Fr h₀ L h m) (N : News h₀ L h (nx ++ its)) (hoff : OwnOff its adr) (hadr : adr = x2 :: d2 :: x1 :: d1 :: news.map (·.1)) (h1 : AllLt d1 news) (h2 : AllLt d2 news)
    (k0 : ∀ rest wd tw k1 k2 k3 k4 k5 k6 v1 v2 v3 v4 k1' k2' k3' k4' k5' k6' v1' v2' v3' v4', (∀ p ∈ news, p ∈ rest) → (∀ p ∈ its, p ∈ rest) → (∀ p ∈ rest, p.1 ≠ d1) → (∀ p ∈ rest, p.1 ≠ d2) → (i : Int) = 0 → wd = 2 * apart →
      Fr h₀ L h (kstB m (psA l x1 x2 apart ta bd count tc (wd, tw))) → News h₀ L h ((x2, instObj 81 d2) :: (d2, rtt w k1' k2' k3' k4' k5' k6' v1' v2' v3' v4' .none) :: (x1, instObj 81 d1) :: (d1, rtt w k1 k2 k3 k4 k5 k6 v1 v2 v3 v4 .none) :: rest) → G)
    (kk : ∀ rest wd tw k1 k2 k3 k4 k5 k6 t1 t2 t3 t4 t5 la1 le1 S1 V1 fa1 k1' k2' k3' k4' k5' k6' t1' t2' t3' t4' t5' la2 le2 S2 V2 fa2, (∀ p ∈ news, p ∈ rest) → (∀ p ∈ its, p ∈ rest) → (∀ p ∈ rest, p.1 ≠ d1) → (∀ p ∈ rest, p.1 ≠ d2) → 0 < (i : Int) → S2 = S1 + 8 * apart → le2 = le1 + apart → wd = V2 - V1 → 0 ≤ wd →
      Fr h₀ L h (kstB m (psA l x1 x2 apart ta bd count tc (wd, tw))) → News h₀ L h ((x2, instObj 81 d2) :: (d2, rtt w k1' k2' k3' k4' k5' k6' (.int la2 t1') (.int le2 t2') (.int S2 t3') (.int V2 t4') (.int fa2 t5')) :: (x1, instObj 81 d1) :: (d1, rtt w k1 k2 k3 k4 k5 k6 (.int la1 t1) (.int le1 t2) (.int S1 t3) (.int V1 t4) (.int fa1 t5)) :: rest) → G) : G := by
  refine J2.turn hJ F N hoff hadr h1 h2 ?_
  rintro rest D1 D2 ⟨wd, tw⟩ hn hi hr1 hr2 F7 N7 hC
  rcases hC with ⟨hi0, e1, ⟨k1, k2, k3, k4, k5, k6, v1, v2, v3, v4, rfl⟩, ⟨k1', k2', k3', k4', k5', k6', v1', v2', v3', v4', rfl⟩⟩ | ⟨hi0, S1, S2, V1, V2, le1, le2, ⟨eS, eL, eW, h0W⟩, ⟨k1, k2, k3, k4, k5, k6, t1, t2, t3, t4, t5, la1, fa1, rfl⟩, ⟨k1', k2', k3', k4', k5', k6', t1', t2', t3', t4', t5', la2, fa2, rfl⟩⟩
  · exact k0 _ _ _ _ _ _ _ _ _ _ _ _ _ _ _ _ _ _ _ _ _ _ _ hn hi hr1 hr2 (by omega) e1 F7 N7
  · exact kk _ _ _ _ _ _ _ _ _ _ _ _ _ _ _ _ _ _ _ _ _ _ _ _ _ _ _ _ _ _ _ _ _ _ _ hn hi hr1 hr2 (by omega) eS eL eW h0W F7 N7
theorem CA.fin {s₁ : Shared} {tk : Nat} {k1 k2 k3 k4 k5 k6 t1 t2 t3 t4 t5 k1' k2' k3' k4' k5' k6' t1' t2' t3' t4' t5' tw : Tok} {la1 le1 S1 V1 fa1 la2 le2 S2 V2 fa2 : Int} (F : Fr h₀ L h' m') (N : News h₀ L h' all)
    (hs : ∀ p ∈ (x2, instObj 81 d2) :: (d2, rtt w k1' k2' k3' k4' k5' k6' (.int la2 t1') (.int le2 t2') (.int S2 t3') (.int V2 t4') (.int fa2 t5')) :: (x1, instObj 81 d1) :: (d1, rtt w k1 k2 k3 k4 k5 k6 (.int la1 t1) (.int le1 t2) (.int S1 t3) (.int V1 t4) (.int fa1 t5)) :: rest, p ∈ all) (hn : ∀ p ∈ news, p ∈ rest) (hi : ∀ p ∈ its, p ∈ rest)
    (h1 : m' (Str.ofString "rows") = some (Value.ref l)) (h2 : m' (Str.ofString "apart") = some (Value.int apart ta)) (h3 : m' (Str.ofString "bound") = some bd) (h4 : m' (Str.ofString "count") = some (Value.int count tc)) (h5 : m' (Str.ofString "one") = some (Value.ref x1)) (h6 : m' (Str.ofString "other") = some (Value.ref x2)) (h7 : m' (Str.ofString "wide") = some (Value.int (V2 - V1) tw))
    (hS : S2 = S1 + 8 * apart) (hl : le2 = le1 + apart) (h0 : 0 ≤ V2 - V1) (hadr : adr = x2 :: d2 :: x1 :: d1 :: news.map (·.1)) :
    InvEndN h₀ L (J2 x1 d1 x2 d2 news (psA l x1 x2 apart ta bd count tc) (CA w apart) (i + 1)) its adr s₁ { s₁ with heap := h', toks := tk } :=
  J2.fin (V2 - V1, tw) F N hs hn hi (.cons h1 (.cons h2 (.cons h3 (.cons h4 (.cons h5 (.cons h6 (.cons h7 .nil)))))))
    (Or.inr ⟨Nat.succ_pos _, _, _, _, _, _, _, ⟨hS, hl, rfl, h0⟩, ⟨_, _, _, _, _, _, _, _, _, _, _, _, _, rfl⟩, ⟨_, _, _, _, _, _, _, _, _, _, _, _, _, rfl⟩⟩) hadr
theorem CA.out (hJ : J2 x1 d1 x2 d2 news (psA l x1 x2 apart ta bd count tc) (CA w apart) i m nx) (hi : 0 < i) (F : Fr h₀ L h m) (N : News h₀ L h nx)
    (kk : ∀ wd tw k1 k2 k3 k4 k5 k6 t1 t2 t3 t4 t5 la1 le1 S1 V1 fa1 k1' k2' k3' k4' k5' k6' t1' t2' t3' t4' t5' la2 le2 S2 V2 fa2, S2 = S1 + 8 * apart →
      Fr h₀ L h (kstB m (psA l x1 x2 apart ta bd count tc (wd, tw))) → News h₀ L h ((x2, instObj 81 d2) :: (d2, rtt w k1' k2' k3' k4' k5' k6' (.int la2 t1') (.int le2 t2') (.int S2 t3') (.int V2 t4') (.int fa2 t5')) :: (x1, instObj 81 d1) :: (d1, rtt w k1 k2 k3 k4 k5 k6 (.int la1 t1) (.int le1 t2) (.int S1 t3) (.int V1 t4) (.int fa1 t5)) :: news) → G) : G := by
  refine J2.out hJ F N ?_
  rintro D1 D2 ⟨wd, tw⟩ F7 N7 hC
  rcases hC with ⟨hi0, _⟩ | ⟨hi0, S1, S2, V1, V2, le1, le2, ⟨eS, eL, eW, h0W⟩, ⟨k1, k2, k3, k4, k5, k6, t1, t2, t3, t4, t5, la1, fa1, rfl⟩, ⟨k1', k2', k3', k4', k5', k6', t1', t2', t3', t4', t5', la2, fa2, rfl⟩⟩
  · omega
  · exact kk _ _ _ _ _ _ _ _ _ _ _ _ _ _ _ _ _ _ _ _ _ _ _ _ _ _ _ _ _ _ _ _ _ _ eS F7 N7
end
section
variable {w : World} {p : Program} {loose : List Str} {mean : ExcName → Option Value} {mg mb : Str → Option Value}
  {dp un : Nat} {gd : Option (List Code)} {cn : Str} {cs : Scope} {a : Addr} {ccd : Value} {cl : List (Str × Addr)} {outer : List Env} {A₀ : Around} {base h₀ : Heap} {L : Addr} {m : Str → Option Value} {news : List (Addr × Obj)} {s : Shared}
  {Q E : Value → Shared → Prop}

theorem all_spec
    {l : Addr} {vs : List Value} {n : Nat} {rs : List Int} {apart count : Int} {ta tc : Tok} {bd : Value}
    (hret : ∀ h' tk', Fr h₀ L h' m → News h₀ L h' news → Q (.bool true) { s with heap := h', toks := tk' })
    (B : Below A₀ base outer h₀ := by k_asm) (F : Fr h₀ L s.heap m := by k_asm) (X : (Mine.hd.heap_39 w.params).In h₀ := by k_asm) (T : Top p loose mean mg mb h₀ := by k_asm) (hk : cs.kind = .function := by first | assumption | exact rfl) (hd : dp + 10 < recursionLimit := by ktr_room) (hu : un + 80 < cLine := by ktr_units)
    (N : News h₀ L s.heap news := by k_asm) (hrows : RowsIn news l vs n rs := by exact RowsT.led (by assumption)) (hlen : 0 < rs.length := by omega) (ha : 0 ≤ apart := by omega) (hb : bd = .none ∨ ∃ b t, bd = .int b t := by assumption) (h0 : 0 ≤ count := by omega) (h2 : count ≤ 2 := by omega) :
    wpAny (model PySem.Challenge.rw_tk0088_01.row.prog w) (ktrTop dp un gd cn cs L a ccd cl outer) (call (.ref 154) [.ref l, .int apart ta, bd, .int count tc]) Q E s := by
  have hP := pow_bits h0 h2
  w_top off
  refine wpAny_call ?_
  k_dflt ktr_enter
  k_steps
  rename Fr _ _ _ _ => F9
  rename News _ _ _ _ => N9
  refine enum_inv (lo := listOf vs.toArray n) (vs := vs) (n := n) (J2 _ _ _ _ news (psA l _ _ apart ta bd count tc) (CA w apart)) (by rfl) F9 (news_tail N9) rfl rfl (CA.zero rfl rfl rfl rfl rfl rfl rfl) (fun i m nx h => J2.keep hrows.1 h) (fun i m nx h => J2.adr h) ?_ ?_
  · intro i x T t m₁ nx h tk its hx hJ hoff hT F8 N8 R hR
    obtain ⟨la, de, nw, u1, u2, u3, kk, ra, hrs, rfl, hra⟩ := hrows.2.2 i x hx
    refine CA.turn hJ F8 N8 hoff rfl (by tbn_lt) (by tbn_lt) ?_ ?_
    · clear hJ F8 N8
      intro rest wd tw k1 k2 k3 k4 k5 k6 v1 v2 v3 v4 k1' k2' k3' k4' k5' k6' v1' v2' v3' v4' hn hi hr1 hr2 hi0 e1 F7 N7
      have hra' := hn _ hra
      dsimp only [kstB, psA] at F7
      try dsimp only
      rw [hi0] at hT
      k_steps
      all_goals first
        | (exfalso; omega)
        | (rename_i hne
           exact (hne (probe_math (show 8 * (la + apart) = 8 * la + 8 * apart by omega))).elim)
        | (rename Fr _ _ _ _ => F6
           rename News _ _ _ _ => N6
           refine hR _ (CA.fin F6 (news_swap N6) (fun p hp => hp) hn hi rfl rfl rfl rfl rfl rfl rfl ?_ ?_ ?_ rfl) <;> omega)
    · clear hJ F8 N8
      intro rest wd tw k1 k2 k3 k4 k5 k6 t1 t2 t3 t4 t5 la1 le1 S1 V1 fa1 k1' k2' k3' k4' k5' k6' t1' t2' t3' t4' t5' la2 le2 S2 V2 fa2 hn hi hr1 hr2 hk0 eS eL eW h0W F7 N7
      have hra' := hn _ hra
      dsimp only [kstB, psA] at F7
      try dsimp only
      generalize (i : Int) = kt at hT hk0
      k_steps
      all_goals first
        | (exfalso; omega)
        | (have M := all_math eS eL eW h0W (by assumption) (by assumption) (by assumption) (by assumption) (by assumption) (by assumption)
           exfalso; omega)
        | (have M := all_math eS eL eW h0W (by assumption) (by assumption) (by assumption) (by assumption) (by assumption) (by assumption)
           rename_i hne
           exact (hne (probe_math M.1)).elim)
        | (have M := all_math eS eL eW h0W (by assumption) (by assumption) (by assumption) (by assumption) (by assumption) (by assumption)
           rename Fr _ _ _ _ => F6
           rename News _ _ _ _ => N6
           refine hR _ (CA.fin F6 (news_swap N6) (fun p hp => hp) hn hi rfl rfl rfl rfl rfl rfl rfl ?_ ?_ ?_ rfl) <;> omega)
  · intro m₁ nx h tk hJ F8 N8
    refine CA.out hJ (by rw [hrows.2.1]; exact hlen) F8 N8 ?_
    clear hJ F8 N8
    intro wd tw k1 k2 k3 k4 k5 k6 t1 t2 t3 t4 t5 la1 le1 S1 V1 fa1 k1' k2' k3' k4' k5' k6' t1' t2' t3' t4' t5' la2 le2 S2 V2 fa2 eS F7 N7
    dsimp only [kstB, psA] at F7
    k_steps
    all_goals
      rename News _ _ _ _ => hN
      rw [show (S2.fdiv 8 == S1.fdiv 8 + apart) = true by rw [done_math eS]; exact beq_self_eq_true _]
      exact hret _ _ (by k_asm) (fun p hp => hN p (by repeat (first | exact hp | refine List.Mem.tail _ ?_)))
end
end Mine

namespace Mine
/-- the rows' lengths with two neighbours exchanged -/
abbrev turnedL (rs : List Int) (at_ : Int) : List Int := List.take at_.toNat rs ++ [rs.getD (at_ + 1).toNat 0, rs.getD at_.toNat 0] ++ List.drop (at_ + 2).toNat rs
theorem turned_len {rs : List Int} {at_ : Int} (h1 : 0 ≤ at_) (h2 : at_ + 2 ≤ (rs.length : Int)) : (turnedL rs at_).length = rs.length := by
  simp only [turnedL, List.length_append, List.length_take, List.length_cons, List.length_nil, List.length_drop]
  omega
theorem turned_get {rs : List Int} {at_ k : Int} (h1 : 0 ≤ at_) (h2 : at_ + 2 ≤ (rs.length : Int)) (hk : 0 ≤ k) :
    (k < at_ → (turnedL rs at_).getD k.toNat 0 = rs.getD k.toNat 0) ∧ (k = at_ → (turnedL rs at_).getD k.toNat 0 = rs.getD (at_ + 1).toNat 0) ∧
    (k = at_ + 1 → (turnedL rs at_).getD k.toNat 0 = rs.getD at_.toNat 0) ∧ (at_ + 1 < k → (turnedL rs at_).getD k.toNat 0 = rs.getD k.toNat 0) := by
  have ht : (List.take at_.toNat rs).length = at_.toNat := by rw [List.length_take]; omega
  simp only [turnedL, List.append_assoc, List.getD_eq_getElem?_getD]
  refine ⟨fun h => ?_, fun h => ?_, fun h => ?_, fun h => ?_⟩
  · rw [List.getElem?_append_left (by omega), List.getElem?_take, if_pos (by omega)]
  · rw [List.getElem?_append_right (by omega), ht, show k.toNat - at_.toNat = 0 by omega]
    rfl
  · rw [List.getElem?_append_right (by omega), ht, show k.toNat - at_.toNat = 1 by omega]
    rfl
  · rw [List.getElem?_append_right (by omega), ht, List.getElem?_append_right (by simp only [List.length_cons, List.length_nil]; omega), List.getElem?_drop]
    simp only [List.length_cons, List.length_nil]
    rw [show (at_ + 2).toNat + (k.toNat - at_.toNat - (0 + 1 + 1)) = k.toNat by omega]

/-- what holds of the two between the turns of the third law, in front of turn k -/
def TT (rs : List Int) (at_ k bt S1 S2 le1 le2 : Int) : Prop :=
  bt = S1 - S2 ∧ (k ≤ at_ → S1 = S2 ∧ le1 = le2) ∧ (k = at_ + 1 → S1 - S2 = rs.getD at_.toNat 0 - rs.getD (at_ + 1).toNat 0 ∧ ∃ le0, le1 = mi le0 (rs.getD at_.toNat 0) ∧ le2 = mi le0 (rs.getD (at_ + 1).toNat 0)) ∧ (at_ + 2 ≤ k → le1 = le2)
theorem mi_turn (a b c : Int) : mi (mi a b) c = mi (mi a c) b := by unfold mi; (repeat' split) <;> omega
theorem turn_math {rs : List Int} {at_ k bt S1 S2 V1 V2 le1 le2 lea sa va leb sb vb : Int} (h1 : 0 ≤ at_) (h2 : at_ + 2 ≤ (rs.length : Int)) (hk : 0 ≤ k) (t : TT rs at_ k bt S1 S2 le1 le2)
    (a0 : lea = mi le1 (rs.getD k.toNat 0)) (a1 : sa = sS S1 (adj (rs.getD k.toNat 0) (mi le1 (rs.getD k.toNat 0)) 0)) (_a2 : va = sV S1 V1 (adj (rs.getD k.toNat 0) (mi le1 (rs.getD k.toNat 0)) 0))
    (b0 : leb = mi le2 ((turnedL rs at_).getD k.toNat 0)) (b1 : sb = sS S2 (adj ((turnedL rs at_).getD k.toNat 0) (mi le2 ((turnedL rs at_).getD k.toNat 0)) 0)) (_b2 : vb = sV S2 V2 (adj ((turnedL rs at_).getD k.toNat 0) (mi le2 ((turnedL rs at_).getD k.toNat 0)) 0)) :
    TT rs at_ (k + 1) (sa - sb) sa sb lea leb ∧ (k = at_ + 1 → (rs.getD (at_ + 1).toNat 0 - rs.getD at_.toNat 0).fdiv 8 ≤ sa - sb ∧ sa - sb ≤ 0 - (0 - (rs.getD (at_ + 1).toNat 0 - rs.getD at_.toNat 0)).fdiv 8) ∧
    (at_ + 1 < k → bt - (bt + 8 - 1).fdiv 8 - 0 ≤ sa - sb ∧ sa - sb ≤ bt - bt.fdiv 8 + 0) := by
  obtain ⟨g1, g2, g3, g4⟩ := turned_get h1 h2 hk
  obtain ⟨t0, t1, t2, t3⟩ := t
  rw [adj0] at a1 b1
  simp only [sS, fd8] at *
  rcases (show k < at_ ∨ k = at_ ∨ k = at_ + 1 ∨ at_ + 1 < k by omega) with h | h | h | h
  · rw [g1 h] at b0 b1
    obtain ⟨rfl, rfl⟩ := t1 (by omega)
    refine ⟨⟨rfl, fun _ => ⟨by omega, by rw [a0, b0]⟩, fun e => by omega, fun e => by omega⟩, fun e => by omega, fun e => by omega⟩
  · rw [g2 h] at b0 b1
    obtain ⟨rfl, rfl⟩ := t1 (by omega)
    rw [show k.toNat = at_.toNat by rw [h]] at a0 a1
    refine ⟨⟨rfl, fun e => by omega, fun _ => ⟨by omega, _, a0, b0⟩, fun e => by omega⟩, fun e => by omega, fun e => by omega⟩
  · rw [g3 h] at b0 b1
    rw [h] at a0 a1
    obtain ⟨t4, le0, rfl, rfl⟩ := t2 h
    refine ⟨⟨rfl, fun e => by omega, fun e => by omega, fun _ => by rw [a0, b0, mi_turn]⟩, fun _ => by omega, fun e => by omega⟩
  · rw [g4 h] at b0 b1
    have t5 := t3 (by omega)
    subst t5
    refine ⟨⟨rfl, fun e => by omega, fun e => by omega, fun _ => by rw [a0, b0]⟩, fun e => by omega, fun _ => by omega⟩
end Mine

namespace Mine
local macro_rules | `(tactic| k_room) => `(tactic| ktr_room)
local macro_rules | `(tactic| k_all) => `(tactic| assumption)
local macro_rules | `(tactic| walk_at "exec For Tuple Call cons nil") => `(tactic| (k_here; (rename Fr _ _ _ _ => lF'); (with_unfolding_all refine' For_turns lF' ?_; k_whole)))
local macro_rules | `(tactic| walk_at "call ref") => `(tactic| (k_here; k_dflt (refine rtt_new ?_); intro x d h t k1 k2 k3 k4 k5 k6 j1 j2 j3 j4 F l1 l2 N; (try dsimp only); (try k_lt l1); (try k_lt2 l2); (try k_sweep)))
local macro_rules | `(tactic| walk_at "call ref") => `(tactic| (k_here; k_dflt (first | refine sample_first ?_ | refine sample_none ?_ | refine smooth_spec ?_); intros; (try dsimp only); (try k_sweep)))
local macro_rules | `(tactic| walk_at "call ref") => `(tactic| (k_here; k_dflt (refine less_spec ?_ ?_) <;> (intros; (try dsimp only); (try k_sweep))))

local macro_rules | `(tactic| walk_at "exec Assign cons ListComp") => `(tactic| (k_here; k_dflt (refine LCg.Assign_ListComp_U (F₀ := by k_asm) (by rfl) (by with_unfolding_all rfl) (by rfl) (by decide) (by rfl) (by decide) (by rfl) (by rfl) (by rfl) ?_)))
local macro_rules | `(tactic| walk_at "subscriptTail Name Slice ref ref") => `(tactic| (k_here; k_dflt (refine' kmk_slice_ints ?F ?N ?l ?p ?q ?i ?m ?c ?_ ?s ?t ?z; (case F => k_asm); (case N => k_asm); (case l => kmk_list); (case p => kmk_part); (case q => kmk_part); (case i => assumption); (case m => first | exact kmk_upto (by assumption) (by omega) | exact kmk_from (by assumption) (by omega)); (case c => kmk_len); (case s => with_unfolding_all rfl); (case t => kmk_pure); (case z => assumption)); intro D' ws' h' F' N' l1 hI' hC' hL'; clear hC' hL'; (try k_lt l1); (try k_sweep)))
local macro_rules | `(tactic| walk_at "binaryOp Sub int int") => `(tactic| (refine sub_int ?_; (try dsimp only)))
local macro_rules | `(tactic| walk_at "binaryOp Add int int") => `(tactic| (refine add_int ?_; (try dsimp only)))
local macro_rules | `(tactic| walk_at "binaryOp FloorDiv int int") => `(tactic| (refine floordiv_int (by decide) ?_; (try dsimp only)))
local macro_rules | `(tactic| walk_at "CompSrc") => `(tactic| (k_here; k_dflt (refine LCg.CompSrc.ledger (by rfl) (by k_asm) (by k_asm) (by repeat (first | assumption | refine List.Mem.tail _ ?_)) (by assumption) ?_); intro g'))

theorem J2.turnN {σ : Type} {x1 d1 x2 d2 : Addr} {news : List (Addr × Obj)} {ps : σ → List (Str × Value)} {C : Nat → Obj → Obj → σ → Prop} {i : Nat} {m : Str → Option Value} {nx : List (Addr × Obj)}
    {P : Prop} {h₀ h : Heap} {L : Addr} {its : List (Addr × Obj)} {adr : List Addr} (hJ : J2 x1 d1 x2 d2 news ps C i m nx) (F : Fr h₀ L h m) (N : News h₀ L h (nx ++ its)) (hoff : OwnOff its adr) (hadr : adr = x2 :: d2 :: x1 :: d1 :: news.map (·.1)) (h1 : ∀ p ∈ news, p.1 ≠ d1) (h2 : ∀ p ∈ news, p.1 ≠ d2)
    (k : ∀ rest D1 D2 c, (∀ p ∈ news, p ∈ rest) → (∀ p ∈ its, p ∈ rest) → (∀ p ∈ rest, p.1 ≠ d1) → (∀ p ∈ rest, p.1 ≠ d2) → Fr h₀ L h (kstB m (ps c)) → News h₀ L h ((x2, instObj 81 d2) :: (d2, D2) :: (x1, instObj 81 d1) :: (d1, D1) :: rest) → C i D1 D2 c → P) : P := by
  subst hadr
  obtain ⟨D1, D2, c, rfl, hm, hC⟩ := hJ
  refine k (news ++ its) D1 D2 c (fun p hp => List.mem_append.mpr (.inl hp)) (fun p hp => List.mem_append.mpr (.inr hp)) (fun p hp => ?_) (fun p hp => ?_) ?_ N hC
  · rcases List.mem_append.mp hp with hp | hp
    · exact h1 p hp
    · exact hoff p hp _ (.tail _ (.tail _ (.tail _ (.head _))))
  · rcases List.mem_append.mp hp with hp | hp
    · exact h2 p hp
    · exact hoff p hp _ (.tail _ (.head _))
  · have e : kstB m (ps c) = m := funext fun z => kstB_eq hm fun _ => rfl
    rw [e]
    exact F
theorem as_turned {ws : List Value} {rs : List Int} {at_ : Int} (h : IntsAre ws (turnedL rs at_)) : IntsAre ws (turnedL rs at_) := h
theorem news7 {h₀ h : Heap} {L o9 l9 : Addr} {ys wo : List Value} {n9 : Nat} {q2 q3 q4 q5 q7 r1 r2 r3 r4 : Addr × Obj} {news : List (Addr × Obj)}
    (N : News h₀ L h ((o9, listOf wo.toArray n9) :: q2 :: q3 :: q4 :: q5 :: (l9, LCg.lst ys) :: q7 :: r1 :: r2 :: r3 :: r4 :: news)) : News h₀ L h (r1 :: r2 :: r3 :: r4 :: (o9, listOf wo.toArray n9) :: (l9, listOf ys.toArray ys.length) :: news) := fun p hp => N p (by
  simp only [List.mem_cons] at hp ⊢
  rcases hp with h | h | h | h | h | h | h <;> simp [h])
section
variable {prog : Program} {w : World} {A : Around} {E : Value → Shared → Prop} {s : Shared} {h₀ : Heap} {L : Addr} {led : List (Addr × Obj)} {value slice : PySem.Expr} {a : Addr} {vs : List Value} {ns : List Int} {n : Nat} {k : Int} {u : Tok} {Q : Value → Shared → Prop}
theorem list_at (h : ∀ t, Q (.int (ns.getD k.toNat 0) t) s) (N : News h₀ L s.heap led := by k_asm) (hm : (a, listOf vs.toArray n) ∈ led := by repeat (first | assumption | refine List.Mem.tail _ ?_)) (hi : IntsAre vs ns := by assumption) (h0 : 0 ≤ k := by omega) (h1 : k < (ns.length : Int) := by omega) (hz : (ns.length : Int) ≤ 20 := by omega)
    (hs : subscripted slice false (.ref a) (.int k u) = operate [.ref a, .int k u] (getItem (.ref a) (.int k u)) := by with_unfolding_all rfl) :
    wpAny (model prog w) A (subscriptTail value slice (.ref a) (.int k u)) Q E s := by
  have hl : s.heap.IsList a vs.toArray := News.isList N hm
  have hlt : k.toNat < ns.length := by omega
  obtain ⟨t, ht⟩ := hi.get k.toNat ns[k.toNat] (by simp [hlt])
  refine tail_any hl.typeIs slot_list_getitem.lookup (wpAny_getItem_list hl h0 (by omega) (x := .int (ns.getD k.toNat 0) t) ?_ (h t)) hs
  rw [show ns.getD k.toNat 0 = ns[k.toNat] by simp [hlt]]
  simpa using ht
end
local macro_rules | `(tactic| walk_at "subscriptTail Name") => `(tactic| (k_here; (with_reducible show wpAny _ _ (subscriptTail _ _ (Value.ref _) (Value.int _ _)) _ _ _); k_dflt (refine list_at ?_); intro t'))

local macro_rules | `(tactic| walk_at "subscriptTail Name") => `(tactic| (k_here; (with_reducible show wpAny _ _ (subscriptTail _ _ (Value.ref _) (Value.int 0 _)) _ _ _); k_dflt (refine row0 ?_)))
local macro_rules | `(tactic| walk_at "subscriptTail Name") => `(tactic| (k_here; (with_reducible show wpAny _ _ (subscriptTail _ _ (Value.ref _) (Value.int 1 _)) _ _ _); k_dflt (refine row1 ?_)))
local macro_rules | `(tactic| walk_at "subscriptTail Name") => `(tactic| (k_here; (with_reducible show wpAny _ _ (subscriptTail _ _ (Value.ref _) (Value.int 2 _)) _ _ _); k_dflt (refine row2 ?_)))

/-- what holds of the two between the turns of the third law -/
def CT (w : World) (rs : List Int) (at_ : Int) (i : Nat) (D1 D2 : Obj) (c : Int × Tok) : Prop :=
  (i = 0 ∧ (∃ k1 k2 k3 k4 k5 k6 v1 v2 v3 v4, D1 = rtt w k1 k2 k3 k4 k5 k6 v1 v2 v3 v4 .none) ∧ (∃ k1 k2 k3 k4 k5 k6 v1 v2 v3 v4, D2 = rtt w k1 k2 k3 k4 k5 k6 v1 v2 v3 v4 .none)) ∨
  (0 < i ∧ ∃ S1 S2 V1 V2 le1 le2 : Int, TT rs at_ (i : Int) c.1 S1 S2 le1 le2 ∧ (∃ k1 k2 k3 k4 k5 k6 t1 t2 t3 t4 t5 la fa, D1 = rtt w k1 k2 k3 k4 k5 k6 (.int la t1) (.int le1 t2) (.int S1 t3) (.int V1 t4) (.int fa t5)) ∧
    (∃ k1 k2 k3 k4 k5 k6 t1 t2 t3 t4 t5 la fa, D2 = rtt w k1 k2 k3 k4 k5 k6 (.int la t1) (.int le2 t2) (.int S2 t3) (.int V2 t4) (.int fa t5)))
abbrev psT (l x1 x2 lg ot : Addr) (at_ : Int) (ta : Tok) (c : Int × Tok) : List (Str × Value) :=
  [(Str.ofString "rows", Value.ref l), (Str.ofString "at", Value.int at_ ta), (Str.ofString "one", Value.ref x1), (Str.ofString "other", Value.ref x2), (Str.ofString "lengths", Value.ref lg), (Str.ofString "others", Value.ref ot), (Str.ofString "between", Value.int c.1 c.2)]
section
variable {w : World} {at_ : Int} {rs : List Int} {i : Nat} {x1 d1 x2 d2 l lg ot : Addr} {news rest its all : List (Addr × Obj)} {ta : Tok} {m m' : Str → Option Value} {nx : List (Addr × Obj)} {h₀ h h' : Heap} {L : Addr} {adr : List Addr} {G : Prop}
theorem CT.zero {k1 k2 k3 k4 k5 k6 k1' k2' k3' k4' k5' k6' tb : Tok} {v1 v2 v3 v4 v1' v2' v3' v4' : Value} {b : Int}
    (h1 : m (Str.ofString "rows") = some (Value.ref l)) (h2 : m (Str.ofString "at") = some (Value.int at_ ta)) (h3 : m (Str.ofString "one") = some (Value.ref x1)) (h4 : m (Str.ofString "other") = some (Value.ref x2)) (h5 : m (Str.ofString "lengths") = some (Value.ref lg)) (h6 : m (Str.ofString "others") = some (Value.ref ot)) (h7 : m (Str.ofString "between") = some (Value.int b tb)) :
    J2 x1 d1 x2 d2 news (psT l x1 x2 lg ot at_ ta) (CT w rs at_) 0 m ((x2, instObj 81 d2) :: (d2, rtt w k1' k2' k3' k4' k5' k6' v1' v2' v3' v4' .none) :: (x1, instObj 81 d1) :: (d1, rtt w k1 k2 k3 k4 k5 k6 v1 v2 v3 v4 .none) :: news) :=
  ⟨_, _, (b, tb), rfl, AllAt.cons h1 (.cons h2 (.cons h3 (.cons h4 (.cons h5 (.cons h6 (.cons h7 .nil)))))), Or.inl ⟨rfl, ⟨_, _, _, _, _, _, _, _, _, _, rfl⟩, ⟨_, _, _, _, _, _, _, _, _, _, rfl⟩⟩⟩
theorem CT.turn (hJ : J2 x1 d1 x2 d2 news (psT l x1 x2 lg ot at_ ta) (CT w rs at_) i m nx) (F : Fr h₀ L h m) (N : News h₀ L h (nx ++ its)) (hoff : OwnOff its adr) (hadr : adr = x2 :: d2 :: x1 :: d1 :: news.map (·.1)) (h1 : ∀ p ∈ news, p.1 ≠ d1) (h2 : ∀ p ∈ news, p.1 ≠ d2)
    (k0 : ∀ rest bt tb k1 k2 k3 k4 k5 k6 v1 v2 v3 v4 k1' k2' k3' k4' k5' k6' v1' v2' v3' v4', (∀ p ∈ news, p ∈ rest) → (∀ p ∈ its, p ∈ rest) → (∀ p ∈ rest, p.1 ≠ d1) → (∀ p ∈ rest, p.1 ≠ d2) → i = 0 →
      Fr h₀ L h (kstB m (psT l x1 x2 lg ot at_ ta (bt, tb))) → News h₀ L h ((x2, instObj 81 d2) :: (d2, rtt w k1' k2' k3' k4' k5' k6' v1' v2' v3' v4' .none) :: (x1, instObj 81 d1) :: (d1, rtt w k1 k2 k3 k4 k5 k6 v1 v2 v3 v4 .none) :: rest) → G)
    (kk : ∀ rest bt tb k1 k2 k3 k4 k5 k6 t1 t2 t3 t4 t5 la1 le1 S1 V1 fa1 k1' k2' k3' k4' k5' k6' t1' t2' t3' t4' t5' la2 le2 S2 V2 fa2, (∀ p ∈ news, p ∈ rest) → (∀ p ∈ its, p ∈ rest) → (∀ p ∈ rest, p.1 ≠ d1) → (∀ p ∈ rest, p.1 ≠ d2) → 0 < i → TT rs at_ (i : Int) bt S1 S2 le1 le2 →
      Fr h₀ L h (kstB m (psT l x1 x2 lg ot at_ ta (bt, tb))) → News h₀ L h ((x2, instObj 81 d2) :: (d2, rtt w k1' k2' k3' k4' k5' k6' (.int la2 t1') (.int le2 t2') (.int S2 t3') (.int V2 t4') (.int fa2 t5')) :: (x1, instObj 81 d1) :: (d1, rtt w k1 k2 k3 k4 k5 k6 (.int la1 t1) (.int le1 t2) (.int S1 t3) (.int V1 t4) (.int fa1 t5)) :: rest) → G) : G := by
  refine J2.turnN hJ F N hoff hadr h1 h2 ?_
  rintro rest D1 D2 ⟨bt, tb⟩ hn hi hr1 hr2 F7 N7 hC
  rcases hC with ⟨hi0, ⟨k1, k2, k3, k4, k5, k6, v1, v2, v3, v4, rfl⟩, ⟨k1', k2', k3', k4', k5', k6', v1', v2', v3', v4', rfl⟩⟩ | ⟨hi0, S1, S2, V1, V2, le1, le2, eT, ⟨k1, k2, k3, k4, k5, k6, t1, t2, t3, t4, t5, la1, fa1, rfl⟩, ⟨k1', k2', k3', k4', k5', k6', t1', t2', t3', t4', t5', la2, fa2, rfl⟩⟩
  · exact k0 _ _ _ _ _ _ _ _ _ _ _ _ _ _ _ _ _ _ _ _ _ _ _ hn hi hr1 hr2 hi0 F7 N7
  · exact kk _ _ _ _ _ _ _ _ _ _ _ _ _ _ _ _ _ _ _ _ _ _ _ _ _ _ _ _ _ _ _ _ _ _ _ hn hi hr1 hr2 hi0 eT F7 N7
theorem CT.fin {s₁ : Shared} {tk : Nat} {k1 k2 k3 k4 k5 k6 t1 t2 t3 t4 t5 k1' k2' k3' k4' k5' k6' t1' t2' t3' t4' t5' tb : Tok} {la1 le1 S1 V1 fa1 la2 le2 S2 V2 fa2 : Int} (F : Fr h₀ L h' m') (N : News h₀ L h' all)
    (hs : ∀ p ∈ (x2, instObj 81 d2) :: (d2, rtt w k1' k2' k3' k4' k5' k6' (.int la2 t1') (.int le2 t2') (.int S2 t3') (.int V2 t4') (.int fa2 t5')) :: (x1, instObj 81 d1) :: (d1, rtt w k1 k2 k3 k4 k5 k6 (.int la1 t1) (.int le1 t2) (.int S1 t3) (.int V1 t4) (.int fa1 t5)) :: rest, p ∈ all) (hn : ∀ p ∈ news, p ∈ rest) (hi : ∀ p ∈ its, p ∈ rest)
    (h1 : m' (Str.ofString "rows") = some (Value.ref l)) (h2 : m' (Str.ofString "at") = some (Value.int at_ ta)) (h3 : m' (Str.ofString "one") = some (Value.ref x1)) (h4 : m' (Str.ofString "other") = some (Value.ref x2)) (h5 : m' (Str.ofString "lengths") = some (Value.ref lg)) (h6 : m' (Str.ofString "others") = some (Value.ref ot)) (h7 : m' (Str.ofString "between") = some (Value.int (S1 - S2) tb))
    (hT : TT rs at_ ((i : Int) + 1) (S1 - S2) S1 S2 le1 le2) (hadr : adr = x2 :: d2 :: x1 :: d1 :: news.map (·.1)) :
    InvEndN h₀ L (J2 x1 d1 x2 d2 news (psT l x1 x2 lg ot at_ ta) (CT w rs at_) (i + 1)) its adr s₁ { s₁ with heap := h', toks := tk } :=
  J2.fin (S1 - S2, tb) F N hs hn hi (.cons h1 (.cons h2 (.cons h3 (.cons h4 (.cons h5 (.cons h6 (.cons h7 .nil)))))))
    (Or.inr ⟨Nat.succ_pos _, _, _, _, _, _, _, hT, ⟨_, _, _, _, _, _, _, _, _, _, _, _, _, rfl⟩, ⟨_, _, _, _, _, _, _, _, _, _, _, _, _, rfl⟩⟩) hadr
theorem CT.out (hJ : J2 x1 d1 x2 d2 news (psT l x1 x2 lg ot at_ ta) (CT w rs at_) i m nx) (hi : 0 < i) (hk : at_ + 2 ≤ (i : Int)) (F : Fr h₀ L h m) (N : News h₀ L h nx)
    (kk : ∀ bt tb k1 k2 k3 k4 k5 k6 t1 t2 t3 t4 t5 la1 le S1 V1 fa1 k1' k2' k3' k4' k5' k6' t1' t2' t3' t4' t5' la2 S2 V2 fa2,
      Fr h₀ L h (kstB m (psT l x1 x2 lg ot at_ ta (bt, tb))) → News h₀ L h ((x2, instObj 81 d2) :: (d2, rtt w k1' k2' k3' k4' k5' k6' (.int la2 t1') (.int le t2') (.int S2 t3') (.int V2 t4') (.int fa2 t5')) :: (x1, instObj 81 d1) :: (d1, rtt w k1 k2 k3 k4 k5 k6 (.int la1 t1) (.int le t2) (.int S1 t3) (.int V1 t4) (.int fa1 t5)) :: news) → G) : G := by
  refine J2.out hJ F N ?_
  rintro D1 D2 ⟨bt, tb⟩ F7 N7 hC
  rcases hC with ⟨hi0, _⟩ | ⟨hi0, S1, S2, V1, V2, le1, le2, eT, ⟨k1, k2, k3, k4, k5, k6, t1, t2, t3, t4, t5, la1, fa1, rfl⟩, ⟨k1', k2', k3', k4', k5', k6', t1', t2', t3', t4', t5', la2, fa2, rfl⟩⟩
  · omega
  · obtain rfl : le1 = le2 := eT.2.2.2 hk
    exact kk _ _ _ _ _ _ _ _ _ _ _ _ _ _ _ _ _ _ _ _ _ _ _ _ _ _ _ _ _ _ _ _ _ F7 N7
end
section
variable {w : World} {p : Program} {loose : List Str} {mean : ExcName → Option Value} {mg mb : Str → Option Value}
  {dp un : Nat} {gd : Option (List Code)} {cn : Str} {cs : Scope} {a : Addr} {ccd : Value} {cl : List (Str × Addr)} {outer : List Env} {A₀ : Around} {base h₀ : Heap} {L : Addr} {m : Str → Option Value} {news : List (Addr × Obj)} {s : Shared}
  {Q E : Value → Shared → Prop}

theorem turned_spec
    {l : Addr} {vs : List Value} {n : Nat} {rs : List Int} {at_ : Int} {ta : Tok}
    (hret : ∀ h' tk', Fr h₀ L h' m → News h₀ L h' news → Q (.bool true) { s with heap := h', toks := tk' })
    (B : Below A₀ base outer h₀ := by k_asm) (F : Fr h₀ L s.heap m := by k_asm) (X : (Mine.hd.heap_39 w.params).In h₀ := by k_asm) (T : Top p loose mean mg mb h₀ := by k_asm) (hk : cs.kind = .function := by first | assumption | exact rfl) (hd : dp + 10 < recursionLimit := by ktr_room) (hu : un + 80 < cLine := by ktr_units)
    (N : News h₀ L s.heap news := by k_asm) (hrows : RowsIn news l vs n rs := by exact RowsT.led (by assumption)) (h1 : 1 ≤ at_ := by omega) (h2 : at_ + 2 ≤ (rs.length : Int) := by omega) (h3 : rs.length ≤ 20 := by omega) :
    wpAny (model PySem.Challenge.rw_tk0088_01.row.prog w) (ktrTop dp un gd cn cs L a ccd cl outer) (call (.ref 159) [.ref l, .int at_ ta]) Q E s := by
  have hl := hrows.1
  have hz : vs.toArray.size ≤ sizeLine := by
    rw [List.size_toArray, hrows.2.1, sizeLine_eq]
    omega
  w_top off
  refine wpAny_call ?_
  k_dflt ktr_enter
  k_steps
  refine comp_ints (its := vs.toArray) (rs := rs) (Or.inr ⟨_, (by repeat (first | assumption | refine List.Mem.tail _ ?_)), rfl, _, rfl⟩) ?step ?fin vs.toArray.size 0 [] (by rw [List.size_toArray, hrows.2.1]; omega) .nil
  case step =>
    intro i v I oI C oC D m₂ h tk E' ys hv hC hx F8 N8 R hR
    obtain ⟨la, de, nw, u1, u2, u3, kk, ra, hrs, rfl, hra⟩ := hrows.2.2 i v (by simpa using hv)
    k_steps
    exact hR _ _ _ _ hrs (by k_asm) (by k_asm)
  case fin =>
    intro ys hI
    have hyl := hI.length
    have hyz : ys.toArray.size ≤ sizeLine := by
      rw [List.size_toArray, hyl, sizeLine_eq]
      omega
    k_steps
    rename Fr _ _ _ _ => F9
    rename News _ _ _ _ => N9
    have hwl := turned_len (rs := rs) (at_ := at_) (by omega) h2
    have hw := as_turned (rs := rs) (at_ := at_) (by assumption)
    refine enum_inv (lo := listOf vs.toArray n) (vs := vs) (n := n) (J2 _ _ _ _ _ (psT l _ _ _ _ at_ ta) (CT w rs at_)) (by rfl) F9 (news7 N9) rfl rfl (CT.zero rfl rfl rfl rfl rfl rfl rfl) (fun i m nx h => J2.keep (.tail _ (.tail _ hrows.1)) h) (fun i m nx h => J2.adr h) ?_ ?_
    · intro i x T t m₁ nx h tk its hx hJ hoff hT F8 N8 R hR
      obtain ⟨la, de, nw, u1, u2, u3, kk, ra, hrs, rfl, hra⟩ := hrows.2.2 i x hx
      have hil : (i : Int) < (rs.length : Int) := by
        have := (List.getElem?_eq_some_iff.mp hrs).1
        omega
      have hil0 : 0 ≤ (i : Int) := by omega
      refine CT.turn hJ F8 N8 hoff rfl (List.forall_mem_cons.mpr ⟨by k_ne, List.forall_mem_cons.mpr ⟨by k_ne, fun p hp => Nat.ne_of_lt (ktn_ltOf (by tbn_lt) p hp)⟩⟩) (List.forall_mem_cons.mpr ⟨by k_ne, List.forall_mem_cons.mpr ⟨by k_ne, fun p hp => Nat.ne_of_lt (ktn_ltOf (by tbn_lt) p hp)⟩⟩) ?_ ?_
      · clear hJ F8 N8
        intro rest bt tb k1 k2 k3 k4 k5 k6 v1 v2 v3 v4 k1' k2' k3' k4' k5' k6' v1' v2' v3' v4' hn hi hr1 hr2 hi0 F7 N7
        have hra' := hn _ (.tail _ (.tail _ hra))
        have hot' := hn _ (.head _)
        have hlg' := hn _ (.tail _ (.head _))
        dsimp only [kstB, psT] at F7
        try dsimp only
        generalize hkt : (i : Int) = kt at hT hil hil0
        k_steps
        all_goals first
          | (exfalso; omega)
          | (rename Fr _ _ _ _ => F6
             rename News _ _ _ _ => N6
             have g := (turned_get (rs := rs) (at_ := at_) (k := kt) (by omega) h2 hil0).1 (by omega)
             refine hR _ (CT.fin F6 N6 (fun p hp => hp) hn hi rfl rfl rfl rfl rfl rfl rfl ?_ rfl)
             rw [hkt]
             unfold TT
             exact ⟨rfl, fun _ => ⟨by rw [g], g.symm⟩, fun e => by omega, fun e => by omega⟩)
      · clear hJ F8 N8
        intro rest bt tb k1 k2 k3 k4 k5 k6 t1 t2 t3 t4 t5 la1 le1 S1 V1 fa1 k1' k2' k3' k4' k5' k6' t1' t2' t3' t4' t5' la2 le2 S2 V2 fa2 hn hi hr1 hr2 hi0 eT F7 N7
        have hra' := hn _ (.tail _ (.tail _ hra))
        have hot' := hn _ (.head _)
        have hlg' := hn _ (.tail _ (.head _))
        dsimp only [kstB, psT] at F7
        try dsimp only
        generalize hkt : (i : Int) = kt at hT hil hil0 eT
        k_steps
        all_goals first
          | (exfalso; omega)
          | (have M := turn_math (by omega) h2 hil0 eT (by assumption) (by assumption) (by assumption) (by assumption) (by assumption) (by assumption)
             exfalso
             obtain ⟨_, M2, M3⟩ := M
             first
               | (have M4 := M2 (by assumption); omega)
               | (have M4 := M3 (by assumption); omega))
          | (have M := turn_math (by omega) h2 hil0 eT (by assumption) (by assumption) (by assumption) (by assumption) (by assumption) (by assumption)
             rename Fr _ _ _ _ => F6
             rename News _ _ _ _ => N6
             refine hR _ (CT.fin F6 N6 (fun p hp => hp) hn hi rfl rfl rfl rfl rfl rfl rfl ?_ rfl)
             rw [hkt]
             exact M.1)
    · intro m₁ nx h tk hJ F8 N8
      refine CT.out hJ (by rw [hrows.2.1]; omega) (by rw [hrows.2.1]; omega) F8 N8 ?_
      clear hJ F8 N8
      intro bt tb k1 k2 k3 k4 k5 k6 t1 t2 t3 t4 t5 la1 le S1 V1 fa1 k1' k2' k3' k4' k5' k6' t1' t2' t3' t4' t5' la2 S2 V2 fa2 F7 N7
      dsimp only [kstB, psT] at F7
      k_steps
      all_goals
        rename News _ _ _ _ => hN
        rw [show (le == le) = true from beq_self_eq_true _]
        exact hret _ _ (by k_asm) (fun p hp => hN p (by repeat (first | exact hp | refine List.Mem.tail _ ?_)))
end
end Mine

namespace Mine
def RowsT (tl : List (Addr × Obj)) (vs : List Value) (rs : List Int) : Prop :=
  vs.length = rs.length ∧ ∀ (i : Nat) (x : Value), vs[i]? = some x → ∃ (la de nw : Int) (t1 t2 t3 : Tok) (k : Nat) (a : Addr), rs[i]? = some la ∧ x = Value.ref a ∧ (a, rowO la de nw t1 t2 t3 k) ∈ tl
theorem RowsT.led {tl : List (Addr × Obj)} {vs : List Value} {rs : List Int} {q1 q2 : Addr × Obj} {l : Addr} {n : Nat} (h : RowsT tl vs rs) : RowsIn (q1 :: q2 :: (l, listOf vs.toArray n) :: tl) l vs n rs :=
  ⟨.tail _ (.tail _ (.head _)), h.1, fun i x hx => by
    obtain ⟨la, de, nw, t1, t2, t3, k, a, h1, h2, h3⟩ := h.2 i x hx
    exact ⟨la, de, nw, t1, t2, t3, k, a, h1, h2, .tail _ (.tail _ (.tail _ h3))⟩⟩
theorem RowsT.nil {tl : List (Addr × Obj)} : RowsT tl [] [] := ⟨rfl, fun i x h => by simp at h⟩
theorem RowsT.snoc {tl : List (Addr × Obj)} {vs : List Value} {rs : List Int} {D : Addr} {la de nw : Int} {t1 t2 t3 : Tok} {k : Nat} (h : RowsT tl vs rs) : RowsT ((D, rowO la de nw t1 t2 t3 k) :: tl) (vs ++ [.ref D]) (rs ++ [la]) := by
  refine ⟨by simp [h.1], fun i x hx => ?_⟩
  rcases Nat.lt_trichotomy i vs.length with hi | hi | hi
  · rw [List.getElem?_append_left hi] at hx
    obtain ⟨la', de', nw', t1', t2', t3', k', a', h1, h2, h3⟩ := h.2 i x hx
    exact ⟨la', de', nw', t1', t2', t3', k', a', by rw [List.getElem?_append_left (h.1 ▸ hi)]; exact h1, h2, .tail _ h3⟩
  · subst hi
    have e : Value.ref D = x := by simpa using hx
    subst e
    exact ⟨la, de, nw, t1, t2, t3, k, D, by rw [h.1]; simp, rfl, .head _⟩
  · rw [List.getElem?_eq_none (by simp; omega)] at hx
    cases hx

section
variable {h₀ h : Heap} {L : Addr} {a b c d e : Addr × Obj} {r : List (Addr × Obj)}
theorem perm1 (N : News h₀ L h (a :: d :: e :: r)) : News h₀ L h (d :: e :: a :: r) := fun p hp => N p (by simp only [List.mem_cons] at hp ⊢; rcases hp with h | h | h | h <;> simp [h])
theorem perm2 (N : News h₀ L h (a :: b :: d :: e :: r)) : News h₀ L h (d :: e :: a :: b :: r) := fun p hp => N p (by simp only [List.mem_cons] at hp ⊢; rcases hp with h | h | h | h | h <;> simp [h])
theorem perm3 (N : News h₀ L h (a :: b :: c :: d :: e :: r)) : News h₀ L h (d :: e :: a :: b :: c :: r) := fun p hp => N p (by simp only [List.mem_cons] at hp ⊢; rcases hp with h | h | h | h | h | h <;> simp [h])
end
section
variable {prog : Program} {w : World} {A : Around} {E : Value → Shared → Prop} {s : Shared} {h₀ : Heap} {L : Addr} {led : List (Addr × Obj)} {value slice : PySem.Expr} {a : Addr} {n : Nat} {k : Int} {u t1 t2 : Tok} {i1 i2 : Int} {Q : Value → Shared → Prop}
/-- an item of the three bounds -/
theorem menu_at (h : ∀ v, (v = .none ∨ ∃ b t, v = .int b t) → Q v s) (N : News h₀ L s.heap led := by k_asm) (hm : (a, listOf [Value.none, .int i1 t1, .int i2 t2].toArray n) ∈ led := by repeat (first | exact List.Mem.head _ | refine List.Mem.tail _ ?_)) (h0 : 0 ≤ k := by omega) (h1 : k < 3 := by omega)
    (hs : subscripted slice false (.ref a) (.int k u) = operate [.ref a, .int k u] (getItem (.ref a) (.int k u)) := by with_unfolding_all rfl) :
    wpAny (model prog w) A (subscriptTail value slice (.ref a) (.int k u)) Q E s := by
  have hl := News.isList N hm
  rcases (show k = 0 ∨ k = 1 ∨ k = 2 by omega) with rfl | rfl | rfl
  · exact tail_any hl.typeIs slot_list_getitem.lookup (wpAny_getItem_list hl (by decide) (by decide) (x := .none) (by simp) (h _ (.inl rfl))) hs
  · exact tail_any hl.typeIs slot_list_getitem.lookup (wpAny_getItem_list hl (by decide) (by decide) (x := .int i1 t1) (by simp) (h _ (.inr ⟨_, _, rfl⟩))) hs
  · exact tail_any hl.typeIs slot_list_getitem.lookup (wpAny_getItem_list hl (by decide) (by decide) (x := .int i2 t2) (by simp) (h _ (.inr ⟨_, _, rfl⟩))) hs
end
section
variable {prog : Program} {w : World} {A : Around} {E : Value → Shared → Prop} {s : Shared} {env : Env} {h₀ : Heap} {x : Str} {body : List Stmt} {Q : Flow → Shared → Prop}
theorem range_inv {r : Addr} {a₀ b₀ : Int} {t₀ u₀ v₀ : Tok} {n : Nat} {m₀ : Str → Option Value} {news : List (Addr × Obj)} (J : Nat → (Str → Option Value) → List (Addr × Obj) → Prop)
    (hh : A.handled = none) (hr : IsRange s.heap r a₀ b₀ 1 t₀ u₀ v₀) (hsmall : Builtin.Range.small a₀ b₀ 1 = true) (hsz : Builtin.Range.rangeSize a₀ b₀ 1 = (n : Int)) (F : Fr h₀ env.locals s.heap m₀) (N : News h₀ env.locals s.heap news) (hj : J 0 m₀ news)
    (turn : ∀ i t m₁ nx h tk own, i < n → OwnOff own (nx.map (·.1)) → J i m₁ nx → Fr h₀ env.locals h (fun y => if y = x then some (.int (a₀ + (i : Int)) t) else m₁ y) → News h₀ env.locals h (nx ++ own) →
      ∀ R : Flow → Shared → Prop, (∀ s', InvEndG h₀ env.locals (J (i + 1)) own { s with heap := h, toks := tk } s' → R .next s') →
      wpAny (model prog w) A (execs body env) R E { s with heap := h, toks := tk })
    (done : ∀ m₁ nx h tk, J n m₁ nx → Fr h₀ env.locals h m₁ → News h₀ env.locals h nx → Q .next { s with heap := h, toks := tk }) :
    wpAny (model prog w) A (pyIter (.ref r)) (fun it s₂ => LoopAtV prog w A h₀ env x body Q E it s₂) E s := by
  refine wpAny_pyIter_range hr hsmall ?_
  have W : Walks prog w A s.heap.objs.size [s.heap.objs.size] [s.heap.objs.size] n (fun i v => i < n ∧ ∃ t, v = .int (a₀ + i * 1) t)
      (fun i h => IsRangeIter h s.heap.objs.size (a₀ + (i : Nat) * 1) ((n : Int) - (i : Nat)) 1) := (Walks.range hh _ a₀ 1 n).bound
  refine kdr_loop J W (fun _ h => h) (fun _ h => h) (fun i h hi b hb => by rw [List.mem_singleton.mp hb]; exact ⟨_, hi⟩) (fun hm => absurd F.ns.lt ((List.mem_singleton.mp hm) ▸ Nat.lt_irrefl _))
    (fun b hb => by rw [List.mem_singleton.mp hb]; exact next_is_new F) (fun p hp hI => absurd (Heap.lt_size (N p hp).1) ((List.mem_singleton.mp hI) ▸ Nat.lt_irrefl _))
    (by show IsRangeIter _ _ _ _ _; rw [hsz]; simpa using Heap.get?_push_size _ rfl) (F.push _) (fun p hp => ⟨Heap.get?_push_of_some _ (N p hp).1, (N p hp).2⟩) hj ?_ ?_
  · rintro i v m₁ nx h tk own hi ⟨_, t, rfl⟩ hoff hJ F₁ N₁
    have e1 : a₀ + (i : Int) * 1 = a₀ + (i : Int) := by omega
    rw [e1] at F₁
    exact turn i t m₁ nx h tk own hi hoff hJ F₁ N₁ _ fun _ h => h
  · rintro m₁ nx h tk hJ F₁ N₁
    exact done m₁ nx h tk hJ F₁ N₁
end


/-- a barrier: the walk stands still here -/
def Stop (P : Prop) : Prop := P
theorem stop_out {P : Prop} (h : Stop P) : P := h
theorem stop_in {P : Prop} (h : P) : Stop P := h

theorem newsR {h₀ h : Heap} {L bx c rl : Addr} {at_ : Int} {t : Tok} {nb ny : Nat} {ys : List Value} {q3 q4 q5 : Addr × Obj} {q7 : List (Addr × Obj)}
    (N : News h₀ L h ((bx, listOf [Value.ref c, Value.int at_ t].toArray nb) :: (c, listOf ys.toArray ny) :: q3 :: q4 :: q5 :: (rl, listOf #[] 0) :: q7)) :
    News h₀ L h [(bx, listOf [Value.ref c, Value.int at_ t].toArray nb), (c, listOf ys.toArray ny), (rl, listOf ([] : List Value).toArray 0)] := fun p hp => N p (by
  simp only [List.mem_cons, List.not_mem_nil, or_false] at hp
  simp only [List.mem_cons]
  rcases hp with h | h | h <;> simp [h])

def JR (bx c rl : Addr) (nb ny : Nat) (ys : List Value) (m₀ : Str → Option Value) (i : Nat) (m : Str → Option Value) (nx : List (Addr × Obj)) : Prop :=
  ∃ (at_ nw : Int) (t tn : Tok) (vs : List Value) (n2 : Nat) (rs : List Int) (tl : List (Addr × Obj)),
    nx = (bx, listOf [Value.ref c, Value.int at_ t].toArray nb) :: (c, listOf ys.toArray ny) :: (rl, listOf vs.toArray n2) :: tl ∧
    ((∀ z, z ≠ Str.ofString "turn" → z ≠ Str.ofString "latest" → z ≠ Str.ofString "now" → m z = m₀ z) ∧ m (Str.ofString "now") = some (Value.int nw tn)) ∧
    (0 ≤ at_ ∧ at_ ≤ 10 + 3 * (i : Int)) ∧ rs.length = i ∧ RowsT tl vs rs ∧ (∀ p ∈ tl, p.1 ≠ bx) ∧ ∀ p ∈ tl, p.1 ≠ rl

theorem fr_same {h₀ h : Heap} {L : Addr} {m m₀ : Str → Option Value} {nw : Int} {tn : Tok} {v : Option Value}
    (hS : (∀ z, z ≠ Str.ofString "turn" → z ≠ Str.ofString "latest" → z ≠ Str.ofString "now" → m z = m₀ z) ∧ m (Str.ofString "now") = some (Value.int nw tn)) (F : Fr h₀ L h (fun y => if y = Str.ofString "turn" then v else m y)) :
    Fr h₀ L h (fun y => if y = Str.ofString "turn" then v else if y = Str.ofString "now" then some (Value.int nw tn) else if y = Str.ofString "latest" then m y else m₀ y) := by
  have e : (fun y => if y = Str.ofString "turn" then v else if y = Str.ofString "now" then some (Value.int nw tn) else if y = Str.ofString "latest" then m y else m₀ y) = fun y => if y = Str.ofString "turn" then v else m y := by
    funext y
    by_cases h1 : y = Str.ofString "turn"
    · simp only [if_pos h1]
    · simp only [if_neg h1]
      by_cases h2 : y = Str.ofString "now"
      · simp only [if_pos h2]; rw [h2, hS.2]
      · simp only [if_neg h2]
        by_cases h3 : y = Str.ofString "latest"
        · simp only [if_pos h3]
        · simp only [if_neg h3]; exact (hS.1 y h1 h3 h2).symm
  rw [e]; exact F

theorem fr_same2 {h₀ h : Heap} {L : Addr} {m m₀ : Str → Option Value} {nw : Int} {tn : Tok}
    (hS : (∀ z, z ≠ Str.ofString "turn" → z ≠ Str.ofString "latest" → z ≠ Str.ofString "now" → m z = m₀ z) ∧ m (Str.ofString "now") = some (Value.int nw tn)) (F : Fr h₀ L h m) :
    Fr h₀ L h (fun y => if y = Str.ofString "turn" then m (Str.ofString "turn") else if y = Str.ofString "now" then some (Value.int nw tn) else if y = Str.ofString "latest" then m y else m₀ y) := by
  refine fr_same hS ?_
  have e : (fun y => if y = Str.ofString "turn" then m (Str.ofString "turn") else m y) = m := by
    funext y
    by_cases h1 : y = Str.ofString "turn"
    · rw [if_pos h1, h1]
    · rw [if_neg h1]
  rw [e]; exact F

theorem JR.turn {bx c rl : Addr} {nb ny : Nat} {ys : List Value} {m₀ m : Str → Option Value} {i : Nat} {nx own : List (Addr × Obj)} {h₀ h : Heap} {L : Addr} {v : Option Value} {G : Prop}
    (hJ : JR bx c rl nb ny ys m₀ i m nx) (F : Fr h₀ L h (fun y => if y = Str.ofString "turn" then v else m y)) (N : News h₀ L h (nx ++ own)) (hoff : OwnOff own (nx.map (·.1)))
    (k : ∀ at_ nw tt tn vs n2 rs tl rest, 0 ≤ at_ → at_ ≤ 10 + 3 * (i : Int) → rs.length = i → RowsT tl vs rs → (∀ p ∈ tl, p.1 ≠ bx) → (∀ p ∈ tl, p.1 ≠ rl) → OwnOff own (((bx, listOf [Value.ref c, Value.int at_ tt].toArray nb) :: (c, listOf ys.toArray ny) :: (rl, listOf vs.toArray n2) :: tl).map (·.1)) →
      (∀ p ∈ rest, p.1 ≠ bx) → (∀ p ∈ rest, p.1 ≠ rl) → (∀ p ∈ tl, p ∈ rest) → (∀ p ∈ own, p ∈ rest) →
      Fr h₀ L h (fun y => if y = Str.ofString "turn" then v else if y = Str.ofString "now" then some (Value.int nw tn) else if y = Str.ofString "latest" then m y else m₀ y) →
      News h₀ L h ((bx, listOf [Value.ref c, Value.int at_ tt].toArray nb) :: (c, listOf ys.toArray ny) :: (rl, listOf vs.toArray n2) :: rest) → G) : G := by
  obtain ⟨at_, nw, tt, tn, vs, n2, rs, tl, rfl, hS, ⟨ha0, ha1⟩, hl, hr, h1, h2⟩ := hJ
  exact k at_ nw tt tn vs n2 rs tl (tl ++ own) ha0 ha1 hl hr h1 h2 hoff (fun p hp => (List.mem_append.mp hp).elim (h1 p) fun hp => hoff p hp _ (.head _)) (fun p hp => (List.mem_append.mp hp).elim (h2 p) fun hp => hoff p hp _ (.tail _ (.tail _ (.head _))))
    (fun p hp => List.mem_append.mpr (.inl hp)) (fun p hp => List.mem_append.mpr (.inr hp)) (fr_same hS F) N
theorem JR.out {bx c rl : Addr} {nb ny : Nat} {ys : List Value} {m₀ m : Str → Option Value} {i : Nat} {nx : List (Addr × Obj)} {h₀ h : Heap} {L : Addr} {G : Prop}
    (hJ : JR bx c rl nb ny ys m₀ i m nx) (F : Fr h₀ L h m) (N : News h₀ L h nx)
    (k : ∀ at_ nw tt tn vs n2 rs tl, 0 ≤ at_ → at_ ≤ 10 + 3 * (i : Int) → rs.length = i → RowsT tl vs rs → (∀ p ∈ tl, p.1 ≠ bx) → (∀ p ∈ tl, p.1 ≠ rl) →
      Fr h₀ L h (fun y => if y = Str.ofString "turn" then m (Str.ofString "turn") else if y = Str.ofString "now" then some (Value.int nw tn) else if y = Str.ofString "latest" then m y else m₀ y) →
      News h₀ L h ((bx, listOf [Value.ref c, Value.int at_ tt].toArray nb) :: (c, listOf ys.toArray ny) :: (rl, listOf vs.toArray n2) :: tl) → G) : G := by
  obtain ⟨at_, nw, tt, tn, vs, n2, rs, tl, rfl, hS, ⟨ha0, ha1⟩, hl, hr, h1, h2⟩ := hJ
  exact k at_ nw tt tn vs n2 rs tl ha0 ha1 hl hr h1 h2 (fr_same2 hS F) N

theorem JR.fin {bx c rl D : Addr} {nb ny n2 k : Nat} {ys vs : List Value} {m₀ m' : Str → Option Value} {i : Nat} {own rest tl : List (Addr × Obj)} {at_ nw la de nw' : Int} {t tn t1 t2 t3 : Tok} {rs : List Int} {h₀ h' : Heap} {L : Addr} {s₁ : Shared} {tk : Nat} {o1 o2 o3 : Obj}
    (F : Fr h₀ L h' m') (N : News h₀ L h' ((D, rowO la de nw' t1 t2 t3 k) :: (bx, listOf [Value.ref c, Value.int at_ t].toArray nb) :: (c, listOf ys.toArray ny) :: (rl, listOf (vs ++ [Value.ref D]).toArray n2) :: rest))
    (hsub : ∀ p ∈ tl, p ∈ rest) (hown : ∀ p ∈ own, p ∈ rest) (hlt : AllLt D rest) (hD1 : D ≠ bx) (hD2 : D ≠ rl) (hoff : OwnOff own (((bx, o1) :: (c, o2) :: (rl, o3) :: tl).map (·.1)))
    (hS : (∀ z, z ≠ Str.ofString "turn" → z ≠ Str.ofString "latest" → z ≠ Str.ofString "now" → m' z = m₀ z) ∧ m' (Str.ofString "now") = some (Value.int nw tn)) (ha : 0 ≤ at_ ∧ at_ ≤ 10 + 3 * ((i + 1 : Nat) : Int)) (hl : rs.length = i) (hr : RowsT tl vs rs) (h1 : ∀ p ∈ tl, p.1 ≠ bx) (h2 : ∀ p ∈ tl, p.1 ≠ rl) :
    InvEndG h₀ L (JR bx c rl nb ny ys m₀ (i + 1)) own s₁ { s₁ with heap := h', toks := tk } := by
  refine ⟨h', tk, m', _, (bx, listOf [Value.ref c, Value.int at_ t].toArray nb) :: (c, listOf ys.toArray ny) :: (rl, listOf (vs ++ [Value.ref D]).toArray n2) :: (D, rowO la de nw' t1 t2 t3 k) :: tl, rfl, F, N, fun p hp => ?_, fun p hp => .tail _ (.tail _ (.tail _ (.tail _ (hown p hp)))), fun p hp b hb => ?_, at_, nw, t, tn, vs ++ [.ref D], n2, rs ++ [la], (D, rowO la de nw' t1 t2 t3 k) :: tl, rfl, hS, ha, by rw [List.length_append, hl]; rfl, hr.snoc, List.forall_mem_cons.mpr ⟨hD1, h1⟩, List.forall_mem_cons.mpr ⟨hD2, h2⟩⟩
  · rcases List.mem_cons.mp hp with rfl | hp
    · exact .tail _ (.head _)
    rcases List.mem_cons.mp hp with rfl | hp
    · exact .tail _ (.tail _ (.head _))
    rcases List.mem_cons.mp hp with rfl | hp
    · exact .tail _ (.tail _ (.tail _ (.head _)))
    rcases List.mem_cons.mp hp with rfl | hp
    · exact .head _
    · exact .tail _ (.tail _ (.tail _ (.tail _ (hsub p hp))))
  · simp only [List.map_cons, List.mem_cons] at hb
    rcases hb with h | h | h | h | h
    · exact hoff p hp b (by simp [h])
    · exact hoff p hp b (by simp [h])
    · exact hoff p hp b (by simp [h])
    · rw [h]; exact Nat.ne_of_lt (ktn_ltOf hlt p (hown p hp))
    · exact hoff p hp b (by simp only [List.map_cons, List.mem_cons]; exact .inr (.inr (.inr h)))
end Mine
open Mine
local macro_rules | `(tactic| mul_fits) => `(tactic| exact PySem.IntMulOk.of_left (by decide))
local macro_rules | `(tactic| k_all) => `(tactic| assumption)
local macro_rules | `(tactic| size_fits) => `(tactic| assumption)
local macro_rules | `(tactic| walk_at "call ref") => `(tactic| (k_here; k_dflt (first | refine first_spec ?_ | refine all_spec ?_ | refine turned_spec ?_); intros; (try dsimp only); (try k_sweep)))
local macro_rules | `(tactic| walk_at "call ref") => `(tactic| (k_here; k_dflt (refine take_spec ?_); intros; (try dsimp only); (try k_sweep)))
local macro_rules | `(tactic| walk_at "subscriptTail List") => `(tactic| (k_here; (with_reducible show wpAny _ _ (subscriptTail _ _ (Value.ref _) (Value.int _ _)) _ _ _); k_dflt (refine menu_at ?_); intro v' hv'))

local macro_rules | `(tactic| walk_at "pyIter ref") => `(tactic| ((with_reducible show wpAny _ _ (pyIter (Value.ref _)) (fun it s₂ => LoopAtV _ _ _ _ _ _ _ _ _ it s₂) _ _); refine stop_out ?_))
theorem PySem.Challenge.cw_tk0088_01_holds : PySem.Challenge.rw_tk0088_01.Holds := by
  refine Mine.hd ?_
  w_strict (
    k_go0
    (all_goals try k_fold)
    k_steps
    refine stop_in ?_
    rename Fr _ _ _ _ => F9
    rename News _ _ _ _ => N9
    rename IsRange _ _ _ _ _ _ _ _ => rgX
    refine range_inv (JR _ _ _ _ _ _ _) (by rfl) rgX (small_one (by omega) (by omega) (by omega) (by omega)) (rangeSize_nat _ _) F9 (newsR N9) ⟨_, _, _, _, [], _, [], [], rfl, ⟨fun _ _ _ _ => rfl, rfl⟩, ⟨by omega, by omega⟩, rfl, RowsT.nil, List.forall_mem_nil _, List.forall_mem_nil _⟩ ?_ ?_
    · intro i t m₁ nx h tk own hi hoff hJ F8 N8 R hR
      refine JR.turn hJ F8 N8 hoff ?_
      clear hJ F8 N8 hoff
      intro at_ nw tt tn vs n2 rs tl rest ha0 ha1 hl hr h1 h2 hoff hr1 hr2 hsub hown F7 N7
      have hz : vs.toArray.size ≤ sizeLine := by
        rw [List.size_toArray, hr.1, hl, sizeLine_eq]
        omega
      try dsimp only
      k_steps
      rename Fr _ _ _ _ => F6
      rename News _ _ _ _ => N6
      simp only [List.push_toArray] at N6
      exact hR _ (JR.fin F6 N6 hsub hown (by tbn_lt) (by k_ne) (by k_ne) hoff ⟨fun z g1 g2 g3 => by simp only [if_neg g1, if_neg g2, if_neg g3], rfl⟩ ⟨by omega, by omega⟩ hl hr h1 h2)
    · intro m₁ nx h tk hJ F8 N8
      refine JR.out hJ F8 N8 ?_
      clear hJ F8 N8
      intro at_ nw tt tn vs n2 rs tl ha0 ha1 hl hr h1 h2 F7 N7
      try dsimp only
      k_steps
      done)
#print axioms PySem.Challenge.cw_tk0088_01_holds
