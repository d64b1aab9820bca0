import PyProof.Rows.All
import Wide.All
import OpenK.AllK
import Wide.FinOn
import Lean
import PySem.Challenge.RW_xm0039_01
open PySem PySem.W PyProof.Rows
set_option Elab.async false
-- the quick twins of heap_378, heap_39, tree_377, tree_347, view_39, tree_261 and tree_181 are not wanted: they alone would make the compiled file too large
name_quick tw14015173695609610170 for PySem.W.S.findZ by PySem.W.S.findZ_eq
name_quick tw8075568018651887793 for PySem.W.S.findZ by PySem.W.S.findZ_eq
name_quick tw13497088773603432520 for PySem.W.S.findZ by PySem.W.S.findZ_eq
name_quick tw13336175834630783545 for PySem.W.S.findZ by PySem.W.S.findZ_eq
name_quick tw14979626087600564940 for PySem.W.S.findZ by PySem.W.S.findZ_eq
name_quick tw15059494819884010274 for PySem.W.S.findZ by PySem.W.S.findZ_eq
name_quick tw17207729816335089435 for PySem.W.S.findZ by PySem.W.S.findZ_eq
namespace Mine
set_option maxRecDepth 100000 in
set_option maxHeartbeats 8000000 in
open_top hd for PySem.Challenge.rw_xm0039_01
section

abbrev arnd (dp un : Nat) (gd : Option (List Code)) (env : Env) (outer : List Env) : Around := { handled := none, depth := dp, frames := some (env :: outer), guards := gd, units := un }

/-- what a call of the def at f with vs gives back, whatever the caller -/
abbrev Cl (dp un : Nat) (w : World) (f : Addr) (vs : List Value) (news : List (Addr × Obj)) (Out : Value → List (Addr × Obj) → Prop) : Prop :=
  ∀ (loose : List Str) (mean : ExcName → Option Value) (mg mb : Str → Option Value) (gd : Option (List Code)) (env : Env) (outer : List Env) (A₀ : Around) (base h₀ : Heap) (L : Addr) (m : Str → Option Value) (s : Shared) (Q E : Value → Shared → Prop),
    env.frame = some L → env.scope.kind = .function → Below A₀ base outer h₀ → Fr h₀ L s.heap m → (Mine.hd.heap_39 w.params).In h₀ → News h₀ L s.heap news → Top Mine.hd.view_39 loose mean mg mb h₀ →
    (∀ v tl h' tk', Fr h₀ L h' m → News h₀ L h' (tl ++ news) → (∀ p ∈ tl, ∀ q ∈ news, q.1 < p.1) → Out v tl → Q v { s with heap := h', toks := tk' }) →
    wpAny (model PySem.Challenge.rw_xm0039_01.row.prog w) (arnd dp un gd env outer) (call (.ref f) vs) Q E s

theorem around_le {α : Type} {M : Model} {A B : Around} {t : Sem α} {Q : α → Shared → Prop} {E : Value → Shared → Prop} {s : Shared} (h : wpAny M B t Q E s) (h1 : A.handled = B.handled) (h2 : A.depth ≤ B.depth) (h3 : A.frames = B.frames) (h4 : A.guards = B.guards) (h5 : A.units ≤ B.units) : wpAny M A t Q E s :=
  fun Γ p hΓ => h Γ p ⟨hΓ.1.trans h1, Nat.le_trans hΓ.2.1 h2, fun l e => hΓ.2.2.1 l (h3.trans e), fun g e => hΓ.2.2.2.1 g (h4.trans e), Nat.le_trans hΓ.2.2.2.2 h5⟩

theorem Cl.use {dp un : Nat} {w : World} {f : Addr} {vs : List Value} {news : List (Addr × Obj)} {Out : Value → List (Addr × Obj) → Prop} (C : Cl dp un w f vs news Out)
    {loose : List Str} {mean : ExcName → Option Value} {mg mb : Str → Option Value} {env : Env} {outer : List Env} {A A₀ : Around} {base h₀ : Heap} {L : Addr} {m : Str → Option Value} {s : Shared} {Q E : Value → Shared → Prop}
    (B : Below A₀ base outer h₀) (F : Fr h₀ L s.heap m) (X : (Mine.hd.heap_39 w.params).In h₀) (N : News h₀ L s.heap news) (T : Top Mine.hd.view_39 loose mean mg mb h₀)
    (hA : A.frames = some (env :: outer)) (hf : env.frame = some L) (hk : env.scope.kind = .function) (h1 : A.handled = none) (h2 : A.depth ≤ dp) (h5 : A.units ≤ un)
    (ret : ∀ v tl h' tk', Fr h₀ L h' m → News h₀ L h' (tl ++ news) → (∀ p ∈ tl, ∀ q ∈ news, q.1 < p.1) → Out v tl → Q v { s with heap := h', toks := tk' }) :
    wpAny (model PySem.Challenge.rw_xm0039_01.row.prog w) A (call (.ref f) vs) Q E s :=
  around_le (C loose mean mg mb A.guards env outer A₀ base h₀ L m s Q E hf hk B F X N T ret) h1 h2 hA rfl h5

def isS (x : Str) (v : Value) (tl : List (Addr × Obj)) : Prop := (∃ t, v = .str x t) ∧ tl = []
def isI (x : Int) (v : Value) (tl : List (Addr × Obj)) : Prop := (∃ t, v = .int x t) ∧ tl = []
def isB (x : Bool) (v : Value) (tl : List (Addr × Obj)) : Prop := v = .bool x ∧ tl = []
theorem no_ord {news : List (Addr × Obj)} : ∀ p ∈ ([] : List (Addr × Obj)), ∀ q ∈ news, q.1 < p.1 := fun _ hp => nomatch hp
theorem one_ord {D : Addr} {o : Obj} {news : List (Addr × Obj)} (h : ∀ p ∈ news, p.1 < D) : ∀ p ∈ [(D, o)], ∀ q ∈ news, q.1 < p.1 := fun p hp q hq => by
  rw [List.mem_singleton.mp hp]
  exact h q hq
end
section
-- the walk's own lines: a def is entered; its end; a call by its contract
local macro_rules | `(tactic| walk_at "cl enter") => `(tactic| k_dflt (refine' code_def ?k1 ?k2 ?k3 ?k4 ?k5 ?kA ?kF ?kK ?k6 ?k7 ?k8 ?k9 ?kB ?_ ?c2 ?c3 ?c4 ?c5; (case kA => exact rfl); (case kF => assumption); (case kK => assumption); (case k1 => k_asm); (case k2 => k_asm); (case k3 => k_asm); (case k4 => k_asm); (case k5 => k_asm); (case k6 => k_is); (case k7 => k_is); (case k8 => exact of_decide_eq_true rfl); (case k9 => exact BindsTo.of_eq rfl); (case c5 => decide); (case kB => exact locs rfl); (case c2 => exact rfl); (case c3 => exact rfl); (case c4 => exact rfl); k_whole; intro g' L' h' FG' F' N' B' X' T'; (try dsimp only); (try k_lift B'); (try k_fold)))
local macro_rules | `(tactic| walk_at "cl e1") => `(tactic| k_asm)
local macro_rules | `(tactic| walk_at "cl e2") => `(tactic| first | k_asm | (refine' cb_drop ?cbN ?cbS; (case cbN => assumption); (case cbS => kcj_all)))
local macro_rules | `(tactic| walk_at "cl p") => `(tactic| first | assumption | omega | ((simp only [PySem.Str.length_append]); omega) | ((simp only [PySem.Str.length_append, List.length_append, List.length_cons, List.length_nil]); omega) | l_fact)
local macro_rules | `(tactic| walk_at "pyIter ref") => `(tactic| k_dflt (k_extra "pyIter ref"))
local macro_rules | `(tactic| walk_at "pyIter str") => `(tactic| k_dflt (k_extra "pyIter str"))
local macro_rules | `(tactic| walk_at "cl ord") => `(tactic| first | exact one_ord (by assumption) | exact one_ord (ktn_ltOf (by assumption)) | exact one_ord (ktn_ltOf (And.right (by assumption))) | exact one_ord (ktn_ltOf (And.right (And.right (by assumption)))) | exact one_ord (ktn_ltOf (And.right (And.right (And.right (by assumption))))) | exact one_ord (ktn_ltOf (And.right (And.right (And.right (And.right (by assumption)))))) | exact one_ord (ktn_ltOf (And.right (And.right (And.right (And.right (And.right (by assumption))))))) | exact one_ord (ktn_ltOf (And.right (And.right (And.right (And.right (And.right (And.right (by assumption)))))))))
local macro_rules | `(tactic| walk_at "exec While Compare cons nil") => `(tactic| k_dflt (k_extra "exec While Compare cons nil"))
local macro_rules | `(tactic| walk_at "InvEndN") => `(tactic| k_dflt (k_extra "InvEndN"))
set_option maxRecDepth 100000 in
set_option maxHeartbeats 8000000 in
theorem c_text_of (w : World) (x : Str) (t : Tok) (news : List (Addr × Obj)) : Cl 970 9700 w 93 [.str x t] news (isS x) := by
  w_top off
  unfold Cl
  k_fill
  intro loose mean mg mb gd env outer A₀ base h₀ Lf mf sf Qf Ef hf hk B F X N T hret
  refine wpAny_call ?_
  walk_at "cl enter"
  k_steps
  all_goals refine' hret _ [] _ _ ?e1 ?e2 no_ord ⟨⟨_, rfl⟩, rfl⟩
  all_goals first | walk_at "cl e1" | walk_at "cl e2"
local macro_rules | `(tactic| walk_at "call ref") => `(tactic| (k_here; k_dflt (refine' Cl.use (c_text_of _ _ _ _) ?k1 ?k2 ?k3 ?k4 ?k5 ?kA ?kF ?kK ?kh ?kd ?ku ?_; (case k1 => k_asm); (case k2 => k_asm); (case k3 => k_asm); (case k4 => k_asm); (case k5 => k_asm); (case kA => exact rfl); (case kF => first | exact rfl | assumption); (case kK => first | exact rfl | assumption); (case kh => exact rfl); (case kd => exact Nat.le_of_ble_eq_true rfl); (case ku => exact Nat.le_of_ble_eq_true rfl); k_whole; intro v' tl' h' tk' F' N' hord' hout'; obtain ⟨⟨t', ev'⟩, etl'⟩ := hout'; subst ev'; subst etl'; clear hord'; rw [List.nil_append] at N'; (try dsimp only))))
set_option maxRecDepth 100000 in
set_option maxHeartbeats 8000000 in
theorem c_joined (w : World) (x y : Str) (t u : Tok) (hw : x.length + y.length ≤ 255) (news : List (Addr × Obj)) : Cl 960 9600 w 149 [.str x t, .str y u] news (isS (x ++ y)) := by
  w_top off
  unfold Cl
  k_fill
  intro loose mean mg mb gd env outer A₀ base h₀ Lf mf sf Qf Ef hf hk B F X N T hret
  refine wpAny_call ?_
  walk_at "cl enter"
  k_steps
  all_goals refine' hret _ [] _ _ ?e1 ?e2 no_ord ⟨⟨_, rfl⟩, rfl⟩
  all_goals first | walk_at "cl e1" | walk_at "cl e2"
end
section
local macro_rules | `(tactic| walk_at "own pad") => `(tactic| skip)
local macro_rules | `(tactic| walk_at "own pad") => `(tactic| skip)
local macro_rules | `(tactic| walk_at "own pad") => `(tactic| skip)
local macro_rules | `(tactic| walk_at "own pad") => `(tactic| skip)
local macro_rules | `(tactic| walk_at "own pad") => `(tactic| skip)
local macro_rules | `(tactic| walk_at "own pad") => `(tactic| skip)
local macro_rules | `(tactic| walk_at "own pad") => `(tactic| skip)
local macro_rules | `(tactic| walk_at "own pad") => `(tactic| skip)
local macro_rules | `(tactic| walk_at "own pad") => `(tactic| skip)
local macro_rules | `(tactic| walk_at "own pad") => `(tactic| skip)
local macro_rules | `(tactic| walk_at "own pad") => `(tactic| skip)
local macro_rules | `(tactic| walk_at "own pad") => `(tactic| skip)
local macro_rules | `(tactic| walk_at "own pad") => `(tactic| skip)
local macro_rules | `(tactic| walk_at "own pad") => `(tactic| skip)
local macro_rules | `(tactic| walk_at "own pad") => `(tactic| skip)
local macro_rules | `(tactic| walk_at "own pad") => `(tactic| skip)
local macro_rules | `(tactic| walk_at "own pad") => `(tactic| skip)
local macro_rules | `(tactic| walk_at "own pad") => `(tactic| skip)
local macro_rules | `(tactic| walk_at "own pad") => `(tactic| skip)
local macro_rules | `(tactic| walk_at "own pad") => `(tactic| skip)
local macro_rules | `(tactic| walk_at "own pad") => `(tactic| skip)
local macro_rules | `(tactic| walk_at "own pad") => `(tactic| skip)
local macro_rules | `(tactic| walk_at "own pad") => `(tactic| skip)
local macro_rules | `(tactic| walk_at "own pad") => `(tactic| skip)
local macro_rules | `(tactic| walk_at "own pad") => `(tactic| skip)
local macro_rules | `(tactic| walk_at "own pad") => `(tactic| skip)
local macro_rules | `(tactic| walk_at "own pad") => `(tactic| skip)
local macro_rules | `(tactic| walk_at "own pad") => `(tactic| skip)
local macro_rules | `(tactic| walk_at "own pad") => `(tactic| skip)
local macro_rules | `(tactic| walk_at "own pad") => `(tactic| skip)
local macro_rules | `(tactic| walk_at "own pad") => `(tactic| skip)
local macro_rules | `(tactic| walk_at "own pad") => `(tactic| skip)
local macro_rules | `(tactic| walk_at "own pad") => `(tactic| skip)
local macro_rules | `(tactic| walk_at "own pad") => `(tactic| skip)
local macro_rules | `(tactic| walk_at "own pad") => `(tactic| skip)
local macro_rules | `(tactic| walk_at "own pad") => `(tactic| skip)
local macro_rules | `(tactic| walk_at "own pad") => `(tactic| skip)
local macro_rules | `(tactic| walk_at "own pad") => `(tactic| skip)
local macro_rules | `(tactic| walk_at "own pad") => `(tactic| skip)
local macro_rules | `(tactic| walk_at "own pad") => `(tactic| skip)
-- the walk's own lines: a def is entered; its end; a call by its contract
local macro_rules | `(tactic| walk_at "cl enter") => `(tactic| k_dflt (refine' code_def ?k1 ?k2 ?k3 ?k4 ?k5 ?kA ?kF ?kK ?k6 ?k7 ?k8 ?k9 ?kB ?_ ?c2 ?c3 ?c4 ?c5; (case kA => exact rfl); (case kF => assumption); (case kK => assumption); (case k1 => k_asm); (case k2 => k_asm); (case k3 => k_asm); (case k4 => k_asm); (case k5 => k_asm); (case k6 => k_is); (case k7 => k_is); (case k8 => exact of_decide_eq_true rfl); (case k9 => exact BindsTo.of_eq rfl); (case c5 => decide); (case kB => exact locs rfl); (case c2 => exact rfl); (case c3 => exact rfl); (case c4 => exact rfl); k_whole; intro g' L' h' FG' F' N' B' X' T'; (try dsimp only); (try k_lift B'); (try k_fold)))
local macro_rules | `(tactic| walk_at "cl e1") => `(tactic| k_asm)
local macro_rules | `(tactic| walk_at "cl e2") => `(tactic| first | k_asm | (refine' cb_drop ?cbN ?cbS; (case cbN => assumption); (case cbS => kcj_all)))
local macro_rules | `(tactic| walk_at "cl p") => `(tactic| first | assumption | omega | ((simp only [PySem.Str.length_append]); omega) | ((simp only [PySem.Str.length_append, List.length_append, List.length_cons, List.length_nil]); omega) | l_fact)
local macro_rules | `(tactic| walk_at "pyIter ref") => `(tactic| k_dflt (k_extra "pyIter ref"))
local macro_rules | `(tactic| walk_at "pyIter str") => `(tactic| k_dflt (k_extra "pyIter str"))
local macro_rules | `(tactic| walk_at "cl ord") => `(tactic| first | exact one_ord (by assumption) | exact one_ord (ktn_ltOf (by assumption)) | exact one_ord (ktn_ltOf (And.right (by assumption))) | exact one_ord (ktn_ltOf (And.right (And.right (by assumption)))) | exact one_ord (ktn_ltOf (And.right (And.right (And.right (by assumption))))) | exact one_ord (ktn_ltOf (And.right (And.right (And.right (And.right (by assumption)))))) | exact one_ord (ktn_ltOf (And.right (And.right (And.right (And.right (And.right (by assumption))))))) | exact one_ord (ktn_ltOf (And.right (And.right (And.right (And.right (And.right (And.right (by assumption)))))))))
local macro_rules | `(tactic| walk_at "exec While Compare cons nil") => `(tactic| k_dflt (k_extra "exec While Compare cons nil"))
local macro_rules | `(tactic| walk_at "InvEndN") => `(tactic| k_dflt (k_extra "InvEndN"))
local macro_rules | `(tactic| walk_at "call ref") => `(tactic| (k_here; k_dflt (refine' Cl.use (c_text_of _ _ _ _) ?k1 ?k2 ?k3 ?k4 ?k5 ?kA ?kF ?kK ?kh ?kd ?ku ?_; (case k1 => k_asm); (case k2 => k_asm); (case k3 => k_asm); (case k4 => k_asm); (case k5 => k_asm); (case kA => exact rfl); (case kF => first | exact rfl | assumption); (case kK => first | exact rfl | assumption); (case kh => exact rfl); (case kd => exact Nat.le_of_ble_eq_true rfl); (case ku => exact Nat.le_of_ble_eq_true rfl); k_whole; intro v' tl' h' tk' F' N' hord' hout'; obtain ⟨⟨t', ev'⟩, etl'⟩ := hout'; subst ev'; subst etl'; clear hord'; rw [List.nil_append] at N'; (try dsimp only))))
/-- the search's answer: the first place, from 1, or 0 -/
def FoundAt (x y : Str) (r : Int) : Prop :=
  (r = 0 ∧ ∀ i : Int, 0 ≤ i → i < (x.length : Int) - y.length + 1 → Txt.slice x (some i) (some (i + y.length)) ≠ y) ∨
  (0 ≤ r - 1 ∧ r - 1 < (x.length : Int) - y.length + 1 ∧ Txt.slice x (some (r - 1)) (some (r - 1 + y.length)) = y ∧ ∀ j : Int, 0 ≤ j → j < r - 1 → Txt.slice x (some j) (some (j + y.length)) ≠ y)
def isFound (x y : Str) (v : Value) (tl : List (Addr × Obj)) : Prop := (∃ r t, FoundAt x y r ∧ v = .int r t) ∧ tl = []
theorem fnd_step {x y : Str} {pre : List Int} {k : Int} (hP : ∀ j : Int, 0 ≤ j → j < (pre.length : Int) → Txt.slice x (some j) (some (j + y.length)) ≠ y) (hk : k = 0 + (pre.length : Int)) (hn : (Txt.slice x (some k) (some (k + y.length)) == y) = false) :
    ∀ j : Int, 0 ≤ j → j < ((pre ++ [k]).length : Int) → Txt.slice x (some j) (some (j + y.length)) ≠ y := by
  intro j h0 h1
  rw [List.length_append, List.length_singleton] at h1
  by_cases h : j < (pre.length : Int)
  · exact hP j h0 h
  · have e : j = k := by omega
    rw [e]
    intro q
    rw [q, beq_self_eq_true] at hn
    cases hn
theorem fnd_end {x y : Str} {n : Nat} (hn : (x.length : Int) - y.length + 1 ≤ n) (hP : ∀ j : Int, 0 ≤ j → j < ((rangeKs 0 n).length : Int) → Txt.slice x (some j) (some (j + y.length)) ≠ y) : FoundAt x y 0 := by
  rw [rangeKs_length] at hP
  exact .inl ⟨rfl, fun i h0 h1 => hP i h0 (by omega)⟩
theorem fnd_hit {x y : Str} {pre : List Int} {k : Int} {n : Nat} (hP : ∀ j : Int, 0 ≤ j → j < (pre.length : Int) → Txt.slice x (some j) (some (j + y.length)) ≠ y) (hk : k = 0 + (pre.length : Int)) (hl : pre.length < n) (hn : (n : Int) ≤ (x.length : Int) - y.length + 1 ∨ n = 0)
    (hh : (Txt.slice x (some k) (some (k + y.length)) == y) = true) : FoundAt x y (k + 1) := by
  refine .inr ?_
  rw [show k + 1 - 1 = k by omega]
  exact ⟨by omega, by omega, eq_of_beq hh, fun j h0 h1 => hP j h0 (by omega)⟩
set_option maxRecDepth 100000 in
set_option maxHeartbeats 8000000 in
theorem c_found (w : World) (x y : Str) (t u v : Tok) (hx : x.length ≤ 255) (hy : y.length ≤ 255) (hy1 : 1 ≤ y.length) (news : List (Addr × Obj)) : Cl 970 9700 w 121 [.str x t, .str y u, .int 1 v] news (isFound x y) := by
  w_top off
  unfold Cl
  k_fill
  intro loose mean mg mb gd env outer A₀ base h₀ Lf mf sf Qf Ef hf hk B F X N T hret
  refine wpAny_call ?_
  walk_at "cl enter"
  k_with_none
  k_with "state" => exact fnd_step (by assumption) (by assumption) (by assumption)
  k_with "pyIter ref" =>
    rename Fr _ _ _ _ => lF'
    rename News _ _ _ _ => lN'
    rename IsRange _ _ _ _ _ _ _ _ => rg'
    with_unfolding_all refine' kst_range (σ := Unit) (fun _ => news) (fun _ => []) (fun _ => True) [] (fun pre _ => ∀ j : Int, 0 ≤ j → j < (pre.length : Int) → Txt.slice x (some j) (some (j + y.length)) ≠ y) () (by rfl) rg' (small_one (by omega) (by omega) (by omega) (by omega)) (rangeSize_nat _ _) lF' lN' True.intro (List.forall_mem_nil _) (fun j h0 h1 => absurd h1 (by simpa using h0)) ?turn ?done
    all_goals clear lF' lN'
    case' turn => intro c' pre' k' t' u' h' tk' own' hk' hlt' hoff' hfc' hP' F' N'
    case' done => intro c' u' h' tk' hfc' hP' F' N'
    all_goals dsimp only [kstB] at F'
    all_goals have hMk := kstMark
    all_goals (try dsimp only)
    all_goals (try k_fold)
  k_steps
  · refine hret _ [] _ _ (by k_asm) (by k_asm) no_ord ⟨⟨0, _, .inl ⟨rfl, by omega⟩, rfl⟩, rfl⟩
  · refine hret _ [] _ _ (by k_asm) (by walk_at "cl e2") no_ord ⟨⟨_, _, fnd_end (by omega) hP', rfl⟩, rfl⟩
  · refine hret _ [] _ _ (by k_asm) (by walk_at "cl e2") no_ord ⟨⟨_, _, fnd_hit hP' hk' hlt' (by omega) (by assumption), rfl⟩, rfl⟩
end
section
-- the walk's own lines: a def is entered; its end; a call by its contract
local macro_rules | `(tactic| walk_at "cl enter") => `(tactic| k_dflt (refine' code_def ?k1 ?k2 ?k3 ?k4 ?k5 ?kA ?kF ?kK ?k6 ?k7 ?k8 ?k9 ?kB ?_ ?c2 ?c3 ?c4 ?c5; (case kA => exact rfl); (case kF => assumption); (case kK => assumption); (case k1 => k_asm); (case k2 => k_asm); (case k3 => k_asm); (case k4 => k_asm); (case k5 => k_asm); (case k6 => k_is); (case k7 => k_is); (case k8 => exact of_decide_eq_true rfl); (case k9 => exact BindsTo.of_eq rfl); (case c5 => decide); (case kB => exact locs rfl); (case c2 => exact rfl); (case c3 => exact rfl); (case c4 => exact rfl); k_whole; intro g' L' h' FG' F' N' B' X' T'; (try dsimp only); (try k_lift B'); (try k_fold)))
local macro_rules | `(tactic| walk_at "cl e1") => `(tactic| k_asm)
local macro_rules | `(tactic| walk_at "cl e2") => `(tactic| first | k_asm | (refine' cb_drop ?cbN ?cbS; (case cbN => assumption); (case cbS => kcj_all)))
local macro_rules | `(tactic| walk_at "cl p") => `(tactic| first | assumption | omega | ((simp only [PySem.Str.length_append]); omega) | ((simp only [PySem.Str.length_append, List.length_append, List.length_cons, List.length_nil]); omega) | l_fact)
local macro_rules | `(tactic| walk_at "pyIter ref") => `(tactic| k_dflt (k_extra "pyIter ref"))
local macro_rules | `(tactic| walk_at "pyIter str") => `(tactic| k_dflt (k_extra "pyIter str"))
local macro_rules | `(tactic| walk_at "cl ord") => `(tactic| first | exact one_ord (by assumption) | exact one_ord (ktn_ltOf (by assumption)) | exact one_ord (ktn_ltOf (And.right (by assumption))) | exact one_ord (ktn_ltOf (And.right (And.right (by assumption)))) | exact one_ord (ktn_ltOf (And.right (And.right (And.right (by assumption))))) | exact one_ord (ktn_ltOf (And.right (And.right (And.right (And.right (by assumption)))))) | exact one_ord (ktn_ltOf (And.right (And.right (And.right (And.right (And.right (by assumption))))))) | exact one_ord (ktn_ltOf (And.right (And.right (And.right (And.right (And.right (And.right (by assumption)))))))))
local macro_rules | `(tactic| walk_at "exec While Compare cons nil") => `(tactic| k_dflt (k_extra "exec While Compare cons nil"))
local macro_rules | `(tactic| walk_at "InvEndN") => `(tactic| k_dflt (k_extra "InvEndN"))
local macro_rules | `(tactic| walk_at "call ref") => `(tactic| (k_here; k_dflt (refine' Cl.use (c_text_of _ _ _ _) ?k1 ?k2 ?k3 ?k4 ?k5 ?kA ?kF ?kK ?kh ?kd ?ku ?_; (case k1 => k_asm); (case k2 => k_asm); (case k3 => k_asm); (case k4 => k_asm); (case k5 => k_asm); (case kA => exact rfl); (case kF => first | exact rfl | assumption); (case kK => first | exact rfl | assumption); (case kh => exact rfl); (case kd => exact Nat.le_of_ble_eq_true rfl); (case ku => exact Nat.le_of_ble_eq_true rfl); k_whole; intro v' tl' h' tk' F' N' hord' hout'; obtain ⟨⟨t', ev'⟩, etl'⟩ := hout'; subst ev'; subst etl'; clear hord'; rw [List.nil_append] at N'; (try dsimp only))))
local macro_rules | `(tactic| walk_at "call ref") => `(tactic| (k_here; k_dflt (refine' Cl.use (c_joined _ _ _ _ _ ?p1 _) ?k1 ?k2 ?k3 ?k4 ?k5 ?kA ?kF ?kK ?kh ?kd ?ku ?_; (case k1 => k_asm); (case k2 => k_asm); (case k3 => k_asm); (case k4 => k_asm); (case k5 => k_asm); (case kA => exact rfl); (case kF => first | exact rfl | assumption); (case kK => first | exact rfl | assumption); (case kh => exact rfl); (case kd => exact Nat.le_of_ble_eq_true rfl); (case ku => exact Nat.le_of_ble_eq_true rfl); (case p1 => walk_at "cl p"); k_whole; intro v' tl' h' tk' F' N' hord' hout'; obtain ⟨⟨t', ev'⟩, etl'⟩ := hout'; subst ev'; subst etl'; clear hord'; rw [List.nil_append] at N'; (try dsimp only))))
set_option maxRecDepth 100000 in
set_option maxHeartbeats 8000000 in
theorem c_left (w : World) (x : Str) (k : Int) (t u : Tok) (l : Addr) (n : Nat) (h0 : 0 ≤ k) (h1 : k ≤ 255) (hx : x.length ≤ 255) (news : List (Addr × Obj)) : Cl 950 9500 w 135 [.none, .ref l] ((l, listOf [.str x t, .int k u].toArray n) :: news) (isS (Txt.slice x none (some k))) := by
  w_top off
  unfold Cl
  k_fill
  intro loose mean mg mb gd env outer A₀ base h₀ Lf mf sf Qf Ef hf hk B F X N T hret
  refine wpAny_call ?_
  walk_at "cl enter"
  k_with_none
  k_steps
  all_goals refine' hret _ [] _ _ ?e1 ?e2 no_ord ⟨⟨_, rfl⟩, rfl⟩
  all_goals first | walk_at "cl e1" | walk_at "cl e2"
local macro_rules | `(tactic| walk_at "call ref") => `(tactic| (k_here; k_dflt (refine' Cl.use (c_left _ _ _ _ _ _ _ ?p1 ?p2 ?p3 _) ?k1 ?k2 ?k3 ?k4 ?k5 ?kA ?kF ?kK ?kh ?kd ?ku ?_; (case k1 => k_asm); (case k2 => k_asm); (case k3 => k_asm); (case k4 => k_asm); (case k5 => k_asm); (case kA => exact rfl); (case kF => first | exact rfl | assumption); (case kK => first | exact rfl | assumption); (case kh => exact rfl); (case kd => exact Nat.le_of_ble_eq_true rfl); (case ku => exact Nat.le_of_ble_eq_true rfl); (case p1 => walk_at "cl p"); (case p2 => walk_at "cl p"); (case p3 => walk_at "cl p"); k_whole; intro v' tl' h' tk' F' N' hord' hout'; obtain ⟨⟨t', ev'⟩, etl'⟩ := hout'; subst ev'; subst etl'; clear hord'; rw [List.nil_append] at N'; (try dsimp only))))
def slotT (x : Str) : Str := Txt.slice (x ++ Str.ofString "......") none (some 6)
theorem dots6 : (Str.ofString "......").length = 6 := by decide +kernel
set_option maxRecDepth 100000 in
set_option maxHeartbeats 8000000 in
theorem c_slot (w : World) (x : Str) (t : Tok) (hx : x.length ≤ 100) (news : List (Addr × Obj)) : Cl 940 9400 w 290 [.str x t] news (isS (slotT x)) := by
  w_top off
  unfold Cl
  k_fill
  intro loose mean mg mb gd env outer A₀ base h₀ Lf mf sf Qf Ef hf hk B F X N T hret
  refine wpAny_call ?_
  walk_at "cl enter"
  k_with_none
  have hdots := dots6
  k_steps
  all_goals refine' hret _ [] _ _ ?e1 ?e2 no_ord ⟨⟨_, rfl⟩, rfl⟩
  all_goals first | walk_at "cl e1" | walk_at "cl e2"
end
section
local macro_rules | `(tactic| walk_at "own pad") => `(tactic| skip)
local macro_rules | `(tactic| walk_at "own pad") => `(tactic| skip)
local macro_rules | `(tactic| walk_at "own pad") => `(tactic| skip)
local macro_rules | `(tactic| walk_at "own pad") => `(tactic| skip)
local macro_rules | `(tactic| walk_at "own pad") => `(tactic| skip)
local macro_rules | `(tactic| walk_at "own pad") => `(tactic| skip)
local macro_rules | `(tactic| walk_at "own pad") => `(tactic| skip)
local macro_rules | `(tactic| walk_at "own pad") => `(tactic| skip)
local macro_rules | `(tactic| walk_at "own pad") => `(tactic| skip)
local macro_rules | `(tactic| walk_at "own pad") => `(tactic| skip)
local macro_rules | `(tactic| walk_at "own pad") => `(tactic| skip)
local macro_rules | `(tactic| walk_at "own pad") => `(tactic| skip)
local macro_rules | `(tactic| walk_at "own pad") => `(tactic| skip)
local macro_rules | `(tactic| walk_at "own pad") => `(tactic| skip)
local macro_rules | `(tactic| walk_at "own pad") => `(tactic| skip)
local macro_rules | `(tactic| walk_at "own pad") => `(tactic| skip)
local macro_rules | `(tactic| walk_at "own pad") => `(tactic| skip)
local macro_rules | `(tactic| walk_at "own pad") => `(tactic| skip)
local macro_rules | `(tactic| walk_at "own pad") => `(tactic| skip)
local macro_rules | `(tactic| walk_at "own pad") => `(tactic| skip)
local macro_rules | `(tactic| walk_at "own pad") => `(tactic| skip)
local macro_rules | `(tactic| walk_at "own pad") => `(tactic| skip)
local macro_rules | `(tactic| walk_at "own pad") => `(tactic| skip)
local macro_rules | `(tactic| walk_at "own pad") => `(tactic| skip)
local macro_rules | `(tactic| walk_at "own pad") => `(tactic| skip)
local macro_rules | `(tactic| walk_at "own pad") => `(tactic| skip)
local macro_rules | `(tactic| walk_at "own pad") => `(tactic| skip)
local macro_rules | `(tactic| walk_at "own pad") => `(tactic| skip)
local macro_rules | `(tactic| walk_at "own pad") => `(tactic| skip)
local macro_rules | `(tactic| walk_at "own pad") => `(tactic| skip)
local macro_rules | `(tactic| walk_at "own pad") => `(tactic| skip)
local macro_rules | `(tactic| walk_at "own pad") => `(tactic| skip)
local macro_rules | `(tactic| walk_at "own pad") => `(tactic| skip)
local macro_rules | `(tactic| walk_at "own pad") => `(tactic| skip)
local macro_rules | `(tactic| walk_at "own pad") => `(tactic| skip)
local macro_rules | `(tactic| walk_at "own pad") => `(tactic| skip)
local macro_rules | `(tactic| walk_at "own pad") => `(tactic| skip)
local macro_rules | `(tactic| walk_at "own pad") => `(tactic| skip)
local macro_rules | `(tactic| walk_at "own pad") => `(tactic| skip)
local macro_rules | `(tactic| walk_at "own pad") => `(tactic| skip)
-- the walk's own lines: a def is entered; its end; a call by its contract
local macro_rules | `(tactic| walk_at "cl enter") => `(tactic| k_dflt (refine' code_def ?k1 ?k2 ?k3 ?k4 ?k5 ?kA ?kF ?kK ?k6 ?k7 ?k8 ?k9 ?kB ?_ ?c2 ?c3 ?c4 ?c5; (case kA => exact rfl); (case kF => assumption); (case kK => assumption); (case k1 => k_asm); (case k2 => k_asm); (case k3 => k_asm); (case k4 => k_asm); (case k5 => k_asm); (case k6 => k_is); (case k7 => k_is); (case k8 => exact of_decide_eq_true rfl); (case k9 => exact BindsTo.of_eq rfl); (case c5 => decide); (case kB => exact locs rfl); (case c2 => exact rfl); (case c3 => exact rfl); (case c4 => exact rfl); k_whole; intro g' L' h' FG' F' N' B' X' T'; (try dsimp only); (try k_lift B'); (try k_fold)))
local macro_rules | `(tactic| walk_at "cl e1") => `(tactic| k_asm)
local macro_rules | `(tactic| walk_at "cl e2") => `(tactic| first | k_asm | (refine' cb_drop ?cbN ?cbS; (case cbN => assumption); (case cbS => kcj_all)))
local macro_rules | `(tactic| walk_at "cl p") => `(tactic| first | assumption | omega | ((simp only [PySem.Str.length_append]); omega) | ((simp only [PySem.Str.length_append, List.length_append, List.length_cons, List.length_nil]); omega) | l_fact)
local macro_rules | `(tactic| walk_at "pyIter ref") => `(tactic| k_dflt (k_extra "pyIter ref"))
local macro_rules | `(tactic| walk_at "pyIter str") => `(tactic| k_dflt (k_extra "pyIter str"))
local macro_rules | `(tactic| walk_at "cl ord") => `(tactic| first | exact one_ord (by assumption) | exact one_ord (ktn_ltOf (by assumption)) | exact one_ord (ktn_ltOf (And.right (by assumption))) | exact one_ord (ktn_ltOf (And.right (And.right (by assumption)))) | exact one_ord (ktn_ltOf (And.right (And.right (And.right (by assumption))))) | exact one_ord (ktn_ltOf (And.right (And.right (And.right (And.right (by assumption)))))) | exact one_ord (ktn_ltOf (And.right (And.right (And.right (And.right (And.right (by assumption))))))) | exact one_ord (ktn_ltOf (And.right (And.right (And.right (And.right (And.right (And.right (by assumption)))))))))
local macro_rules | `(tactic| walk_at "exec While Compare cons nil") => `(tactic| k_dflt (k_extra "exec While Compare cons nil"))
local macro_rules | `(tactic| walk_at "InvEndN") => `(tactic| k_dflt (k_extra "InvEndN"))
local macro_rules | `(tactic| walk_at "call ref") => `(tactic| (k_here; k_dflt (refine' Cl.use (c_text_of _ _ _ _) ?k1 ?k2 ?k3 ?k4 ?k5 ?kA ?kF ?kK ?kh ?kd ?ku ?_; (case k1 => k_asm); (case k2 => k_asm); (case k3 => k_asm); (case k4 => k_asm); (case k5 => k_asm); (case kA => exact rfl); (case kF => first | exact rfl | assumption); (case kK => first | exact rfl | assumption); (case kh => exact rfl); (case kd => exact Nat.le_of_ble_eq_true rfl); (case ku => exact Nat.le_of_ble_eq_true rfl); k_whole; intro v' tl' h' tk' F' N' hord' hout'; obtain ⟨⟨t', ev'⟩, etl'⟩ := hout'; subst ev'; subst etl'; clear hord'; rw [List.nil_append] at N'; (try dsimp only))))
local macro_rules | `(tactic| walk_at "call ref") => `(tactic| (k_here; k_dflt (refine' Cl.use (c_found _ _ _ _ _ _ ?p1 ?p2 ?p3 _) ?k1 ?k2 ?k3 ?k4 ?k5 ?kA ?kF ?kK ?kh ?kd ?ku ?_; (case k1 => k_asm); (case k2 => k_asm); (case k3 => k_asm); (case k4 => k_asm); (case k5 => k_asm); (case kA => exact rfl); (case kF => first | exact rfl | assumption); (case kK => first | exact rfl | assumption); (case kh => exact rfl); (case kd => exact Nat.le_of_ble_eq_true rfl); (case ku => exact Nat.le_of_ble_eq_true rfl); (case p1 => walk_at "cl p"); (case p2 => walk_at "cl p"); (case p3 => walk_at "cl p"); k_whole; intro v' tl' h' tk' F' N' hord' hout'; obtain ⟨⟨r', t', hr', ev'⟩, etl'⟩ := hout'; subst ev'; subst etl'; clear hord'; rw [List.nil_append] at N'; (try dsimp only))))
set_option maxRecDepth 100000 in
set_option maxHeartbeats 8000000 in
theorem c_instr (w : World) (x y : Str) (t u : Tok) (l : Addr) (n : Nat) (hx : x.length ≤ 255) (hy : y.length ≤ 255) (hy1 : 1 ≤ y.length) (news : List (Addr × Obj)) : Cl 950 9500 w 128 [.none, .ref l] ((l, listOf [.str x t, .str y u].toArray n) :: news) (isFound x y) := by
  w_top off
  unfold Cl
  k_fill
  intro loose mean mg mb gd env outer A₀ base h₀ Lf mf sf Qf Ef hf hk B F X N T hret
  refine wpAny_call ?_
  walk_at "cl enter"
  k_with_none
  k_steps
  all_goals refine' hret _ [] _ _ ?e1 ?e2 no_ord ⟨⟨_, _, by assumption, rfl⟩, rfl⟩
  all_goals first | walk_at "cl e1" | walk_at "cl e2"
end
section
-- the walk's own lines: a def is entered; its end; a call by its contract
local macro_rules | `(tactic| walk_at "cl enter") => `(tactic| k_dflt (refine' code_def ?k1 ?k2 ?k3 ?k4 ?k5 ?kA ?kF ?kK ?k6 ?k7 ?k8 ?k9 ?kB ?_ ?c2 ?c3 ?c4 ?c5; (case kA => exact rfl); (case kF => assumption); (case kK => assumption); (case k1 => k_asm); (case k2 => k_asm); (case k3 => k_asm); (case k4 => k_asm); (case k5 => k_asm); (case k6 => k_is); (case k7 => k_is); (case k8 => exact of_decide_eq_true rfl); (case k9 => exact BindsTo.of_eq rfl); (case c5 => decide); (case kB => exact locs rfl); (case c2 => exact rfl); (case c3 => exact rfl); (case c4 => exact rfl); k_whole; intro g' L' h' FG' F' N' B' X' T'; (try dsimp only); (try k_lift B'); (try k_fold)))
local macro_rules | `(tactic| walk_at "cl e1") => `(tactic| k_asm)
local macro_rules | `(tactic| walk_at "cl e2") => `(tactic| first | k_asm | (refine' cb_drop ?cbN ?cbS; (case cbN => assumption); (case cbS => kcj_all)))
local macro_rules | `(tactic| walk_at "cl p") => `(tactic| first | assumption | omega | ((simp only [PySem.Str.length_append]); omega) | ((simp only [PySem.Str.length_append, List.length_append, List.length_cons, List.length_nil]); omega) | l_fact)
local macro_rules | `(tactic| walk_at "pyIter ref") => `(tactic| k_dflt (k_extra "pyIter ref"))
local macro_rules | `(tactic| walk_at "pyIter str") => `(tactic| k_dflt (k_extra "pyIter str"))
local macro_rules | `(tactic| walk_at "cl ord") => `(tactic| first | exact one_ord (by assumption) | exact one_ord (ktn_ltOf (by assumption)) | exact one_ord (ktn_ltOf (And.right (by assumption))) | exact one_ord (ktn_ltOf (And.right (And.right (by assumption)))) | exact one_ord (ktn_ltOf (And.right (And.right (And.right (by assumption))))) | exact one_ord (ktn_ltOf (And.right (And.right (And.right (And.right (by assumption)))))) | exact one_ord (ktn_ltOf (And.right (And.right (And.right (And.right (And.right (by assumption))))))) | exact one_ord (ktn_ltOf (And.right (And.right (And.right (And.right (And.right (And.right (by assumption)))))))))
local macro_rules | `(tactic| walk_at "exec While Compare cons nil") => `(tactic| k_dflt (k_extra "exec While Compare cons nil"))
local macro_rules | `(tactic| walk_at "InvEndN") => `(tactic| k_dflt (k_extra "InvEndN"))
local macro_rules | `(tactic| walk_at "call ref") => `(tactic| (k_here; k_dflt (refine' Cl.use (c_text_of _ _ _ _) ?k1 ?k2 ?k3 ?k4 ?k5 ?kA ?kF ?kK ?kh ?kd ?ku ?_; (case k1 => k_asm); (case k2 => k_asm); (case k3 => k_asm); (case k4 => k_asm); (case k5 => k_asm); (case kA => exact rfl); (case kF => first | exact rfl | assumption); (case kK => first | exact rfl | assumption); (case kh => exact rfl); (case kd => exact Nat.le_of_ble_eq_true rfl); (case ku => exact Nat.le_of_ble_eq_true rfl); k_whole; intro v' tl' h' tk' F' N' hord' hout'; obtain ⟨⟨t', ev'⟩, etl'⟩ := hout'; subst ev'; subst etl'; clear hord'; rw [List.nil_append] at N'; (try dsimp only))))
theorem pow15 : (1 : Int) * 2 ^ ((16 : Int) - 1).toNat = 32768 := by decide
theorem fit_yes {k : Int} (h : k ≤ 300) : decide (k < (1 : Int) * 2 ^ ((16 : Int) - 1).toNat) = true := decide_eq_true (by rw [pow15]; omega)
theorem fit_no {k : Int} (h0 : 0 ≤ k) (h : ¬ -((1 : Int) * 2 ^ ((16 : Int) - 1).toNat) ≤ k) : False := h (by rw [pow15]; omega)
theorem quot6 {k : Int} (h0 : 0 ≤ k) : (if k < 0 then -k else k).fdiv (if (6 : Int) < 0 then -6 else 6) = k / 6 := by
  rw [if_neg (by omega), if_neg (by omega), Int.fdiv_eq_ediv_of_nonneg _ (by omega)]
theorem quot_no {k : Int} (h0 : 0 ≤ k) (h : (decide (k < 0) == decide ((6 : Int) < 0)) = false) : False := by
  rw [decide_eq_false (by omega : ¬ k < 0), decide_eq_false (by omega : ¬ (6 : Int) < 0)] at h
  cases h
set_option maxRecDepth 100000 in
set_option maxHeartbeats 8000000 in
theorem c_fits (w : World) (k : Int) (t u : Tok) (h0 : 0 ≤ k) (h1 : k ≤ 300) (news : List (Addr × Obj)) : Cl 970 9700 w 72 [.int k t, .int 16 u] news (isB true) := by
  w_top off
  unfold Cl
  k_fill
  intro loose mean mg mb gd env outer A₀ base h₀ Lf mf sf Qf Ef hf hk B F X N T hret
  refine wpAny_call ?_
  walk_at "cl enter"
  k_with_none
  k_steps
  · refine hret _ [] _ _ (by walk_at "cl e1") (by walk_at "cl e2") no_ord ⟨congrArg Value.bool (fit_yes h1), rfl⟩
  · exact absurd (by assumption) (fun h => fit_no h0 h)
local macro_rules | `(tactic| walk_at "call ref") => `(tactic| (k_here; k_dflt (refine' Cl.use (c_fits _ _ _ _ ?p1 ?p2 _) ?k1 ?k2 ?k3 ?k4 ?k5 ?kA ?kF ?kK ?kh ?kd ?ku ?_; (case k1 => k_asm); (case k2 => k_asm); (case k3 => k_asm); (case k4 => k_asm); (case k5 => k_asm); (case kA => exact rfl); (case kF => first | exact rfl | assumption); (case kK => first | exact rfl | assumption); (case kh => exact rfl); (case kd => exact Nat.le_of_ble_eq_true rfl); (case ku => exact Nat.le_of_ble_eq_true rfl); (case p1 => walk_at "cl p"); (case p2 => walk_at "cl p"); k_whole; intro v' tl' h' tk' F' N' hord' hout'; obtain ⟨ev', etl'⟩ := hout'; subst ev'; subst etl'; clear hord'; rw [List.nil_append] at N'; (try dsimp only))))
set_option maxRecDepth 100000 in
set_option maxHeartbeats 8000000 in
theorem c_isw (w : World) (k : Int) (t : Tok) (news : List (Addr × Obj)) : Cl 970 9700 w 220 [.int k t] news (isB true) := by
  w_top off
  unfold Cl
  k_fill
  intro loose mean mg mb gd env outer A₀ base h₀ Lf mf sf Qf Ef hf hk B F X N T hret
  refine wpAny_call ?_
  walk_at "cl enter"
  k_with_none
  k_steps
  all_goals refine' hret _ [] _ _ ?e1 ?e2 no_ord ⟨rfl, rfl⟩
  all_goals first | walk_at "cl e1" | walk_at "cl e2"
set_option maxRecDepth 100000 in
set_option maxHeartbeats 8000000 in
theorem c_wof (w : World) (k : Int) (t u : Tok) (h0 : 0 ≤ k) (h1 : k ≤ 300) (news : List (Addr × Obj)) : Cl 960 9600 w 79 [.int k t, .int 16 u] news (isI k) := by
  w_top off
  unfold Cl
  k_fill
  intro loose mean mg mb gd env outer A₀ base h₀ Lf mf sf Qf Ef hf hk B F X N T hret
  refine wpAny_call ?_
  walk_at "cl enter"
  k_with_none
  k_steps
  all_goals refine' hret _ [] _ _ ?e1 ?e2 no_ord ⟨⟨_, rfl⟩, rfl⟩
  all_goals first | walk_at "cl e1" | walk_at "cl e2"
set_option maxRecDepth 100000 in
set_option maxHeartbeats 8000000 in
theorem c_settled (w : World) (k : Int) (t u v : Tok) (h0 : 0 ≤ k) (h1 : k ≤ 300) (news : List (Addr × Obj)) : Cl 960 9600 w 227 [.int k t, .int 16 u, .int 9 v] news (isI k) := by
  w_top off
  unfold Cl
  k_fill
  intro loose mean mg mb gd env outer A₀ base h₀ Lf mf sf Qf Ef hf hk B F X N T hret
  refine wpAny_call ?_
  walk_at "cl enter"
  k_with_none
  k_steps
  all_goals refine' hret _ [] _ _ ?e1 ?e2 no_ord ⟨⟨_, rfl⟩, rfl⟩
  all_goals first | walk_at "cl e1" | walk_at "cl e2"
set_option maxRecDepth 100000 in
set_option maxHeartbeats 8000000 in
theorem c_quot (w : World) (k : Int) (t u : Tok) (h0 : 0 ≤ k) (news : List (Addr × Obj)) : Cl 970 9700 w 241 [.int k t, .int 6 u] news (isI (k / 6)) := by
  w_top off
  unfold Cl
  k_fill
  intro loose mean mg mb gd env outer A₀ base h₀ Lf mf sf Qf Ef hf hk B F X N T hret
  refine wpAny_call ?_
  walk_at "cl enter"
  k_with_none
  k_steps
  · refine hret _ [] _ _ (by walk_at "cl e1") (by walk_at "cl e2") no_ord ⟨⟨_, congrArg (fun z => Value.int z _) (quot6 h0)⟩, rfl⟩
  · exact absurd (by assumption) (fun h => quot_no h0 h)
local macro_rules | `(tactic| walk_at "call ref") => `(tactic| (k_here; k_dflt (refine' Cl.use (c_isw _ _ _ _) ?k1 ?k2 ?k3 ?k4 ?k5 ?kA ?kF ?kK ?kh ?kd ?ku ?_; (case k1 => k_asm); (case k2 => k_asm); (case k3 => k_asm); (case k4 => k_asm); (case k5 => k_asm); (case kA => exact rfl); (case kF => first | exact rfl | assumption); (case kK => first | exact rfl | assumption); (case kh => exact rfl); (case kd => exact Nat.le_of_ble_eq_true rfl); (case ku => exact Nat.le_of_ble_eq_true rfl); k_whole; intro v' tl' h' tk' F' N' hord' hout'; obtain ⟨ev', etl'⟩ := hout'; subst ev'; subst etl'; clear hord'; rw [List.nil_append] at N'; (try dsimp only))))
local macro_rules | `(tactic| walk_at "call ref") => `(tactic| (k_here; k_dflt (refine' Cl.use (c_wof _ _ _ _ ?p1 ?p2 _) ?k1 ?k2 ?k3 ?k4 ?k5 ?kA ?kF ?kK ?kh ?kd ?ku ?_; (case k1 => k_asm); (case k2 => k_asm); (case k3 => k_asm); (case k4 => k_asm); (case k5 => k_asm); (case kA => exact rfl); (case kF => first | exact rfl | assumption); (case kK => first | exact rfl | assumption); (case kh => exact rfl); (case kd => exact Nat.le_of_ble_eq_true rfl); (case ku => exact Nat.le_of_ble_eq_true rfl); (case p1 => walk_at "cl p"); (case p2 => walk_at "cl p"); k_whole; intro v' tl' h' tk' F' N' hord' hout'; obtain ⟨⟨t', ev'⟩, etl'⟩ := hout'; subst ev'; subst etl'; clear hord'; rw [List.nil_append] at N'; (try dsimp only))))
local macro_rules | `(tactic| walk_at "call ref") => `(tactic| (k_here; k_dflt (refine' Cl.use (c_settled _ _ _ _ _ ?p1 ?p2 _) ?k1 ?k2 ?k3 ?k4 ?k5 ?kA ?kF ?kK ?kh ?kd ?ku ?_; (case k1 => k_asm); (case k2 => k_asm); (case k3 => k_asm); (case k4 => k_asm); (case k5 => k_asm); (case kA => exact rfl); (case kF => first | exact rfl | assumption); (case kK => first | exact rfl | assumption); (case kh => exact rfl); (case kd => exact Nat.le_of_ble_eq_true rfl); (case ku => exact Nat.le_of_ble_eq_true rfl); (case p1 => walk_at "cl p"); (case p2 => walk_at "cl p"); k_whole; intro v' tl' h' tk' F' N' hord' hout'; obtain ⟨⟨t', ev'⟩, etl'⟩ := hout'; subst ev'; subst etl'; clear hord'; rw [List.nil_append] at N'; (try dsimp only))))
local macro_rules | `(tactic| walk_at "call ref") => `(tactic| (k_here; k_dflt (refine' Cl.use (c_quot _ _ _ _ ?p1 _) ?k1 ?k2 ?k3 ?k4 ?k5 ?kA ?kF ?kK ?kh ?kd ?ku ?_; (case k1 => k_asm); (case k2 => k_asm); (case k3 => k_asm); (case k4 => k_asm); (case k5 => k_asm); (case kA => exact rfl); (case kF => first | exact rfl | assumption); (case kK => first | exact rfl | assumption); (case kh => exact rfl); (case kd => exact Nat.le_of_ble_eq_true rfl); (case ku => exact Nat.le_of_ble_eq_true rfl); (case p1 => walk_at "cl p"); k_whole; intro v' tl' h' tk' F' N' hord' hout'; obtain ⟨⟨t', ev'⟩, etl'⟩ := hout'; subst ev'; subst etl'; clear hord'; rw [List.nil_append] at N'; (try dsimp only))))
set_option maxRecDepth 100000 in
set_option maxHeartbeats 8000000 in
theorem c_reckoned (w : World) (k : Int) (t u v v' v'' : Tok) (h0 : 0 ≤ k) (h1 : k ≤ 300) (news : List (Addr × Obj)) : Cl 950 9500 w 276 [.str (Str.ofString "\\") t, .int k u, .int 6 v, .int 16 v', .int 9 v''] news (isI (k / 6)) := by
  w_top off
  unfold Cl
  k_fill
  intro loose mean mg mb gd env outer A₀ base h₀ Lf mf sf Qf Ef hf hk B F X N T hret
  refine wpAny_call ?_
  walk_at "cl enter"
  k_with_none
  have hq : 0 ≤ k / 6 := by omega
  have hq2 : k / 6 ≤ 300 := by omega
  k_steps
  all_goals refine' hret _ [] _ _ ?e1 ?e2 no_ord ⟨⟨_, rfl⟩, rfl⟩
  all_goals first | walk_at "cl e1" | walk_at "cl e2"
end
section
-- texts as lists of codes
def S (l : List Nat) : Str := ⟨l.toArray⟩
theorem S_len (l : List Nat) : (S l).length = l.length := by simp [S, Str.length]
theorem S_app (a b : List Nat) : S a ++ S b = S (a ++ b) := Str.ext' (by rw [Str.cps_append]; simp [S])
theorem S_inj {a b : List Nat} (h : S a = S b) : a = b := by
  have := congrArg (fun x : Str => x.cps.toList) h
  simpa [S] using this
theorem S_of (x : Str) : x = S x.cps.toList := Str.ext' (by simp [S])
theorem S_slice {l : List Nat} {i j : Int} (h0 : 0 ≤ i) (h1 : i ≤ j) (h2 : j ≤ l.length) : Txt.slice (S l) (some i) (some j) = S ((l.drop i.toNat).take (j - i).toNat) :=
  (beq_iff_eq.mp (slice_closesL h0 h1 (by rw [S_len]; exact h2))).trans (Str.ext' (by simp [S]))
theorem S_slice_to {l : List Nat} {j : Int} (h0 : 0 ≤ j) (h2 : j ≤ l.length) : Txt.slice (S l) none (some j) = S (l.take j.toNat) :=
  (beq_iff_eq.mp (slice_closes_toL h0 (by rw [S_len]; exact h2))).trans (Str.ext' (by simp [S]))
theorem S_dots : Str.ofString "......" = S [46, 46, 46, 46, 46, 46] := by decide +kernel
theorem S_dot : Str.ofString "." = S [46] := by decide +kernel
theorem S_nil : Str.ofString "" = S [] := by decide +kernel
abbrev Wd := List Nat
def pad (w : Wd) : Wd := (w ++ [46, 46, 46, 46, 46, 46]).take 6
theorem pad_len (w : Wd) : (pad w).length = 6 := by simp [pad]
theorem slot_S (w : Wd) : slotT (S w) = S (pad w) := by
  unfold slotT
  rw [S_dots, S_app, S_slice_to (by omega) (by simp; omega)]
  rfl
theorem pad_at_lt {w : Wd} {j : Nat} (h : j < w.length) (h6 : j < 6) : (pad w)[j]? = w[j]? := by
  unfold pad
  rw [List.getElem?_take_of_lt h6, List.getElem?_append_left h]
theorem pad_at_ge {w : Wd} {j : Nat} (h : w.length ≤ j) (h6 : j < 6) : (pad w)[j]? = some 46 := by
  unfold pad
  rw [List.getElem?_take_of_lt h6, List.getElem?_append_right h]
  have : ∀ k, k < 6 → ([46, 46, 46, 46, 46, 46] : List Nat)[k]? = some 46 := by decide
  exact this _ (by omega)
theorem pad_inj {v w : Wd} (hv : 46 ∉ v) (hw : 46 ∉ w) (lv : v.length ≤ 6) (lw : w.length ≤ 6) (h : pad v = pad w) : v = w := by
  have at' (j : Nat) : (pad v)[j]? = (pad w)[j]? := by rw [h]
  have key : ∀ {a b : Wd}, 46 ∉ b → a.length ≤ 6 → b.length ≤ 6 → (∀ j : Nat, (pad a)[j]? = (pad b)[j]?) → b.length ≤ a.length := by
    intro a b hb la lb e
    apply Nat.le_of_not_lt
    intro hlt
    have e1 := e a.length
    rw [pad_at_ge (Nat.le_refl _) (by omega), pad_at_lt hlt (by omega)] at e1
    exact hb (List.mem_of_getElem? e1.symm)
  have l1 := key hw lv lw at'
  have l2 := key hv lw lv (fun j => (at' j).symm)
  apply List.ext_getElem?
  intro j
  by_cases hj : j < v.length
  · have := at' j
    rwa [pad_at_lt hj (by omega), pad_at_lt (by omega) (by omega)] at this
  · rw [List.getElem?_eq_none (by omega), List.getElem?_eq_none (by omega)]
def enc (ws : List Wd) : Wd := (ws.map pad).flatten
theorem enc_nil : enc [] = [] := rfl
theorem enc_cons (w : Wd) (ws : List Wd) : enc (w :: ws) = pad w ++ enc ws := rfl
theorem enc_snoc (ws : List Wd) (w : Wd) : enc (ws ++ [w]) = enc ws ++ pad w := by simp [enc]
theorem enc_len (ws : List Wd) : (enc ws).length = 6 * ws.length := by
  induction ws with
  | nil => rfl
  | cons w ws ih => rw [enc_cons, List.length_append, ih, pad_len, List.length_cons]; omega
theorem enc_drop (ws : List Wd) : ∀ k, (enc ws).drop (6 * k) = enc (ws.drop k) := by
  induction ws with
  | nil => intro k; simp [enc]
  | cons w ws ih =>
    intro k
    cases k with
    | zero => rfl
    | succ k =>
      rw [enc_cons, List.drop_append, pad_len, show 6 * (k + 1) - 6 = 6 * k by omega, ih, List.drop_of_length_le (by rw [pad_len]; omega)]
      rfl
theorem enc_at {ws : List Wd} {k j : Nat} {v : Wd} (hk : ws[k]? = some v) (hj : j < 6) : (enc ws)[6 * k + j]? = (pad v)[j]? := by
  have h1 : (enc ws)[6 * k + j]? = ((enc ws).drop (6 * k))[j]? := by rw [List.getElem?_drop]
  rw [h1, enc_drop]
  obtain ⟨hlt, hv⟩ := List.getElem?_eq_some_iff.mp hk
  rw [List.drop_eq_getElem_cons hlt, hv, enc_cons, List.getElem?_append_left (by rw [pad_len]; exact hj)]
theorem enc_win {ws : List Wd} {k : Nat} {v : Wd} (hk : ws[k]? = some v) : ((enc ws).drop (6 * k)).take 6 = pad v := by
  rw [enc_drop]
  obtain ⟨hlt, hv⟩ := List.getElem?_eq_some_iff.mp hk
  rw [List.drop_eq_getElem_cons hlt, hv, enc_cons]
  rw [List.take_append, pad_len]
  simp [List.take_of_length_le (Nat.le_of_eq (pad_len v))]
def numW (ws : List Wd) (w : Wd) : Nat := if w ∈ ws then ws.idxOf w + 1 else 0
def okW (v : Wd) : Prop := v ≠ [] ∧ 46 ∉ v ∧ v.length ≤ 5
/-- a window that is a slot is a whole one -/
theorem win_whole {ws : List Wd} {w : Wd} {i : Nat} (hws : ∀ v ∈ ws, okW v) (hw : 46 ∉ w) (lw : w.length ≤ 6) (hi : i + 6 ≤ (enc ws).length) (h : ((enc ws).drop i).take 6 = pad w) : ∃ k, i = 6 * k ∧ ws[k]? = some w := by
  rw [enc_len] at hi
  have hk : i / 6 < ws.length := by omega
  obtain ⟨v, hv⟩ : ∃ v, ws[i / 6]? = some v := ⟨_, List.getElem?_eq_getElem hk⟩
  have hvm := List.mem_of_getElem? hv
  have at' : ∀ j, j < 6 → (enc ws)[i + j]? = (pad w)[j]? := by
    intro j hj
    rw [← h, List.getElem?_take_of_lt hj, List.getElem?_drop]
  by_cases hr : i % 6 = 0
  · refine ⟨i / 6, by omega, ?_⟩
    have e : i = 6 * (i / 6) := by omega
    rw [e, enc_win hv] at h
    obtain ⟨_, h46, hl⟩ := hws v hvm
    rw [hv, pad_inj h46 hw (by omega) lw h]
  · exfalso
    have hk1 : i / 6 + 1 < ws.length := by omega
    obtain ⟨u, hu⟩ : ∃ u, ws[i / 6 + 1]? = some u := ⟨_, List.getElem?_eq_getElem hk1⟩
    obtain ⟨hun, hu46, _⟩ := hws u (List.mem_of_getElem? hu)
    obtain ⟨_, _, hvl⟩ := hws v hvm
    have a1 := at' (5 - i % 6) (by omega)
    have a2 := at' (6 - i % 6) (by omega)
    rw [show i + (5 - i % 6) = 6 * (i / 6) + 5 by omega, enc_at hv (by omega), pad_at_ge hvl (by omega)] at a1
    rw [show i + (6 - i % 6) = 6 * (i / 6 + 1) + 0 by omega, enc_at hu (by omega)] at a2
    have hup : 0 < u.length := List.length_pos_iff.mpr hun
    rw [pad_at_lt hup (by omega)] at a2
    have hwl : w.length ≤ 5 - i % 6 := by
      apply Nat.le_of_not_lt
      intro hlt
      rw [pad_at_lt hlt (by omega)] at a1
      exact hw (List.mem_of_getElem? a1.symm)
    rw [pad_at_ge (by omega) (by omega)] at a2
    exact hu46 (List.mem_of_getElem? a2)
theorem idx_first {ws : List Wd} {w : Wd} {k : Nat} (hk : ws[k]? = some w) : w ∈ ws ∧ ws.idxOf w ≤ k := by
  refine ⟨List.mem_of_getElem? hk, ?_⟩
  apply Nat.le_of_not_lt
  intro hlt
  obtain ⟨h1, h2⟩ := List.getElem?_eq_some_iff.mp hk
  have := List.not_of_lt_findIdx (p := (· == w)) (xs := ws) (i := k) hlt
  simp [h2] at this
theorem idx_at {ws : List Wd} {w : Wd} (h : w ∈ ws) : ws[ws.idxOf w]? = some w := by
  have := List.idxOf_lt_length_of_mem h
  rw [List.getElem?_eq_getElem this]
  congr 1
  exact List.getElem_idxOf this
theorem found_num {ws : List Wd} {w : Wd} {r : Int} (hws : ∀ v ∈ ws, okW v) (hw : 46 ∉ w) (lw : w.length ≤ 6) (h : FoundAt (S (enc ws)) (S (pad w)) r) :
    0 ≤ r ∧ r ≤ 6 * ws.length ∧ (if r > 0 then (r + 5) / 6 else 0) = (numW ws w : Int) := by
  unfold FoundAt at h
  simp only [S_len, pad_len, enc_len] at h
  have sl : ∀ i : Int, 0 ≤ i → i < ((6 * ws.length : Nat) : Int) - (6 : Nat) + 1 → (Txt.slice (S (enc ws)) (some i) (some (i + (6 : Nat))) = S (pad w) ↔ ∃ k : Nat, i = 6 * k ∧ ws[k]? = some w) := by
    intro i h0 h1
    have hb : i + (6 : Nat) ≤ (enc ws).length := by rw [enc_len]; omega
    rw [S_slice h0 (by omega) hb, show (i + (6 : Nat) - i).toNat = 6 by omega]
    constructor
    · intro e
      obtain ⟨k, hk, hv⟩ := win_whole hws hw lw (by omega) (S_inj e)
      exact ⟨k, by omega, hv⟩
    · rintro ⟨k, hk, hv⟩
      rw [show i.toNat = 6 * k by omega, enc_win hv]
  rcases h with ⟨rfl, h⟩ | ⟨h0, h1, h2, h3⟩
  · have hn : w ∉ ws := by
      intro hm
      have hlt := List.idxOf_lt_length_of_mem hm
      have b : (6 * (ws.idxOf w : Int)) < ((6 * ws.length : Nat) : Int) - (6 : Nat) + 1 := by omega
      exact h (6 * (ws.idxOf w : Int)) (by omega) b ((sl _ (by omega) b).mpr ⟨ws.idxOf w, rfl, idx_at hm⟩)
    refine ⟨by omega, by omega, ?_⟩
    rw [if_neg (by omega), numW, if_neg hn]
    rfl
  · obtain ⟨k, hk, hv⟩ := (sl _ h0 h1).mp h2
    obtain ⟨hm, hle⟩ := idx_first hv
    have hkl : k < ws.length := (List.getElem?_eq_some_iff.mp hv).1
    have e : ws.idxOf w = k := by
      apply Nat.le_antisymm hle
      apply Nat.le_of_not_lt
      intro hlt
      have b : (6 * (ws.idxOf w : Int)) < ((6 * ws.length : Nat) : Int) - (6 : Nat) + 1 := by omega
      exact h3 (6 * (ws.idxOf w : Int)) (by omega) (by omega) ((sl _ (by omega) b).mpr ⟨ws.idxOf w, rfl, idx_at hm⟩)
    refine ⟨by omega, by omega, ?_⟩
    rw [if_pos (by omega), numW, if_pos hm, e]
    omega
end
section
local macro_rules | `(tactic| walk_at "own pad") => `(tactic| skip)
local macro_rules | `(tactic| walk_at "own pad") => `(tactic| skip)
local macro_rules | `(tactic| walk_at "own pad") => `(tactic| skip)
local macro_rules | `(tactic| walk_at "own pad") => `(tactic| skip)
local macro_rules | `(tactic| walk_at "own pad") => `(tactic| skip)
local macro_rules | `(tactic| walk_at "own pad") => `(tactic| skip)
local macro_rules | `(tactic| walk_at "own pad") => `(tactic| skip)
local macro_rules | `(tactic| walk_at "own pad") => `(tactic| skip)
local macro_rules | `(tactic| walk_at "own pad") => `(tactic| skip)
local macro_rules | `(tactic| walk_at "own pad") => `(tactic| skip)
local macro_rules | `(tactic| walk_at "own pad") => `(tactic| skip)
local macro_rules | `(tactic| walk_at "own pad") => `(tactic| skip)
local macro_rules | `(tactic| walk_at "own pad") => `(tactic| skip)
local macro_rules | `(tactic| walk_at "own pad") => `(tactic| skip)
local macro_rules | `(tactic| walk_at "own pad") => `(tactic| skip)
local macro_rules | `(tactic| walk_at "own pad") => `(tactic| skip)
local macro_rules | `(tactic| walk_at "own pad") => `(tactic| skip)
local macro_rules | `(tactic| walk_at "own pad") => `(tactic| skip)
local macro_rules | `(tactic| walk_at "own pad") => `(tactic| skip)
local macro_rules | `(tactic| walk_at "own pad") => `(tactic| skip)
local macro_rules | `(tactic| walk_at "own pad") => `(tactic| skip)
local macro_rules | `(tactic| walk_at "own pad") => `(tactic| skip)
local macro_rules | `(tactic| walk_at "own pad") => `(tactic| skip)
local macro_rules | `(tactic| walk_at "own pad") => `(tactic| skip)
local macro_rules | `(tactic| walk_at "own pad") => `(tactic| skip)
local macro_rules | `(tactic| walk_at "own pad") => `(tactic| skip)
local macro_rules | `(tactic| walk_at "own pad") => `(tactic| skip)
local macro_rules | `(tactic| walk_at "own pad") => `(tactic| skip)
local macro_rules | `(tactic| walk_at "own pad") => `(tactic| skip)
local macro_rules | `(tactic| walk_at "own pad") => `(tactic| skip)
local macro_rules | `(tactic| walk_at "own pad") => `(tactic| skip)
local macro_rules | `(tactic| walk_at "own pad") => `(tactic| skip)
local macro_rules | `(tactic| walk_at "own pad") => `(tactic| skip)
local macro_rules | `(tactic| walk_at "own pad") => `(tactic| skip)
local macro_rules | `(tactic| walk_at "own pad") => `(tactic| skip)
local macro_rules | `(tactic| walk_at "own pad") => `(tactic| skip)
local macro_rules | `(tactic| walk_at "own pad") => `(tactic| skip)
local macro_rules | `(tactic| walk_at "own pad") => `(tactic| skip)
local macro_rules | `(tactic| walk_at "own pad") => `(tactic| skip)
local macro_rules | `(tactic| walk_at "own pad") => `(tactic| skip)
-- the walk's own lines: a def is entered; its end; a call by its contract
local macro_rules | `(tactic| walk_at "cl enter") => `(tactic| k_dflt (refine' code_def ?k1 ?k2 ?k3 ?k4 ?k5 ?kA ?kF ?kK ?k6 ?k7 ?k8 ?k9 ?kB ?_ ?c2 ?c3 ?c4 ?c5; (case kA => exact rfl); (case kF => assumption); (case kK => assumption); (case k1 => k_asm); (case k2 => k_asm); (case k3 => k_asm); (case k4 => k_asm); (case k5 => k_asm); (case k6 => k_is); (case k7 => k_is); (case k8 => exact of_decide_eq_true rfl); (case k9 => exact BindsTo.of_eq rfl); (case c5 => decide); (case kB => exact locs rfl); (case c2 => exact rfl); (case c3 => exact rfl); (case c4 => exact rfl); k_whole; intro g' L' h' FG' F' N' B' X' T'; (try dsimp only); (try k_lift B'); (try k_fold)))
local macro_rules | `(tactic| walk_at "cl e1") => `(tactic| k_asm)
local macro_rules | `(tactic| walk_at "cl e2") => `(tactic| first | k_asm | (refine' cb_drop ?cbN ?cbS; (case cbN => assumption); (case cbS => kcj_all)))
local macro_rules | `(tactic| walk_at "cl p") => `(tactic| first | assumption | omega | ((simp only [PySem.Str.length_append]); omega) | ((simp only [PySem.Str.length_append, List.length_append, List.length_cons, List.length_nil]); omega) | l_fact)
local macro_rules | `(tactic| walk_at "pyIter ref") => `(tactic| k_dflt (k_extra "pyIter ref"))
local macro_rules | `(tactic| walk_at "pyIter str") => `(tactic| k_dflt (k_extra "pyIter str"))
local macro_rules | `(tactic| walk_at "cl ord") => `(tactic| first | exact one_ord (by assumption) | exact one_ord (ktn_ltOf (by assumption)) | exact one_ord (ktn_ltOf (And.right (by assumption))) | exact one_ord (ktn_ltOf (And.right (And.right (by assumption)))) | exact one_ord (ktn_ltOf (And.right (And.right (And.right (by assumption))))) | exact one_ord (ktn_ltOf (And.right (And.right (And.right (And.right (by assumption)))))) | exact one_ord (ktn_ltOf (And.right (And.right (And.right (And.right (And.right (by assumption))))))) | exact one_ord (ktn_ltOf (And.right (And.right (And.right (And.right (And.right (And.right (by assumption)))))))))
local macro_rules | `(tactic| walk_at "exec While Compare cons nil") => `(tactic| k_dflt (k_extra "exec While Compare cons nil"))
local macro_rules | `(tactic| walk_at "InvEndN") => `(tactic| k_dflt (k_extra "InvEndN"))
theorem Cl.mono {dp un : Nat} {w : World} {f : Addr} {vs : List Value} {news : List (Addr × Obj)} {Out Out' : Value → List (Addr × Obj) → Prop} (C : Cl dp un w f vs news Out) (h : ∀ v tl, Out v tl → Out' v tl) : Cl dp un w f vs news Out' :=
  fun loose mean mg mb gd env outer A₀ base h₀ L m s Q E hf hk B F X N T ret => C loose mean mg mb gd env outer A₀ base h₀ L m s Q E hf hk B F X N T fun v tl h' tk' F' N' ho hout => ret v tl h' tk' F' N' ho (h v tl hout)
def isPlace (ws : List Wd) (w : Wd) (v : Value) (tl : List (Addr × Obj)) : Prop := (∃ (r : Int) (t : Tok), (0 ≤ r ∧ r ≤ 6 * ws.length ∧ (if r > 0 then (r + 5) / 6 else 0) = (numW ws w : Int)) ∧ v = .int r t) ∧ tl = []
theorem c_instrW (w : World) (ws : List Wd) (x : Wd) (t u : Tok) (l : Addr) (n : Nat) (hws : ∀ v ∈ ws, okW v) (hx : 46 ∉ x) (lx : x.length ≤ 6) (ln : ws.length ≤ 20) (news : List (Addr × Obj)) :
    Cl 950 9500 w 128 [.none, .ref l] ((l, listOf [.str (S (enc ws)) t, .str (slotT (S x)) u].toArray n) :: news) (isPlace ws x) := by
  refine (c_instr w _ _ t u l n ?_ ?_ ?_ news).mono ?_
  · rw [S_len, enc_len]; omega
  · rw [slot_S, S_len, pad_len]; omega
  · rw [slot_S, S_len, pad_len]; omega
  · rintro v tl ⟨⟨r, t', hr, rfl⟩, rfl⟩
    rw [slot_S] at hr
    exact ⟨⟨r, t', found_num hws hx lx hr, rfl⟩, rfl⟩
local macro_rules | `(tactic| walk_at "call ref") => `(tactic| (k_here; k_dflt (refine' Cl.use (c_instrW _ _ _ _ _ _ _ ?p1 ?p2 ?p3 ?p4 _) ?k1 ?k2 ?k3 ?k4 ?k5 ?kA ?kF ?kK ?kh ?kd ?ku ?_; (case k1 => k_asm); (case k2 => k_asm); (case k3 => k_asm); (case k4 => k_asm); (case k5 => k_asm); (case kA => exact rfl); (case kF => first | exact rfl | assumption); (case kK => first | exact rfl | assumption); (case kh => exact rfl); (case kd => exact Nat.le_of_ble_eq_true rfl); (case ku => exact Nat.le_of_ble_eq_true rfl); (case p1 => walk_at "cl p"); (case p2 => walk_at "cl p"); (case p3 => walk_at "cl p"); (case p4 => walk_at "cl p"); k_whole; intro v' tl' h' tk' F' N' hord' hout'; obtain ⟨⟨r', t', ⟨hr1', hr2', hr3'⟩, ev'⟩, etl'⟩ := hout'; subst ev'; subst etl'; clear hord'; rw [List.nil_append] at N'; (try dsimp only))))
local macro_rules | `(tactic| walk_at "call ref") => `(tactic| (k_here; k_dflt (refine' Cl.use (c_slot _ _ _ ?p1 _) ?k1 ?k2 ?k3 ?k4 ?k5 ?kA ?kF ?kK ?kh ?kd ?ku ?_; (case k1 => k_asm); (case k2 => k_asm); (case k3 => k_asm); (case k4 => k_asm); (case k5 => k_asm); (case kA => exact rfl); (case kF => first | exact rfl | assumption); (case kK => first | exact rfl | assumption); (case kh => exact rfl); (case kd => exact Nat.le_of_ble_eq_true rfl); (case ku => exact Nat.le_of_ble_eq_true rfl); (case p1 => walk_at "cl p"); k_whole; intro v' tl' h' tk' F' N' hord' hout'; obtain ⟨⟨t', ev'⟩, etl'⟩ := hout'; subst ev'; subst etl'; clear hord'; rw [List.nil_append] at N'; (try dsimp only))))
local macro_rules | `(tactic| walk_at "call ref") => `(tactic| (k_here; k_dflt (refine' Cl.use (c_reckoned _ _ _ _ _ _ _ ?p1 ?p2 _) ?k1 ?k2 ?k3 ?k4 ?k5 ?kA ?kF ?kK ?kh ?kd ?ku ?_; (case k1 => k_asm); (case k2 => k_asm); (case k3 => k_asm); (case k4 => k_asm); (case k5 => k_asm); (case kA => exact rfl); (case kF => first | exact rfl | assumption); (case kK => first | exact rfl | assumption); (case kh => exact rfl); (case kd => exact Nat.le_of_ble_eq_true rfl); (case ku => exact Nat.le_of_ble_eq_true rfl); (case p1 => walk_at "cl p"); (case p2 => walk_at "cl p"); k_whole; intro v' tl' h' tk' F' N' hord' hout'; obtain ⟨⟨t', ev'⟩, etl'⟩ := hout'; subst ev'; subst etl'; clear hord'; rw [List.nil_append] at N'; (try dsimp only))))
theorem num_yes {r : Int} {n : Nat} (h : (if r > 0 then (r + 5) / 6 else 0) = (n : Int)) (h0 : r > 0) : (r + 5) / 6 = (n : Int) := by rw [if_pos h0] at h; exact h
theorem num_no {r : Int} {n : Nat} (h : (if r > 0 then (r + 5) / 6 else 0) = (n : Int)) (h0 : ¬ r > 0) : 0 = (n : Int) := by rw [if_neg h0] at h; exact h
set_option maxRecDepth 100000 in
set_option maxHeartbeats 8000000 in
theorem c_number (w : World) (ws : List Wd) (x : Wd) (t u : Tok) (hws : ∀ v ∈ ws, okW v) (hx : 46 ∉ x) (lx : x.length ≤ 6) (ln : ws.length ≤ 20) (news : List (Addr × Obj)) : Cl 930 9300 w 297 [.str (S (enc ws)) t, .str (S x) u] news (isI (numW ws x)) := by
  w_top off
  unfold Cl
  k_fill
  intro loose mean mg mb gd env outer A₀ base h₀ Lf mf sf Qf Ef hf hk B F X N T hret
  refine wpAny_call ?_
  walk_at "cl enter"
  k_with_none
  have hSx := S_len x
  k_steps
  · refine hret _ [] _ _ (by walk_at "cl e1") (by walk_at "cl e2") no_ord ⟨⟨_, congrArg (fun z => Value.int z _) (num_yes (by assumption) (by assumption))⟩, rfl⟩
  · refine hret _ [] _ _ (by walk_at "cl e1") (by walk_at "cl e2") no_ord ⟨⟨_, congrArg (fun z => Value.int z _) (num_no (by assumption) (by assumption))⟩, rfl⟩
end
section
-- the walk's own lines: a def is entered; its end; a call by its contract
local macro_rules | `(tactic| walk_at "cl enter") => `(tactic| k_dflt (refine' code_def ?k1 ?k2 ?k3 ?k4 ?k5 ?kA ?kF ?kK ?k6 ?k7 ?k8 ?k9 ?kB ?_ ?c2 ?c3 ?c4 ?c5; (case kA => exact rfl); (case kF => assumption); (case kK => assumption); (case k1 => k_asm); (case k2 => k_asm); (case k3 => k_asm); (case k4 => k_asm); (case k5 => k_asm); (case k6 => k_is); (case k7 => k_is); (case k8 => exact of_decide_eq_true rfl); (case k9 => exact BindsTo.of_eq rfl); (case c5 => decide); (case kB => exact locs rfl); (case c2 => exact rfl); (case c3 => exact rfl); (case c4 => exact rfl); k_whole; intro g' L' h' FG' F' N' B' X' T'; (try dsimp only); (try k_lift B'); (try k_fold)))
local macro_rules | `(tactic| walk_at "cl e1") => `(tactic| k_asm)
local macro_rules | `(tactic| walk_at "cl e2") => `(tactic| first | k_asm | (refine' cb_drop ?cbN ?cbS; (case cbN => assumption); (case cbS => kcj_all)))
local macro_rules | `(tactic| walk_at "cl p") => `(tactic| first | assumption | omega | ((simp only [PySem.Str.length_append]); omega) | ((simp only [PySem.Str.length_append, List.length_append, List.length_cons, List.length_nil]); omega) | l_fact)
local macro_rules | `(tactic| walk_at "pyIter ref") => `(tactic| k_dflt (k_extra "pyIter ref"))
local macro_rules | `(tactic| walk_at "pyIter str") => `(tactic| k_dflt (k_extra "pyIter str"))
local macro_rules | `(tactic| walk_at "cl ord") => `(tactic| first | exact one_ord (by assumption) | exact one_ord (ktn_ltOf (by assumption)) | exact one_ord (ktn_ltOf (And.right (by assumption))) | exact one_ord (ktn_ltOf (And.right (And.right (by assumption)))) | exact one_ord (ktn_ltOf (And.right (And.right (And.right (by assumption))))) | exact one_ord (ktn_ltOf (And.right (And.right (And.right (And.right (by assumption)))))) | exact one_ord (ktn_ltOf (And.right (And.right (And.right (And.right (And.right (by assumption))))))) | exact one_ord (ktn_ltOf (And.right (And.right (And.right (And.right (And.right (And.right (by assumption)))))))))
local macro_rules | `(tactic| walk_at "exec While Compare cons nil") => `(tactic| k_dflt (k_extra "exec While Compare cons nil"))
local macro_rules | `(tactic| walk_at "InvEndN") => `(tactic| k_dflt (k_extra "InvEndN"))
local macro_rules | `(tactic| walk_at "call ref") => `(tactic| (k_here; k_dflt (refine' Cl.use (c_text_of _ _ _ _) ?k1 ?k2 ?k3 ?k4 ?k5 ?kA ?kF ?kK ?kh ?kd ?ku ?_; (case k1 => k_asm); (case k2 => k_asm); (case k3 => k_asm); (case k4 => k_asm); (case k5 => k_asm); (case kA => exact rfl); (case kF => first | exact rfl | assumption); (case kK => first | exact rfl | assumption); (case kh => exact rfl); (case kd => exact Nat.le_of_ble_eq_true rfl); (case ku => exact Nat.le_of_ble_eq_true rfl); k_whole; intro v' tl' h' tk' F' N' hord' hout'; obtain ⟨⟨t', ev'⟩, etl'⟩ := hout'; subst ev'; subst etl'; clear hord'; rw [List.nil_append] at N'; (try dsimp only))))
set_option maxRecDepth 100000 in
set_option maxHeartbeats 8000000 in
theorem c_size (w : World) (k : Int) (t : Tok) (h0 : 0 ≤ k) (h1 : k ≤ 255) (news : List (Addr × Obj)) : Cl 970 9700 w 107 [.int k t] news (isI k) := by
  w_top off
  unfold Cl
  k_fill
  intro loose mean mg mb gd env outer A₀ base h₀ Lf mf sf Qf Ef hf hk B F X N T hret
  refine wpAny_call ?_
  walk_at "cl enter"
  k_with_none
  k_steps
  all_goals refine' hret _ [] _ _ ?e1 ?e2 no_ord ⟨⟨_, rfl⟩, rfl⟩
  all_goals first | walk_at "cl e1" | walk_at "cl e2"
local macro_rules | `(tactic| walk_at "call ref") => `(tactic| (k_here; k_dflt (refine' Cl.use (c_size _ _ _ ?p1 ?p2 _) ?k1 ?k2 ?k3 ?k4 ?k5 ?kA ?kF ?kK ?kh ?kd ?ku ?_; (case k1 => k_asm); (case k2 => k_asm); (case k3 => k_asm); (case k4 => k_asm); (case k5 => k_asm); (case kA => exact rfl); (case kF => first | exact rfl | assumption); (case kK => first | exact rfl | assumption); (case kh => exact rfl); (case kd => exact Nat.le_of_ble_eq_true rfl); (case ku => exact Nat.le_of_ble_eq_true rfl); (case p1 => walk_at "cl p"); (case p2 => walk_at "cl p"); k_whole; intro v' tl' h' tk' F' N' hord' hout'; obtain ⟨⟨t', ev'⟩, etl'⟩ := hout'; subst ev'; subst etl'; clear hord'; rw [List.nil_append] at N'; (try dsimp only))))
set_option maxRecDepth 100000 in
set_option maxHeartbeats 8000000 in
theorem c_place (w : World) (k : Int) (t : Tok) (h0 : 1 ≤ k) (h1 : k ≤ 255) (news : List (Addr × Obj)) : Cl 960 9600 w 114 [.int k t] news (isI k) := by
  w_top off
  unfold Cl
  k_fill
  intro loose mean mg mb gd env outer A₀ base h₀ Lf mf sf Qf Ef hf hk B F X N T hret
  refine wpAny_call ?_
  walk_at "cl enter"
  k_with_none
  k_steps
  · exact absurd (by assumption) (show ¬ k = 0 by omega)
  · refine hret _ [] _ _ (by walk_at "cl e1") (by walk_at "cl e2") no_ord ⟨⟨_, rfl⟩, rfl⟩
local macro_rules | `(tactic| walk_at "call ref") => `(tactic| (k_here; k_dflt (refine' Cl.use (c_place _ _ _ ?p1 ?p2 _) ?k1 ?k2 ?k3 ?k4 ?k5 ?kA ?kF ?kK ?kh ?kd ?ku ?_; (case k1 => k_asm); (case k2 => k_asm); (case k3 => k_asm); (case k4 => k_asm); (case k5 => k_asm); (case kA => exact rfl); (case kF => first | exact rfl | assumption); (case kK => first | exact rfl | assumption); (case kh => exact rfl); (case kd => exact Nat.le_of_ble_eq_true rfl); (case ku => exact Nat.le_of_ble_eq_true rfl); (case p1 => walk_at "cl p"); (case p2 => walk_at "cl p"); k_whole; intro v' tl' h' tk' F' N' hord' hout'; obtain ⟨⟨t', ev'⟩, etl'⟩ := hout'; subst ev'; subst etl'; clear hord'; rw [List.nil_append] at N'; (try dsimp only))))
set_option maxRecDepth 100000 in
set_option maxHeartbeats 8000000 in
theorem c_mid (w : World) (x : Str) (k : Int) (t u v : Tok) (l : Addr) (n : Nat) (h0 : 1 ≤ k) (h1 : k ≤ 255) (hx : x.length ≤ 255) (news : List (Addr × Obj)) : Cl 950 9500 w 142 [.none, .ref l] ((l, listOf [.str x t, .int k u, .int 6 v].toArray n) :: news) (isS (Txt.slice x (some (k - 1)) (some (k - 1 + 6)))) := by
  w_top off
  unfold Cl
  k_fill
  intro loose mean mg mb gd env outer A₀ base h₀ Lf mf sf Qf Ef hf hk B F X N T hret
  refine wpAny_call ?_
  walk_at "cl enter"
  k_with_none
  k_steps
  all_goals refine' hret _ [] _ _ ?e1 ?e2 no_ord ⟨⟨_, rfl⟩, rfl⟩
  all_goals first | walk_at "cl e1" | walk_at "cl e2"
theorem isS_eq {x y : Str} (h : x = y) : ∀ v tl, isS x v tl → isS y v tl := by subst h; exact fun _ _ h => h
theorem mid_S {ws : List Wd} {n : Nat} {x : Wd} (hn : 1 ≤ n) (hx : ws[n - 1]? = some x) : Txt.slice (S (enc ws)) (some (6 * (n : Int) - 5 - 1)) (some (6 * (n : Int) - 5 - 1 + 6)) = S (pad x) := by
  have hlt : n - 1 < ws.length := (List.getElem?_eq_some_iff.mp hx).1
  rw [S_slice (by omega) (by omega) (by rw [enc_len]; omega), show (6 * (n : Int) - 5 - 1 + 6 - (6 * (n : Int) - 5 - 1)).toNat = 6 by omega, show (6 * (n : Int) - 5 - 1).toNat = 6 * (n - 1) by omega, enc_win hx]
theorem c_midW (w : World) (ws : List Wd) (x : Wd) (m : Nat) (t u v : Tok) (l : Addr) (n : Nat) (hm : 1 ≤ m) (hx : ws[m - 1]? = some x) (ln : ws.length ≤ 20) (news : List (Addr × Obj)) :
    Cl 950 9500 w 142 [.none, .ref l] ((l, listOf [.str (S (enc ws)) t, .int (6 * (m : Int) - 5) u, .int 6 v].toArray n) :: news) (isS (S (pad x))) := by
  have hlt : m - 1 < ws.length := (List.getElem?_eq_some_iff.mp hx).1
  exact (c_mid w _ _ t u v l n (by omega) (by omega) (by rw [S_len, enc_len]; omega) news).mono (isS_eq (mid_S hm hx))
theorem found_dot {x : Wd} {r : Int} (hx : 46 ∉ x) (lx : x.length ≤ 5) (h : FoundAt (S (pad x)) (Str.ofString ".") r) : r = (x.length : Int) + 1 := by
  rw [S_dot] at h
  unfold FoundAt at h
  simp only [S_len, pad_len, List.length_singleton] at h
  have sl : ∀ i : Int, 0 ≤ i → i < ((6 : Nat) : Int) - (1 : Nat) + 1 → (Txt.slice (S (pad x)) (some i) (some (i + (1 : Nat))) = S [46] ↔ (pad x)[i.toNat]? = some 46) := by
    intro i h0 h1
    rw [S_slice h0 (by omega) (by rw [pad_len]; omega), show (i + (1 : Nat) - i).toNat = 1 by omega]
    have hlt : i.toNat < (pad x).length := by rw [pad_len]; omega
    rw [List.drop_eq_getElem_cons hlt, List.getElem?_eq_getElem hlt]
    constructor
    · intro e
      have := S_inj e
      simp only [List.take_succ_cons, List.take_zero, List.cons.injEq, and_true] at this
      rw [this]
    · intro e
      rw [Option.some.inj e]
      rfl
  have no : ∀ j : Int, 0 ≤ j → j < x.length → ¬ (pad x)[j.toNat]? = some 46 := by
    intro j h0 h1 e
    rw [pad_at_lt (by omega) (by omega)] at e
    exact hx (List.mem_of_getElem? e)
  have yes : (pad x)[(x.length : Int).toNat]? = some 46 := pad_at_ge (by omega) (by omega)
  rcases h with ⟨_, h⟩ | ⟨h0, h1, h2, h3⟩
  · exact absurd ((sl (x.length : Int) (by omega) (by omega)).mpr yes) (h _ (by omega) (by omega))
  · have a := (sl _ h0 h1).mp h2
    have b : ¬ r - 1 < x.length := fun hl => no _ h0 hl a
    have c : ¬ (x.length : Int) < r - 1 := fun hl => h3 _ (by omega) hl ((sl (x.length : Int) (by omega) (by omega)).mpr yes)
    omega
theorem c_instrD (w : World) (x : Wd) (t u : Tok) (l : Addr) (n : Nat) (hx : 46 ∉ x) (lx : x.length ≤ 5) (news : List (Addr × Obj)) :
    Cl 950 9500 w 128 [.none, .ref l] ((l, listOf [.str (S (pad x)) t, .str (Str.ofString ".") u].toArray n) :: news) (isI ((x.length : Int) + 1)) := by
  refine (c_instr w _ _ t u l n ?_ ?_ ?_ news).mono ?_
  · rw [S_len, pad_len]; omega
  · rw [S_dot, S_len]; decide
  · rw [S_dot, S_len]; decide
  · rintro v tl ⟨⟨r, t', hr, rfl⟩, rfl⟩
    exact ⟨⟨t', by rw [found_dot hx lx hr]⟩, rfl⟩
theorem c_leftW (w : World) (x : Wd) (t u : Tok) (l : Addr) (n : Nat) (lx : x.length ≤ 5) (news : List (Addr × Obj)) :
    Cl 950 9500 w 135 [.none, .ref l] ((l, listOf [.str (S (pad x)) t, .int ((x.length : Int) + 1 - 1) u].toArray n) :: news) (isS (S x)) := by
  refine (c_left w _ _ t u l n (by omega) (by omega) (by rw [S_len, pad_len]; omega) news).mono (isS_eq ?_)
  rw [S_slice_to (by omega) (by rw [pad_len]; omega)]
  congr 1
  rw [show ((x.length : Int) + 1 - 1).toNat = x.length by omega, pad, List.take_take, Nat.min_eq_left (by omega), List.take_left]
end
section
local macro_rules | `(tactic| walk_at "own pad") => `(tactic| skip)
local macro_rules | `(tactic| walk_at "own pad") => `(tactic| skip)
local macro_rules | `(tactic| walk_at "own pad") => `(tactic| skip)
local macro_rules | `(tactic| walk_at "own pad") => `(tactic| skip)
local macro_rules | `(tactic| walk_at "own pad") => `(tactic| skip)
local macro_rules | `(tactic| walk_at "own pad") => `(tactic| skip)
local macro_rules | `(tactic| walk_at "own pad") => `(tactic| skip)
local macro_rules | `(tactic| walk_at "own pad") => `(tactic| skip)
local macro_rules | `(tactic| walk_at "own pad") => `(tactic| skip)
local macro_rules | `(tactic| walk_at "own pad") => `(tactic| skip)
local macro_rules | `(tactic| walk_at "own pad") => `(tactic| skip)
local macro_rules | `(tactic| walk_at "own pad") => `(tactic| skip)
local macro_rules | `(tactic| walk_at "own pad") => `(tactic| skip)
local macro_rules | `(tactic| walk_at "own pad") => `(tactic| skip)
local macro_rules | `(tactic| walk_at "own pad") => `(tactic| skip)
local macro_rules | `(tactic| walk_at "own pad") => `(tactic| skip)
local macro_rules | `(tactic| walk_at "own pad") => `(tactic| skip)
local macro_rules | `(tactic| walk_at "own pad") => `(tactic| skip)
local macro_rules | `(tactic| walk_at "own pad") => `(tactic| skip)
local macro_rules | `(tactic| walk_at "own pad") => `(tactic| skip)
local macro_rules | `(tactic| walk_at "own pad") => `(tactic| skip)
local macro_rules | `(tactic| walk_at "own pad") => `(tactic| skip)
local macro_rules | `(tactic| walk_at "own pad") => `(tactic| skip)
local macro_rules | `(tactic| walk_at "own pad") => `(tactic| skip)
local macro_rules | `(tactic| walk_at "own pad") => `(tactic| skip)
local macro_rules | `(tactic| walk_at "own pad") => `(tactic| skip)
local macro_rules | `(tactic| walk_at "own pad") => `(tactic| skip)
local macro_rules | `(tactic| walk_at "own pad") => `(tactic| skip)
local macro_rules | `(tactic| walk_at "own pad") => `(tactic| skip)
local macro_rules | `(tactic| walk_at "own pad") => `(tactic| skip)
local macro_rules | `(tactic| walk_at "own pad") => `(tactic| skip)
local macro_rules | `(tactic| walk_at "own pad") => `(tactic| skip)
local macro_rules | `(tactic| walk_at "own pad") => `(tactic| skip)
local macro_rules | `(tactic| walk_at "own pad") => `(tactic| skip)
local macro_rules | `(tactic| walk_at "own pad") => `(tactic| skip)
local macro_rules | `(tactic| walk_at "own pad") => `(tactic| skip)
local macro_rules | `(tactic| walk_at "own pad") => `(tactic| skip)
local macro_rules | `(tactic| walk_at "own pad") => `(tactic| skip)
local macro_rules | `(tactic| walk_at "own pad") => `(tactic| skip)
local macro_rules | `(tactic| walk_at "own pad") => `(tactic| skip)
-- the walk's own lines: a def is entered; its end; a call by its contract
local macro_rules | `(tactic| walk_at "cl enter") => `(tactic| k_dflt (refine' code_def ?k1 ?k2 ?k3 ?k4 ?k5 ?kA ?kF ?kK ?k6 ?k7 ?k8 ?k9 ?kB ?_ ?c2 ?c3 ?c4 ?c5; (case kA => exact rfl); (case kF => assumption); (case kK => assumption); (case k1 => k_asm); (case k2 => k_asm); (case k3 => k_asm); (case k4 => k_asm); (case k5 => k_asm); (case k6 => k_is); (case k7 => k_is); (case k8 => exact of_decide_eq_true rfl); (case k9 => exact BindsTo.of_eq rfl); (case c5 => decide); (case kB => exact locs rfl); (case c2 => exact rfl); (case c3 => exact rfl); (case c4 => exact rfl); k_whole; intro g' L' h' FG' F' N' B' X' T'; (try dsimp only); (try k_lift B'); (try k_fold)))
local macro_rules | `(tactic| walk_at "cl e1") => `(tactic| k_asm)
local macro_rules | `(tactic| walk_at "cl e2") => `(tactic| first | k_asm | (refine' cb_drop ?cbN ?cbS; (case cbN => assumption); (case cbS => kcj_all)))
local macro_rules | `(tactic| walk_at "cl p") => `(tactic| first | assumption | omega | ((simp only [PySem.Str.length_append]); omega) | ((simp only [PySem.Str.length_append, List.length_append, List.length_cons, List.length_nil]); omega) | l_fact)
local macro_rules | `(tactic| walk_at "pyIter ref") => `(tactic| k_dflt (k_extra "pyIter ref"))
local macro_rules | `(tactic| walk_at "pyIter str") => `(tactic| k_dflt (k_extra "pyIter str"))
local macro_rules | `(tactic| walk_at "cl ord") => `(tactic| first | exact one_ord (by assumption) | exact one_ord (ktn_ltOf (by assumption)) | exact one_ord (ktn_ltOf (And.right (by assumption))) | exact one_ord (ktn_ltOf (And.right (And.right (by assumption)))) | exact one_ord (ktn_ltOf (And.right (And.right (And.right (by assumption))))) | exact one_ord (ktn_ltOf (And.right (And.right (And.right (And.right (by assumption)))))) | exact one_ord (ktn_ltOf (And.right (And.right (And.right (And.right (And.right (by assumption))))))) | exact one_ord (ktn_ltOf (And.right (And.right (And.right (And.right (And.right (And.right (by assumption)))))))))
local macro_rules | `(tactic| walk_at "exec While Compare cons nil") => `(tactic| k_dflt (k_extra "exec While Compare cons nil"))
local macro_rules | `(tactic| walk_at "InvEndN") => `(tactic| k_dflt (k_extra "InvEndN"))
local macro_rules | `(tactic| walk_at "call ref") => `(tactic| (k_here; k_dflt (refine' Cl.use (c_text_of _ _ _ _) ?k1 ?k2 ?k3 ?k4 ?k5 ?kA ?kF ?kK ?kh ?kd ?ku ?_; (case k1 => k_asm); (case k2 => k_asm); (case k3 => k_asm); (case k4 => k_asm); (case k5 => k_asm); (case kA => exact rfl); (case kF => first | exact rfl | assumption); (case kK => first | exact rfl | assumption); (case kh => exact rfl); (case kd => exact Nat.le_of_ble_eq_true rfl); (case ku => exact Nat.le_of_ble_eq_true rfl); k_whole; intro v' tl' h' tk' F' N' hord' hout'; obtain ⟨⟨t', ev'⟩, etl'⟩ := hout'; subst ev'; subst etl'; clear hord'; rw [List.nil_append] at N'; (try dsimp only))))
local macro_rules | `(tactic| walk_at "call ref") => `(tactic| (k_here; k_dflt (refine' Cl.use (c_midW _ _ _ _ _ _ _ _ _ ?p1 ?p2 ?p3 _) ?k1 ?k2 ?k3 ?k4 ?k5 ?kA ?kF ?kK ?kh ?kd ?ku ?_; (case k1 => k_asm); (case k2 => k_asm); (case k3 => k_asm); (case k4 => k_asm); (case k5 => k_asm); (case kA => exact rfl); (case kF => first | exact rfl | assumption); (case kK => first | exact rfl | assumption); (case kh => exact rfl); (case kd => exact Nat.le_of_ble_eq_true rfl); (case ku => exact Nat.le_of_ble_eq_true rfl); (case p1 => walk_at "cl p"); (case p2 => walk_at "cl p"); (case p3 => walk_at "cl p"); k_whole; intro v' tl' h' tk' F' N' hord' hout'; obtain ⟨⟨t', ev'⟩, etl'⟩ := hout'; subst ev'; subst etl'; clear hord'; rw [List.nil_append] at N'; (try dsimp only))))
local macro_rules | `(tactic| walk_at "call ref") => `(tactic| (k_here; k_dflt (refine' Cl.use (c_instrD _ _ _ _ _ _ ?p1 ?p2 _) ?k1 ?k2 ?k3 ?k4 ?k5 ?kA ?kF ?kK ?kh ?kd ?ku ?_; (case k1 => k_asm); (case k2 => k_asm); (case k3 => k_asm); (case k4 => k_asm); (case k5 => k_asm); (case kA => exact rfl); (case kF => first | exact rfl | assumption); (case kK => first | exact rfl | assumption); (case kh => exact rfl); (case kd => exact Nat.le_of_ble_eq_true rfl); (case ku => exact Nat.le_of_ble_eq_true rfl); (case p1 => walk_at "cl p"); (case p2 => walk_at "cl p"); k_whole; intro v' tl' h' tk' F' N' hord' hout'; obtain ⟨⟨t', ev'⟩, etl'⟩ := hout'; subst ev'; subst etl'; clear hord'; rw [List.nil_append] at N'; (try dsimp only))))
local macro_rules | `(tactic| walk_at "call ref") => `(tactic| (k_here; k_dflt (refine' Cl.use (c_leftW _ _ _ _ _ _ ?p1 _) ?k1 ?k2 ?k3 ?k4 ?k5 ?kA ?kF ?kK ?kh ?kd ?ku ?_; (case k1 => k_asm); (case k2 => k_asm); (case k3 => k_asm); (case k4 => k_asm); (case k5 => k_asm); (case kA => exact rfl); (case kF => first | exact rfl | assumption); (case kK => first | exact rfl | assumption); (case kh => exact rfl); (case kd => exact Nat.le_of_ble_eq_true rfl); (case ku => exact Nat.le_of_ble_eq_true rfl); (case p1 => walk_at "cl p"); k_whole; intro v' tl' h' tk' F' N' hord' hout'; obtain ⟨⟨t', ev'⟩, etl'⟩ := hout'; subst ev'; subst etl'; clear hord'; rw [List.nil_append] at N'; (try dsimp only))))
theorem c_joinedS (w : World) (a b : Wd) (t u : Tok) (hw : a.length + b.length ≤ 255) (news : List (Addr × Obj)) : Cl 960 9600 w 149 [.str (S a) t, .str (S b) u] news (isS (S (a ++ b))) :=
  (c_joined w _ _ t u (by rw [S_len, S_len]; exact hw) news).mono (isS_eq (S_app a b))
theorem c_joinedE (w : World) (b : Wd) (t u : Tok) (hw : b.length ≤ 255) (news : List (Addr × Obj)) : Cl 960 9600 w 149 [.str (Str.ofString "") t, .str (S b) u] news (isS (S b)) :=
  (c_joined w _ _ t u (by rw [S_nil, S_len, S_len]; simpa using hw) news).mono (isS_eq (by rw [S_nil, S_app]; rfl))
theorem c_slotW (w : World) (x : Wd) (t : Tok) (hx : x.length ≤ 100) (news : List (Addr × Obj)) : Cl 940 9400 w 290 [.str (S x) t] news (isS (S (pad x))) :=
  (c_slot w _ t (by rw [S_len]; exact hx) news).mono (isS_eq (slot_S x))
local macro_rules | `(tactic| walk_at "call ref") => `(tactic| (k_here; k_dflt (refine' Cl.use (c_joinedS _ _ _ _ _ ?p1 _) ?k1 ?k2 ?k3 ?k4 ?k5 ?kA ?kF ?kK ?kh ?kd ?ku ?_; (case k1 => k_asm); (case k2 => k_asm); (case k3 => k_asm); (case k4 => k_asm); (case k5 => k_asm); (case kA => exact rfl); (case kF => first | exact rfl | assumption); (case kK => first | exact rfl | assumption); (case kh => exact rfl); (case kd => exact Nat.le_of_ble_eq_true rfl); (case ku => exact Nat.le_of_ble_eq_true rfl); (case p1 => walk_at "cl p"); k_whole; intro v' tl' h' tk' F' N' hord' hout'; obtain ⟨⟨t', ev'⟩, etl'⟩ := hout'; subst ev'; subst etl'; clear hord'; rw [List.nil_append] at N'; (try dsimp only))))
local macro_rules | `(tactic| walk_at "call ref") => `(tactic| (k_here; k_dflt (refine' Cl.use (c_joinedE _ _ _ _ ?p1 _) ?k1 ?k2 ?k3 ?k4 ?k5 ?kA ?kF ?kK ?kh ?kd ?ku ?_; (case k1 => k_asm); (case k2 => k_asm); (case k3 => k_asm); (case k4 => k_asm); (case k5 => k_asm); (case kA => exact rfl); (case kF => first | exact rfl | assumption); (case kK => first | exact rfl | assumption); (case kh => exact rfl); (case kd => exact Nat.le_of_ble_eq_true rfl); (case ku => exact Nat.le_of_ble_eq_true rfl); (case p1 => walk_at "cl p"); k_whole; intro v' tl' h' tk' F' N' hord' hout'; obtain ⟨⟨t', ev'⟩, etl'⟩ := hout'; subst ev'; subst etl'; clear hord'; rw [List.nil_append] at N'; (try dsimp only))))
local macro_rules | `(tactic| walk_at "call ref") => `(tactic| (k_here; k_dflt (refine' Cl.use (c_slotW _ _ _ ?p1 _) ?k1 ?k2 ?k3 ?k4 ?k5 ?kA ?kF ?kK ?kh ?kd ?ku ?_; (case k1 => k_asm); (case k2 => k_asm); (case k3 => k_asm); (case k4 => k_asm); (case k5 => k_asm); (case kA => exact rfl); (case kF => first | exact rfl | assumption); (case kK => first | exact rfl | assumption); (case kh => exact rfl); (case kd => exact Nat.le_of_ble_eq_true rfl); (case ku => exact Nat.le_of_ble_eq_true rfl); (case p1 => walk_at "cl p"); k_whole; intro v' tl' h' tk' F' N' hord' hout'; obtain ⟨⟨t', ev'⟩, etl'⟩ := hout'; subst ev'; subst etl'; clear hord'; rw [List.nil_append] at N'; (try dsimp only))))
def tup (vs : List Value) : Obj := { cls := .type "tuple", data := .seq vs.toArray }
/-- a pair of texts -/
def isSS (x y : Str) (v : Value) (tl : List (Addr × Obj)) : Prop := ∃ D t u, v = .ref D ∧ tl = [(D, tup [.str x t, .str y u])]
theorem isSS_mk {x y x' y' : Str} {D : Addr} {t u : Tok} (hx : x = x') (hy : y = y') : isSS x' y' (.ref D) [(D, { cls := .type "tuple", data := .seq #[.str x t, .str y u] })] := by
  subst hx; subst hy
  exact ⟨D, t, u, rfl, rfl⟩
theorem sg_nil {sg : Wd} (h : (S sg == Str.ofString "") = true) : sg = [] := by
  rw [S_nil] at h
  exact S_inj (eq_of_beq h)
theorem sg_ne {sg : Wd} (h : (S sg == Str.ofString "") = false) : sg ≠ [] := by
  rintro rfl
  rw [S_nil, beq_self_eq_true] at h
  cases h
theorem if_sg {sg : Wd} {a b : Str} (h : sg = []) : a = (if sg = [] then a else b) := (if_pos h).symm
theorem if_sg' {sg : Wd} {a b : Str} (h : sg ≠ []) : b = (if sg = [] then a else b) := (if_neg h).symm
set_option maxRecDepth 100000 in
set_option maxHeartbeats 8000000 in
theorem c_read0 (w : World) (ws : List Wd) (sg : Wd) (t u v : Tok) (ls : sg.length ≤ 1) (ln : ws.length ≤ 20) (news : List (Addr × Obj)) :
    Cl 930 9300 w 311 [.str (S (enc ws)) t, .int 0 u, .str (S sg) v] news (isSS (S sg) (if sg = [] then S (enc ws) else S (enc ws ++ pad sg))) := by
  w_top off
  unfold Cl
  k_fill
  intro loose mean mg mb gd env outer A₀ base h₀ Lf mf sf Qf Ef hf hk B F X N T hret
  refine wpAny_call ?_
  walk_at "cl enter"
  k_with_none
  have hEn := enc_len ws
  have hPs := pad_len sg
  k_steps
  · refine hret _ [_] _ _ (by walk_at "cl e1") (by walk_at "cl e2") (by walk_at "cl ord") (isSS_mk rfl (if_sg (sg_nil (by assumption))))
  · refine hret _ [_] _ _ (by walk_at "cl e1") (by walk_at "cl e2") (by walk_at "cl ord") (isSS_mk rfl (if_sg' (sg_ne (by assumption))))
set_option maxRecDepth 100000 in
set_option maxHeartbeats 8000000 in
theorem c_read1 (w : World) (ws : List Wd) (x sg : Wd) (m : Nat) (t u v : Tok) (hm : 1 ≤ m) (hmx : ws[m - 1]? = some x) (hx : 46 ∉ x) (lx : x.length ≤ 5) (ls : sg.length ≤ 1) (ln : ws.length ≤ 20) (news : List (Addr × Obj)) :
    Cl 930 9300 w 311 [.str (S (enc ws)) t, .int (m : Int) u, .str (S sg) v] news (isSS (S (x ++ sg)) (if sg = [] then S (enc ws) else S (enc ws ++ pad (x ++ sg)))) := by
  w_top off
  unfold Cl
  k_fill
  intro loose mean mg mb gd env outer A₀ base h₀ Lf mf sf Qf Ef hf hk B F X N T hret
  refine wpAny_call ?_
  walk_at "cl enter"
  k_with_none
  have hEn := enc_len ws
  have hPs := pad_len (x ++ sg)
  have hml : m - 1 < ws.length := (List.getElem?_eq_some_iff.mp hmx).1
  k_steps
  · refine hret _ [_] _ _ (by walk_at "cl e1") (by walk_at "cl e2") (by walk_at "cl ord") (isSS_mk rfl (if_sg (sg_nil (by assumption))))
  · refine hret _ [_] _ _ (by walk_at "cl e1") (by walk_at "cl e2") (by walk_at "cl ord") (isSS_mk rfl (if_sg' (sg_ne (by assumption))))
end
section
/-- the longest match: on from w, over the rest -/
def lm (ws : List Wd) : Wd → Wd → Wd × Option Nat
  | w, [] => (w, none)
  | w, c :: r => if w ++ [c] ∈ ws then lm ws (w ++ [c]) r else (w, some c)
def soc : Option Nat → Wd
  | none => []
  | some c => [c]
def grown (ws : List Wd) (w : Wd) : Option Nat → List Wd
  | none => ws
  | some c => ws ++ [w ++ [c]]
/-- the writer's state between two signs -/
structure WrI (ws : List Wd) (text : Wd) (a : Nat) (w : Wd) (i : Nat) : Prop where
  le : i ≤ text.length
  pos : i = a + w.length
  mem : w = [] ∨ w ∈ ws
  nodot : 46 ∉ w
  same : lm ws [] (text.drop a) = lm ws w (text.drop i)
theorem WrI.start {ws : List Wd} {text : Wd} {a : Nat} (h : a ≤ text.length) : WrI ws text a [] a := ⟨h, rfl, .inl rfl, (fun h => nomatch h), rfl⟩
theorem drop_cons {text : Wd} {i n : Nat} (h : text[i]? = some n) : text.drop i = n :: text.drop (i + 1) := by
  obtain ⟨hlt, hv⟩ := List.getElem?_eq_some_iff.mp h
  rw [List.drop_eq_getElem_cons hlt, hv]
theorem WrI.next {ws : List Wd} {text : Wd} {a : Nat} {w : Wd} {i n : Nat} (I : WrI ws text a w i) (ht : 46 ∉ text) (hn : text[i]? = some n) (hm : w ++ [n] ∈ ws) : WrI ws text a (w ++ [n]) (i + 1) := by
  have hlt := (List.getElem?_eq_some_iff.mp hn).1
  refine ⟨by omega, by rw [List.length_append, List.length_singleton, I.pos]; omega, .inr hm, ?_, ?_⟩
  · intro h
    rcases List.mem_append.mp h with h | h
    · exact I.nodot h
    · exact ht (List.mem_singleton.mp h ▸ List.mem_of_getElem? hn)
  · rw [I.same, drop_cons hn, lm, if_pos hm]
theorem WrI.done {ws : List Wd} {text : Wd} {a : Nat} {w : Wd} {i : Nat} (I : WrI ws text a w i) (h : ¬ i < text.length) : lm ws [] (text.drop a) = (w, none) := by
  rw [I.same, List.drop_of_length_le (by omega), lm]
theorem WrI.new {ws : List Wd} {text : Wd} {a : Nat} {w : Wd} {i n : Nat} (I : WrI ws text a w i) (hn : text[i]? = some n) (hm : w ++ [n] ∉ ws) : lm ws [] (text.drop a) = (w, some n) := by
  rw [I.same, drop_cons hn, lm, if_neg hm]
theorem WrI.long {ws : List Wd} {text : Wd} {a : Nat} {w : Wd} {i : Nat} (I : WrI ws text a w i) (hws : ∀ v ∈ ws, okW v) : w.length ≤ 5 := by
  rcases I.mem with rfl | h
  · exact Nat.zero_le _
  · exact (hws _ h).2.2
theorem numW_zero {ws : List Wd} {w : Wd} : (numW ws w : Int) = 0 ↔ w ∉ ws := by
  unfold numW
  split <;> simp_all
  omega
theorem numW_nil {ws : List Wd} (hws : ∀ v ∈ ws, okW v) : numW ws [] = 0 := by
  unfold numW
  rw [if_neg]
  intro h
  exact (hws _ h).1 rfl
end
section
/-- a book's words: each has signs and no dot, is short, none comes twice, each is an elder one, or none, with a sign behind it -/
structure Good (ws : List Wd) : Prop where
  ok : ∀ v ∈ ws, okW v
  nd : ws.Nodup
  pf : ∀ (k : Nat) (v : Wd), ws[k]? = some v → v.dropLast = [] ∨ v.dropLast ∈ ws.take k
theorem rstrip_pad {v : Wd} (hv : 46 ∉ v) (lv : v.length ≤ 6) : Txt.rstripChars (S (pad v)) (Str.ofString ".") = S v := by
  have e0 : Txt.rstripChars (S (pad v)) (Str.ofString ".") = Txt.stripBy (Str.ofString ".").cps.contains false true (S (pad v)) := rfl
  have lo : stripLo (Str.ofString ".").cps.contains false (S (pad v)) = 0 := by simp [stripLo]
  rw [e0, PyProof.Rows.stripBy_eq, lo]
  obtain ⟨_, h2, h3, h4⟩ := hi_facts (Str.ofString ".").cps.contains (S (pad v)) 0 (Nat.zero_le _)
  have hlen : (S (pad v)).length = 6 := by rw [S_len, pad_len]
  rw [hlen] at h2 h3
  have goes : ∀ c, (Str.ofString ".").cps.contains c = true ↔ c = 46 := by
    intro c
    rw [show (Str.ofString ".").cps = #[46] from by rw [S_dot]; rfl]
    simp
  have at' : ∀ k, (S (pad v)).cps.getD k 0 = ((pad v)[k]?).getD 0 := by
    intro k
    simp [S, Array.getD_eq_getD_getElem?]
  generalize hh : stripHi (Str.ofString ".").cps.contains true (S (pad v)) 0 = hi at h2 h3 h4
  have e : hi = v.length := by
    apply Nat.le_antisymm
    · apply Nat.le_of_not_lt
      intro hlt
      rcases h4 with h4 | h4
      · omega
      · rw [at', pad_at_ge (by omega) (by omega)] at h4
        rw [show (some 46 : Option Nat).getD 0 = 46 from rfl, (goes 46).mpr rfl] at h4
        cases h4
    · apply Nat.le_of_not_lt
      intro hlt
      have h5 := (goes _).mp (h3 hi (Nat.le_refl _) (by omega))
      rw [at', pad_at_lt hlt (by omega), List.getElem?_eq_getElem hlt] at h5
      exact hv (by rw [← (show v[hi] = 46 from h5)]; exact List.getElem_mem hlt)
  rw [e]
  refine Str.ext' ?_
  show (S (pad v)).cps.extract 0 v.length = (S v).cps
  apply Array.toList_inj.mp
  simp only [S, Array.toList_extract, List.extract_eq_take_drop, List.drop_zero, Nat.sub_zero]
  unfold pad
  rw [List.take_take, Nat.min_eq_left lv, List.take_left]
theorem slice_last {v : Wd} (hv : v ≠ []) : Txt.slice (S v) none (some (-1)) = S v.dropLast := by
  have hp : 0 < v.length := List.length_pos_iff.mpr hv
  have h := StrLaws.sliceText_to_neg (x := S v) (j := -1) (by omega) (by rw [S_len]; omega)
  rw [S_len] at h
  refine (show Txt.slice (S v) none (some (-1)) = StrLaws.sliceText (S v) none (some (-1)) from rfl).trans (h.trans ?_)
  refine Str.ext' (Array.toList_inj.mp ?_)
  simp only [S, List.dropLast_eq_take, List.drop_zero]
  rw [show (-1 + (v.length : Int) - 0).toNat = v.length - 1 by omega]
theorem mem_S {l : List Wd} {v : Wd} : ((l.map S).any fun x => x == S v) = true ↔ v ∈ l := by
  rw [List.any_eq_true]
  constructor
  · rintro ⟨x, hx, e⟩
    obtain ⟨u, hu, rfl⟩ := List.mem_map.mp hx
    rw [← S_inj (eq_of_beq e)]
    exact hu
  · intro h
    exact ⟨S v, List.mem_map.mpr ⟨v, h, rfl⟩, beq_self_eq_true _⟩
/-- one turn of the look over the book: the word read is new, and what it grew from stands -/
theorem Good.turn {ws : List Wd} (G : Good ws) {k : Nat} (hk : k < ws.length) : ∃ v, ws[k]? = some v ∧ Txt.rstripChars (Txt.slice (S (enc ws)) (some (0 + (k : Int) * 6)) (some (0 + (k : Int) * 6 + 6))) (Str.ofString ".") = S v ∧
    ((S [] :: (ws.take k).map S).any fun x => x == Txt.rstripChars (Txt.slice (S (enc ws)) (some (0 + (k : Int) * 6)) (some (0 + (k : Int) * 6 + 6))) (Str.ofString ".")) = false ∧
    ((S [] :: (ws.take k).map S).any fun x => x == Txt.slice (Txt.rstripChars (Txt.slice (S (enc ws)) (some (0 + (k : Int) * 6)) (some (0 + (k : Int) * 6 + 6))) (Str.ofString ".")) none (some (-1))) = true := by
  obtain ⟨v, hv⟩ : ∃ v, ws[k]? = some v := ⟨_, List.getElem?_eq_getElem hk⟩
  obtain ⟨hn, h46, hl⟩ := G.ok v (List.mem_of_getElem? hv)
  have e : Txt.rstripChars (Txt.slice (S (enc ws)) (some (0 + (k : Int) * 6)) (some (0 + (k : Int) * 6 + 6))) (Str.ofString ".") = S v := by
    rw [S_slice (by omega) (by omega) (by rw [enc_len]; omega), show (0 + (k : Int) * 6 + 6 - (0 + (k : Int) * 6)).toNat = 6 by omega, show (0 + (k : Int) * 6).toNat = 6 * k by omega, enc_win hv, rstrip_pad h46 (by omega)]
  refine ⟨v, hv, e, ?_, ?_⟩
  · rw [e, ← List.map_cons, Bool.eq_false_iff]
    intro h
    rcases List.mem_cons.mp (mem_S.mp h) with h | h
    · exact hn h
    · obtain ⟨j, hj, ej⟩ := List.mem_iff_getElem.mp h
      rw [List.length_take] at hj
      rw [List.getElem_take] at ej
      have h2 := (List.getElem?_eq_some_iff.mp hv)
      exact (List.pairwise_iff_getElem.mp G.nd) j k (by omega) hk (by omega) (ej.trans h2.2.symm)
  · rw [e, slice_last hn, ← List.map_cons]
    exact mem_S.mpr (by
      rcases G.pf k v hv with h | h
      · rw [h]; exact List.mem_cons_self
      · exact List.mem_cons_of_mem _ h)
end
section
-- the walk's own lines: a def is entered; its end; a call by its contract
local macro_rules | `(tactic| walk_at "cl enter") => `(tactic| k_dflt (refine' code_def ?k1 ?k2 ?k3 ?k4 ?k5 ?kA ?kF ?kK ?k6 ?k7 ?k8 ?k9 ?kB ?_ ?c2 ?c3 ?c4 ?c5; (case kA => exact rfl); (case kF => assumption); (case kK => assumption); (case k1 => k_asm); (case k2 => k_asm); (case k3 => k_asm); (case k4 => k_asm); (case k5 => k_asm); (case k6 => k_is); (case k7 => k_is); (case k8 => exact of_decide_eq_true rfl); (case k9 => exact BindsTo.of_eq rfl); (case c5 => decide); (case kB => exact locs rfl); (case c2 => exact rfl); (case c3 => exact rfl); (case c4 => exact rfl); k_whole; intro g' L' h' FG' F' N' B' X' T'; (try dsimp only); (try k_lift B'); (try k_fold)))
local macro_rules | `(tactic| walk_at "cl e1") => `(tactic| k_asm)
local macro_rules | `(tactic| walk_at "cl e2") => `(tactic| first | k_asm | (refine' cb_drop ?cbN ?cbS; (case cbN => assumption); (case cbS => kcj_all)))
local macro_rules | `(tactic| walk_at "cl p") => `(tactic| first | assumption | omega | ((simp only [PySem.Str.length_append]); omega) | ((simp only [PySem.Str.length_append, List.length_append, List.length_cons, List.length_nil]); omega) | l_fact)
local macro_rules | `(tactic| walk_at "pyIter ref") => `(tactic| k_dflt (k_extra "pyIter ref"))
local macro_rules | `(tactic| walk_at "pyIter str") => `(tactic| k_dflt (k_extra "pyIter str"))
local macro_rules | `(tactic| walk_at "cl ord") => `(tactic| first | exact one_ord (by assumption) | exact one_ord (ktn_ltOf (by assumption)) | exact one_ord (ktn_ltOf (And.right (by assumption))) | exact one_ord (ktn_ltOf (And.right (And.right (by assumption)))) | exact one_ord (ktn_ltOf (And.right (And.right (And.right (by assumption))))) | exact one_ord (ktn_ltOf (And.right (And.right (And.right (And.right (by assumption)))))) | exact one_ord (ktn_ltOf (And.right (And.right (And.right (And.right (And.right (by assumption))))))) | exact one_ord (ktn_ltOf (And.right (And.right (And.right (And.right (And.right (And.right (by assumption)))))))))
local macro_rules | `(tactic| walk_at "exec While Compare cons nil") => `(tactic| k_dflt (k_extra "exec While Compare cons nil"))
local macro_rules | `(tactic| walk_at "InvEndN") => `(tactic| k_dflt (k_extra "InvEndN"))
local macro_rules | `(tactic| walk_at "cl p") => `(tactic| first | assumption | omega | ((simp only [pad_len, enc_len, S_len, PySem.Str.length_append, List.length_append, List.length_cons, List.length_nil]); omega) | l_fact)
local macro_rules | `(tactic| k_all) => `(tactic| assumption)
local macro_rules | `(tactic| walk_at "call ref") => `(tactic| (k_here; k_dflt (refine' Cl.use (c_joinedS _ _ _ _ _ ?p1 _) ?k1 ?k2 ?k3 ?k4 ?k5 ?kA ?kF ?kK ?kh ?kd ?ku ?_; (case k1 => k_asm); (case k2 => k_asm); (case k3 => k_asm); (case k4 => k_asm); (case k5 => k_asm); (case kA => exact rfl); (case kF => first | exact rfl | assumption); (case kK => first | exact rfl | assumption); (case kh => exact rfl); (case kd => exact Nat.le_of_ble_eq_true rfl); (case ku => exact Nat.le_of_ble_eq_true rfl); (case p1 => walk_at "cl p"); k_whole; intro v' tl' h' tk' F' N' hord' hout'; obtain ⟨⟨t', ev'⟩, etl'⟩ := hout'; subst ev'; subst etl'; clear hord'; rw [List.nil_append] at N'; (try dsimp only))))
local macro_rules | `(tactic| walk_at "call ref") => `(tactic| (k_here; k_dflt (refine' Cl.use (c_joinedE _ _ _ _ ?p1 _) ?k1 ?k2 ?k3 ?k4 ?k5 ?kA ?kF ?kK ?kh ?kd ?ku ?_; (case k1 => k_asm); (case k2 => k_asm); (case k3 => k_asm); (case k4 => k_asm); (case k5 => k_asm); (case kA => exact rfl); (case kF => first | exact rfl | assumption); (case kK => first | exact rfl | assumption); (case kh => exact rfl); (case kd => exact Nat.le_of_ble_eq_true rfl); (case ku => exact Nat.le_of_ble_eq_true rfl); (case p1 => walk_at "cl p"); k_whole; intro v' tl' h' tk' F' N' hord' hout'; obtain ⟨⟨t', ev'⟩, etl'⟩ := hout'; subst ev'; subst etl'; clear hord'; rw [List.nil_append] at N'; (try dsimp only))))
local macro_rules | `(tactic| walk_at "call ref") => `(tactic| (k_here; k_dflt (refine' Cl.use (c_slotW _ _ _ ?p1 _) ?k1 ?k2 ?k3 ?k4 ?k5 ?kA ?kF ?kK ?kh ?kd ?ku ?_; (case k1 => k_asm); (case k2 => k_asm); (case k3 => k_asm); (case k4 => k_asm); (case k5 => k_asm); (case kA => exact rfl); (case kF => first | exact rfl | assumption); (case kK => first | exact rfl | assumption); (case kh => exact rfl); (case kd => exact Nat.le_of_ble_eq_true rfl); (case ku => exact Nat.le_of_ble_eq_true rfl); (case p1 => walk_at "cl p"); k_whole; intro v' tl' h' tk' F' N' hord' hout'; obtain ⟨⟨t', ev'⟩, etl'⟩ := hout'; subst ev'; subst etl'; clear hord'; rw [List.nil_append] at N'; (try dsimp only))))
theorem item_S {text : Wd} {i n : Nat} (h : text[i]? = some n) : Txt.item (S text) (i : Int) = S [n] := by
  have hlt := (List.getElem?_eq_some_iff.mp h).1
  have e : Txt.charAt (S text) (i : Int) = some n := by
    have e1 : seqIndex? (i : Int) (S text).length = some i := by
      rw [S_len]
      unfold seqIndex?
      simp [hlt]
      try omega
    unfold Txt.charAt
    rw [e1, Option.bind_some]
    simpa [S] using h
  unfold Txt.item
  rw [e]
  rfl
theorem c_joinedI (w : World) (a text : Wd) (i n : Nat) (t u : Tok) (hn : text[i]? = some n) (hw : a.length + 1 ≤ 255) (news : List (Addr × Obj)) : Cl 960 9600 w 149 [.str (S a) t, .str (Txt.item (S text) (i : Int)) u] news (isS (S (a ++ [n]))) := by
  rw [item_S hn]
  exact c_joinedS w a [n] t u hw news
local macro_rules | `(tactic| walk_at "call ref") => `(tactic| (k_here; k_dflt (refine' Cl.use (c_joinedI _ _ _ _ _ _ _ ?p1 ?p2 _) ?k1 ?k2 ?k3 ?k4 ?k5 ?kA ?kF ?kK ?kh ?kd ?ku ?_; (case k1 => k_asm); (case k2 => k_asm); (case k3 => k_asm); (case k4 => k_asm); (case k5 => k_asm); (case kA => exact rfl); (case kF => first | exact rfl | assumption); (case kK => first | exact rfl | assumption); (case kh => exact rfl); (case kd => exact Nat.le_of_ble_eq_true rfl); (case ku => exact Nat.le_of_ble_eq_true rfl); (case p1 => walk_at "cl p"); (case p2 => walk_at "cl p"); k_whole; intro v' tl' h' tk' F' N' hord' hout'; obtain ⟨⟨t', ev'⟩, etl'⟩ := hout'; subst ev'; subst etl'; clear hord'; rw [List.nil_append] at N'; (try dsimp only))))
local macro_rules | `(tactic| walk_at "call ref") => `(tactic| (k_here; k_dflt (refine' Cl.use (c_number _ _ _ _ _ ?p1 ?p2 ?p3 ?p4 _) ?k1 ?k2 ?k3 ?k4 ?k5 ?kA ?kF ?kK ?kh ?kd ?ku ?_; (case k1 => k_asm); (case k2 => k_asm); (case k3 => k_asm); (case k4 => k_asm); (case k5 => k_asm); (case kA => exact rfl); (case kF => first | exact rfl | assumption); (case kK => first | exact rfl | assumption); (case kh => exact rfl); (case kd => exact Nat.le_of_ble_eq_true rfl); (case ku => exact Nat.le_of_ble_eq_true rfl); (case p1 => walk_at "cl p"); (case p2 => walk_at "cl p"); (case p3 => walk_at "cl p"); (case p4 => walk_at "cl p"); k_whole; intro v' tl' h' tk' F' N' hord' hout'; obtain ⟨⟨t', ev'⟩, etl'⟩ := hout'; subst ev'; subst etl'; clear hord'; rw [List.nil_append] at N'; (try dsimp only))))
/-- number, sign, book, place -/
def isW4 (n : Int) (x y : Str) (k : Int) (v : Value) (tl : List (Addr × Obj)) : Prop := ∃ D t u t' u', v = .ref D ∧ tl = [(D, tup [.int n t, .str x u, .str y t', .int k u'])]
theorem isW4_mk {n n' k k' : Int} {x y x' y' : Str} {D : Addr} {t u t' u' : Tok} (hn : n = n') (hx : x = x') (hy : y = y') (hk : k = k') : isW4 n' x' y' k' (.ref D) [(D, { cls := .type "tuple", data := .seq #[.int n t, .str x u, .str y t', .int k u'] })] := by
  subst hn; subst hx; subst hy; subst hk
  exact ⟨D, t, u, t', u', rfl, rfl⟩
def wrPs (ws : List Wd) (c : Wd × Nat × Tok × Tok × Tok) : List (Str × Value) := [(Str.ofString "word", .str (S c.1) c.2.2.1), (Str.ofString "number", .int (numW ws c.1 : Int) c.2.2.2.1), (Str.ofString "at", .int (c.2.1 : Int) c.2.2.2.2)]
set_option maxRecDepth 100000 in
set_option maxHeartbeats 8000000 in
theorem c_written (w : World) (ws : List Wd) (text : Wd) (a : Nat) (t u v : Tok) (hws : ∀ v ∈ ws, okW v) (ht : 46 ∉ text) (lt : text.length ≤ 14) (ha : a ≤ text.length) (ln : ws.length ≤ 20) (x : Wd) (oc : Option Nat) (hlm : lm ws [] (text.drop a) = (x, oc)) (news : List (Addr × Obj)) :
    Cl 920 9200 w 304 [.str (S (enc ws)) t, .str (S text) u, .int (a : Int) v] news (isW4 (numW ws x) (S (soc oc)) (S (enc (grown ws x oc))) ((a + x.length + (soc oc).length : Nat) : Int)) := by
  w_top off
  unfold Cl
  k_fill
  intro loose mean mg mb gd env outer A₀ base h₀ Lf mf sf Qf Ef hf hk B F X N T hret
  refine wpAny_call ?_
  walk_at "cl enter"
  k_with_none
  have hEn := enc_len ws
  have hTx := S_len text
  k_with "exec While Compare cons nil" =>
    rename Fr _ _ _ _ => lF'
    rename News _ _ _ _ => lN'
    with_unfolding_all refine' ksw_while (σ := Wd × Nat × Tok × Tok × Tok) (fun _ => news) (wrPs ws) (fun _ => True) [Str.ofString "longer", Str.ofString "found"] (fun c => WrI ws text a c.1 c.2.1) (fun c => text.length - c.2.1) ⟨[], a, _, _, _⟩ lF' ?kn True.intro (List.forall_mem_cons.mpr ⟨?k1, List.forall_mem_cons.mpr ⟨?k2, List.forall_mem_cons.mpr ⟨?k3, List.forall_mem_nil _⟩⟩⟩) (WrI.start ha) ?turn
    case k1 => (rw [← S_nil]; with_unfolding_all rfl)
    case k2 => (rw [numW_nil hws]; with_unfolding_all rfl)
    case k3 => with_unfolding_all rfl
    case kn => exact cb_drop lN' (by kcj_all)
    all_goals clear lF' lN'
    case' turn => intro c' u' h' tk' hfc' I' F' N'
    obtain ⟨wd, i, t1, t2, t3⟩ := c'
    dsimp only [wrPs, kstB] at F'
    dsimp only at I'
    all_goals have hMk := kstMark
    have hle := I'.le
    have hlw := I'.long hws
    rcases Nat.lt_or_ge i text.length with hi | hi
    case' inl =>
      obtain ⟨n, hn⟩ : ∃ n, text[i]? = some n := ⟨_, List.getElem?_eq_getElem hi⟩
      have hnd : 46 ∉ wd ++ [n] := fun h => (List.mem_append.mp h).elim I'.nodot fun h => ht (List.mem_singleton.mp h ▸ List.mem_of_getElem? hn)
      have hnl : (wd ++ [n]).length ≤ 6 := by rw [List.length_append, List.length_singleton]; omega
    all_goals (try k_fold)
  k_steps
  · obtain ⟨ex, eo⟩ := Prod.mk.inj (hlm.symm.trans (I'.new hn (numW_zero.mp (by assumption))))
    subst ex; subst eo
    refine hret _ [_] _ _ (by walk_at "cl e1") (by walk_at "cl e2") (by walk_at "cl ord") (isW4_mk rfl (item_S hn) (by rw [grown, enc_snoc]) (by have := I'.pos; simp only [soc, List.length_singleton]; omega))
  · refine' ksw_end (c' := ((wd ++ [n], i + 1, ?t1, ?t2, ?t3) : Wd × Nat × Tok × Tok × Tok)) (by k_asm) (by assumption) ?n True.intro (List.forall_mem_cons.mpr ⟨?k1, List.forall_mem_cons.mpr ⟨?k2, List.forall_mem_cons.mpr ⟨?k3, List.forall_mem_nil _⟩⟩⟩) ?r (I'.next ht hn ?hm) ?m
    case k1 => with_unfolding_all rfl
    case k2 => with_unfolding_all rfl
    case k3 => with_unfolding_all rfl
    case n => kcj_all
    case r => (dsimp only [wrPs]; ksw_same)
    case hm => exact Classical.byContradiction fun h => absurd (numW_zero.mpr h) (by assumption)
    case m => (show text.length - (i + 1) < text.length - i; omega)
  · obtain ⟨ex, eo⟩ := Prod.mk.inj (hlm.symm.trans (I'.done (by omega)))
    subst ex; subst eo
    refine hret _ [_] _ _ (by walk_at "cl e1") (by walk_at "cl e2") (by walk_at "cl ord") (isW4_mk rfl S_nil rfl (by have := I'.pos; simp only [soc, List.length_nil]; omega))
end
section
local macro_rules | `(tactic| walk_at "own pad") => `(tactic| skip)
local macro_rules | `(tactic| walk_at "own pad") => `(tactic| skip)
local macro_rules | `(tactic| walk_at "own pad") => `(tactic| skip)
local macro_rules | `(tactic| walk_at "own pad") => `(tactic| skip)
local macro_rules | `(tactic| walk_at "own pad") => `(tactic| skip)
local macro_rules | `(tactic| walk_at "own pad") => `(tactic| skip)
local macro_rules | `(tactic| walk_at "own pad") => `(tactic| skip)
local macro_rules | `(tactic| walk_at "own pad") => `(tactic| skip)
local macro_rules | `(tactic| walk_at "own pad") => `(tactic| skip)
local macro_rules | `(tactic| walk_at "own pad") => `(tactic| skip)
local macro_rules | `(tactic| walk_at "own pad") => `(tactic| skip)
local macro_rules | `(tactic| walk_at "own pad") => `(tactic| skip)
local macro_rules | `(tactic| walk_at "own pad") => `(tactic| skip)
local macro_rules | `(tactic| walk_at "own pad") => `(tactic| skip)
local macro_rules | `(tactic| walk_at "own pad") => `(tactic| skip)
local macro_rules | `(tactic| walk_at "own pad") => `(tactic| skip)
local macro_rules | `(tactic| walk_at "own pad") => `(tactic| skip)
local macro_rules | `(tactic| walk_at "own pad") => `(tactic| skip)
local macro_rules | `(tactic| walk_at "own pad") => `(tactic| skip)
local macro_rules | `(tactic| walk_at "own pad") => `(tactic| skip)
local macro_rules | `(tactic| walk_at "own pad") => `(tactic| skip)
local macro_rules | `(tactic| walk_at "own pad") => `(tactic| skip)
local macro_rules | `(tactic| walk_at "own pad") => `(tactic| skip)
local macro_rules | `(tactic| walk_at "own pad") => `(tactic| skip)
local macro_rules | `(tactic| walk_at "own pad") => `(tactic| skip)
local macro_rules | `(tactic| walk_at "own pad") => `(tactic| skip)
local macro_rules | `(tactic| walk_at "own pad") => `(tactic| skip)
local macro_rules | `(tactic| walk_at "own pad") => `(tactic| skip)
local macro_rules | `(tactic| walk_at "own pad") => `(tactic| skip)
local macro_rules | `(tactic| walk_at "own pad") => `(tactic| skip)
local macro_rules | `(tactic| walk_at "own pad") => `(tactic| skip)
local macro_rules | `(tactic| walk_at "own pad") => `(tactic| skip)
local macro_rules | `(tactic| walk_at "own pad") => `(tactic| skip)
local macro_rules | `(tactic| walk_at "own pad") => `(tactic| skip)
local macro_rules | `(tactic| walk_at "own pad") => `(tactic| skip)
local macro_rules | `(tactic| walk_at "own pad") => `(tactic| skip)
local macro_rules | `(tactic| walk_at "own pad") => `(tactic| skip)
local macro_rules | `(tactic| walk_at "own pad") => `(tactic| skip)
local macro_rules | `(tactic| walk_at "own pad") => `(tactic| skip)
local macro_rules | `(tactic| walk_at "own pad") => `(tactic| skip)
-- the walk's own lines: a def is entered; its end; a call by its contract
local macro_rules | `(tactic| walk_at "cl enter") => `(tactic| k_dflt (refine' code_def ?k1 ?k2 ?k3 ?k4 ?k5 ?kA ?kF ?kK ?k6 ?k7 ?k8 ?k9 ?kB ?_ ?c2 ?c3 ?c4 ?c5; (case kA => exact rfl); (case kF => assumption); (case kK => assumption); (case k1 => k_asm); (case k2 => k_asm); (case k3 => k_asm); (case k4 => k_asm); (case k5 => k_asm); (case k6 => k_is); (case k7 => k_is); (case k8 => exact of_decide_eq_true rfl); (case k9 => exact BindsTo.of_eq rfl); (case c5 => decide); (case kB => exact locs rfl); (case c2 => exact rfl); (case c3 => exact rfl); (case c4 => exact rfl); k_whole; intro g' L' h' FG' F' N' B' X' T'; (try dsimp only); (try k_lift B'); (try k_fold)))
local macro_rules | `(tactic| walk_at "cl e1") => `(tactic| k_asm)
local macro_rules | `(tactic| walk_at "cl e2") => `(tactic| first | k_asm | (refine' cb_drop ?cbN ?cbS; (case cbN => assumption); (case cbS => kcj_all)))
local macro_rules | `(tactic| walk_at "cl p") => `(tactic| first | assumption | omega | ((simp only [PySem.Str.length_append]); omega) | ((simp only [PySem.Str.length_append, List.length_append, List.length_cons, List.length_nil]); omega) | l_fact)
local macro_rules | `(tactic| walk_at "pyIter ref") => `(tactic| k_dflt (k_extra "pyIter ref"))
local macro_rules | `(tactic| walk_at "pyIter str") => `(tactic| k_dflt (k_extra "pyIter str"))
local macro_rules | `(tactic| walk_at "cl ord") => `(tactic| first | exact one_ord (by assumption) | exact one_ord (ktn_ltOf (by assumption)) | exact one_ord (ktn_ltOf (And.right (by assumption))) | exact one_ord (ktn_ltOf (And.right (And.right (by assumption)))) | exact one_ord (ktn_ltOf (And.right (And.right (And.right (by assumption))))) | exact one_ord (ktn_ltOf (And.right (And.right (And.right (And.right (by assumption)))))) | exact one_ord (ktn_ltOf (And.right (And.right (And.right (And.right (And.right (by assumption))))))) | exact one_ord (ktn_ltOf (And.right (And.right (And.right (And.right (And.right (And.right (by assumption)))))))))
local macro_rules | `(tactic| walk_at "exec While Compare cons nil") => `(tactic| k_dflt (k_extra "exec While Compare cons nil"))
local macro_rules | `(tactic| walk_at "InvEndN") => `(tactic| k_dflt (k_extra "InvEndN"))
local macro_rules | `(tactic| walk_at "cl p") => `(tactic| first | assumption | omega | ((simp only [pad_len, enc_len, S_len, PySem.Str.length_append, List.length_append, List.length_cons, List.length_nil]); omega) | l_fact)
local macro_rules | `(tactic| k_all) => `(tactic| assumption)
/-- what holds between a loop's turns: a state c, its ledger, its names -/
def LpS {σ : Type} (Led : σ → List (Addr × Obj)) (ps : σ → List (Str × Value)) (x : Str) (stored : List Str) (m₀ : Str → Option Value) (P : Nat → σ → Prop) (k : Nat) (m : Str → Option Value) (nx : List (Addr × Obj)) : Prop :=
  ∃ c : σ, nx = Led c ∧ (∀ p ∈ ps c, m p.1 = some p.2) ∧ (∀ z, z ≠ x → (∀ p ∈ ps c, z ≠ p.1) → stored.contains z = false → m z = m₀ z) ∧ P k c
section
variable {σ : Type} {prog : Program} {w : World} {A : Around} {E : Value → Shared → Prop} {s : Shared} {env : Env} {h₀ : Heap} {x : Str} {body : List Stmt} {Q : Flow → Shared → Prop}
theorem LpS.close {Led : σ → List (Addr × Obj)} {ps : σ → List (Str × Value)} {stored : List Str} {m₀ : Str → Option Value} {P : Nat → σ → Prop} {k : Nat} {c : σ} {L : Addr} {m' : Str → Option Value} {own news' : List (Addr × Obj)} {adr : List Addr} {s₁ : Shared} {h' : Heap} {tk : Nat}
    (F : Fr h₀ L h' m') (N : News h₀ L h' news') (hn : ∀ p ∈ Led c, p ∈ news') (ho : ∀ p ∈ own, p ∈ news') (ha : (Led c).map (·.1) = adr) (hk : ∀ p ∈ ps c, m' p.1 = some p.2) (hr : ∀ z, z ≠ x → (∀ p ∈ ps c, z ≠ p.1) → stored.contains z = false → m' z = m₀ z) (hp : P k c) :
    InvEndN h₀ L (LpS Led ps x stored m₀ P k) own adr s₁ { s₁ with heap := h', toks := tk } :=
  InvEndN.intro F N ⟨c, rfl, hk, hr, hp⟩ ha hn ho
/-- a for over a range with any step -/
theorem rng_loop {r : Addr} {a₀ b₀ st : Int} {t₀ u₀ v₀ : Tok} {n : Nat} {m₀ : Str → Option Value} (Led : σ → List (Addr × Obj)) (ps : σ → List (Str × Value)) (stored : List Str) (P : Nat → σ → Prop) (c₀ : σ)
    (hh : A.handled = none) (hr : IsRange s.heap r a₀ b₀ st t₀ u₀ v₀) (hsmall : Builtin.Range.small a₀ b₀ st = true) (hn : Builtin.Range.rangeSize a₀ b₀ st = (n : Int)) (F : Fr h₀ env.locals s.heap m₀) (N : News h₀ env.locals s.heap (Led c₀)) (hk : ∀ p ∈ ps c₀, m₀ p.1 = some p.2) (hp : P 0 c₀)
    (turn : ∀ (c : σ) (k : Nat) t (u : Str → Option Value) h tk own, k < n → OwnOff own ((Led c₀).map (·.1)) → P k c →
      Fr h₀ env.locals h (fun y => if y = x then some (.int (a₀ + (k : Int) * st) t) else kstB (fun z => if stored.contains z then u z else m₀ z) (ps c) y) → News h₀ env.locals h (Led c ++ own) →
      wpAny (model prog w) A (execs body env) (InvPostN h₀ env.locals (LpS Led ps x stored m₀ P (k + 1)) own ((Led c₀).map (·.1)) { s with heap := h, toks := tk } Q) E { s with heap := h, toks := tk })
    (done : ∀ (c : σ) (u : Str → Option Value) h tk, P n c → Fr h₀ env.locals h (fun y => if y = x then u y else kstB (fun z => if stored.contains z then u z else m₀ z) (ps c) y) → News h₀ env.locals h (Led c) → Q .next { s with heap := h, toks := tk }) :
    wpAny (model prog w) A (pyIter (.ref r)) (fun it s₂ => LoopAtV prog w A h₀ env x body Q E it s₂) E s := by
  refine wpAny_pyIter_range hr hsmall ?_
  have W := (Walks.range (prog := prog) (w := w) hh s.heap.objs.size a₀ st n).bound
  have off : ∀ q ∈ Led c₀, q.1 ∉ [s.heap.objs.size] := fun q hq hI => absurd (Heap.lt_size (N q hq).1) (by rw [List.mem_singleton.mp hI]; exact Nat.lt_irrefl _)
  refine loop_invN (LpS Led ps x stored m₀ P) W ?_ ?_ off off ?_ (F.push _) (fun q hq => ⟨Heap.get?_push_of_some _ (N q hq).1, (N q hq).2⟩) ⟨c₀, rfl, hk, fun _ _ _ _ => rfl, hp⟩ ?_ ?_
  · intro hm
    exact absurd F.ns.lt (by rw [List.mem_singleton.mp hm]; exact Nat.lt_irrefl _)
  · intro b hb
    rw [List.mem_singleton.mp hb]
    exact next_is_new F
  · show IsRangeIter _ _ _ _ _
    rw [hn]
    simpa using Heap.get?_push_size _ rfl
  · rintro i v m₁ nx h tk own hi ⟨_, t, rfl⟩ _ hoff ⟨c, rfl, h1, h2, hp'⟩ F₁ N₁
    exact turn c i t m₁ h tk own hi hoff hp' (kst_fr h1 h2 F₁) N₁
  · rintro m₁ nx h tk ⟨c, rfl, h1, h2, hp'⟩ F₁ N₁
    exact done c m₁ h tk hp' (kst_frOut h1 h2 F₁) N₁
end
theorem size6 (n : Nat) : Builtin.Range.rangeSize 0 ((6 * n : Nat) : Int) 6 = (n : Int) := by
  unfold Builtin.Range.rangeSize
  rw [if_pos (by omega)]
  split <;> omega
theorem small6 {n : Nat} (h : n ≤ 100) : Builtin.Range.small 0 ((6 * n : Nat) : Int) 6 = true := by
  unfold Builtin.Range.small
  rw [size6]
  unfold Builtin.Range.rangeFitsLong
  rw [if_pos (by decide)]
  simp only [Bool.or_eq_true, Bool.and_eq_true, decide_eq_true_eq]
  refine ⟨by omega, .inr (by omega)⟩
theorem strs_next {us : List Value} {ws : List Wd} {k : Nat} {v : Wd} {x : Str} {t : Tok} (h : StrsAre us (S [] :: (ws.take k).map S)) (hv : ws[k]? = some v) (e : x = S v) : StrsAre (us ++ [.str x t]) (S [] :: (ws.take (k + 1)).map S) := by
  have a := h.append' (.cons x t .nil)
  rw [List.take_add_one, hv, List.map_append]
  subst e
  exact a
set_option maxRecDepth 100000 in
set_option maxHeartbeats 8000000 in
theorem c_right (w : World) (ws : List Wd) (t : Tok) (G : Good ws) (ln : ws.length ≤ 20) (news : List (Addr × Obj)) :
    Cl 960 9600 w 325 [.str (S (enc ws)) t] news (isB true) := by
  w_top off
  unfold Cl
  k_fill
  intro loose mean mg mb gd env outer A₀ base h₀ Lf mf sf Qf Ef hf hk B F X N T hret
  refine wpAny_call ?_
  walk_at "cl enter"
  k_with_none
  have hEn := enc_len ws
  have hSe := S_len (enc ws)
  k_with "pyIter ref" =>
    rename Fr _ _ _ _ => lF'
    rename News _ _ _ _ => lN'
    rename IsRange _ _ _ _ _ _ _ _ => rg'
    with_unfolding_all refine' rng_loop (σ := List Value × Nat) (fun c => (_, listOf c.1.toArray c.2) :: news) (fun _ => []) [Str.ofString "word"] (fun k c => StrsAre c.1 (S [] :: (ws.take k).map S)) ([.str (Str.ofString "") _], 0) (by rfl) rg' ?small ?size lF' lN' (List.forall_mem_nil _) ?start ?turn ?done
    case small => (rw [hSe, hEn]; exact small6 (by omega))
    case size => (rw [hSe, hEn]; exact size6 _)
    case start => (rw [S_nil]; exact .cons _ _ .nil)
    all_goals clear lF' lN'
    case' turn => intro c' k' t' u' h' tk' own' hlt' hoff' hP' F' N'
    case' done => intro c' u' h' tk' hP' F' N'
    all_goals obtain ⟨us, cn⟩ := c'
    all_goals dsimp only at hP'
    all_goals dsimp only [kstB] at F'
    all_goals dsimp only at N'
    all_goals have hMk := kstMark
    case' turn =>
      simp only [List.map_cons] at hoff'
      simp only [List.cons_append] at N'
      obtain ⟨vt, hvt, hrt, hn1, hn2⟩ := G.turn hlt'
      have hul := hP'.length
      rw [List.length_cons, List.length_map, List.length_take] at hul
      have hsz : us.toArray.size ≤ sizeLine := by rw [List.size_toArray, sizeLine_eq]; omega
    all_goals (try dsimp only)
    all_goals (try k_fold)
  k_with "InvEndN" =>
    rename News _ _ _ _ => nE'
    simp only [List.push_toArray] at nE'
    refine' LpS.close (c := (?us', ?cn')) (by assumption) nE' (List.forall_mem_cons.mpr ⟨List.Mem.head _, fun p hp => List.Mem.tail _ (List.mem_append.mpr (.inl hp))⟩) (fun p hp => List.Mem.tail _ (List.mem_append.mpr (.inr hp))) rfl (List.forall_mem_nil _) ?r (strs_next hP' hvt hrt)
    case r => kst_same
  k_steps
  all_goals refine' hret _ [] _ _ ?e1 ?e2 no_ord ⟨rfl, rfl⟩
  all_goals first | walk_at "cl e1" | walk_at "cl e2"
end
section
-- the walk's own lines: a def is entered; its end; a call by its contract
local macro_rules | `(tactic| walk_at "cl enter") => `(tactic| k_dflt (refine' code_def ?k1 ?k2 ?k3 ?k4 ?k5 ?kA ?kF ?kK ?k6 ?k7 ?k8 ?k9 ?kB ?_ ?c2 ?c3 ?c4 ?c5; (case kA => exact rfl); (case kF => assumption); (case kK => assumption); (case k1 => k_asm); (case k2 => k_asm); (case k3 => k_asm); (case k4 => k_asm); (case k5 => k_asm); (case k6 => k_is); (case k7 => k_is); (case k8 => exact of_decide_eq_true rfl); (case k9 => exact BindsTo.of_eq rfl); (case c5 => decide); (case kB => exact locs rfl); (case c2 => exact rfl); (case c3 => exact rfl); (case c4 => exact rfl); k_whole; intro g' L' h' FG' F' N' B' X' T'; (try dsimp only); (try k_lift B'); (try k_fold)))
local macro_rules | `(tactic| walk_at "cl e1") => `(tactic| k_asm)
local macro_rules | `(tactic| walk_at "cl e2") => `(tactic| first | k_asm | (refine' cb_drop ?cbN ?cbS; (case cbN => assumption); (case cbS => kcj_all)))
local macro_rules | `(tactic| walk_at "cl p") => `(tactic| first | assumption | omega | ((simp only [PySem.Str.length_append]); omega) | ((simp only [PySem.Str.length_append, List.length_append, List.length_cons, List.length_nil]); omega) | l_fact)
local macro_rules | `(tactic| walk_at "pyIter ref") => `(tactic| k_dflt (k_extra "pyIter ref"))
local macro_rules | `(tactic| walk_at "pyIter str") => `(tactic| k_dflt (k_extra "pyIter str"))
local macro_rules | `(tactic| walk_at "cl ord") => `(tactic| first | exact one_ord (by assumption) | exact one_ord (ktn_ltOf (by assumption)) | exact one_ord (ktn_ltOf (And.right (by assumption))) | exact one_ord (ktn_ltOf (And.right (And.right (by assumption)))) | exact one_ord (ktn_ltOf (And.right (And.right (And.right (by assumption))))) | exact one_ord (ktn_ltOf (And.right (And.right (And.right (And.right (by assumption)))))) | exact one_ord (ktn_ltOf (And.right (And.right (And.right (And.right (And.right (by assumption))))))) | exact one_ord (ktn_ltOf (And.right (And.right (And.right (And.right (And.right (And.right (by assumption)))))))))
local macro_rules | `(tactic| walk_at "exec While Compare cons nil") => `(tactic| k_dflt (k_extra "exec While Compare cons nil"))
local macro_rules | `(tactic| walk_at "InvEndN") => `(tactic| k_dflt (k_extra "InvEndN"))
local macro_rules | `(tactic| walk_at "cl p") => `(tactic| first | assumption | omega | ((simp only [pad_len, enc_len, S_len, PySem.Str.length_append, List.length_append, List.length_cons, List.length_nil]); omega) | l_fact)
local macro_rules | `(tactic| k_all) => `(tactic| assumption)
section
variable {σ : Type} {prog : Program} {w : World} {A : Around} {E : Value → Shared → Prop} {s : Shared} {env : Env} {h₀ : Heap} {x : Str} {body : List Stmt} {Q : Flow → Shared → Prop}
theorem iter_text {xt : Str} {tx : Tok} {Q : Value → Shared → Prop}
    (hQ : ∀ (o : Obj) (St : Nat → Heap → Prop), (∀ A' : Around, A'.handled = none → Walks prog w A' s.heap.objs.size [s.heap.objs.size] [s.heap.objs.size] xt.cps.size (SignAt xt) St) → (∀ i h, St i h → ∃ o, h.get? s.heap.objs.size = some o) → St 0 (s.heap.push o) →
      Q (.ref s.heap.objs.size) { s with heap := s.heap.push o }) : wpAny (model prog w) A (pyIter (.str xt tx)) Q E s := by
  cases ha : xt.cps.all (· < 128) with
  | false => exact wpAny_pyIter_wide ha (hQ _ _ (fun A' hA => Walks.strWide hA _ xt tx) (fun i h hs => ⟨_, hs.choose_spec.1⟩) ⟨_, Heap.get?_push_size _ rfl, rfl, rfl⟩)
  | true => exact wpAny_pyIter_ascii ha (hQ _ _ (fun A' hA => Walks.strAscii hA _ xt tx) (fun i h hs => ⟨_, hs.choose_spec.1⟩) ⟨_, Heap.get?_push_size _ rfl, rfl, rfl⟩)
/-- a for over a text's signs, whose turns may make objects that are kept -/
theorem txt_loop {xt : Str} {tx : Tok} {m₀ : Str → Option Value} (Led : σ → List (Addr × Obj)) (ps : σ → List (Str × Value)) (stored : List Str) (P : Nat → σ → Prop) (c₀ : σ)
    (hh : A.handled = none) (F : Fr h₀ env.locals s.heap m₀) (N : News h₀ env.locals s.heap (Led c₀)) (hk : ∀ p ∈ ps c₀, m₀ p.1 = some p.2) (hp : P 0 c₀)
    (turn : ∀ (c : σ) (i n : Nat) t (u : Str → Option Value) h tk own, xt.cps[i]? = some n → OwnOff own ((Led c).map (·.1)) → P i c →
      Fr h₀ env.locals h (fun y => if y = x then some (.str ⟨#[n]⟩ t) else kstB (fun z => if stored.contains z then u z else m₀ z) (ps c) y) → News h₀ env.locals h (Led c ++ own) →
      wpAny (model prog w) A (execs body env) (InvPostG h₀ env.locals (LpS Led ps x stored m₀ P (i + 1)) own { s with heap := h, toks := tk } Q) E { s with heap := h, toks := tk })
    (done : ∀ (c : σ) (u : Str → Option Value) h tk, P xt.cps.size c → Fr h₀ env.locals h (fun y => if y = x then u y else kstB (fun z => if stored.contains z then u z else m₀ z) (ps c) y) → News h₀ env.locals h (Led c) → Q .next { s with heap := h, toks := tk }) :
    wpAny (model prog w) A (pyIter (.str xt tx)) (fun it s₂ => LoopAtV prog w A h₀ env x body Q E it s₂) E s := by
  refine iter_text fun o St hW hob hst => ?_
  refine kdr_loop (LpS Led ps x stored m₀ P) (hW A hh) (fun _ h => h) (fun _ h => h) ?_ ?_ ?_ ?_ hst (F.push _) (fun q hq => ⟨Heap.get?_push_of_some _ (N q hq).1, (N q hq).2⟩) ⟨c₀, rfl, hk, fun _ _ _ _ => rfl, hp⟩ ?_ ?_
  · intro i h hs b hb
    rw [List.mem_singleton.mp hb]
    exact hob i h hs
  · intro hm
    exact absurd F.ns.lt (by rw [List.mem_singleton.mp hm]; exact Nat.lt_irrefl _)
  · intro b hb
    rw [List.mem_singleton.mp hb]
    exact next_is_new F
  · intro q hq hI
    exact absurd (Heap.lt_size (N q hq).1) (by rw [List.mem_singleton.mp hI]; exact Nat.lt_irrefl _)
  · rintro i v m₁ nx h tk own hi ⟨n, u, hn, rfl⟩ hoff ⟨c, rfl, h1, h2, hp'⟩ F₁ N₁
    exact turn c i n u m₁ h tk own hn hoff hp' (kst_fr h1 h2 F₁) N₁
  · rintro m₁ nx h tk ⟨c, rfl, h1, h2, hp'⟩ F₁ N₁
    exact done c m₁ h tk hp' (kst_frOut h1 h2 F₁) N₁
theorem LpS.closeG {Led : σ → List (Addr × Obj)} {ps : σ → List (Str × Value)} {stored : List Str} {m₀ : Str → Option Value} {P : Nat → σ → Prop} {k : Nat} {c : σ} {L : Addr} {m' : Str → Option Value} {own news' : List (Addr × Obj)} {s₁ : Shared} {h' : Heap} {tk : Nat}
    (F : Fr h₀ L h' m') (N : News h₀ L h' news') (hn : ∀ p ∈ Led c, p ∈ news') (ho : ∀ p ∈ own, p ∈ news') (ha : OwnOff own ((Led c).map (·.1))) (hk : ∀ p ∈ ps c, m' p.1 = some p.2) (hr : ∀ z, z ≠ x → (∀ p ∈ ps c, z ≠ p.1) → stored.contains z = false → m' z = m₀ z) (hp : P k c) :
    InvEndG h₀ L (LpS Led ps x stored m₀ P k) own s₁ { s₁ with heap := h', toks := tk } :=
  InvEndG.intro F N ⟨c, rfl, hk, hr, hp⟩ ha hn ho
end
/-- the due pairs: on from the words ws and the word w -/
def pf : List Wd → Wd → Wd → List (Nat × Wd)
  | ws, w, [] => if w = [] then [] else [(numW ws w, [])]
  | ws, w, c :: r => if w ++ [c] ∈ ws then pf ws (w ++ [c]) r else (numW ws w, [c]) :: pf (ws ++ [w ++ [c]]) [] r
def datOf (p : Nat × Wd) : Dat := .tuple [.int (p.1 : Int), .str (S p.2)]
structure DueC where
  us : List Value
  cn : Nat
  fs : List Value
  fn : Nat
  ws : List Wd
  wd : Wd
  wt : Tok
  ps : List (Nat × Wd)
  tl : List (Addr × Obj)
structure DueI (text : Wd) (lf : Addr) (i : Nat) (c : DueC) : Prop where
  le : i ≤ text.length
  hu : StrsAre c.us (S [] :: c.ws.map S)
  hd : DatAll c.tl c.fs (c.ps.map datOf)
  mem : c.wd = [] ∨ c.wd ∈ c.ws
  ne : [] ∉ c.ws
  ln : c.ws.length ≤ i
  lp : c.ps.length ≤ i
  lw : c.wd.length ≤ i
  ab : ∀ p ∈ c.tl, lf < p.1
  same : pf [] [] text = c.ps ++ pf c.ws c.wd (text.drop i)
theorem any_words {ws : List Wd} {v : Wd} : ((S [] :: ws.map S).any fun x => x == S v) = true ↔ v = [] ∨ v ∈ ws := by
  rw [← List.map_cons, mem_S, List.mem_cons]
theorem num_at {ws : List Wd} {wd : Wd} (hw : wd = [] ∨ wd ∈ ws) (ne : [] ∉ ws) : ([] :: ws)[numW ws wd]? = some wd := by
  unfold numW
  by_cases h : wd ∈ ws
  · rw [if_pos h, List.getElem?_cons_succ]
    exact idx_at h
  · rw [if_neg h]
    rcases hw with rfl | hw
    · rfl
    · exact absurd hw h
theorem num_first {ws : List Wd} {wd : Wd} (ne : [] ∉ ws) {i : Nat} (hi : i < numW ws wd) : ([] :: ws)[i]? ≠ some wd := by
  intro e
  unfold numW at hi
  by_cases h : wd ∈ ws
  · rw [if_pos h] at hi
    cases i with
    | zero =>
      have e' : ([] : Wd) = wd := Option.some.inj e
      exact ne (by rw [e']; exact h)
    | succ i =>
      rw [List.getElem?_cons_succ] at e
      have := (idx_first e).2
      omega
  · rw [if_neg h] at hi
    omega
theorem idx_words {prog : Program} {w : World} {A : Around} {E : Value → Shared → Prop} {s : Shared} {h₀ : Heap} {L D : Addr} {news : List (Addr × Obj)} {us : List Value} {n : Nat} {ws : List Wd} {wd : Wd} {t : Tok} {Q : Value → Shared → Prop}
    (N : News h₀ L s.heap news) (hm : (D, listOf us.toArray n) ∈ news) (hu : StrsAre us (S [] :: ws.map S)) (hw : wd = [] ∨ wd ∈ ws) (ne : [] ∉ ws) (ln : ws.length ≤ 20) (h : Q (.int (numW ws wd : Int) s.toks) { s with toks := s.toks + 1 }) :
    wpAny (model prog w) A (call (.builtin "list.index") [.ref D, .str (S wd) t]) Q E s := by
  have hl := hu.length
  rw [List.length_cons, List.length_map] at hl
  have hat : ∀ (i : Nat) (hi : i < us.toArray.size), ∃ v, ([] :: ws)[i]? = some v ∧ isStrOf (S wd) us.toArray[i] = (S v == S wd) := by
    intro i hi
    have hi' : i < ([] :: ws).length := by rw [List.size_toArray] at hi; rw [List.length_cons]; omega
    obtain ⟨v, hv⟩ : ∃ v, ([] :: ws)[i]? = some v := ⟨_, List.getElem?_eq_getElem hi'⟩
    obtain ⟨t', e⟩ := hu.get i (S v) (by rw [← List.map_cons, List.getElem?_map, hv]; rfl)
    have e2 : us.toArray[i] = .str (S v) t' := by
      obtain ⟨h1, h2⟩ := List.getElem?_eq_some_iff.mp e
      simpa using h2
    exact ⟨v, hv, by rw [e2]; rfl⟩
  have hj := num_at hw ne
  have hjl := (List.getElem?_eq_some_iff.mp hj).1
  rw [List.length_cons] at hjl
  have hjs : numW ws wd < us.toArray.size := by rw [List.size_toArray]; omega
  refine call_meets PySem.F.slot_list_index ⟨_, (N _ hm).1, rfl⟩ PySem.F.entry_list_index (PySem.F.args_list_index_2 _ _)
    (MeetsSeq.list_index D us.toArray n (.str (S wd) t) (isStrOf (S wd)) (fun y hy => eq_isStrOf (S wd) t hu y (by simpa using hy)) (numW ws wd) hjs (by omega) ?_ ?_) ⟨(N _ hm).1, h⟩
  · obtain ⟨v, hv, e⟩ := hat _ hjs
    rw [hj] at hv
    rw [e, ← Option.some.inj hv]
    exact beq_self_eq_true _
  · intro i hi hlt
    obtain ⟨v, hv, e⟩ := hat i hi
    rw [e]
    cases hb : (S v == S wd) with
    | false => rfl
    | true => exact absurd (by rw [hv, S_inj (eq_of_beq hb)]) (num_first ne hlt)
theorem with3 {a b D : Addr} {news : List (Addr × Obj)} (h : @LT.lt Nat _ a D ∧ @LT.lt Nat _ b D ∧ AllLt D news) {P : Prop} (k : ∀ lf lw DD : Addr, lf = a → lw = b → DD = D → P) : P := k a b D rfl rfl rfl
theorem DueI.start (text : Wd) (lf : Addr) (t t' : Tok) : DueI text lf 0 { us := [.str (Str.ofString "") t], cn := 0, fs := [], fn := 0, ws := [], wd := [], wt := t', ps := [], tl := [] } := by
  refine ⟨Nat.zero_le _, ?_, .nil, .inl rfl, (fun h => nomatch h), Nat.le_refl _, Nat.le_refl _, Nat.le_refl _, (fun _ h => nomatch h), rfl⟩
  rw [S_nil]
  exact .cons _ _ .nil
theorem cat_lists {prog : Program} {w : World} {A : Around} {E : Value → Shared → Prop} {s : Shared} {h₀ : Heap} {L D1 D2 : Addr} {m : Str → Option Value} {news : List (Addr × Obj)} {us vs : List Value} {n1 n2 : Nat} {Q : Value → Shared → Prop}
    (F : Fr h₀ L s.heap m) (N : News h₀ L s.heap news) (h1 : (D1, listOf us.toArray n1) ∈ news) (h2 : (D2, listOf vs.toArray n2) ∈ news) (hz : us.length + vs.length ≤ 1000)
    (h : ∀ (D : Addr) h', Fr h₀ L h' m → News h₀ L h' ((D, listOf (us ++ vs).toArray 0) :: news) → (∀ p ∈ news, p.1 < D) → Q (.ref D) { s with heap := h' }) :
    wpAny (model prog w) A (binaryOp .Add (.ref D1) (.ref D2)) Q E s :=
  add_lists (vs := us) (ws := vs) (hsz := by rw [sizeLine_eq]; omega) F N ⟨_, (N _ h1).1, rfl, n1, rfl⟩ ⟨_, (N _ h2).1, rfl, n2, rfl⟩ fun h' F' N' => h _ h' F' N' fun p hp => Heap.lt_size (N p hp).1
/-- the due pairs, as a list of tuples -/
def isDue (text : Wd) (v : Value) (tl : List (Addr × Obj)) : Prop := ∃ D us n tl', v = .ref D ∧ tl = (D, listOf us.toArray n) :: tl' ∧ DatAll tl' us ((pf [] [] text).map datOf)
theorem due_off {lf lw : Addr} {tl news own : List (Addr × Obj)} {adr : List Addr} (hab : ∀ p ∈ tl, lf < p.1) (hl : @LT.lt Nat _ lw lf ∧ AllLt lf news) (h1 : ∀ p ∈ news, p.1 < lw) (ho : OwnOff own (lf :: lw :: adr)) :
    (∀ p ∈ tl ++ (news ++ own), p.1 ≠ lf) ∧ ∀ p ∈ tl ++ (news ++ own), p.1 ≠ lw := by
  have hl' := hl.1
  refine ⟨fun p hp e => ?_, fun p hp e => ?_⟩
  · rcases List.mem_append.mp hp with hp | hp
    · exact absurd (hab p hp) (by rw [e]; exact Nat.lt_irrefl _)
    · rcases List.mem_append.mp hp with hp | hp
      · exact absurd (Nat.lt_trans (h1 p hp) hl') (by rw [e]; exact Nat.lt_irrefl _)
      · exact ho p hp lf (.head _) e
  · rcases List.mem_append.mp hp with hp | hp
    · exact absurd (Nat.lt_trans hl' (hab p hp)) (by rw [e]; exact Nat.lt_irrefl _)
    · rcases List.mem_append.mp hp with hp | hp
      · exact absurd (h1 p hp) (by rw [e]; exact Nat.lt_irrefl _)
      · exact ho p hp lw (.tail _ (.head _)) e
theorem S_grow (w : Wd) (n : Nat) : S w ++ (⟨#[n]⟩ : Str) = S (w ++ [n]) := S_app w [n]
theorem DueI.more {text : Wd} {lf : Addr} {i n : Nat} {us fs : List Value} {cn fn : Nat} {ws : List Wd} {wd : Wd} {wt : Tok} {ps : List (Nat × Wd)} {tl : List (Addr × Obj)} (wt' : Tok) (I : DueI text lf i ⟨us, cn, fs, fn, ws, wd, wt, ps, tl⟩) (hn : (S text).cps[i]? = some n)
    (hm : ((S [] :: ws.map S).any fun x => x == S wd ++ (⟨#[n]⟩ : Str)) = true) : DueI text lf (i + 1) ⟨us, cn, fs, fn, ws, wd ++ [n], wt', ps, tl⟩ := by
  have hn' : text[i]? = some n := by simpa [S] using hn
  have hlt := (List.getElem?_eq_some_iff.mp hn').1
  rw [S_grow, any_words] at hm
  have hm' : wd ++ [n] ∈ ws := hm.resolve_left (by simp)
  obtain ⟨hle, hu, hd, hmem, hne, hln, hlp, hlw, hab, hsame⟩ := I
  refine ⟨hlt, hu, hd, .inr hm', hne, Nat.le_succ_of_le hln, Nat.le_succ_of_le hlp, ?_, hab, ?_⟩
  · simpa using hlw
  · rw [hsame, drop_cons hn']
    dsimp only
    rw [pf, if_pos hm']
theorem DueI.grow {text : Wd} {lf D : Addr} {i n : Nat} {us fs : List Value} {cn fn cn' fn' m : Nat} {ws : List Wd} {wd : Wd} {wt t1 t2 t3 : Tok} {ps : List (Nat × Wd)} {tl : List (Addr × Obj)} (wt' : Tok) (I : DueI text lf i ⟨us, cn, fs, fn, ws, wd, wt, ps, tl⟩) (hn : (S text).cps[i]? = some n)
    (hm : ((S [] :: ws.map S).any fun x => x == S wd ++ (⟨#[n]⟩ : Str)) = false) (hD : lf < D) :
    DueI text lf (i + 1) ⟨us ++ [.str (S wd ++ (⟨#[n]⟩ : Str)) t1], cn', fs ++ [.ref D], fn', ws ++ [wd ++ [n]], [], wt', ps ++ [(numW ws wd, [n])], (D, ({ cls := .type "tuple", data := .seq [.int (numW ws wd : Int) t2, .str (⟨#[n]⟩ : Str) t3].toArray m } : Obj)) :: tl⟩ := by
  have hn' : text[i]? = some n := by simpa [S] using hn
  have hlt := (List.getElem?_eq_some_iff.mp hn').1
  have hm' : wd ++ [n] ∉ ws := fun h => by
    rw [S_grow, any_words.mpr (.inr h)] at hm
    cases hm
  obtain ⟨hle, hu, hd, hmem, hne, hln, hlp, hlw, hab, hsame⟩ := I
  refine ⟨hlt, ?_, ?_, .inl rfl, ?_, ?_, ?_, Nat.zero_le _, ?_, ?_⟩
  · have a := hu.append' (.cons (S wd ++ (⟨#[n]⟩ : Str)) t1 .nil)
    dsimp only at a ⊢
    rw [List.map_append]
    rw [S_grow] at a ⊢
    exact a
  · dsimp only at hd ⊢
    rw [List.map_append]
    exact (hd.mono fun p hp => List.Mem.tail _ hp).append (.cons (.tuple (.head _) (.cons (.int _ _) (.cons (.str _ _) .nil))) .nil)
  · intro h
    rcases List.mem_append.mp h with h | h
    · exact hne h
    · have := List.mem_singleton.mp h
      simp at this
  · simpa using hln
  · simpa using hlp
  · intro p hp
    rcases List.mem_cons.mp hp with rfl | hp
    · exact hD
    · exact hab p hp
  · rw [hsame, drop_cons hn']
    dsimp only
    rw [pf, if_neg hm', List.append_assoc]
    rfl
theorem due_mem {a b : Addr × Obj} {tl news own : List (Addr × Obj)} : ∀ p ∈ a :: b :: (tl ++ news), p ∈ a :: b :: (tl ++ (news ++ own)) := by
  intro p hp
  rcases List.mem_cons.mp hp with rfl | hp
  · exact .head _
  rcases List.mem_cons.mp hp with rfl | hp
  · exact .tail _ (.head _)
  refine .tail _ (.tail _ ?_)
  rcases List.mem_append.mp hp with hp | hp
  · exact List.mem_append.mpr (.inl hp)
  · exact List.mem_append.mpr (.inr (List.mem_append.mpr (.inl hp)))
theorem due_mem' {d a b : Addr × Obj} {tl news own : List (Addr × Obj)} : ∀ p ∈ a :: b :: ((d :: tl) ++ news), p ∈ d :: a :: b :: (tl ++ (news ++ own)) := by
  intro p hp
  rcases List.mem_cons.mp hp with rfl | hp
  · exact .tail _ (.head _)
  rcases List.mem_cons.mp hp with rfl | hp
  · exact .tail _ (.tail _ (.head _))
  rcases List.mem_cons.mp hp with rfl | hp
  · exact .head _
  exact .tail _ (due_mem p (.tail _ (.tail _ hp)))
theorem due_own {a b : Addr × Obj} {tl news own : List (Addr × Obj)} : ∀ p ∈ own, p ∈ a :: b :: (tl ++ (news ++ own)) := fun _ hp => .tail _ (.tail _ (List.mem_append.mpr (.inr (List.mem_append.mpr (.inr hp)))))
theorem due_offD {own tl news : List (Addr × Obj)} {lf lw D : Addr} {adr : List Addr} (ho : OwnOff own (lf :: lw :: adr)) (hD : @LT.lt Nat _ lf D ∧ @LT.lt Nat _ lw D ∧ AllLt D (tl ++ (news ++ own))) : OwnOff own (lf :: lw :: D :: adr) := by
  intro p hp b hb
  rcases List.mem_cons.mp hb with rfl | hb
  · exact ho p hp _ (.head _)
  rcases List.mem_cons.mp hb with rfl | hb
  · exact ho p hp _ (.tail _ (.head _))
  rcases List.mem_cons.mp hb with rfl | hb
  · exact Nat.ne_of_lt (ktn_ltOf hD.2.2 p (List.mem_append.mpr (.inr (List.mem_append.mpr (.inr hp)))))
  · exact ho p hp _ (.tail _ (.tail _ hb))
theorem due_end1 {text : Wd} {lf D D1 : Addr} {us fs : List Value} {cn fn n m : Nat} {ws : List Wd} {wd : Wd} {wt t1 t2 : Tok} {ps : List (Nat × Wd)} {tl : List (Addr × Obj)} (I : DueI text lf (S text).cps.size ⟨us, cn, fs, fn, ws, wd, wt, ps, tl⟩) (hw : (S wd != Str.ofString "") = true) :
    isDue text (.ref D) ((D, listOf (fs ++ [Value.ref D1]).toArray n) :: (D1, ({ cls := .type "tuple", data := .seq [.int (numW ws wd : Int) t1, .str (Str.ofString "") t2].toArray m } : Obj)) :: tl) := by
  obtain ⟨hle, hu, hd, hmem, hne, hln, hlp, hlw, hab, hsame⟩ := I
  refine ⟨D, _, n, _, rfl, rfl, ?_⟩
  have hwd : wd ≠ [] := by
    rintro rfl
    rw [S_nil] at hw
    simp at hw
  have hs : (S text).cps.size = text.length := S_len text
  dsimp only at hsame hd
  rw [hs, List.drop_length, pf, if_neg hwd] at hsame
  rw [hsame, List.map_append]
  refine (hd.mono fun p hp => List.Mem.tail _ hp).append (.cons (.tuple (.head _) (.cons (.int _ _) (.cons ?_ .nil))) .nil)
  rw [← S_nil]
  exact .str _ _
theorem due_end0 {text : Wd} {lf D : Addr} {us fs : List Value} {cn fn n : Nat} {ws : List Wd} {wd : Wd} {wt : Tok} {ps : List (Nat × Wd)} {tl : List (Addr × Obj)} (I : DueI text lf (S text).cps.size ⟨us, cn, fs, fn, ws, wd, wt, ps, tl⟩) (hw : (S wd != Str.ofString "") = false) :
    isDue text (.ref D) ((D, listOf (fs ++ []).toArray n) :: tl) := by
  obtain ⟨hle, hu, hd, hmem, hne, hln, hlp, hlw, hab, hsame⟩ := I
  refine ⟨D, _, n, _, rfl, rfl, ?_⟩
  have hwd : wd = [] := by
    rw [S_nil] at hw
    exact S_inj (by simpa using hw)
  have hs : (S text).cps.size = text.length := S_len text
  dsimp only at hsame hd
  rw [hs, List.drop_length, pf, if_pos hwd, List.append_nil] at hsame
  rw [hsame, List.append_nil]
  exact hd
theorem due_sub1 {a b c d e : Addr × Obj} {tl news : List (Addr × Obj)} : ∀ p ∈ (a :: c :: tl) ++ news, p ∈ a :: b :: c :: d :: e :: (tl ++ news) := by
  intro p hp
  rcases List.mem_cons.mp hp with rfl | hp
  · exact .head _
  rcases List.mem_cons.mp hp with rfl | hp
  · exact .tail _ (.tail _ (.head _))
  exact .tail _ (.tail _ (.tail _ (.tail _ (.tail _ hp))))
theorem due_sub0 {a b d e : Addr × Obj} {tl news : List (Addr × Obj)} : ∀ p ∈ (a :: tl) ++ news, p ∈ a :: b :: d :: e :: (tl ++ news) := by
  intro p hp
  rcases List.mem_cons.mp hp with rfl | hp
  · exact .head _
  exact .tail _ (.tail _ (.tail _ (.tail _ hp)))
theorem due_ord {lf lw : Addr} {tl news : List (Addr × Obj)} (hab : ∀ p ∈ tl, lf < p.1) (hl : @LT.lt Nat _ lw lf ∧ AllLt lf news) : ∀ p ∈ tl, ∀ q ∈ news, q.1 < p.1 := fun p hp q hq => Nat.lt_trans (ktn_ltOf hl.2 q hq) (hab p hp)
theorem ord_cons {D : Addr} {o : Obj} {tl xs news : List (Addr × Obj)} (hD : AllLt D (xs ++ news)) (h : ∀ p ∈ tl, ∀ q ∈ news, q.1 < p.1) : ∀ p ∈ (D, o) :: tl, ∀ q ∈ news, q.1 < p.1 := by
  intro p hp q hq
  rcases List.mem_cons.mp hp with rfl | hp
  · exact ktn_ltOf hD q (List.mem_append.mpr (.inr hq))
  · exact h p hp q hq
end
section
local macro_rules | `(tactic| walk_at "own pad") => `(tactic| skip)
local macro_rules | `(tactic| walk_at "own pad") => `(tactic| skip)
local macro_rules | `(tactic| walk_at "own pad") => `(tactic| skip)
local macro_rules | `(tactic| walk_at "own pad") => `(tactic| skip)
local macro_rules | `(tactic| walk_at "own pad") => `(tactic| skip)
local macro_rules | `(tactic| walk_at "own pad") => `(tactic| skip)
local macro_rules | `(tactic| walk_at "own pad") => `(tactic| skip)
local macro_rules | `(tactic| walk_at "own pad") => `(tactic| skip)
local macro_rules | `(tactic| walk_at "own pad") => `(tactic| skip)
local macro_rules | `(tactic| walk_at "own pad") => `(tactic| skip)
local macro_rules | `(tactic| walk_at "own pad") => `(tactic| skip)
local macro_rules | `(tactic| walk_at "own pad") => `(tactic| skip)
local macro_rules | `(tactic| walk_at "own pad") => `(tactic| skip)
local macro_rules | `(tactic| walk_at "own pad") => `(tactic| skip)
local macro_rules | `(tactic| walk_at "own pad") => `(tactic| skip)
local macro_rules | `(tactic| walk_at "own pad") => `(tactic| skip)
local macro_rules | `(tactic| walk_at "own pad") => `(tactic| skip)
local macro_rules | `(tactic| walk_at "own pad") => `(tactic| skip)
local macro_rules | `(tactic| walk_at "own pad") => `(tactic| skip)
local macro_rules | `(tactic| walk_at "own pad") => `(tactic| skip)
local macro_rules | `(tactic| walk_at "own pad") => `(tactic| skip)
local macro_rules | `(tactic| walk_at "own pad") => `(tactic| skip)
local macro_rules | `(tactic| walk_at "own pad") => `(tactic| skip)
local macro_rules | `(tactic| walk_at "own pad") => `(tactic| skip)
local macro_rules | `(tactic| walk_at "own pad") => `(tactic| skip)
local macro_rules | `(tactic| walk_at "own pad") => `(tactic| skip)
local macro_rules | `(tactic| walk_at "own pad") => `(tactic| skip)
local macro_rules | `(tactic| walk_at "own pad") => `(tactic| skip)
local macro_rules | `(tactic| walk_at "own pad") => `(tactic| skip)
local macro_rules | `(tactic| walk_at "own pad") => `(tactic| skip)
local macro_rules | `(tactic| walk_at "own pad") => `(tactic| skip)
local macro_rules | `(tactic| walk_at "own pad") => `(tactic| skip)
local macro_rules | `(tactic| walk_at "own pad") => `(tactic| skip)
local macro_rules | `(tactic| walk_at "own pad") => `(tactic| skip)
local macro_rules | `(tactic| walk_at "own pad") => `(tactic| skip)
local macro_rules | `(tactic| walk_at "own pad") => `(tactic| skip)
local macro_rules | `(tactic| walk_at "own pad") => `(tactic| skip)
local macro_rules | `(tactic| walk_at "own pad") => `(tactic| skip)
local macro_rules | `(tactic| walk_at "own pad") => `(tactic| skip)
local macro_rules | `(tactic| walk_at "own pad") => `(tactic| skip)
-- the walk's own lines: a def is entered; its end; a call by its contract
local macro_rules | `(tactic| walk_at "cl enter") => `(tactic| k_dflt (refine' code_def ?k1 ?k2 ?k3 ?k4 ?k5 ?kA ?kF ?kK ?k6 ?k7 ?k8 ?k9 ?kB ?_ ?c2 ?c3 ?c4 ?c5; (case kA => exact rfl); (case kF => assumption); (case kK => assumption); (case k1 => k_asm); (case k2 => k_asm); (case k3 => k_asm); (case k4 => k_asm); (case k5 => k_asm); (case k6 => k_is); (case k7 => k_is); (case k8 => exact of_decide_eq_true rfl); (case k9 => exact BindsTo.of_eq rfl); (case c5 => decide); (case kB => exact locs rfl); (case c2 => exact rfl); (case c3 => exact rfl); (case c4 => exact rfl); k_whole; intro g' L' h' FG' F' N' B' X' T'; (try dsimp only); (try k_lift B'); (try k_fold)))
local macro_rules | `(tactic| walk_at "cl e1") => `(tactic| k_asm)
local macro_rules | `(tactic| walk_at "cl e2") => `(tactic| first | k_asm | (refine' cb_drop ?cbN ?cbS; (case cbN => assumption); (case cbS => kcj_all)))
local macro_rules | `(tactic| walk_at "cl p") => `(tactic| first | assumption | omega | ((simp only [PySem.Str.length_append]); omega) | ((simp only [PySem.Str.length_append, List.length_append, List.length_cons, List.length_nil]); omega) | l_fact)
local macro_rules | `(tactic| walk_at "pyIter ref") => `(tactic| k_dflt (k_extra "pyIter ref"))
local macro_rules | `(tactic| walk_at "pyIter str") => `(tactic| k_dflt (k_extra "pyIter str"))
local macro_rules | `(tactic| walk_at "cl ord") => `(tactic| first | exact one_ord (by assumption) | exact one_ord (ktn_ltOf (by assumption)) | exact one_ord (ktn_ltOf (And.right (by assumption))) | exact one_ord (ktn_ltOf (And.right (And.right (by assumption)))) | exact one_ord (ktn_ltOf (And.right (And.right (And.right (by assumption))))) | exact one_ord (ktn_ltOf (And.right (And.right (And.right (And.right (by assumption)))))) | exact one_ord (ktn_ltOf (And.right (And.right (And.right (And.right (And.right (by assumption))))))) | exact one_ord (ktn_ltOf (And.right (And.right (And.right (And.right (And.right (And.right (by assumption)))))))))
local macro_rules | `(tactic| walk_at "exec While Compare cons nil") => `(tactic| k_dflt (k_extra "exec While Compare cons nil"))
local macro_rules | `(tactic| walk_at "InvEndN") => `(tactic| k_dflt (k_extra "InvEndN"))
local macro_rules | `(tactic| walk_at "cl p") => `(tactic| first | assumption | omega | ((simp only [pad_len, enc_len, S_len, PySem.Str.length_append, List.length_append, List.length_cons, List.length_nil]); omega) | l_fact)
local macro_rules | `(tactic| k_all) => `(tactic| assumption)
local macro_rules | `(tactic| walk_at "call builtin:list.index") => `(tactic| (k_here; k_dflt (refine' idx_words ?N ?m ?s ?w ?ne ?ln ?_; (case N => k_asm); (case m => k_memK); (case s => assumption); (case w => assumption); (case ne => assumption); (case ln => omega))))
local macro_rules | `(tactic| walk_at "binaryOp Add ref ref") => `(tactic| (k_here; k_dflt (refine' cat_lists ?F ?N ?a ?b ?z ?_; (case F => k_asm); (case N => k_asm); (case a => k_memK); (case b => k_memK); (case z => ((try simp only [List.length_cons, List.length_nil]); omega)); intro D' h' F' N' l1; (try k_lt l1))))
local macro_rules | `(tactic| walk_at "InvEndG") => `(tactic| k_dflt (k_extra "InvEndG"))
set_option maxRecDepth 100000 in
set_option maxHeartbeats 8000000 in
theorem c_due (w : World) (text : Wd) (t : Tok) (lt : text.length ≤ 14) (news : List (Addr × Obj)) :
    Cl 920 9200 w 318 [.str (S text) t] news (isDue text) := by
  w_top off
  unfold Cl
  k_fill
  intro loose mean mg mb gd env outer A₀ base h₀ Lf mf sf Qf Ef hf hk B F X N T hret
  refine wpAny_call ?_
  walk_at "cl enter"
  k_with_none
  have hTx := S_len text
  k_with "pyIter str" =>
    refine with3 (by assumption) fun lf lw DD elf elw eD => ?_
    subst elf elw eD
    rename Fr _ _ _ _ => lF'
    rename News _ _ _ _ => lN'
    with_unfolding_all refine' txt_loop (σ := DueC) (fun c => (lf, listOf c.fs.toArray c.fn) :: (lw, listOf c.us.toArray c.cn) :: (c.tl ++ news)) (fun c => [(Str.ofString "word", .str (S c.wd) c.wt)]) [] (DueI text lf) { us := [.str (Str.ofString "") _], cn := 0, fs := [], fn := 0, ws := [], wd := [], wt := _, ps := [], tl := [] } (by rfl) lF' ?kn (List.forall_mem_cons.mpr ⟨?k1, List.forall_mem_nil _⟩) (DueI.start text lf _ _) ?turn ?done
    case kn => exact cb_drop lN' (by kcj_all)
    case k1 => (rw [← S_nil]; with_unfolding_all rfl)
    all_goals clear lF' lN'
    case' turn => intro c' i n t' u' h' tk' own' hn' hoff' hP' F' N'
    case' done => intro c' u' h' tk' hP' F' N'
    all_goals obtain ⟨us, cn, fs, fn, ws, wd, wt, ps, tl⟩ := c'
    all_goals have hP0 := hP'
    all_goals obtain ⟨hle, hu, hd, hmem, hne, hln, hlp, hlw, hab, hsame⟩ := hP'
    all_goals dsimp only at hu hd hmem hne hln hlp hlw hab hsame
    all_goals dsimp only [kstB] at F'
    all_goals dsimp only at N'
    all_goals have hMk := kstMark
    all_goals have hfl := hd.length
    all_goals rw [List.length_map] at hfl
    all_goals have hul := hu.length
    all_goals rw [List.length_cons, List.length_map] at hul
    all_goals have hSw := S_len wd
    case' turn =>
      simp only [List.map_cons, List.map_append] at hoff'
      simp only [List.cons_append, List.append_assoc] at N'
      obtain ⟨hA1, hA2⟩ := due_off hab (by assumption) (by assumption) hoff'
      have hone : (⟨#[n]⟩ : Str).length = 1 := rfl
      have hz1 : us.toArray.size ≤ sizeLine := by rw [List.size_toArray, sizeLine_eq]; omega
      have hz2 : fs.toArray.size ≤ sizeLine := by rw [List.size_toArray, sizeLine_eq]; omega
    all_goals (try dsimp only)
    all_goals (try k_fold)
  k_with "InvEndG" =>
    rename News _ _ _ _ => nE'
    (try simp only [List.push_toArray] at nE')
    first
    | refine' LpS.closeG (c := (⟨us, cn, fs, fn, ws, wd ++ [n], ?tA, ps, tl⟩ : DueC)) (by assumption) nE' due_mem due_own (by simpa only [List.map_cons, List.map_append] using hoff') (List.forall_mem_cons.mpr ⟨?k1, List.forall_mem_nil _⟩) ?r (DueI.more _ hP0 hn' (by assumption))
      case k1 => (rw [← S_app]; with_unfolding_all rfl)
      case r => ((dsimp only); kst_same)
    | refine' LpS.closeG (c := (⟨_, _, _, _, _, [], ?tB, _, _⟩ : DueC)) (by assumption) nE' due_mem' ?hOB ?hAB (List.forall_mem_cons.mpr ⟨?hKB, List.forall_mem_nil _⟩) ?hRB (DueI.grow (m := 0) _ hP0 hn' (by assumption) (And.left (by assumption)))
      case hOB => exact fun p hp => .tail _ (due_own p hp)
      case hAB => (simpa only [List.map_cons, List.map_append, List.cons_append] using due_offD hoff' (by assumption))
      case hKB => (rw [← S_nil]; with_unfolding_all rfl)
      case hRB => ((dsimp only); kst_same)
  k_steps
  · refine hret _ (_ :: _ :: tl) _ _ (by walk_at "cl e1") (cb_drop (by assumption) due_sub1) (ord_cons (xs := tl) (And.right (And.right (And.right (And.right (by assumption))))) (ord_cons (xs := tl) (And.right (And.right (by assumption))) (due_ord hab (by assumption)))) (due_end1 hP0 (by assumption))
  · refine hret _ (_ :: tl) _ _ (by walk_at "cl e1") (cb_drop (by assumption) due_sub0) (ord_cons (xs := tl) (And.right (And.right (And.right (by assumption)))) (due_ord hab (by assumption))) (due_end0 hP0 (by assumption))
end
section
-- the walk's own lines: a def is entered; its end; a call by its contract
local macro_rules | `(tactic| walk_at "cl enter") => `(tactic| k_dflt (refine' code_def ?k1 ?k2 ?k3 ?k4 ?k5 ?kA ?kF ?kK ?k6 ?k7 ?k8 ?k9 ?kB ?_ ?c2 ?c3 ?c4 ?c5; (case kA => exact rfl); (case kF => assumption); (case kK => assumption); (case k1 => k_asm); (case k2 => k_asm); (case k3 => k_asm); (case k4 => k_asm); (case k5 => k_asm); (case k6 => k_is); (case k7 => k_is); (case k8 => exact of_decide_eq_true rfl); (case k9 => exact BindsTo.of_eq rfl); (case c5 => decide); (case kB => exact locs rfl); (case c2 => exact rfl); (case c3 => exact rfl); (case c4 => exact rfl); k_whole; intro g' L' h' FG' F' N' B' X' T'; (try dsimp only); (try k_lift B'); (try k_fold)))
local macro_rules | `(tactic| walk_at "cl e1") => `(tactic| k_asm)
local macro_rules | `(tactic| walk_at "cl e2") => `(tactic| first | k_asm | (refine' cb_drop ?cbN ?cbS; (case cbN => assumption); (case cbS => kcj_all)))
local macro_rules | `(tactic| walk_at "cl p") => `(tactic| first | assumption | omega | ((simp only [PySem.Str.length_append]); omega) | ((simp only [PySem.Str.length_append, List.length_append, List.length_cons, List.length_nil]); omega) | l_fact)
local macro_rules | `(tactic| walk_at "pyIter ref") => `(tactic| k_dflt (k_extra "pyIter ref"))
local macro_rules | `(tactic| walk_at "pyIter str") => `(tactic| k_dflt (k_extra "pyIter str"))
local macro_rules | `(tactic| walk_at "cl ord") => `(tactic| first | exact one_ord (by assumption) | exact one_ord (ktn_ltOf (by assumption)) | exact one_ord (ktn_ltOf (And.right (by assumption))) | exact one_ord (ktn_ltOf (And.right (And.right (by assumption)))) | exact one_ord (ktn_ltOf (And.right (And.right (And.right (by assumption))))) | exact one_ord (ktn_ltOf (And.right (And.right (And.right (And.right (by assumption)))))) | exact one_ord (ktn_ltOf (And.right (And.right (And.right (And.right (And.right (by assumption))))))) | exact one_ord (ktn_ltOf (And.right (And.right (And.right (And.right (And.right (And.right (by assumption)))))))))
local macro_rules | `(tactic| walk_at "exec While Compare cons nil") => `(tactic| k_dflt (k_extra "exec While Compare cons nil"))
local macro_rules | `(tactic| walk_at "InvEndN") => `(tactic| k_dflt (k_extra "InvEndN"))
local macro_rules | `(tactic| walk_at "cl p") => `(tactic| first | assumption | omega | ((simp only [pad_len, enc_len, S_len, PySem.Str.length_append, List.length_append, List.length_cons, List.length_nil]); omega) | l_fact)
local macro_rules | `(tactic| k_all) => `(tactic| assumption)
/-- as Cl, for a def that turns one made object: behind it the ledger stands as nx -/
abbrev ClU (dp un : Nat) (w : World) (f : Addr) (vs : List Value) (news : List (Addr × Obj)) (Out : Value → List (Addr × Obj) → Prop) : Prop :=
  ∀ (loose : List Str) (mean : ExcName → Option Value) (mg mb : Str → Option Value) (gd : Option (List Code)) (env : Env) (outer : List Env) (A₀ : Around) (base h₀ : Heap) (L : Addr) (m : Str → Option Value) (s : Shared) (Q E : Value → Shared → Prop),
    env.frame = some L → env.scope.kind = .function → Below A₀ base outer h₀ → Fr h₀ L s.heap m → (Mine.hd.heap_39 w.params).In h₀ → News h₀ L s.heap news → Top Mine.hd.view_39 loose mean mg mb h₀ →
    (∀ v nx h' tk', Fr h₀ L h' m → News h₀ L h' nx → Out v nx → Q v { s with heap := h', toks := tk' }) →
    wpAny (model PySem.Challenge.rw_xm0039_01.row.prog w) (arnd dp un gd env outer) (call (.ref f) vs) Q E s
theorem ClU.use {dp un : Nat} {w : World} {f : Addr} {vs : List Value} {news : List (Addr × Obj)} {Out : Value → List (Addr × Obj) → Prop} (C : ClU dp un w f vs news Out)
    {loose : List Str} {mean : ExcName → Option Value} {mg mb : Str → Option Value} {env : Env} {outer : List Env} {A A₀ : Around} {base h₀ : Heap} {L : Addr} {m : Str → Option Value} {s : Shared} {Q E : Value → Shared → Prop}
    (B : Below A₀ base outer h₀) (F : Fr h₀ L s.heap m) (X : (Mine.hd.heap_39 w.params).In h₀) (N : News h₀ L s.heap news) (T : Top Mine.hd.view_39 loose mean mg mb h₀)
    (hA : A.frames = some (env :: outer)) (hf : env.frame = some L) (hk : env.scope.kind = .function) (h1 : A.handled = none) (h2 : A.depth ≤ dp) (h5 : A.units ≤ un)
    (ret : ∀ v nx h' tk', Fr h₀ L h' m → News h₀ L h' nx → Out v nx → Q v { s with heap := h', toks := tk' }) :
    wpAny (model PySem.Challenge.rw_xm0039_01.row.prog w) A (call (.ref f) vs) Q E s :=
  around_le (C loose mean mg mb A.guards env outer A₀ base h₀ L m s Q E hf hk B F X N T ret) h1 h2 hA rfl h5
def isTold (b l : Addr) (vs : List Value) (k below : Int) (n1 n2 : Nat) (news : List (Addr × Obj)) (v : Value) (nx : List (Addr × Obj)) : Prop :=
  ∃ (r : Int) (t kt : Tok), (0 ≤ r ∧ r < below) ∧ v = .int r t ∧ nx = (b, listOf [.ref l, .int (k + 1) kt].toArray n1) :: (l, listOf vs.toArray n2) :: news
theorem isTold_mk {b l : Addr} {vs : List Value} {k below x : Int} {n1 n2 : Nat} {news : List (Addr × Obj)} {t kt : Tok} (hb : 1 ≤ below) : isTold b l vs k below n1 n2 news (.int (x.fmod below) t) ((b, listOf [.ref l, .int (k + 1) kt].toArray n1) :: (l, listOf vs.toArray n2) :: news) :=
  ⟨_, t, kt, ⟨Int.fmod_nonneg_of_pos x (by omega), Int.fmod_lt_of_pos x (by omega)⟩, rfl, rfl⟩
set_option maxRecDepth 100000 in
set_option maxHeartbeats 8000000 in
theorem c_told (w : World) (b l : Addr) (vs : List Value) (ns : List Int) (k below : Int) (kt bt : Tok) (n1 n2 : Nat) (hi : IntsAre vs ns) (h0 : 0 ≤ k) (hk : k ≤ 100) (hb : 1 ≤ below) (hb' : below ≤ 10) (hl : ns.length ≤ 100) (news : List (Addr × Obj)) (hbl : @Ne Nat b l) (hbn : ∀ p ∈ news, p.1 ≠ b) :
    ClU 960 9600 w 283 [.ref b, .int below bt] ((b, listOf [.ref l, .int k kt].toArray n1) :: (l, listOf vs.toArray n2) :: news) (isTold b l vs k below n1 n2 news) := by
  unfold ClU
  k_fill
  intro loose mean mg mb gd env outer A₀ base h₀ Lf mf sf Qf Ef hf hk' B F X N T hret
  refine wpAny_call ?_
  walk_at "cl enter"
  k_with_none
  have hlb : ∀ p ∈ ((l, listOf vs.toArray n2) :: news), p.1 ≠ b := List.forall_mem_cons.mpr ⟨Ne.symm hbl, hbn⟩
  have hMk := kstMark
  k_steps
  all_goals exact hret _ _ _ _ (by walk_at "cl e1") (by assumption) (isTold_mk hb)
theorem ClU.use1 {dp un : Nat} {w : World} {f : Addr} {vs : List Value} {x a b : Addr × Obj} {news : List (Addr × Obj)} {Out : Value → List (Addr × Obj) → Prop} (C : ClU dp un w f vs (a :: b :: news) Out)
    {loose : List Str} {mean : ExcName → Option Value} {mg mb : Str → Option Value} {env : Env} {outer : List Env} {A A₀ : Around} {base h₀ : Heap} {L : Addr} {m : Str → Option Value} {s : Shared} {Q E : Value → Shared → Prop}
    (B : Below A₀ base outer h₀) (F : Fr h₀ L s.heap m) (X : (Mine.hd.heap_39 w.params).In h₀) (N : News h₀ L s.heap (x :: a :: b :: news)) (T : Top Mine.hd.view_39 loose mean mg mb h₀)
    (hA : A.frames = some (env :: outer)) (hf : env.frame = some L) (hk : env.scope.kind = .function) (h1 : A.handled = none) (h2 : A.depth ≤ dp) (h5 : A.units ≤ un)
    (ret : ∀ v nx h' tk', Fr h₀ L h' m → News h₀ L h' nx → Out v nx → Q v { s with heap := h', toks := tk' }) :
    wpAny (model PySem.Challenge.rw_xm0039_01.row.prog w) A (call (.ref f) vs) Q E s := C.use B F X (fun p hp => N p (.tail _ hp)) T hA hf hk h1 h2 h5 ret
theorem ClU.use2 {dp un : Nat} {w : World} {f : Addr} {vs : List Value} {x a b : Addr × Obj} {news : List (Addr × Obj)} {Out : Value → List (Addr × Obj) → Prop} (C : ClU dp un w f vs (a :: b :: x :: news) Out)
    {loose : List Str} {mean : ExcName → Option Value} {mg mb : Str → Option Value} {env : Env} {outer : List Env} {A A₀ : Around} {base h₀ : Heap} {L : Addr} {m : Str → Option Value} {s : Shared} {Q E : Value → Shared → Prop}
    (B : Below A₀ base outer h₀) (F : Fr h₀ L s.heap m) (X : (Mine.hd.heap_39 w.params).In h₀) (N : News h₀ L s.heap (x :: a :: b :: news)) (T : Top Mine.hd.view_39 loose mean mg mb h₀)
    (hA : A.frames = some (env :: outer)) (hf : env.frame = some L) (hk : env.scope.kind = .function) (h1 : A.handled = none) (h2 : A.depth ≤ dp) (h5 : A.units ≤ un)
    (ret : ∀ v nx h' tk', Fr h₀ L h' m → News h₀ L h' nx → Out v nx → Q v { s with heap := h', toks := tk' }) :
    wpAny (model PySem.Challenge.rw_xm0039_01.row.prog w) A (call (.ref f) vs) Q E s := C.use B F X (fun p hp => by
      rcases List.mem_cons.mp hp with rfl | hp
      · exact N _ (.tail _ (.head _))
      rcases List.mem_cons.mp hp with rfl | hp
      · exact N _ (.tail _ (.tail _ (.head _)))
      rcases List.mem_cons.mp hp with rfl | hp
      · exact N _ (.head _)
      · exact N _ (.tail _ (.tail _ (.tail _ hp)))) T hA hf hk h1 h2 h5 ret
end
section
local macro_rules | `(tactic| walk_at "own pad") => `(tactic| skip)
local macro_rules | `(tactic| walk_at "own pad") => `(tactic| skip)
local macro_rules | `(tactic| walk_at "own pad") => `(tactic| skip)
local macro_rules | `(tactic| walk_at "own pad") => `(tactic| skip)
local macro_rules | `(tactic| walk_at "own pad") => `(tactic| skip)
local macro_rules | `(tactic| walk_at "own pad") => `(tactic| skip)
local macro_rules | `(tactic| walk_at "own pad") => `(tactic| skip)
local macro_rules | `(tactic| walk_at "own pad") => `(tactic| skip)
local macro_rules | `(tactic| walk_at "own pad") => `(tactic| skip)
local macro_rules | `(tactic| walk_at "own pad") => `(tactic| skip)
local macro_rules | `(tactic| walk_at "own pad") => `(tactic| skip)
local macro_rules | `(tactic| walk_at "own pad") => `(tactic| skip)
local macro_rules | `(tactic| walk_at "own pad") => `(tactic| skip)
local macro_rules | `(tactic| walk_at "own pad") => `(tactic| skip)
local macro_rules | `(tactic| walk_at "own pad") => `(tactic| skip)
local macro_rules | `(tactic| walk_at "own pad") => `(tactic| skip)
local macro_rules | `(tactic| walk_at "own pad") => `(tactic| skip)
local macro_rules | `(tactic| walk_at "own pad") => `(tactic| skip)
local macro_rules | `(tactic| walk_at "own pad") => `(tactic| skip)
local macro_rules | `(tactic| walk_at "own pad") => `(tactic| skip)
local macro_rules | `(tactic| walk_at "own pad") => `(tactic| skip)
local macro_rules | `(tactic| walk_at "own pad") => `(tactic| skip)
local macro_rules | `(tactic| walk_at "own pad") => `(tactic| skip)
local macro_rules | `(tactic| walk_at "own pad") => `(tactic| skip)
local macro_rules | `(tactic| walk_at "own pad") => `(tactic| skip)
local macro_rules | `(tactic| walk_at "own pad") => `(tactic| skip)
local macro_rules | `(tactic| walk_at "own pad") => `(tactic| skip)
local macro_rules | `(tactic| walk_at "own pad") => `(tactic| skip)
local macro_rules | `(tactic| walk_at "own pad") => `(tactic| skip)
local macro_rules | `(tactic| walk_at "own pad") => `(tactic| skip)
local macro_rules | `(tactic| walk_at "own pad") => `(tactic| skip)
local macro_rules | `(tactic| walk_at "own pad") => `(tactic| skip)
local macro_rules | `(tactic| walk_at "own pad") => `(tactic| skip)
local macro_rules | `(tactic| walk_at "own pad") => `(tactic| skip)
local macro_rules | `(tactic| walk_at "own pad") => `(tactic| skip)
local macro_rules | `(tactic| walk_at "own pad") => `(tactic| skip)
local macro_rules | `(tactic| walk_at "own pad") => `(tactic| skip)
local macro_rules | `(tactic| walk_at "own pad") => `(tactic| skip)
local macro_rules | `(tactic| walk_at "own pad") => `(tactic| skip)
local macro_rules | `(tactic| walk_at "own pad") => `(tactic| skip)
-- the walk's own lines: a def is entered; its end; a call by its contract
local macro_rules | `(tactic| walk_at "cl enter") => `(tactic| k_dflt (refine' code_def ?k1 ?k2 ?k3 ?k4 ?k5 ?kA ?kF ?kK ?k6 ?k7 ?k8 ?k9 ?kB ?_ ?c2 ?c3 ?c4 ?c5; (case kA => exact rfl); (case kF => assumption); (case kK => assumption); (case k1 => k_asm); (case k2 => k_asm); (case k3 => k_asm); (case k4 => k_asm); (case k5 => k_asm); (case k6 => k_is); (case k7 => k_is); (case k8 => exact of_decide_eq_true rfl); (case k9 => exact BindsTo.of_eq rfl); (case c5 => decide); (case kB => exact locs rfl); (case c2 => exact rfl); (case c3 => exact rfl); (case c4 => exact rfl); k_whole; intro g' L' h' FG' F' N' B' X' T'; (try dsimp only); (try k_lift B'); (try k_fold)))
local macro_rules | `(tactic| walk_at "cl e1") => `(tactic| k_asm)
local macro_rules | `(tactic| walk_at "cl e2") => `(tactic| first | k_asm | (refine' cb_drop ?cbN ?cbS; (case cbN => assumption); (case cbS => kcj_all)))
local macro_rules | `(tactic| walk_at "cl p") => `(tactic| first | assumption | omega | ((simp only [PySem.Str.length_append]); omega) | ((simp only [PySem.Str.length_append, List.length_append, List.length_cons, List.length_nil]); omega) | l_fact)
local macro_rules | `(tactic| walk_at "pyIter ref") => `(tactic| k_dflt (k_extra "pyIter ref"))
local macro_rules | `(tactic| walk_at "pyIter str") => `(tactic| k_dflt (k_extra "pyIter str"))
local macro_rules | `(tactic| walk_at "cl ord") => `(tactic| first | exact one_ord (by assumption) | exact one_ord (ktn_ltOf (by assumption)) | exact one_ord (ktn_ltOf (And.right (by assumption))) | exact one_ord (ktn_ltOf (And.right (And.right (by assumption)))) | exact one_ord (ktn_ltOf (And.right (And.right (And.right (by assumption))))) | exact one_ord (ktn_ltOf (And.right (And.right (And.right (And.right (by assumption)))))) | exact one_ord (ktn_ltOf (And.right (And.right (And.right (And.right (And.right (by assumption))))))) | exact one_ord (ktn_ltOf (And.right (And.right (And.right (And.right (And.right (And.right (by assumption)))))))))
local macro_rules | `(tactic| walk_at "exec While Compare cons nil") => `(tactic| k_dflt (k_extra "exec While Compare cons nil"))
local macro_rules | `(tactic| walk_at "InvEndN") => `(tactic| k_dflt (k_extra "InvEndN"))
local macro_rules | `(tactic| walk_at "cl p") => `(tactic| first | assumption | omega | ((simp only [pad_len, enc_len, S_len, PySem.Str.length_append, List.length_append, List.length_cons, List.length_nil]); omega) | l_fact)
local macro_rules | `(tactic| k_all) => `(tactic| assumption)
theorem menu_item {prog : Program} {w : World} {A : Around} {E : Value → Shared → Prop} {s : Shared} {h₀ : Heap} {L lm : Addr} {news : List (Addr × Obj)} {value slice : PySem.Expr} {n : Nat} {r : Int} {u t1 t2 : Tok} {Q : Value → Shared → Prop}
    (N : News h₀ L s.heap news) (hm : (lm, listOf [.str (Str.ofString "AB") t1, .str (Str.ofString "ABC") t2].toArray n) ∈ news) (h0 : 0 ≤ r) (h1 : r < 2)
    (h : ∀ (sg : Wd) (t : Tok), 2 ≤ sg.length → sg.length ≤ 3 → 46 ∉ sg → (S sg).length = sg.length → (∀ c ∈ sg, c < 1114112) → Q (.str (S sg) t) s)
    (hs : subscripted slice false (.ref lm) (.int r u) = operate [.ref lm, .int r u] (getItem (.ref lm) (.int r u)) := by with_unfolding_all rfl) :
    wpAny (model prog w) A (subscriptTail value slice (.ref lm) (.int r u)) Q E s := by
  have hl : s.heap.IsList lm [.str (Str.ofString "AB") t1, .str (Str.ofString "ABC") t2].toArray := ⟨_, (N _ hm).1, rfl, n, rfl⟩
  have e1 : Str.ofString "AB" = S [65, 66] := by decide +kernel
  have e2 : Str.ofString "ABC" = S [65, 66, 67] := by decide +kernel
  have q1 : Q (.str (Str.ofString "AB") t1) s := by rw [e1]; exact h _ _ (by decide) (by decide) (by decide) (S_len _) (by decide)
  have q2 : Q (.str (Str.ofString "ABC") t2) s := by rw [e2]; exact h _ _ (by decide) (by decide) (by decide) (S_len _) (by decide)
  have hr : r = 0 ∨ r = 1 := by omega
  rcases hr with rfl | rfl
  · exact tail_any hl.typeIs slot_list_getitem.lookup (wpAny_getItem_list hl (by decide) (by decide) rfl q1) hs
  · exact tail_any hl.typeIs slot_list_getitem.lookup (wpAny_getItem_list hl (by decide) (by decide) rfl q2) hs
/-- the drawn text's state between two draws -/
structure DrawC where
  tx : Wd
  tt : Tok
  k : Int
  kt : Tok
structure DrawI (i : Nat) (c : DrawC) : Prop where
  len : c.tx.length = i
  nodot : 46 ∉ c.tx
  ok : ∀ n ∈ c.tx, n < 1114112
  h0 : 0 ≤ c.k
  h1 : c.k ≤ 2 + i
theorem DrawI.start (tt kt : Tok) : DrawI 0 { tx := [], tt := tt, k := 0 + 1 + 1, kt := kt } := ⟨rfl, (fun h => nomatch h), (fun _ h => nomatch h), (by show (0 : Int) ≤ 0 + 1 + 1; omega), (by show (0 : Int) + 1 + 1 ≤ 2 + ((0 : Nat) : Int); omega)⟩
theorem withN {h₀ h : Heap} {L : Addr} {b l : Addr} {o1 o2 : Obj} {rest : List (Addr × Obj)} (_N : News h₀ L h ((b, o1) :: (l, o2) :: rest)) {P : Prop} (k : ∀ b' l' : Addr, b' = b → l' = l → P) : P := k b l rfl rfl
theorem item_of {sg : Wd} {r : Int} (h0 : 0 ≤ r) (h1 : r < sg.length) (hd : 46 ∉ sg) (ho : ∀ c ∈ sg, c < 1114112) : ∃ c, Txt.item (S sg) r = S [c] ∧ c ≠ 46 ∧ c < 1114112 := by
  obtain ⟨n, rfl⟩ := Int.eq_ofNat_of_zero_le h0
  have hn : n < sg.length := by omega
  refine ⟨sg[n], item_S (List.getElem?_eq_getElem hn), fun e => hd (e ▸ List.getElem_mem hn), ho _ (List.getElem_mem hn)⟩
theorem DrawI.next {i : Nat} {tx : Wd} {tt kt tt' kt' : Tok} {k : Int} (c : Nat) (I : DrawI i ⟨tx, tt, k, kt⟩) (hc : c ≠ 46 ∧ c < 1114112) : DrawI (i + 1) ⟨tx ++ [c], tt', k + 1, kt'⟩ := by
  obtain ⟨hl, hd, ho, h0, h1⟩ := I
  dsimp only at hl hd ho h0 h1
  refine ⟨by simp [hl], ?_, ?_, by show 0 ≤ k + 1; omega, by show k + 1 ≤ 2 + ((i + 1 : Nat) : Int); omega⟩
  · intro h
    rcases List.mem_append.mp h with h | h
    · exact hd h
    · exact hc.1 (List.mem_singleton.mp h).symm
  · intro n h
    rcases List.mem_append.mp h with h | h
    · exact ho n h
    · exact List.mem_singleton.mp h ▸ hc.2
def chr (x : Str) : Nat := x.cps.getD 0 0
theorem item_chr {sg : Wd} {r : Int} (hd : 46 ∉ sg) (ho : ∀ c ∈ sg, c < 1114112) (hs : (S sg).length = sg.length) (h0 : 0 ≤ r) (h1 : r < ((S sg).length : Int)) : Txt.item (S sg) r = S [chr (Txt.item (S sg) r)] ∧ chr (Txt.item (S sg) r) ≠ 46 ∧ chr (Txt.item (S sg) r) < 1114112 := by
  rw [hs] at h1
  obtain ⟨c, e, hc⟩ := item_of h0 h1 hd ho
  rw [e]
  exact ⟨rfl, hc⟩
theorem grow_str {m : Option Value} {tx : Wd} {X : Str} {t : Tok} (h : m = some (.str (S tx ++ X) t)) (hX : X = S [chr X]) : m = some (.str (S (tx ++ [chr X])) t) := by
  rw [h, ← S_app, ← hX]
end
section
/-- what the longest match is, and how the due pairs go on behind it -/
theorem lm_spec (ws : List Wd) : ∀ (rest w : Wd), ∃ x oc r', lm ws w rest = (x, oc) ∧ (∃ p, x = w ++ p ∧ rest = p ++ (soc oc ++ r')) ∧ (w = [] ∨ w ∈ ws → x = [] ∨ x ∈ ws) ∧
    ((oc = none ∧ r' = [] ∧ pf ws w rest = if x = [] then [] else [(numW ws x, [])]) ∨ ∃ c, oc = some c ∧ x ++ [c] ∉ ws ∧ pf ws w rest = (numW ws x, [c]) :: pf (ws ++ [x ++ [c]]) [] r')
  | [], w => ⟨w, none, [], rfl, ⟨[], (List.append_nil w).symm, rfl⟩, fun h => h, .inl ⟨rfl, rfl, rfl⟩⟩
  | c :: r, w => by
    by_cases h : w ++ [c] ∈ ws
    · obtain ⟨x, oc, r', h1, ⟨p, h2, h3⟩, h4, h5⟩ := lm_spec ws r (w ++ [c])
      refine ⟨x, oc, r', by rw [lm, if_pos h]; exact h1, ⟨c :: p, by rw [h2, List.append_assoc]; rfl, by rw [h3]; rfl⟩, fun _ => h4 (.inr h), ?_⟩
      rw [pf, if_pos h]
      exact h5
    · refine ⟨w, some c, r, by rw [lm, if_neg h], ⟨[], (List.append_nil w).symm, rfl⟩, fun h' => h', .inr ⟨c, rfl, h, ?_⟩⟩
      rw [pf, if_neg h]
theorem pf_nil {ws : List Wd} {rest : Wd} (h : pf ws [] rest = []) : rest = [] := by
  obtain ⟨x, oc, r', h1, ⟨p, h2, h3⟩, _, h5⟩ := lm_spec ws rest []
  rcases h5 with ⟨rfl, rfl, h5⟩ | ⟨c, rfl, _, h5⟩
  · rw [h] at h5
    by_cases hx : x = []
    · rw [h3]
      rw [hx] at h2
      have : p = [] := by simpa using h2.symm
      rw [this]
      rfl
    · rw [if_neg hx] at h5
      cases h5
  · rw [h] at h5
    cases h5
theorem Good.nil : Good [] := ⟨(fun _ h => nomatch h), List.Pairwise.nil, (fun k v h => by rw [List.getElem?_nil] at h; cases h)⟩
theorem Good.grow {ws : List Wd} {x : Wd} {c : Nat} (G : Good ws) (hx : x = [] ∨ x ∈ ws) (hn : x ++ [c] ∉ ws) (hd : 46 ∉ x ++ [c]) (hl : (x ++ [c]).length ≤ 5) : Good (ws ++ [x ++ [c]]) := by
  refine ⟨?_, ?_, ?_⟩
  · intro v hv
    rcases List.mem_append.mp hv with hv | hv
    · exact G.ok v hv
    · rw [List.mem_singleton.mp hv]
      exact ⟨by simp, hd, hl⟩
  · refine List.nodup_append.mpr ⟨G.nd, by simp, ?_⟩
    intro a ha b hb e
    rw [List.mem_singleton.mp hb] at e
    exact hn (e ▸ ha)
  · intro k v hv
    by_cases hk : k < ws.length
    · rw [List.getElem?_append_left hk] at hv
      rw [List.take_append_of_le_length (by omega)]
      exact G.pf k v hv
    · rw [List.getElem?_append_right (by omega)] at hv
      have hk' : k = ws.length := by
        have := (List.getElem?_eq_some_iff.mp hv).1
        simp at this
        omega
      rw [hk', Nat.sub_self] at hv
      have e : v = x ++ [c] := by simpa using hv.symm
      rw [e, hk', List.take_left, List.dropLast_concat]
      exact hx
/-- the law's own loop: the words ws, the place a in the text -/
structure MainI (text : Wd) (pairs : List (Nat × Wd)) (i : Nat) (ws : List Wd) (a : Nat) : Prop where
  le : a ≤ text.length
  good : Good ws
  tri : ∀ v ∈ ws, v.length * (v.length + 1) ≤ 2 * a
  ln : ws.length ≤ a
  rest : pairs.drop i = pf ws [] (text.drop a)
theorem MainI.start (text : Wd) : MainI text (pf [] [] text) 0 [] 0 := ⟨Nat.zero_le _, Good.nil, (fun _ h => nomatch h), Nat.le_refl _, rfl⟩
theorem tri_short {n a : Nat} (h : n * (n + 1) ≤ 2 * a) (ha : a ≤ 14) : n ≤ 4 := by
  apply Nat.le_of_not_lt
  intro hlt
  have : 5 * 6 ≤ n * (n + 1) := Nat.mul_le_mul hlt (by omega)
  omega
theorem MainI.done {text : Wd} {pairs : List (Nat × Wd)} {ws : List Wd} {a : Nat} (I : MainI text pairs pairs.length ws a) : text.take a = text := by
  have h := I.rest
  rw [List.drop_length] at h
  have h2 := congrArg List.length (pf_nil h.symm)
  rw [List.length_drop, List.length_nil] at h2
  exact List.take_of_length_le (by omega)
theorem MainI.step {text : Wd} {pairs : List (Nat × Wd)} {i : Nat} {ws : List Wd} {a : Nat} {d : Nat × Wd} (I : MainI text pairs i ws a) (ht : 46 ∉ text) (lt : text.length ≤ 14) (hd : pairs[i]? = some d) :
    ∃ x oc, lm ws [] (text.drop a) = (x, oc) ∧ d = (numW ws x, soc oc) ∧ 46 ∉ x ∧ x.length ≤ 4 ∧ (soc oc).length ≤ 1 ∧ ((numW ws x = 0 ∧ x = []) ∨ (1 ≤ numW ws x ∧ ws[numW ws x - 1]? = some x)) ∧
      a + x.length + (soc oc).length ≤ text.length ∧ text.take a ++ (x ++ soc oc) = text.take (a + x.length + (soc oc).length) ∧ MainI text pairs (i + 1) (grown ws x oc) (a + x.length + (soc oc).length) := by
  obtain ⟨x, oc, r', h1, ⟨p, h2, h3⟩, h4, h5⟩ := lm_spec ws (text.drop a) []
  rw [List.nil_append] at h2
  subst h2
  have hx := h4 (.inl rfl)
  have hlt := (List.getElem?_eq_some_iff.mp hd).1
  have hcons : pairs.drop i = d :: pairs.drop (i + 1) := by
    rw [List.drop_eq_getElem_cons hlt, (List.getElem?_eq_some_iff.mp hd).2]
  have hrest := I.rest
  rw [hcons] at hrest
  have hx46 : 46 ∉ x := fun h => ht (List.mem_of_mem_drop (i := a) (by rw [h3]; exact List.mem_append.mpr (.inl h)))
  have hx4 : x.length ≤ 4 := by
    rcases hx with rfl | hx
    · exact Nat.zero_le _
    · exact tri_short (I.tri x hx) (Nat.le_trans I.le lt)
  have hne : [] ∉ ws := fun h => (I.good.ok _ h).1 rfl
  have hnum : (numW ws x = 0 ∧ x = []) ∨ (1 ≤ numW ws x ∧ ws[numW ws x - 1]? = some x) := by
    unfold numW
    by_cases h : x ∈ ws
    · rw [if_pos h]
      exact .inr ⟨by omega, by rw [Nat.add_sub_cancel]; exact idx_at h⟩
    · rw [if_neg h]
      exact .inl ⟨rfl, hx.resolve_right h⟩
  have hlen := congrArg List.length h3
  rw [List.length_drop, List.length_append, List.length_append] at hlen
  have hle' : a + x.length + (soc oc).length ≤ text.length := by have := I.le; omega
  have htake : text.take a ++ (x ++ soc oc) = text.take (a + x.length + (soc oc).length) := by
    rw [Nat.add_assoc, List.take_add, h3, ← List.append_assoc x, List.take_left' (by rw [List.length_append])]
  have hdrop : text.drop (a + x.length + (soc oc).length) = r' := by
    rw [Nat.add_assoc, ← List.drop_drop, h3, ← List.append_assoc x, List.drop_left' (by rw [List.length_append])]
  rcases h5 with ⟨rfl, rfl, h5⟩ | ⟨c, rfl, hnew, h5⟩
  · rw [h5] at hrest
    by_cases hx0 : x = []
    · rw [if_pos hx0] at hrest
      cases hrest
    · rw [if_neg hx0] at hrest
      obtain ⟨e1, e2⟩ := List.cons.inj hrest
      refine ⟨x, none, h1, e1, hx46, hx4, Nat.zero_le _, hnum, hle', htake, hle', I.good, fun v hv => Nat.le_trans (I.tri v hv) (by omega), Nat.le_trans I.ln (by omega), ?_⟩
      rw [hdrop, e2]
      rfl
  · rw [h5] at hrest
    obtain ⟨e1, e2⟩ := List.cons.inj hrest
    have hc46 : 46 ∉ x ++ [c] := by
      intro h
      rcases List.mem_append.mp h with h | h
      · exact hx46 h
      · exact ht (List.mem_of_mem_drop (i := a) (by rw [h3, List.mem_singleton.mp h]; simp [soc]))
    refine ⟨x, some c, h1, e1, hx46, hx4, Nat.le_refl _, hnum, hle', htake, hle', I.good.grow hx hnew hc46 (by rw [List.length_append, List.length_singleton]; omega), ?_, ?_, ?_⟩
    · intro v hv
      have hv' : v ∈ ws ++ [x ++ [c]] := hv
      rcases List.mem_append.mp hv' with hv | hv
      · exact Nat.le_trans (I.tri v hv) (by omega)
      · rw [List.mem_singleton.mp hv, List.length_append, List.length_singleton]
        have hb : x.length * (x.length + 1) ≤ 2 * a := by
          rcases hx with rfl | hx
          · exact Nat.zero_le _
          · exact I.tri x hx
        have e : (x.length + 1) * (x.length + 1 + 1) = x.length * (x.length + 1) + 2 * (x.length + 1) := by
          rw [Nat.mul_comm (x.length + 1) (x.length + 1 + 1), show x.length + 1 + 1 = x.length + 2 from rfl, Nat.add_mul]
        show (x.length + 1) * (x.length + 1 + 1) ≤ 2 * (a + x.length + 1)
        omega
    · show (ws ++ [x ++ [c]]).length ≤ a + x.length + 1
      rw [List.length_append, List.length_singleton]
      have := I.ln
      omega
    · rw [hdrop, e2]
      rfl
end
section
-- the walk's own lines: a def is entered; its end; a call by its contract
local macro_rules | `(tactic| walk_at "cl enter") => `(tactic| k_dflt (refine' code_def ?k1 ?k2 ?k3 ?k4 ?k5 ?kA ?kF ?kK ?k6 ?k7 ?k8 ?k9 ?kB ?_ ?c2 ?c3 ?c4 ?c5; (case kA => exact rfl); (case kF => assumption); (case kK => assumption); (case k1 => k_asm); (case k2 => k_asm); (case k3 => k_asm); (case k4 => k_asm); (case k5 => k_asm); (case k6 => k_is); (case k7 => k_is); (case k8 => exact of_decide_eq_true rfl); (case k9 => exact BindsTo.of_eq rfl); (case c5 => decide); (case kB => exact locs rfl); (case c2 => exact rfl); (case c3 => exact rfl); (case c4 => exact rfl); k_whole; intro g' L' h' FG' F' N' B' X' T'; (try dsimp only); (try k_lift B'); (try k_fold)))
local macro_rules | `(tactic| walk_at "cl e1") => `(tactic| k_asm)
local macro_rules | `(tactic| walk_at "cl e2") => `(tactic| first | k_asm | (refine' cb_drop ?cbN ?cbS; (case cbN => assumption); (case cbS => kcj_all)))
local macro_rules | `(tactic| walk_at "cl p") => `(tactic| first | assumption | omega | ((simp only [PySem.Str.length_append]); omega) | ((simp only [PySem.Str.length_append, List.length_append, List.length_cons, List.length_nil]); omega) | l_fact)
local macro_rules | `(tactic| walk_at "pyIter ref") => `(tactic| k_dflt (k_extra "pyIter ref"))
local macro_rules | `(tactic| walk_at "pyIter str") => `(tactic| k_dflt (k_extra "pyIter str"))
local macro_rules | `(tactic| walk_at "cl ord") => `(tactic| first | exact one_ord (by assumption) | exact one_ord (ktn_ltOf (by assumption)) | exact one_ord (ktn_ltOf (And.right (by assumption))) | exact one_ord (ktn_ltOf (And.right (And.right (by assumption)))) | exact one_ord (ktn_ltOf (And.right (And.right (And.right (by assumption))))) | exact one_ord (ktn_ltOf (And.right (And.right (And.right (And.right (by assumption)))))) | exact one_ord (ktn_ltOf (And.right (And.right (And.right (And.right (And.right (by assumption))))))) | exact one_ord (ktn_ltOf (And.right (And.right (And.right (And.right (And.right (And.right (by assumption)))))))))
local macro_rules | `(tactic| walk_at "exec While Compare cons nil") => `(tactic| k_dflt (k_extra "exec While Compare cons nil"))
local macro_rules | `(tactic| walk_at "InvEndN") => `(tactic| k_dflt (k_extra "InvEndN"))
local macro_rules | `(tactic| walk_at "cl p") => `(tactic| first | assumption | omega | ((simp only [pad_len, enc_len, S_len, PySem.Str.length_append, List.length_append, List.length_cons, List.length_nil]); omega) | l_fact)
local macro_rules | `(tactic| k_all) => `(tactic| assumption)
theorem c_readW (w : World) (ws : List Wd) (x : Wd) (oc : Option Nat) (t u v : Tok) (hm : (numW ws x = 0 ∧ x = []) ∨ (1 ≤ numW ws x ∧ ws[numW ws x - 1]? = some x)) (hx : 46 ∉ x) (lx : x.length ≤ 4) (ls : (soc oc).length ≤ 1) (ln : ws.length ≤ 20) (news : List (Addr × Obj)) :
    Cl 930 9300 w 311 [.str (S (enc ws)) t, .int (numW ws x : Int) u, .str (S (soc oc)) v] news (isSS (S (x ++ soc oc)) (S (enc (grown ws x oc)))) := by
  have e : (if soc oc = [] then S (enc ws) else S (enc ws ++ pad (x ++ soc oc))) = S (enc (grown ws x oc)) := by
    cases oc with
    | none => exact if_pos rfl
    | some c => rw [if_neg (by simp [soc]), grown, enc_snoc]; rfl
  rw [← e]
  rcases hm with ⟨h0, rfl⟩ | ⟨h1, h2⟩
  · rw [h0]
    exact c_read0 w ws (soc oc) t u v ls ln news
  · exact c_read1 w ws x (soc oc) (numW ws x) t u v h1 h2 hx (by omega) ls ln news
section
variable {σ : Type} {prog : Program} {w : World} {A : Around} {E : Value → Shared → Prop} {s : Shared} {env : Env} {h₀ : Heap} {x : Str} {body : List Stmt} {Q : Flow → Shared → Prop}
/-- a for over a made list that stands on the ledger -/
theorem lst_loop {l : Addr} {vs : List Value} {nn : Nat} {m₀ : Str → Option Value} (Led : σ → List (Addr × Obj)) (ps : σ → List (Str × Value)) (stored : List Str) (P : Nat → σ → Prop) (c₀ : σ)
    (hh : A.handled = none) (hl : ∀ c, (l, listOf vs.toArray nn) ∈ Led c) (F : Fr h₀ env.locals s.heap m₀) (N : News h₀ env.locals s.heap (Led c₀)) (hk : ∀ p ∈ ps c₀, m₀ p.1 = some p.2) (hp : P 0 c₀)
    (turn : ∀ (c : σ) (i : Nat) (v : Value) (u : Str → Option Value) h tk own, vs[i]? = some v → OwnOff own ((Led c).map (·.1)) → P i c →
      Fr h₀ env.locals h (fun y => if y = x then some v else kstB (fun z => if stored.contains z then u z else m₀ z) (ps c) y) → News h₀ env.locals h (Led c ++ own) →
      wpAny (model prog w) A (execs body env) (InvPostG h₀ env.locals (LpS Led ps x stored m₀ P (i + 1)) own { s with heap := h, toks := tk } Q) E { s with heap := h, toks := tk })
    (done : ∀ (c : σ) (u : Str → Option Value) h tk, P vs.length c → Fr h₀ env.locals h (fun y => if y = x then u y else kstB (fun z => if stored.contains z then u z else m₀ z) (ps c) y) → News h₀ env.locals h (Led c) → Q .next { s with heap := h, toks := tk }) :
    wpAny (model prog w) A (pyIter (.ref l)) (fun it s₂ => LoopAtV prog w A h₀ env x body Q E it s₂) E s := by
  refine kdl_iter (LpS Led ps x stored m₀ P) hh (hl c₀) F N ⟨c₀, rfl, hk, fun _ _ _ _ => rfl, hp⟩ ?_ ?_
  · rintro i v m₁ nx h tk own hv hoff _ ⟨c, rfl, h1, h2, hp'⟩ F₁ N₁
    refine wpAny_mono (turn c i v m₁ h tk own hv hoff hp' (kst_fr h1 h2 F₁) N₁) (fun f s₂ p => ?_) fun _ _ y => y
    have up : InvEndG h₀ env.locals (LpS Led ps x stored m₀ P (i + 1)) own { s with heap := h, toks := tk } s₂ →
        InvEndG h₀ env.locals (fun m' nx => (l, listOf vs.toArray nn) ∈ nx ∧ LpS Led ps x stored m₀ P (i + 1) m' nx) own { s with heap := h, toks := tk } s₂ := by
      rintro ⟨h', tk', m', news', nx', e', F', N', hn', ho', ha, hS⟩
      refine ⟨h', tk', m', news', nx', e', F', N', hn', ho', ha, ?_, hS⟩
      obtain ⟨c', rfl, _⟩ := hS
      exact hl c'
    cases f with
    | ret v => exact p
    | brk => exact p
    | next => exact up p
    | cont => exact up p
  · rintro m₁ nx h tk ⟨c, rfl, h1, h2, hp'⟩ F₁ N₁
    exact done c m₁ h tk hp' (kst_frOut h1 h2 F₁) N₁
end
structure MainC where
  ws : List Wd
  a : Nat
  t1 : Tok
  t2 : Tok
  t3 : Tok
  t4 : Tok
theorem withDue {h₀ h : Heap} {L D : Addr} {us : List Value} {n : Nat} {tl rest : List (Addr × Obj)} {ds : List Dat} (_hd : DatAll tl us ds) (_N : News h₀ L h ((D, listOf us.toArray n) :: rest)) {P : Prop} (k : ∀ (D' : Addr) (us' : List Value) (n' : Nat) (tl' : List (Addr × Obj)), D' = D → us' = us → n' = n → tl' = tl → P) : P := k D us n tl rfl rfl rfl rfl
theorem pair_at {tl : List (Addr × Obj)} {us : List Value} {ps : List (Nat × Wd)} {i : Nat} {v : Value} (hd : DatAll tl us (ps.map datOf)) (hv : us[i]? = some v) :
    ∃ (d : Nat × Wd) (ad : Addr) (t t' : Tok) (n : Nat), ps[i]? = some d ∧ v = .ref ad ∧ (ad, ({ cls := .type "tuple", data := .seq [.int (d.1 : Int) t, .str (S d.2) t'].toArray n } : Obj)) ∈ tl := by
  have hlt := (List.getElem?_eq_some_iff.mp hv).1
  have hlen := hd.length
  rw [List.length_map] at hlen
  have hk : i < (ps.map datOf).length := by rw [List.length_map]; omega
  obtain ⟨v', hv', hD⟩ := hd.get hk
  rw [hv] at hv'
  cases hv'
  rw [List.getElem_map] at hD
  unfold datOf at hD
  cases hD with
  | tuple hm hr =>
    cases hr with
    | cons h1 hr =>
      cases h1
      cases hr with
      | cons h2 hr =>
        cases h2
        cases hr
        exact ⟨ps[i]'(by omega), _, _, _, _, List.getElem?_eq_getElem _, rfl, hm⟩
theorem front_slice {tx y : Wd} {b : Nat} (hle : b ≤ tx.length) (e : y = tx.take b) : (S y != Txt.slice (S tx) none (some (b : Int))) = false := by
  rw [S_slice_to (by omega) (by omega), e, show ((b : Nat) : Int).toNat = b by omega]
  exact bne_self_eq_false _
end
section
local macro_rules | `(tactic| walk_at "own pad") => `(tactic| skip)
local macro_rules | `(tactic| walk_at "own pad") => `(tactic| skip)
local macro_rules | `(tactic| walk_at "own pad") => `(tactic| skip)
local macro_rules | `(tactic| walk_at "own pad") => `(tactic| skip)
local macro_rules | `(tactic| walk_at "own pad") => `(tactic| skip)
local macro_rules | `(tactic| walk_at "own pad") => `(tactic| skip)
local macro_rules | `(tactic| walk_at "own pad") => `(tactic| skip)
local macro_rules | `(tactic| walk_at "own pad") => `(tactic| skip)
local macro_rules | `(tactic| walk_at "own pad") => `(tactic| skip)
local macro_rules | `(tactic| walk_at "own pad") => `(tactic| skip)
local macro_rules | `(tactic| walk_at "own pad") => `(tactic| skip)
local macro_rules | `(tactic| walk_at "own pad") => `(tactic| skip)
local macro_rules | `(tactic| walk_at "own pad") => `(tactic| skip)
local macro_rules | `(tactic| walk_at "own pad") => `(tactic| skip)
local macro_rules | `(tactic| walk_at "own pad") => `(tactic| skip)
local macro_rules | `(tactic| walk_at "own pad") => `(tactic| skip)
local macro_rules | `(tactic| walk_at "own pad") => `(tactic| skip)
local macro_rules | `(tactic| walk_at "own pad") => `(tactic| skip)
local macro_rules | `(tactic| walk_at "own pad") => `(tactic| skip)
local macro_rules | `(tactic| walk_at "own pad") => `(tactic| skip)
local macro_rules | `(tactic| walk_at "own pad") => `(tactic| skip)
local macro_rules | `(tactic| walk_at "own pad") => `(tactic| skip)
local macro_rules | `(tactic| walk_at "own pad") => `(tactic| skip)
local macro_rules | `(tactic| walk_at "own pad") => `(tactic| skip)
local macro_rules | `(tactic| walk_at "own pad") => `(tactic| skip)
local macro_rules | `(tactic| walk_at "own pad") => `(tactic| skip)
local macro_rules | `(tactic| walk_at "own pad") => `(tactic| skip)
local macro_rules | `(tactic| walk_at "own pad") => `(tactic| skip)
local macro_rules | `(tactic| walk_at "own pad") => `(tactic| skip)
local macro_rules | `(tactic| walk_at "own pad") => `(tactic| skip)
local macro_rules | `(tactic| walk_at "own pad") => `(tactic| skip)
local macro_rules | `(tactic| walk_at "own pad") => `(tactic| skip)
local macro_rules | `(tactic| walk_at "own pad") => `(tactic| skip)
local macro_rules | `(tactic| walk_at "own pad") => `(tactic| skip)
local macro_rules | `(tactic| walk_at "own pad") => `(tactic| skip)
local macro_rules | `(tactic| walk_at "own pad") => `(tactic| skip)
local macro_rules | `(tactic| walk_at "own pad") => `(tactic| skip)
local macro_rules | `(tactic| walk_at "own pad") => `(tactic| skip)
local macro_rules | `(tactic| walk_at "own pad") => `(tactic| skip)
local macro_rules | `(tactic| walk_at "own pad") => `(tactic| skip)
-- the walk's own lines: a def is entered; its end; a call by its contract
local macro_rules | `(tactic| walk_at "cl enter") => `(tactic| k_dflt (refine' code_def ?k1 ?k2 ?k3 ?k4 ?k5 ?kA ?kF ?kK ?k6 ?k7 ?k8 ?k9 ?kB ?_ ?c2 ?c3 ?c4 ?c5; (case kA => exact rfl); (case kF => assumption); (case kK => assumption); (case k1 => k_asm); (case k2 => k_asm); (case k3 => k_asm); (case k4 => k_asm); (case k5 => k_asm); (case k6 => k_is); (case k7 => k_is); (case k8 => exact of_decide_eq_true rfl); (case k9 => exact BindsTo.of_eq rfl); (case c5 => decide); (case kB => exact locs rfl); (case c2 => exact rfl); (case c3 => exact rfl); (case c4 => exact rfl); k_whole; intro g' L' h' FG' F' N' B' X' T'; (try dsimp only); (try k_lift B'); (try k_fold)))
local macro_rules | `(tactic| walk_at "cl e1") => `(tactic| k_asm)
local macro_rules | `(tactic| walk_at "cl e2") => `(tactic| first | k_asm | (refine' cb_drop ?cbN ?cbS; (case cbN => assumption); (case cbS => kcj_all)))
local macro_rules | `(tactic| walk_at "cl p") => `(tactic| first | assumption | omega | ((simp only [PySem.Str.length_append]); omega) | ((simp only [PySem.Str.length_append, List.length_append, List.length_cons, List.length_nil]); omega) | l_fact)
local macro_rules | `(tactic| walk_at "pyIter ref") => `(tactic| k_dflt (k_extra "pyIter ref"))
local macro_rules | `(tactic| walk_at "pyIter str") => `(tactic| k_dflt (k_extra "pyIter str"))
local macro_rules | `(tactic| walk_at "cl ord") => `(tactic| first | exact one_ord (by assumption) | exact one_ord (ktn_ltOf (by assumption)) | exact one_ord (ktn_ltOf (And.right (by assumption))) | exact one_ord (ktn_ltOf (And.right (And.right (by assumption)))) | exact one_ord (ktn_ltOf (And.right (And.right (And.right (by assumption))))) | exact one_ord (ktn_ltOf (And.right (And.right (And.right (And.right (by assumption)))))) | exact one_ord (ktn_ltOf (And.right (And.right (And.right (And.right (And.right (by assumption))))))) | exact one_ord (ktn_ltOf (And.right (And.right (And.right (And.right (And.right (And.right (by assumption)))))))))
local macro_rules | `(tactic| walk_at "exec While Compare cons nil") => `(tactic| k_dflt (k_extra "exec While Compare cons nil"))
local macro_rules | `(tactic| walk_at "InvEndN") => `(tactic| k_dflt (k_extra "InvEndN"))
local macro_rules | `(tactic| walk_at "cl p") => `(tactic| first | assumption | omega | ((simp only [pad_len, enc_len, S_len, PySem.Str.length_append, List.length_append, List.length_cons, List.length_nil]); omega) | l_fact)
local macro_rules | `(tactic| k_all) => `(tactic| assumption)
local macro_rules | `(tactic| walk_at "call ref") => `(tactic| (k_here; k_dflt (refine' Cl.use (c_joinedS _ _ _ _ _ ?p1 _) ?k1 ?k2 ?k3 ?k4 ?k5 ?kA ?kF ?kK ?kh ?kd ?ku ?_; (case k1 => k_asm); (case k2 => k_asm); (case k3 => k_asm); (case k4 => k_asm); (case k5 => k_asm); (case kA => exact rfl); (case kF => first | exact rfl | assumption); (case kK => first | exact rfl | assumption); (case kh => exact rfl); (case kd => exact Nat.le_of_ble_eq_true rfl); (case ku => exact Nat.le_of_ble_eq_true rfl); (case p1 => walk_at "cl p"); k_whole; intro v' tl' h' tk' F' N' hord' hout'; obtain ⟨⟨t', ev'⟩, etl'⟩ := hout'; subst ev'; subst etl'; clear hord'; rw [List.nil_append] at N'; (try dsimp only))))
local macro_rules | `(tactic| walk_at "call ref") => `(tactic| (k_here; k_dflt (refine' Cl.use (c_joinedE _ _ _ _ ?p1 _) ?k1 ?k2 ?k3 ?k4 ?k5 ?kA ?kF ?kK ?kh ?kd ?ku ?_; (case k1 => k_asm); (case k2 => k_asm); (case k3 => k_asm); (case k4 => k_asm); (case k5 => k_asm); (case kA => exact rfl); (case kF => first | exact rfl | assumption); (case kK => first | exact rfl | assumption); (case kh => exact rfl); (case kd => exact Nat.le_of_ble_eq_true rfl); (case ku => exact Nat.le_of_ble_eq_true rfl); (case p1 => walk_at "cl p"); k_whole; intro v' tl' h' tk' F' N' hord' hout'; obtain ⟨⟨t', ev'⟩, etl'⟩ := hout'; subst ev'; subst etl'; clear hord'; rw [List.nil_append] at N'; (try dsimp only))))
local macro_rules | `(tactic| walk_at "call ref") => `(tactic| (k_here; k_dflt (refine' Cl.use (c_slotW _ _ _ ?p1 _) ?k1 ?k2 ?k3 ?k4 ?k5 ?kA ?kF ?kK ?kh ?kd ?ku ?_; (case k1 => k_asm); (case k2 => k_asm); (case k3 => k_asm); (case k4 => k_asm); (case k5 => k_asm); (case kA => exact rfl); (case kF => first | exact rfl | assumption); (case kK => first | exact rfl | assumption); (case kh => exact rfl); (case kd => exact Nat.le_of_ble_eq_true rfl); (case ku => exact Nat.le_of_ble_eq_true rfl); (case p1 => walk_at "cl p"); k_whole; intro v' tl' h' tk' F' N' hord' hout'; obtain ⟨⟨t', ev'⟩, etl'⟩ := hout'; subst ev'; subst etl'; clear hord'; rw [List.nil_append] at N'; (try dsimp only))))
local macro_rules | `(tactic| walk_at "call ref") => `(tactic| (k_here; k_dflt (refine' ClU.use1 (c_told _ _ _ _ _ _ _ _ _ _ _ ?p1 ?p2 ?p3 ?p4 ?p5 ?p6 _ ?p7 ?p8) ?k1 ?k2 ?k3 ?k4 ?k5 ?kA ?kF ?kK ?kh ?kd ?ku ?_; (case k1 => k_asm); (case k2 => k_asm); (case k3 => k_asm); (case k4 => k_asm); (case k5 => k_asm); (case kA => exact rfl); (case kF => first | exact rfl | assumption); (case kK => first | exact rfl | assumption); (case kh => exact rfl); (case kd => exact Nat.le_of_ble_eq_true rfl); (case ku => exact Nat.le_of_ble_eq_true rfl); (case p1 => assumption); (case p2 => omega); (case p3 => omega); (case p4 => omega); (case p5 => omega); (case p6 => first | omega | ((try simp only [List.length_take] at *); omega)); (case p7 => ((try dsimp only); omega)); (case p8 => first | assumption | (repeat' (first | exact List.forall_mem_nil _ | (refine List.forall_mem_cons.mpr ⟨neN (by (try dsimp only); omega), ?_⟩)))); k_whole; intro v' nx' h' tk' F' N' hout'; obtain ⟨r', t', kt', ⟨hr0', hr1'⟩, ev', enx'⟩ := hout'; subst ev'; subst enx'; (try dsimp only))))
local macro_rules | `(tactic| walk_at "call ref") => `(tactic| (k_here; k_dflt (refine' ClU.use (c_told _ _ _ _ _ _ _ _ _ _ _ ?p1 ?p2 ?p3 ?p4 ?p5 ?p6 _ ?p7 ?p8) ?k1 ?k2 ?k3 ?k4 ?k5 ?kA ?kF ?kK ?kh ?kd ?ku ?_; (case k1 => k_asm); (case k2 => k_asm); (case k3 => k_asm); (case k4 => k_asm); (case k5 => k_asm); (case kA => exact rfl); (case kF => first | exact rfl | assumption); (case kK => first | exact rfl | assumption); (case kh => exact rfl); (case kd => exact Nat.le_of_ble_eq_true rfl); (case ku => exact Nat.le_of_ble_eq_true rfl); (case p1 => assumption); (case p2 => omega); (case p3 => omega); (case p4 => omega); (case p5 => omega); (case p6 => first | omega | ((try simp only [List.length_take] at *); omega)); (case p7 => ((try dsimp only); omega)); (case p8 => first | assumption | (repeat' (first | exact List.forall_mem_nil _ | (refine List.forall_mem_cons.mpr ⟨neN (by (try dsimp only); omega), ?_⟩)))); k_whole; intro v' nx' h' tk' F' N' hout'; obtain ⟨r', t', kt', ⟨hr0', hr1'⟩, ev', enx'⟩ := hout'; subst ev'; subst enx'; (try dsimp only))))
local macro_rules | `(tactic| walk_at "call ref") => `(tactic| (k_here; k_dflt (refine' ClU.use2 (c_told _ _ _ _ _ _ _ _ _ _ _ ?p1 ?p2 ?p3 ?p4 ?p5 ?p6 _ ?p7 ?p8) ?k1 ?k2 ?k3 ?k4 ?k5 ?kA ?kF ?kK ?kh ?kd ?ku ?_; (case k1 => k_asm); (case k2 => k_asm); (case k3 => k_asm); (case k4 => k_asm); (case k5 => k_asm); (case kA => exact rfl); (case kF => first | exact rfl | assumption); (case kK => first | exact rfl | assumption); (case kh => exact rfl); (case kd => exact Nat.le_of_ble_eq_true rfl); (case ku => exact Nat.le_of_ble_eq_true rfl); (case p1 => assumption); (case p2 => omega); (case p3 => omega); (case p4 => omega); (case p5 => omega); (case p6 => first | omega | ((try simp only [List.length_take] at *); omega)); (case p7 => ((try dsimp only); omega)); (case p8 => first | assumption | (repeat' (first | exact List.forall_mem_nil _ | (refine List.forall_mem_cons.mpr ⟨neN (by (try dsimp only); omega), ?_⟩)))); k_whole; intro v' nx' h' tk' F' N' hout'; obtain ⟨r', t', kt', ⟨hr0', hr1'⟩, ev', enx'⟩ := hout'; subst ev'; subst enx'; (try dsimp only))))
local macro_rules | `(tactic| walk_at "subscriptTail") => `(tactic| (k_here; k_dflt (refine' menu_item ?mN ?mm ?m0 ?m1 ?_; (case mN => k_asm); (case mm => k_memK); (case m0 => omega); (case m1 => omega); k_whole; intro sg' st' hsg2' hsg3' hsgd' hsgl' hsgo')))
local macro_rules | `(tactic| walk_at "subscriptTail") => `(tactic| (k_here; (with_reducible show wpAny _ _ (subscriptTail _ _ (Value.str _ _) (Value.int _ _)) _ _ _); k_dflt ((refine' item_str (fitsSsize_of (N := 9223372036854775808) ?ia ?ib (Int.le_refl _)) ?ic ?id ?_ ; (case ia => omega); (case ib => omega); (case ic => omega); (case id => omega)); intro hit9')))
local macro_rules | `(tactic| walk_at "call ref") => `(tactic| (k_here; k_dflt (refine' Cl.use (c_due _ _ _ ?p1 _) ?k1 ?k2 ?k3 ?k4 ?k5 ?kA ?kF ?kK ?kh ?kd ?ku ?_; (case k1 => k_asm); (case k2 => k_asm); (case k3 => k_asm); (case k4 => k_asm); (case k5 => k_asm); (case kA => exact rfl); (case kF => first | exact rfl | assumption); (case kK => first | exact rfl | assumption); (case kh => exact rfl); (case kd => exact Nat.le_of_ble_eq_true rfl); (case ku => exact Nat.le_of_ble_eq_true rfl); (case p1 => walk_at "cl p"); k_whole; intro v' tl' h' tk' F' N' hord' hout'; obtain ⟨D', us', n', tl'', ev', etl', hdat'⟩ := hout'; subst ev'; subst etl'; clear hord'; simp only [List.cons_append] at N'; (try dsimp only))))
local macro_rules | `(tactic| walk_at "call ref") => `(tactic| (k_here; k_dflt (refine' Cl.use (c_written _ _ _ _ _ _ _ ?p1 ?p2 ?p3 ?p4 ?p5 _ _ ?p6 _) ?k1 ?k2 ?k3 ?k4 ?k5 ?kA ?kF ?kK ?kh ?kd ?ku ?_; (case k1 => k_asm); (case k2 => k_asm); (case k3 => k_asm); (case k4 => k_asm); (case k5 => k_asm); (case kA => exact rfl); (case kF => first | exact rfl | assumption); (case kK => first | exact rfl | assumption); (case kh => exact rfl); (case kd => exact Nat.le_of_ble_eq_true rfl); (case ku => exact Nat.le_of_ble_eq_true rfl); (case p1 => walk_at "cl p"); (case p2 => walk_at "cl p"); (case p3 => walk_at "cl p"); (case p4 => walk_at "cl p"); (case p5 => walk_at "cl p"); (case p6 => walk_at "cl p"); k_whole; intro v' tl' h' tk' F' N' hord' hout'; obtain ⟨D', t1', t2', t3', t4', ev', etl'⟩ := hout'; subst ev'; subst etl'; (have l1 := fun p hp => hord' _ (List.Mem.head _) p hp); clear hord'; simp only [tup, List.cons_append, List.nil_append] at N'; (try k_lt l1); (try dsimp only))))
local macro_rules | `(tactic| walk_at "call ref") => `(tactic| (k_here; k_dflt (refine' Cl.use (c_readW _ _ _ _ _ _ _ ?p1 ?p2 ?p3 ?p4 ?p5 _) ?k1 ?k2 ?k3 ?k4 ?k5 ?kA ?kF ?kK ?kh ?kd ?ku ?_; (case k1 => k_asm); (case k2 => k_asm); (case k3 => k_asm); (case k4 => k_asm); (case k5 => k_asm); (case kA => exact rfl); (case kF => first | exact rfl | assumption); (case kK => first | exact rfl | assumption); (case kh => exact rfl); (case kd => exact Nat.le_of_ble_eq_true rfl); (case ku => exact Nat.le_of_ble_eq_true rfl); (case p1 => walk_at "cl p"); (case p2 => walk_at "cl p"); (case p3 => walk_at "cl p"); (case p4 => walk_at "cl p"); (case p5 => walk_at "cl p"); k_whole; intro v' tl' h' tk' F' N' hord' hout'; obtain ⟨D', t1', t2', ev', etl'⟩ := hout'; subst ev'; subst etl'; (have l1 := fun p hp => hord' _ (List.Mem.head _) p hp); clear hord'; simp only [tup, List.cons_append, List.nil_append] at N'; (try k_lt l1); (try dsimp only))))
local macro_rules | `(tactic| walk_at "call ref") => `(tactic| (k_here; k_dflt (refine' Cl.use (c_right _ _ _ ?p1 ?p2 _) ?k1 ?k2 ?k3 ?k4 ?k5 ?kA ?kF ?kK ?kh ?kd ?ku ?_; (case k1 => k_asm); (case k2 => k_asm); (case k3 => k_asm); (case k4 => k_asm); (case k5 => k_asm); (case kA => exact rfl); (case kF => first | exact rfl | assumption); (case kK => first | exact rfl | assumption); (case kh => exact rfl); (case kd => exact Nat.le_of_ble_eq_true rfl); (case ku => exact Nat.le_of_ble_eq_true rfl); (case p1 => walk_at "cl p"); (case p2 => walk_at "cl p"); k_whole; intro v' tl' h' tk' F' N' hord' hout'; obtain ⟨ev', etl'⟩ := hout'; subst ev'; subst etl'; clear hord'; rw [List.nil_append] at N'; (try dsimp only))))
theorem mem_of_took {tx x y : Wd} {a b n : Nat} (h : tx.take a ++ (x ++ y) = tx.take b) (hn : n ∈ x ++ y) : n ∈ tx :=
  List.mem_of_mem_take (i := b) (h ▸ List.mem_append.mpr (.inr hn))
theorem soc_ok {tx x y : Wd} {a b : Nat} (ho : ∀ n ∈ tx, n < 1114112) (h : tx.take a ++ (x ++ y) = tx.take b) : PyData.strOk (S y) = true := by
  unfold PyData.strOk S
  rw [List.all_toArray]
  exact List.all_eq_true.mpr fun n hn => decide_eq_true (ho n (mem_of_took h (List.mem_append.mpr (.inr hn))))
theorem len_take (tx : Wd) (a : Nat) : (tx.take a).length ≤ a := by rw [List.length_take]; omega
theorem main_mem {q0 q1 q2 q3 D : Addr × Obj} {tl own : List (Addr × Obj)} : ∀ p ∈ D :: tl, p ∈ q0 :: q1 :: q2 :: q3 :: D :: (tl ++ own) := fun p hp =>
  .tail _ (.tail _ (.tail _ (.tail _ ((List.mem_cons.mp hp).elim (fun e => e ▸ .head _) (fun h => .tail _ (List.mem_append.mpr (.inl h)))))))
theorem main_own {q0 q1 q2 q3 D : Addr × Obj} {tl own : List (Addr × Obj)} : ∀ p ∈ own, p ∈ q0 :: q1 :: q2 :: q3 :: D :: (tl ++ own) := fun _ hp =>
  .tail _ (.tail _ (.tail _ (.tail _ (.tail _ (List.mem_append.mpr (.inr hp))))))
section
variable {prog : Program} {w : World} {A : Around} {E : Value → Shared → Prop} {s : Shared} {h₀ : Heap} {L a b : Addr} {news : List (Addr × Obj)} {oa ob : Obj} {k k' : Nat} {n : Int} {x : Str} {t u t' u' : Tok} {Q : Value → Shared → Prop}
/-- two tuples of the same number and the same text are not unequal -/
theorem ne_item (N : News h₀ L s.heap news) (ma : (a, oa) ∈ news) (ca : oa.cls = .type "tuple") (da : oa.data = .seq [.int n t, .str x u].toArray k) (mb : (b, ob) ∈ news) (cb : ob.cls = .type "tuple") (db : ob.data = .seq [.int n t', .str x u'].toArray k')
    (hx : PyData.strOk x = true) (hu : A.units + 64 < cLine) (h : Q (.bool false) s) : wpAny (model prog w) A (compareOp .NotEq (.ref a) (.ref b)) Q E s := by
  refine ne_dataH (da := .tuple [.int n, .str x]) (db := .tuple [.int n, .str x]) (reads_tuple_at (N.get ma) ca da (.cons (.int _ _) (.cons (.str _ _) .nil))) (reads_tuple_at (N.get mb) cb db (.cons (.int _ _) (.cons (.str _ _) .nil))) ?_ ?_ hu ?_
  · simp [SeqAt.shaped, PyData.canLay0, PyData.canLayAll0, PyData.depth, PyData.depthAll, hx]
  · simp [SeqAt.shaped, PyData.canLay0, PyData.canLayAll0, PyData.depth, PyData.depthAll, hx]
  · have e : (!PyData.eqv (.tuple [.int n, .str x]) (.tuple [.int n, .str x])) = false := by simp [PyData.eqv, PyData.eqvAll]
    rw [e]
    exact h
end
local macro_rules | `(tactic| walk_at "compareOp NotEq ref ref") => `(tactic| (k_here; k_dflt (refine' ne_item ?nN ?nA ?nca ?nda ?nB ?ncb ?ndb ?nx ?nu ?_; (case nN => k_asm); (case nA => k_memK); (case nB => k_memK); (case nca => exact rfl); (case nda => exact rfl); (case ncb => exact rfl); (case ndb => exact rfl); (case nx => assumption); (case nu => exact Nat.le_of_ble_eq_true rfl))))
local macro_rules | `(tactic| walk_at "InvEndG") => `(tactic| k_dflt (k_extra "InvEndG"))
set_option maxRecDepth 100000 in
set_option maxHeartbeats 8000000 in
theorem law_walk : PySem.Challenge.rw_xm0039_01.Holds := Mine.hd (by
  w_top off
  k_go0
  all_goals try k_fold
  k_with_none
  k_with "pyIter ref" =>
    rename Fr _ _ _ _ => lF'
    rename News _ _ _ _ => lN'
    rename IsRange _ _ _ _ _ _ _ _ => rg'
    refine withN lN' fun b l eb el => ?_
    subst eb el
    with_unfolding_all refine' rng_loop (σ := DrawC) (fun c => [(b, listOf [.ref l, .int c.k c.kt].toArray 0), (l, listOf _ 0)]) (fun c => [(Str.ofString "text", .str (S c.tx) c.tt)]) [] DrawI ⟨[], _, 0 + 1 + 1, _⟩ (by rfl) rg' (small_one (by omega) (by omega) (by omega) (by omega)) (rangeSize_nat _ _) lF' ?kn1 (List.forall_mem_cons.mpr ⟨?kk1, List.forall_mem_nil _⟩) (DrawI.start _ _) ?turn1 ?done1
    case kn1 => exact cb_drop lN' (by kcj_all)
    case kk1 => (rw [← S_nil]; with_unfolding_all rfl)
    all_goals clear lF' lN'
    case' turn1 => intro c' k' t' u' h' tk' own' hlt' hoff' hP' F' N'
    case' done1 => intro c' u' h' tk' hP' F' N'
    all_goals obtain ⟨tx, tt, kk, kt⟩ := c'
    all_goals have hP0 := hP'
    all_goals obtain ⟨hPl, hPd, hPo, hPk0, hPk1⟩ := hP'
    all_goals dsimp only at hPl hPd hPo hPk0 hPk1
    all_goals dsimp only [kstB] at F'
    all_goals dsimp only at N'
    all_goals have hMk := kstMark
    all_goals have hStx := S_len tx
    case' turn1 =>
      simp only [List.cons_append, List.nil_append] at N'
      have hOb : ∀ p ∈ own', p.1 ≠ b := fun p hp => hoff' p hp b (.head _)
    all_goals (try dsimp only)
    all_goals (try k_fold)
  k_with "pyIter ref" =>
    rename Fr _ _ _ _ => lF'
    rename News _ _ _ _ => lN'
    rename DatAll _ _ _ => hdat
    refine withDue hdat lN' fun D us n tl e1 e2 e3 e4 => ?_
    subst e1 e2 e3 e4
    have hlt14 : tx.length ≤ 14 := by omega
    have hlen := hdat.length
    rw [List.length_map] at hlen
    with_unfolding_all refine' lst_loop (σ := MainC) (fun _ => (D, listOf us.toArray n) :: tl) (fun c => [(Str.ofString "at", .int (c.a : Int) c.t1), (Str.ofString "book", .str (S (enc c.ws)) c.t2), (Str.ofString "other", .str (S (enc c.ws)) c.t3), (Str.ofString "front", .str (S (tx.take c.a)) c.t4)]) [Str.ofString "number", Str.ofString "sign", Str.ofString "told"] (fun i c => MainI tx (pf [] [] tx) i c.ws c.a) ⟨[], 0, _, _, _, _⟩ (by rfl) (fun _ => .head _) lF' ?kn2 (List.forall_mem_cons.mpr ⟨?ka2, List.forall_mem_cons.mpr ⟨?kb2, List.forall_mem_cons.mpr ⟨?ko2, List.forall_mem_cons.mpr ⟨?kf2, List.forall_mem_nil _⟩⟩⟩⟩) (MainI.start tx) ?turn2 ?done2
    case kn2 => exact cb_drop lN' (List.forall_mem_cons.mpr ⟨.head _, fun p hp => .tail _ (List.mem_append.mpr (.inl hp))⟩)
    case ka2 => with_unfolding_all rfl
    case kb2 => (show _ = some (Value.str (S []) _); rw [← S_nil]; with_unfolding_all rfl)
    case ko2 => (show _ = some (Value.str (S []) _); rw [← S_nil]; with_unfolding_all rfl)
    case kf2 => (show _ = some (Value.str (S []) _); rw [← S_nil]; with_unfolding_all rfl)
    all_goals clear lF' lN'
    case' turn2 =>
      intro c' i v' u' h' tk' own' hv' hoff' hP' F' N'
      obtain ⟨ws, a, t1, t2, t3, t4⟩ := c'
      dsimp only [kstB] at F'
      dsimp only at N' hP' hoff'
      obtain ⟨d, ad, dt1, dt2, dn, hd, ev, hmem⟩ := pair_at hdat hv'
      subst ev
      obtain ⟨x, oc, hlm, ed, hx46, hx4, hsl, hnum, hle', htake, I2⟩ := hP'.step hPd hlt14 hd
      subst ed
      have hws := hP'.good.ok
      have hln := hP'.ln
      have hle := hP'.le
      have G2 := I2.good
      have hln2 := I2.ln
      have hb1 : (S (enc (grown ws x oc)) != S (enc (grown ws x oc))) = false := bne_self_eq_false _
      have hb2 := front_slice hle' htake
      have hso := soc_ok hPo htake
      have hft := len_take tx a
      have hSf := S_len (tx.take a)
      have hSy := S_len (x ++ soc oc)
      have hxs := List.length_append (as := x) (bs := soc oc)
      have hny : 46 ∉ x ++ soc oc := fun h => hPd (mem_of_took htake h)
      have N2 := (fun p hp => (List.mem_cons.mp hp).elim (fun e => e ▸ N' _ (List.mem_append.mpr (.inl (.tail _ hmem)))) (fun h => N' p h) : News _ _ _ (_ :: _))
      clear N'
    case' done2 =>
      intro c' u' h' tk' hP' F' N'
      obtain ⟨ws, a, t1, t2, t3, t4⟩ := c'
      dsimp only [kstB] at F'
      dsimp only at N' hP'
      rw [hlen] at hP'
      rw [hP'.done] at F'
      have hend : (S tx == S tx) = true := beq_self_eq_true _
    all_goals (try dsimp only)
    all_goals (try k_fold)
  k_with "InvEndN" =>
    rename Fr _ _ _ _ => fE'
    rename News _ _ _ _ => nE'
    refine' LpS.close (c := (⟨tx ++ [chr ?XN], ?ttN, kk + 1, ?ktN⟩ : DrawC)) fE' nE' ?hnN ?hoN rfl (List.forall_mem_cons.mpr ⟨grow_str ?hmN ?hxN, List.forall_mem_nil _⟩) ?hrN (DrawI.next _ hP0 ?hcN)
    case hmN => with_unfolding_all rfl
    case hnN => exact List.forall_mem_cons.mpr ⟨.head _, List.forall_mem_cons.mpr ⟨.tail _ (.head _), List.forall_mem_nil _⟩⟩
    case hoN => exact fun p hp => .tail _ (.tail _ hp)
    case hxN => exact (item_chr (by assumption) (by assumption) (by assumption) (by assumption) (by assumption)).1
    case hcN => exact (item_chr (by assumption) (by assumption) (by assumption) (by assumption) (by assumption)).2
    case hrN => ((dsimp only); kst_same)
  k_with "InvEndG" =>
    rename Fr _ _ _ _ => fG'
    rename News _ _ _ _ => nG'
    (try simp only [List.cons_append] at nG')
    refine' LpS.closeG (c := (⟨grown ws x oc, a + x.length + (soc oc).length, ?tG1, ?tG2, ?tG3, ?tG4⟩ : MainC)) fG' nG' main_mem main_own hoff' (List.forall_mem_cons.mpr ⟨?kaG, List.forall_mem_cons.mpr ⟨?kbG, List.forall_mem_cons.mpr ⟨?koG, List.forall_mem_cons.mpr ⟨?kfG, List.forall_mem_nil _⟩⟩⟩⟩) ?hrG I2
    case kaG => with_unfolding_all rfl
    case kbG => with_unfolding_all rfl
    case koG => with_unfolding_all rfl
    case kfG => (dsimp only; rw [← htake]; with_unfolding_all rfl)
    case hrG => ((dsimp only); kst_same)
  k_steps)
end
end Mine
theorem PySem.Challenge.cw_xm0039_01_holds : PySem.Challenge.rw_xm0039_01.Holds :=
  Mine.law_walk
