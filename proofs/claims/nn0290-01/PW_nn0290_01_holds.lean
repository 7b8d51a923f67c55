import PyProof.Rows.All
import Wide.All
import OpenK.AllK
import Wide.FinOn
import PySem.Challenge.RW_nn0290_01
set_option Elab.async false
namespace Mine
open PySem PySem.W PyProof.Rows
set_option maxRecDepth 100000 in
set_option maxHeartbeats 8000000 in
open_top hd for PySem.Challenge.rw_nn0290_01
end Mine
namespace Mine
open PySem PySem.W PySem.Calls PyProof.Rows PySem.Spec
abbrev AA (dp un : Nat) (gd : Option (List Code)) (env : Env) (outer : List Env) : Around := { handled := none, depth := dp, frames := some (env :: outer), guards := gd, units := un }
abbrev PR : Program := PySem.Challenge.rw_nn0290_01.row.prog
/-- the pool and its script's list, as the ledger bears them -/
abbrev PoolAt (p q : Addr) (x y : Int) (tx ty : Tok) (n : Nat) (vs : List Value) (k : Nat) : List (Addr × Obj) :=
  [(p, PySem.W.listOf #[.int x tx, .int y ty, .ref q] n), (q, PySem.W.listOf vs.toArray k)]
def DrawP (p q : Addr) (y most : Int) (vs : List Value) (k : Nat) (v : Value) (keep' : List (Addr × Obj)) : Prop :=
  ∃ d t x' y' tx' ty' n', v = .int d t ∧ 0 ≤ d ∧ d < most ∧ 0 ≤ x' ∧ y ≤ y' ∧ y' ≤ y + 1 ∧ keep' = PoolAt p q x' y' tx' ty' n' vs k

theorem two_sub {a b : Addr × Obj} {r : List (Addr × Obj)} : ∀ z ∈ [a, b], z ∈ a :: b :: r := by
  intro z hz
  rcases List.mem_cons.mp hz with rfl | hz
  · exact .head _
  · rw [List.mem_singleton.mp hz]
    exact .tail _ (.head _)
set_option maxRecDepth 100000 in
set_option maxHeartbeats 8000000 in
theorem draw_call {w : World} {A₀ : Around} {base h₀ : Heap} {outer : List Env} {m mg mb : Str → Option Value} {env : Env} {loose : List Str} {mean : ExcName → Option Value}
    {dp un : Nat} {gd : Option (List Code)} {s : Shared} {p q L : Addr} {x y most : Int} {tx ty tm : Tok} {n k : Nat} {vs : List Value} {ns : List Int} {rest : List (Addr × Obj)} {Q E : Value → Shared → Prop}
    (hdp : dp + 20 < recursionLimit) (hun : un + 20 < cLine)
    (hne : @Ne Nat p q) (hx : 0 ≤ x) (hy : 0 ≤ y) (hyb : y < 1000000) (hm : most = 2 ∨ most = 4 ∨ most = 8) (hI : IntsAre vs ns) (hl0 : 0 < ns.length) (hl1 : ns.length ≤ 40)
    (B : Below A₀ base outer h₀) (F : Fr h₀ L s.heap m) (X : (hd.heap_39 w.params).In h₀) (T : Top hd.view_39 loose mean mg mb h₀)
    (N : News h₀ L s.heap (PoolAt p q x y tx ty n vs k)) (NR : News h₀ L s.heap rest) (hap : ∀ z ∈ rest, z.1 ≠ p ∧ z.1 ≠ q)
    (hf : env.frame = some L) (hke : env.scope.kind = .function)
    (post : ∀ v h' tk keep', DrawP p q y most vs k v keep' → Fr h₀ L h' m → News h₀ L h' keep' → News h₀ L h' rest → Q v { s with heap := h', toks := tk }) :
    wpAny (model PR w) (AA dp un gd env outer) (call (.ref 35) [.ref p, .int most tm]) Q E s := by
  suffices hh : PySem.Challenge.rw_nn0290_01 = PySem.Challenge.rw_nn0290_01 → hd.heap_39 = hd.heap_39 → wpAny (model PR w) (AA dp un gd env outer) (call (.ref 35) [.ref p, .int most tm]) Q E s from hh rfl rfl
  k_fill
  intro _ _
  have NN : News h₀ L s.heap ((p, PySem.W.listOf #[.int x tx, .int y ty, .ref q] n) :: (q, PySem.W.listOf vs.toArray k) :: rest) := by
    intro z hz
    rcases List.mem_cons.mp hz with rfl | hz
    · exact N _ (.head _)
    rcases List.mem_cons.mp hz with rfl | hz
    · exact N _ (.tail _ (.head _))
    · exact NR z hz
  have off : OwnOff rest [p, q] := by
    intro z hz b hb
    rcases List.mem_cons.mp hb with rfl | hb
    · exact (hap z hz).1
    · rw [List.mem_singleton.mp hb]
      exact (hap z hz).2
  refine wpAny_call ?_
  refine' code_def (binds := [(PySem.Str.ofString "pool", Value.ref p), (PySem.Str.ofString "most", Value.int most tm)]) B F X NN T rfl hf hke ?a2 ?a3 ?a4 ?a5 ?a6 ?_ ?a8 ?a9 ?a10 ?a7
  case a2 => k_is
  case a3 => k_is
  case a4 => ktr_room
  case a5 => exact BindsTo.of_eq rfl
  case a6 => exact locs rfl
  case a7 => decide
  case a8 => rfl
  case a9 => rfl
  case a10 => rfl
  clear N NR NN hap F X T B
  intro g L' h₁ FG F' N' B' X' T'
  have hmp : 0 < most := by omega
  (try dsimp only)
  (try k_fold)
  k_steps
  all_goals (try dsimp only)
  all_goals (try simp only [decide_eq_true_eq, decide_eq_false_iff_not] at *)
  all_goals (refine leaveK_ (by assumption) (by assumption) fun kF kN => ?_; refine post _ _ _ _ ⟨_, _, _, _, _, _, _, rfl, ?_, ?_, ?_, ?_, ?_, rfl⟩ kF (fun z hz => kN z (two_sub z hz)) (fun z hz => kN z (.tail _ (.tail _ hz))))
  all_goals (first
    | omega
    | exact Int.fmod_nonneg_of_pos _ hmp
    | exact Int.fmod_lt_of_pos _ hmp
    | exact Int.fdiv_nonneg hx (Int.le_of_lt hmp)
    | exact Int.fdiv_nonneg (Int.fmod_nonneg_of_pos _ (by decide)) (Int.le_of_lt hmp)
    | exact Int.fdiv_nonneg (Int.fmod_nonneg_of_pos _ (Int.pow_pos (by decide))) (Int.le_of_lt hmp))
end Mine
namespace Mine
open PySem PySem.W PySem.Calls PyProof.Rows PySem.Spec

theorem draw_callU {w : World} {A₀ : Around} {base h₀ : Heap} {outer : List Env} {m mg mb : Str → Option Value} {env : Env} {loose : List Str} {mean : ExcName → Option Value}
    {dp un : Nat} {gd : Option (List Code)} {s : Shared} {p q L : Addr} {x y most : Int} {tx ty tm : Tok} {n k : Nat} {vs : List Value} {ns : List Int} {all : List (Addr × Obj)} {G : Obj → List (Addr × Obj)} {Q E : Value → Shared → Prop}
    (B : Below A₀ base outer h₀) (F : Fr h₀ L s.heap m) (X : (hd.heap_39 w.params).In h₀) (T : Top hd.view_39 loose mean mg mb h₀)
    (N : News h₀ L s.heap all) (U : UpdF p (PySem.W.listOf #[.int x tx, .int y ty, .ref q] n) all G) (hq : (q, PySem.W.listOf vs.toArray k) ∈ all)
    (hne : @Ne Nat p q) (hI : IntsAre vs ns) (hl0 : 0 < ns.length) (hl1 : ns.length ≤ 40) (hx : 0 ≤ x) (hy : 0 ≤ y) (hyb : y < 1000000) (hm : most = 2 ∨ most = 4 ∨ most = 8)
    (hf : env.frame = some L) (hke : env.scope.kind = .function) (hdp : dp + 20 < recursionLimit) (hun : un + 20 < cLine)
    (post : ∀ d t x' y' tx' ty' n' h' tk, 0 ≤ d → d < most → 0 ≤ x' → y ≤ y' → y' ≤ y + 1 → Fr h₀ L h' m → News h₀ L h' (G (PySem.W.listOf #[.int x' tx', .int y' ty', .ref q] n')) → Q (.int d t) { s with heap := h', toks := tk }) :
    wpAny (model PR w) (AA dp un gd env outer) (call (.ref 35) [.ref p, .int most tm]) Q E s := by
  obtain ⟨pre, after, rfl, hg, h1, h2⟩ := U.split
  have hp : (p, PySem.W.listOf #[.int x tx, .int y ty, .ref q] n) ∈ pre ++ (p, PySem.W.listOf #[.int x tx, .int y ty, .ref q] n) :: after := by simp
  refine draw_call (rest := (pre ++ after).filter fun z => !(z.1 == q)) (x := x) (y := y) (tx := tx) (ty := ty) (n := n) (k := k) hdp hun hne hx hy hyb hm hI hl0 hl1 B F X T ?_ ?_ ?_ hf hke ?_
  · intro z hz
    simp only [PoolAt, List.mem_cons, List.not_mem_nil, or_false] at hz
    rcases hz with rfl | rfl
    · exact N _ hp
    · exact N _ hq
  · intro z hz
    have hz' := (List.mem_filter.mp hz).1
    exact N z (by rcases List.mem_append.mp hz' with e | e; exact List.mem_append_left _ e; exact List.mem_append_right _ (.tail _ e))
  · intro z hz
    obtain ⟨hz', hb⟩ := List.mem_filter.mp hz
    refine ⟨?_, by simpa using hb⟩
    rcases List.mem_append.mp hz' with e | e
    · exact h1 z e
    · exact h2 z e
  · rintro v h' tk keep' ⟨d, t, x', y', tx', ty', n', rfl, a1, a2, a3, a4, a5, rfl⟩ F' N' NR
    refine post d t x' y' tx' ty' n' h' tk a1 a2 a3 a4 a5 F' ?_
    rw [hg]
    have hN : ∀ z ∈ pre ++ after, News h₀ L h' [z] := by
      intro z hz
      by_cases hzq : z.1 = q
      · have hz0 := (N z (by rcases List.mem_append.mp hz with e | e; exact List.mem_append_left _ e; exact List.mem_append_right _ (.tail _ e))).1
        have hq0 := (N _ hq).1
        rw [hzq] at hz0
        have e2 : z.2 = PySem.W.listOf vs.toArray k := by
          have := hz0.symm.trans hq0
          exact Option.some.inj this
        have ez : z = (q, PySem.W.listOf vs.toArray k) := Prod.ext hzq e2
        intro z' hz'
        rw [List.mem_singleton.mp hz', ez]
        exact N' _ (by simp [PoolAt])
      · intro z' hz'
        rw [List.mem_singleton.mp hz']
        exact NR _ (List.mem_filter.mpr ⟨hz, by simpa using hzq⟩)
    intro z hz
    rcases List.mem_append.mp hz with e | e
    · exact hN z (List.mem_append_left _ e) z (List.mem_singleton.mpr rfl)
    · rcases List.mem_cons.mp e with rfl | e
      · exact N' _ (by simp [PoolAt])
      · exact hN z (List.mem_append_right _ e) z (List.mem_singleton.mpr rfl)
end Mine
namespace Mine
open PySem PySem.W PySem.Calls PyProof.Rows PySem.Spec
/-- a goal set aside -/
def Stop (P : Prop) : Prop := P
theorem stop_of {P : Prop} (h : Stop P) : P := h
theorem Stop.out {P : Prop} (h : P) : Stop P := h
end Mine
namespace Mine
open PySem PySem.W PySem.Calls PyProof.Rows PySem.Spec
def bodyOf : Stmt → List Stmt
  | .FunctionDef _ _ b _ _ _ _ _ _ _ => b
  | .For _ _ b _ _ => b
  | _ => []
def scopeOf : Stmt → Scope
  | .FunctionDef _ _ _ _ _ _ s _ _ _ => s
  | _ => default
def nth : List Stmt → Nat → Stmt
  | [], _ => .Pass default
  | a :: _, 0 => a
  | _ :: r, n + 1 => nth r n
def lawDef : Stmt := nth PySem.Challenge.pw_nn0290_01.main.body 7
def lawBody : List Stmt := bodyOf lawDef
def lawScope : Scope := scopeOf lawDef
def turnBody : List Stmt := bodyOf (nth lawBody 1)
def edgeBody : List Stmt := bodyOf (nth turnBody 4)
def asgVal : Stmt → PySem.Expr
  | .Assign _ v _ => v
  | _ => default
def oldComp : PySem.Expr := asgVal (nth turnBody 1)
def newComp : PySem.Expr := asgVal (nth turnBody 2)
abbrev ENV (L fa : Addr) (cd : Value) (cO cP : Addr) : Env := envX (PySem.Str.ofString "law") lawScope L fa cd [(PySem.Str.ofString "old", cO), (PySem.Str.ofString "pool", cP)]
theorem env_is (L fa : Addr) (cd : Value) : envOfC (PySem.Str.ofString "law") lawScope L fa cd = ENV L fa cd (L + 1 + 1) (L + 1) := by rfl
end Mine
namespace Mine
open PySem PySem.W PySem.Calls PyProof.Rows PySem.Spec
section
variable {prog : Program} {w : World} {A : Around} {h₀ : Heap} {L : Addr} {m : Str → Option Value} {env : Env} {elt : PySem.Expr} {x : Str} {scope : Scope} {cl : List (Str × Addr)} {s : Shared} {S : List (Addr × Obj) → Prop} {P : Nat → Value → Prop} {Fin : List Value → List (Addr × Obj) → Prop}
theorem comp_inv {n : Nat} {news₀ : List (Addr × Obj)} (J : Nat → List Value → List (Addr × Obj) → Prop) (h0 : J 0 [] news₀)
    (turn : ∀ i ys news v I oI C oC D m₂ h tk (E' : Value → Shared → Prop), i < n → J i ys news → P i v → LCg.NsObj oC m₂ → m₂ x = some v → Fr h₀ L h m → News h₀ L h ((I, oI) :: (C, oC) :: (D, LCg.lst ys) :: news) → LCg.Off3 I C D news → ((@Ne Nat I C) ∧ (@Ne Nat I D) ∧ (@Ne Nat C D)) →
      wpAny (model prog w) A (eval elt (compEnvC scope cl C env)) (LCg.CompEnd h₀ L m { s with heap := h, toks := tk } I oI C oC D (LCg.lst ys) S (fun y news' => J (i + 1) (ys ++ [y]) news')) E' { s with heap := h, toks := tk })
    (fin : ∀ ys news, J n ys news → Fin ys news) : LCg.CompRest prog w A h₀ L m env elt x scope cl s S P Fin n 0 [] news₀ := by
  have key : ∀ (j i : Nat) (ys : List Value) (news : List (Addr × Obj)), i + j = n → J i ys news → LCg.CompRest prog w A h₀ L m env elt x scope cl s S P Fin j i ys news := by
    intro j
    induction j with
    | zero =>
      intro i ys news hi hJ
      have e : i = n := by omega
      subst e
      exact LCg.CompRest.zero (fin ys news hJ)
    | succ j ih =>
      intro i ys news hi hJ
      refine LCg.CompRest.succ ?_
      intro v I oI C oC D m₂ h tk E' hv hC hx F N off ne
      refine wpAny_mono (turn i ys news v I oI C oC D m₂ h tk E' (by omega) hJ hv hC hx F N off ne) (fun y s₂ hq => ?_) fun _ _ e => e
      obtain ⟨h', tk', nw, e, F', N', off', hS, hJ'⟩ := hq
      exact ⟨h', tk', nw, e, F', N', off', hS, ih (i + 1) _ nw (by omega) hJ'⟩
  exact key n 0 [] news₀ (by omega) h0
end

theorem updF_re {d : Addr} {o : Obj} {l : List (Addr × Obj)} {g : Obj → List (Addr × Obj)} (U : UpdF d o l g) : l = g o ∧ ∀ o', UpdF d o' (g o') g := by
  induction U with
  | head h => exact ⟨rfl, fun o' => .head h⟩
  | tail h _ ih => exact ⟨by rw [ih.1], fun o' => .tail h (ih.2 o')⟩
theorem updF_mem {d : Addr} {o : Obj} {l : List (Addr × Obj)} {g : Obj → List (Addr × Obj)} (U : UpdF d o l g) {z : Addr × Obj} (hz : z ∈ l) (hne : z.1 ≠ d) (o' : Obj) : z ∈ g o' := by
  obtain ⟨pre, post, rfl, hg, _, _⟩ := U.split
  rw [hg]
  rcases List.mem_append.mp hz with e | e
  · exact List.mem_append_left _ e
  · rcases List.mem_cons.mp e with rfl | e
    · exact absurd rfl hne
    · exact List.mem_append_right _ (.tail _ e)
theorem updF_self {d : Addr} {o : Obj} {l : List (Addr × Obj)} {g : Obj → List (Addr × Obj)} (U : UpdF d o l g) (o' : Obj) : (d, o') ∈ g o' := by
  obtain ⟨pre, post, rfl, hg, _, _⟩ := U.split
  rw [hg]
  exact List.mem_append_right _ (.head _)
theorem updF_addr {d : Addr} {o : Obj} {l : List (Addr × Obj)} {g : Obj → List (Addr × Obj)} (U : UpdF d o l g) {o' : Obj} {z : Addr × Obj} (hz : z ∈ g o') : ∃ z' ∈ l, z'.1 = z.1 := by
  obtain ⟨pre, post, rfl, hg, _, _⟩ := U.split
  rw [hg] at hz
  rcases List.mem_append.mp hz with e | e
  · exact ⟨z, List.mem_append_left _ e, rfl⟩
  · rcases List.mem_cons.mp e with rfl | e
    · exact ⟨(d, o), List.mem_append_right _ (.head _), rfl⟩
    · exact ⟨z, List.mem_append_right _ (.tail _ e), rfl⟩

abbrev P3 (x : Int) (tx : Tok) (y : Int) (ty : Tok) (q : Addr) (n : Nat) : Obj := PySem.W.listOf #[.int x tx, .int y ty, .ref q] n
/-- the pool, its script's list and its cell on a ledger that is written up to the pool -/
structure Pool (p q cP : Addr) (oP : Obj) (vs : List Value) (k : Nat) (G : Obj → List (Addr × Obj)) : Prop where
  U : ∀ o, UpdF p o (G o) G
  hq : ∀ o, (q, PySem.W.listOf vs.toArray k) ∈ G o
  hc : ∀ o, (cP, oP) ∈ G o
  dP : oP.data = .cell (some (.ref p))
  ne : @Ne Nat p q
  nc : @Ne Nat cP p

theorem Pool.tail {p q cP : Addr} {oP : Obj} {vs : List Value} {k : Nat} {G : Obj → List (Addr × Obj)} (X : Pool p q cP oP vs k G) {z : Addr × Obj} (h : z.1 ≠ p) : Pool p q cP oP vs k (fun o => z :: G o) :=
  ⟨fun o => .tail h (X.U o), fun o => .tail _ (X.hq o), fun o => .tail _ (X.hc o), X.dP, X.ne, X.nc⟩
theorem Pool.off3 {p q cP : Addr} {oP : Obj} {vs : List Value} {k : Nat} {G : Obj → List (Addr × Obj)} (X : Pool p q cP oP vs k G) {o o' : Obj} {I C D : Addr} (h : LCg.Off3 I C D (G o)) : LCg.Off3 I C D (G o') := by
  refine LCg.Off3.of fun z hz => ?_
  obtain ⟨z', hz', e⟩ := updF_addr (X.U o) hz
  rw [← e]
  exact h.mem z' hz'
end Mine
namespace Mine
open PySem PySem.W PySem.Calls PyProof.Rows PySem.Spec
local macro_rules | `(tactic| walk_at "call ref") => `(tactic| (k_here; (with_reducible show wpAny _ _ (call (Value.ref 35) _) _ _ _); refine stop_of ?_))
local macro_rules | `(tactic| walk_at "pyIter ref") => `(tactic| (refine stop_of ?_))
local macro_rules | `(tactic| walk_at "CompSrc") => `(tactic| (refine stop_of ?_))
local macro_rules | `(tactic| walk_at "eval Name") => `(tactic| (k_here; k_dflt (refine' nameX_L ?k1 ?k2 ?_; (case k1 => assumption); (case k2 => assumption); k_whole)))

local macro_rules | `(tactic| walk_at "eval Name") => `(tactic| (k_here; (with_reducible show wpAny _ _ (eval (Expr.Name _ _) (compEnvC _ _ _ _)) _ _ _); k_dflt (first
  | (refine' lcf_cell ?N ?c ?m ?d ?_ ?a ?b; (case a => rfl); (case b => rfl); (case N => assumption); (case c => rfl); (case m => assumption); (case d => assumption); k_whole)
  | (refine' lcf_free ?N ?c ?m ?d ?_ ?a ?b; (case a => rfl); (case b => rfl); (case N => assumption); (case c => rfl); (case m => assumption); (case d => assumption); k_whole))))

set_option maxRecDepth 100000 in
set_option maxHeartbeats 8000000 in
theorem comp_old {w : World} {A₀ : Around} {base h₀ : Heap} {outer : List Env} {m mg mb : Str → Option Value} {loose : List Str} {mean : ExcName → Option Value}
    {dp un : Nat} {gd : Option (List Code)} {s : Shared} {p q L fa cO cP : Addr} {cd : Value} {oP : Obj} {x y b : Int} {tx ty tb : Tok} {n k : Nat} {vs : List Value} {ns : List Int} {G : Obj → List (Addr × Obj)} {Q E : Value → Shared → Prop}
    (hdp : dp + 40 < recursionLimit) (hun : un + 40 < cLine)
    (B : Below A₀ base outer h₀) (F : Fr h₀ L s.heap m) (X : (hd.heap_39 w.params).In h₀) (T : Top hd.view_39 loose mean mg mb h₀)
    (PS : Pool p q cP oP vs k G) (N : News h₀ L s.heap (G (P3 x tx y ty q n)))
    (hI : IntsAre vs ns) (hl0 : 0 < ns.length) (hl1 : ns.length ≤ 40) (hx : 0 ≤ x) (hy : 0 ≤ y) (hyb : y < 100000)
    (hbm : m (PySem.Str.ofString "bits") = some (.int b tb)) (hb0 : 1 ≤ b) (hb1 : b ≤ 4)
    (post : ∀ D ys zs x' y' tx' ty' n' h' tk, IntsAre ys zs → (zs.length : Int) = b → (∀ z ∈ zs, 0 ≤ z ∧ z < 4) → 0 ≤ x' → y ≤ y' → y' ≤ y + 4 → Fr h₀ L h' m → News h₀ L h' ((D, LCg.lst ys) :: G (P3 x' tx' y' ty' q n')) → LCg.Off1 D (G (P3 x' tx' y' ty' q n')) →
      Q (.ref D) { s with heap := h', toks := tk }) :
    wpAny (model PR w) (AA dp un gd (ENV L fa cd cO cP) outer) (eval oldComp (ENV L fa cd cO cP)) Q E s := by
  suffices hh : PySem.Challenge.rw_nn0290_01 = PySem.Challenge.rw_nn0290_01 → hd.heap_39 = hd.heap_39 → wpAny (model PR w) (AA dp un gd (ENV L fa cd cO cP) outer) (eval oldComp (ENV L fa cd cO cP)) Q E s from hh rfl rfl
  k_fill
  intro _ _
  unfold ENV oldComp lawScope turnBody lawBody lawDef PySem.Challenge.pw_nn0290_01
  dsimp only [nth, bodyOf, asgVal, scopeOf]
  refine LCg.ListComp_U (F₀ := F) (by with_unfolding_all rfl) (by decide) (by rfl) (by decide) (by rfl) ?_
  k_steps
  have hbn : ((b.toNat : Nat) : Int) = b := Int.toNat_of_nonneg (by omega)
  refine Stop.out (LCg.CompSrc.range (n := b.toNat) (by rfl) (by assumption) (by assumption) (by assumption) (small_one (by omega) (by omega) (by omega) (by omega)) ((rangeSize_nat 0 b).trans (by rw [Int.sub_zero])) (by rw [sizeLine_eq]; omega) ?_)
  intro g'
  refine comp_inv (fun i ys news => ∃ x' tx' y' ty' n' zs, news = G (P3 x' tx' y' ty' q n') ∧ IntsAre ys zs ∧ zs.length = i ∧ (∀ z ∈ zs, (0 : Int) ≤ z ∧ z < 4) ∧ 0 ≤ x' ∧ y ≤ y' ∧ y' ≤ y + (i : Int)) ⟨x, tx, y, ty, n, [], rfl, .nil, rfl, (fun _ h => nomatch h), hx, Int.le_refl _, by omega⟩ ?_ ?_
  · rintro i ys news v I oI C oC D m₂ h tk E' hi ⟨x₁, tx₁, y₁, ty₁, n₁, zs, rfl, hz, hzl, hzb, hx₁, hy₁, hy₂⟩ ⟨tv, rfl⟩ hC hmx F₁ N₁ off ne
    have hcm : (cP, oP) ∈ (I, oI) :: (C, oC) :: (D, LCg.lst ys) :: G (P3 x₁ tx₁ y₁ ty₁ q n₁) := .tail _ (.tail _ (.tail _ (PS.hc _)))
    have hdP := PS.dP
    clear post
    have hp3 := off.mem _ (updF_self (PS.U (P3 x₁ tx₁ y₁ ty₁ q n₁)) (P3 x₁ tx₁ y₁ ty₁ q n₁))
    have PS3 := ((PS.tail (z := (D, LCg.lst ys)) (Ne.symm hp3.2.2)).tail (z := (C, oC)) (Ne.symm hp3.2.1)).tail (z := (I, oI)) (Ne.symm hp3.1)
    k_steps
    refine Stop.out ?_
    refine draw_callU B F₁ X T N₁ (PS3.U _) (PS3.hq _) PS.ne hI hl0 hl1 hx₁ (by omega) (by omega) (.inr (.inl rfl)) rfl rfl (by omega) (by omega) ?_
    intro d t x₂ y₂ tx₂ ty₂ n₂ h₂ tk₂ a1 a2 a3 a4 a5 F₂ N₂
    k_unfold
    refine LCg.CompEnd.intro F₂ N₂ (G (P3 x₂ tx₂ y₂ ty₂ q n₂)) (fun _ h => h) (PS.off3 off) trivial ⟨x₂, tx₂, y₂, ty₂, n₂, zs ++ [d], rfl, IntsAre.append hz (.cons d t .nil), by simp [hzl], ?_, a3, by omega, by omega⟩
    intro z hz'
    rcases List.mem_append.mp hz' with e | e
    · exact hzb z e
    · rw [List.mem_singleton.mp e]; exact ⟨a1, a2⟩
  · rintro ys news ⟨x₁, tx₁, y₁, ty₁, n₁, zs, rfl, hz, hzl, hzb, hx₁, hy₁, hy₂⟩
    intro D h tk F₁ N₁ o1
    exact post D ys zs x₁ y₁ tx₁ ty₁ n₁ h tk hz (by rw [hzl]; exact hbn) hzb hx₁ hy₁ (by omega) F₁ N₁ o1
end Mine
namespace Mine
open PySem PySem.W PySem.Calls PyProof.Rows PySem.Spec
def newStmt : Stmt := nth turnBody 2
local macro_rules | `(tactic| walk_at "call ref") => `(tactic| (k_here; (with_reducible show wpAny _ _ (call (Value.ref 35) _) _ _ _); refine stop_of ?_))
local macro_rules | `(tactic| walk_at "pyIter ref") => `(tactic| (refine stop_of ?_))
local macro_rules | `(tactic| walk_at "CompSrc") => `(tactic| (refine stop_of ?_))
local macro_rules | `(tactic| walk_at "subscriptTail Name Name ref int") => `(tactic| (refine stop_of ?_))
local macro_rules | `(tactic| walk_at "eval Name") => `(tactic| (k_here; k_dflt (refine' nameX_L ?k1 ?k2 ?_; (case k1 => assumption); (case k2 => assumption); k_whole)))
local macro_rules | `(tactic| walk_at "eval Name") => `(tactic| (k_here; (with_reducible show wpAny _ _ (eval (Expr.Name _ _) (compEnvC _ _ _ _)) _ _ _); k_dflt (first
  | (refine' lcf_cell ?N ?c ?m ?d ?_ ?a ?b; (case a => rfl); (case b => rfl); (case N => assumption); (case c => rfl); (case m => assumption); (case d => assumption); k_whole)
  | (refine' lcf_free ?N ?c ?m ?d ?_ ?a ?b; (case a => rfl); (case b => rfl); (case N => assumption); (case c => rfl); (case m => assumption); (case d => assumption); k_whole))))

set_option maxRecDepth 100000 in
set_option maxHeartbeats 8000000 in
theorem comp_new {w : World} {A₀ : Around} {base h₀ : Heap} {outer : List Env} {m mg mb : Str → Option Value} {loose : List Str} {mean : ExcName → Option Value}
    {dp un : Nat} {gd : Option (List Code)} {s : Shared} {p q L fa cO cP D₀ : Addr} {cd : Value} {oP oO : Obj} {x y b : Int} {tx ty tb : Tok} {n k k₀ : Nat} {vs ys₀ : List Value} {ns zs₀ : List Int} {G : Obj → List (Addr × Obj)} {Q : Flow → Shared → Prop} {E : Value → Shared → Prop}
    (hdp : dp + 40 < recursionLimit) (hun : un + 40 < cLine)
    (B : Below A₀ base outer h₀) (F : Fr h₀ L s.heap m) (X : (hd.heap_39 w.params).In h₀) (T : Top hd.view_39 loose mean mg mb h₀)
    (PS : Pool p q cP oP vs k G) (N : News h₀ L s.heap (G (P3 x tx y ty q n)))
    (hO : ∀ o, (cO, oO) ∈ G o) (dO : oO.data = .cell (some (.ref D₀))) (hD : ∀ o, (D₀, PySem.W.listOf ys₀.toArray k₀) ∈ G o) (hI₀ : IntsAre ys₀ zs₀) (hz₀ : (zs₀.length : Int) = b) (hb₀ : ∀ z ∈ zs₀, (0 : Int) ≤ z ∧ z < 4)
    (hI : IntsAre vs ns) (hl0 : 0 < ns.length) (hl1 : ns.length ≤ 40) (hx : 0 ≤ x) (hy : 0 ≤ y) (hyb : y < 100000)
    (hbm : m (PySem.Str.ofString "bits") = some (.int b tb)) (hb0 : 1 ≤ b) (hb1 : b ≤ 4)
    (post : ∀ D ys zs x' y' tx' ty' n' h' tk, IntsAre ys zs → (zs.length : Int) = b → (∀ z ∈ zs, 0 ≤ z ∧ z < 4) → 0 ≤ x' → y ≤ y' → y' ≤ y + 8 → Fr h₀ L h' (fun z => if z = PySem.Str.ofString "new" then some (.ref D) else m z) → News h₀ L h' ((D, LCg.lst ys) :: G (P3 x' tx' y' ty' q n')) → LCg.Off1 D (G (P3 x' tx' y' ty' q n')) →
      Q .next { s with heap := h', toks := tk }) :
    wpAny (model PR w) (AA dp un gd (ENV L fa cd cO cP) outer) (exec newStmt (ENV L fa cd cO cP)) Q E s := by
  suffices hh : PySem.Challenge.rw_nn0290_01 = PySem.Challenge.rw_nn0290_01 → hd.heap_39 = hd.heap_39 → wpAny (model PR w) (AA dp un gd (ENV L fa cd cO cP) outer) (exec newStmt (ENV L fa cd cO cP)) Q E s from hh rfl rfl
  k_fill
  intro _ _
  unfold ENV newStmt lawScope turnBody lawBody lawDef PySem.Challenge.pw_nn0290_01
  dsimp only [nth, bodyOf, asgVal, scopeOf]
  refine LCg.Assign_ListComp_U (F₀ := F) (by rfl) (by with_unfolding_all rfl) (by with_unfolding_all rfl) (by decide) (by rfl) (by decide) (by rfl) (by rfl) (by rfl) ?_
  k_steps
  have hbn : ((b.toNat : Nat) : Int) = b := Int.toNat_of_nonneg (by omega)
  refine Stop.out (LCg.CompSrc.range (n := b.toNat) (by rfl) (by assumption) (by assumption) (by assumption) (small_one (by omega) (by omega) (by omega) (by omega)) ((rangeSize_nat 0 b).trans (by rw [Int.sub_zero])) (by rw [sizeLine_eq]; omega) ?_)
  intro g'
  refine comp_inv (fun i ys news => ∃ x' tx' y' ty' n' zs, news = G (P3 x' tx' y' ty' q n') ∧ IntsAre ys zs ∧ zs.length = i ∧ (∀ z ∈ zs, (0 : Int) ≤ z ∧ z < 4) ∧ 0 ≤ x' ∧ y ≤ y' ∧ y' ≤ y + 2 * (i : Int)) ⟨x, tx, y, ty, n, [], rfl, .nil, rfl, (fun _ h => nomatch h), hx, Int.le_refl _, by omega⟩ ?_ ?_
  · rintro i ys news v I oI C oC D m₂ h tk E' hi ⟨x₁, tx₁, y₁, ty₁, n₁, zs, rfl, hz, hzl, hzb, hx₁, hy₁, hy₂⟩ ⟨tv, rfl⟩ hC hmx F₁ N₁ off ne
    have hcm : (cP, oP) ∈ (I, oI) :: (C, oC) :: (D, LCg.lst ys) :: G (P3 x₁ tx₁ y₁ ty₁ q n₁) := .tail _ (.tail _ (.tail _ (PS.hc _)))
    have hdP := PS.dP
    clear post
    have hp3 := off.mem _ (updF_self (PS.U (P3 x₁ tx₁ y₁ ty₁ q n₁)) (P3 x₁ tx₁ y₁ ty₁ q n₁))
    have PS3 := ((PS.tail (z := (D, LCg.lst ys)) (Ne.symm hp3.2.2)).tail (z := (C, oC)) (Ne.symm hp3.2.1)).tail (z := (I, oI)) (Ne.symm hp3.1)
    k_steps
    refine Stop.out ?_
    refine draw_callU B F₁ X T N₁ (PS3.U _) (PS3.hq _) PS.ne hI hl0 hl1 hx₁ (by omega) (by omega) (.inl rfl) rfl rfl (by omega) (by omega) ?_
    intro d t x₂ y₂ tx₂ ty₂ n₂ h₂ tk₂ a1 a2 a3 a4 a5 F₂ N₂
    have hcm₂ : (cP, oP) ∈ (I, oI) :: (C, oC) :: (D, LCg.lst ys) :: G (P3 x₂ tx₂ y₂ ty₂ q n₂) := .tail _ (.tail _ (.tail _ (PS.hc _)))
    have hcO₂ : (cO, oO) ∈ (I, oI) :: (C, oC) :: (D, LCg.lst ys) :: G (P3 x₂ tx₂ y₂ ty₂ q n₂) := .tail _ (.tail _ (.tail _ (hO _)))
    have hD₂ : (D₀, PySem.W.listOf ys₀.toArray k₀) ∈ (I, oI) :: (C, oC) :: (D, LCg.lst ys) :: G (P3 x₂ tx₂ y₂ ty₂ q n₂) := .tail _ (.tail _ (.tail _ (hD _)))
    have hC₂ : (C, oC) ∈ (I, oI) :: (C, oC) :: (D, LCg.lst ys) :: G (P3 x₂ tx₂ y₂ ty₂ q n₂) := .tail _ (.head _)
    clear hcm
    (try k_unfold)
    (try dsimp only)
    (try k_fold)
    k_steps
    · refine Stop.out ?_
      refine draw_callU B F₂ X T N₂ (PS3.U _) (PS3.hq _) PS.ne hI hl0 hl1 a3 (by omega) (by omega) (.inr (.inl rfl)) rfl rfl (by omega) (by omega) ?_
      intro d' t' x₃ y₃ tx₃ ty₃ n₃ h₃ tk₃ c1 c2 c3 c4 c5 F₃ N₃
      k_unfold
      refine LCg.CompEnd.intro F₃ N₃ (G (P3 x₃ tx₃ y₃ ty₃ q n₃)) (fun _ h => h) (PS.off3 off) trivial ⟨x₃, tx₃, y₃, ty₃, n₃, zs ++ [d'], rfl, IntsAre.append hz (.cons d' t' .nil), by simp [hzl], ?_, c3, by omega, by omega⟩
      intro z hz'
      rcases List.mem_append.mp hz' with e | e
      · exact hzb z e
      · rw [List.mem_singleton.mp e]; exact ⟨c1, c2⟩
    · refine Stop.out ?_
      have hlt : (0 + (i : Int)) < (zs₀.length : Int) := by omega
      have hmem : zs₀.getD (0 + (i : Int)).toNat 0 ∈ zs₀ := by
        have hn : (0 + (i : Int)).toNat < zs₀.length := by omega
        rw [List.getD_eq_getElem?_getD, List.getElem?_eq_getElem hn]
        exact List.getElem_mem hn
      have hbd := hb₀ _ hmem
      refine ksa_sub N₂ hD₂ hI₀ (by omega) hlt (by omega) (fun t => ?_) (by with_unfolding_all rfl)
      k_unfold
      refine LCg.CompEnd.intro F₂ N₂ (G (P3 x₂ tx₂ y₂ ty₂ q n₂)) (fun _ h => h) (PS.off3 off) trivial ⟨x₂, tx₂, y₂, ty₂, n₂, zs ++ [_], rfl, IntsAre.append hz (.cons _ t .nil), by simp [hzl], ?_, a3, by omega, by omega⟩
      intro z hz'
      rcases List.mem_append.mp hz' with e | e
      · exact hzb z e
      · rw [List.mem_singleton.mp e]; exact hbd
  · rintro ys news ⟨x₁, tx₁, y₁, ty₁, n₁, zs, rfl, hz, hzl, hzb, hx₁, hy₁, hy₂⟩
    intro D h tk F₁ N₁ o1
    exact post D ys zs x₁ y₁ tx₁ ty₁ n₁ h tk hz (by rw [hzl]; exact hbn) hzb hx₁ hy₁ (by omega) F₁ N₁ o1
end Mine
namespace Mine
open PySem PySem.W PySem.Calls PyProof.Rows PySem.Spec
theorem allLt_mem {d : Addr} : ∀ {l : List (Addr × Obj)}, AllLt d l → ∀ z ∈ l, z.1 < d
  | [], _, _, h => nomatch h
  | _ :: _, x, z, h => by
    rcases List.mem_cons.mp h with rfl | h
    · exact x.1
    · exact allLt_mem x.2 z h
theorem news_first {h₀ h : Heap} {L : Addr} {a b c d e : Addr × Obj} {all : List (Addr × Obj)} (N : News h₀ L h (a :: b :: c :: d :: e :: all)) : News h₀ L h (a :: all) := by
  intro z hz
  rcases List.mem_cons.mp hz with rfl | hz
  · exact N _ (.head _)
  · exact N _ (.tail _ (.tail _ (.tail _ (.tail _ (.tail _ hz)))))
theorem mul_ok_pow {a : Int} {j : Nat} (h : j < 4) : IntMulOk a (2 ^ j) := by
  have e : j = 0 ∨ j = 1 ∨ j = 2 ∨ j = 3 := by omega
  rcases e with rfl | rfl | rfl | rfl <;> exact IntMulOk.of_right (by decide +kernel)
def lo (rz : List Int) : Int := ((rangeKs 0 rz.length).map fun k => (rz.getD k.toNat 0).fmod 2 * 2 ^ k.toNat).sum
def hi (rz : List Int) : Int := ((rangeKs 0 rz.length).map fun k => (rz.getD k.toNat 0).fdiv 2 * 2 ^ k.toNat).sum
abbrev tup3 (n a b : Int) (t1 t2 t3 : Tok) : Obj := { cls := .type "tuple", data := .seq #[.int n t1, .int a t2, .int b t3] }
local macro_rules | `(tactic| walk_at "binaryOp Mult int int") => `(tactic| (refine mul_int ?_ (hm := mul_ok_pow (by omega))))
set_option maxRecDepth 100000 in
set_option maxHeartbeats 8000000 in
theorem vec_callU {w : World} {A₀ : Around} {base h₀ : Heap} {outer : List Env} {m mg mb : Str → Option Value} {env : Env} {loose : List Str} {mean : ExcName → Option Value}
    {dp un : Nat} {gd : Option (List Code)} {s : Shared} {r L : Addr} {kr : Nat} {rv : List Value} {rz : List Int} {all : List (Addr × Obj)} {Q E : Value → Shared → Prop}
    (B : Below A₀ base outer h₀) (F : Fr h₀ L s.heap m) (X : (hd.heap_39 w.params).In h₀) (T : Top hd.view_39 loose mean mg mb h₀)
    (N : News h₀ L s.heap all) (hr : (r, PySem.W.listOf rv.toArray kr) ∈ all)
    (hI : IntsAre rv rz) (hl0 : 1 ≤ rz.length) (hl1 : rz.length ≤ 4) (hb : ∀ z ∈ rz, (0 : Int) ≤ z ∧ z < 4)
    (hf : env.frame = some L) (hke : env.scope.kind = .function) (hdp : dp + 20 < recursionLimit) (hun : un + 20 < cLine)
    (post : ∀ U t1 t2 t3 h' tk, (∀ z ∈ all, z.1 < U) → Fr h₀ L h' m → News h₀ L h' ((U, tup3 rz.length (lo rz) (hi rz) t1 t2 t3) :: all) → Q (.ref U) { s with heap := h', toks := tk }) :
    wpAny (model PR w) (AA dp un gd env outer) (call (.ref 40) [.ref r]) Q E s := by
  suffices hh : PySem.Challenge.rw_nn0290_01 = PySem.Challenge.rw_nn0290_01 → hd.heap_39 = hd.heap_39 → wpAny (model PR w) (AA dp un gd env outer) (call (.ref 40) [.ref r]) Q E s from hh rfl rfl
  k_fill
  intro _ _
  have NN : News h₀ L s.heap ((r, PySem.W.listOf rv.toArray kr) :: all) := by
    intro z hz
    rcases List.mem_cons.mp hz with rfl | hz
    · exact N _ hr
    · exact N z hz
  refine wpAny_call ?_
  refine' code_defC (binds := [(PySem.Str.ofString "row", Value.ref r)]) B F X NN T rfl hf hke ?a2 ?a3 ?a4 ?a5 ?a6 ?a7 ?_ ?a8 ?a9 ?a10
  case a2 => k_is
  case a3 => k_is
  case a4 => ktr_room
  case a5 => exact BindsTo.of_eq rfl
  case a6 => exact rfl
  case a7 => decide +kernel
  case a8 => rfl
  case a9 => rfl
  case a10 => rfl
  clear F N NN B X T
  intro g L' h₁ tk' cells' FG F' N' Y' B' X' T' hlt
  k_lt hlt
  k_cells Y'
  (try simp only [List.cons_append, List.nil_append] at N')
  (try dsimp only)
  (try k_fold)
  k_steps
  have e9 : ((rz.length : Int) - 0).toNat = rz.length := by omega
  rename _ ∧ _ => l₁
  rename News _ _ _ _ => N₁
  rw [e9] at N₁
  obtain ⟨-, -, -, -, l₁⟩ := l₁
  refine leaveK_ (by assumption) N₁ fun kF kN => ?_
  exact post _ _ _ _ _ _ (allLt_mem l₁) kF (news_first kN)
end Mine
namespace Mine
open PySem PySem.W PySem.Calls PyProof.Rows PySem.Spec
/-- the code of the lowest bit, as the walk tells it -/
def cod (a b : Int) : Int := Builtin.bitAnd (a.fdiv (2 ^ Int.toNat 0)) 1 + 2 * Builtin.bitAnd (b.fdiv (2 ^ Int.toNat 0)) 1
def hitS (e : String) (n₁ a₁ b₁ n₂ a₂ b₂ : Int) : Bool :=
  if e = "any" then !(n₁ == n₂ && (a₁ == a₂ && b₁ == b₂)) else if cod a₁ b₁ = cod a₂ b₂ then false else if e = "pos" then (cod a₁ b₁ == 0 || cod a₂ b₂ == 1) else (cod a₁ b₁ == 1 || cod a₂ b₂ == 0)
section
variable {n₁ a₁ b₁ n₂ a₂ b₂ : Int}
theorem hit_any : (!(n₁ == n₂ && (a₁ == a₂ && b₁ == b₂))) = hitS "any" n₁ a₁ b₁ n₂ a₂ b₂ := by simp [hitS]
theorem hit_pos (h : cod a₁ b₁ = cod a₂ b₂) : false = hitS "pos" n₁ a₁ b₁ n₂ a₂ b₂ := by simp [hitS, h]
theorem hit_neg (h : cod a₁ b₁ = cod a₂ b₂) : false = hitS "neg" n₁ a₁ b₁ n₂ a₂ b₂ := by simp [hitS, h]
theorem hit_pos0 (h : cod a₁ b₁ ≠ cod a₂ b₂) (h0 : cod a₁ b₁ = 0) : (cod a₁ b₁ == 0) = hitS "pos" n₁ a₁ b₁ n₂ a₂ b₂ := by simp [hitS, h, h0]; intro e; exact absurd (h0.trans e) h
theorem hit_pos1 (h : cod a₁ b₁ ≠ cod a₂ b₂) (h0 : cod a₁ b₁ ≠ 0) : (cod a₂ b₂ == 1) = hitS "pos" n₁ a₁ b₁ n₂ a₂ b₂ := by simp [hitS, h, h0]
theorem hit_neg0 (h : cod a₁ b₁ ≠ cod a₂ b₂) (h0 : cod a₁ b₁ = 1) : (cod a₁ b₁ == 1) = hitS "neg" n₁ a₁ b₁ n₂ a₂ b₂ := by simp [hitS, h, h0]; intro e; exact absurd (h0.trans e) h
theorem hit_neg1 (h : cod a₁ b₁ ≠ cod a₂ b₂) (h0 : cod a₁ b₁ ≠ 1) : (cod a₂ b₂ == 0) = hitS "neg" n₁ a₁ b₁ n₂ a₂ b₂ := by simp [hitS, h, h0]
end
local macro_rules | `(tactic| walk_at "compareOp NotEq ref ref") => `(tactic| (refine stop_of ?_))
local macro_rules | `(tactic| walk_at "call ref") => `(tactic| (k_here; (with_reducible show wpAny _ _ (call (Value.ref 21) _) _ _ _); (refine wpAny_call ?_); k_dflt (refine' code_def ?k1 ?k2 ?k3 ?k4 ?k5 ?kA ?kF ?kK ?k6 ?k7 ?k8 ?k9 ?kB ?_ ?c2 ?c3 ?c4 ?c5; (case kA => exact rfl); (case kF => exact rfl); (case kK => exact rfl); (case k1 => k_asm); (case k2 => k_asm); (case k3 => k_asm); (case k4 => k_asm); (case k5 => k_asm); (case k6 => k_is); (case k7 => k_is); (case k8 => ktr_room); (case k9 => exact BindsTo.of_eq rfl); (case c5 => decide); (case kB => exact locs rfl); (case c2 => exact rfl); (case c3 => exact rfl); (case c4 => exact rfl); k_whole; intro g' L' h' FG' F' N' B' X' T'; (try dsimp only); (try k_lift B'); (try k_fold))))
set_option maxRecDepth 100000 in
set_option maxHeartbeats 8000000 in
theorem hit_callU {w : World} {A₀ : Around} {base h₀ : Heap} {outer : List Env} {m mg mb : Str → Option Value} {env : Env} {loose : List Str} {mean : ExcName → Option Value}
    {dp un : Nat} {gd : Option (List Code)} {s : Shared} {T₁ T₂ L : Addr} {n₁ a₁ b₁ n₂ a₂ b₂ : Int} {t1 t2 t3 t4 t5 t6 te : Tok} {e : String} {all : List (Addr × Obj)} {Q E : Value → Shared → Prop}
    (B : Below A₀ base outer h₀) (F : Fr h₀ L s.heap m) (X : (hd.heap_39 w.params).In h₀) (T : Top hd.view_39 loose mean mg mb h₀)
    (N : News h₀ L s.heap all) (m1 : (T₁, tup3 n₁ a₁ b₁ t1 t2 t3) ∈ all) (m2 : (T₂, tup3 n₂ a₂ b₂ t4 t5 t6) ∈ all) (hne : @Ne Nat T₁ T₂)
    (he : e = "any" ∨ e = "pos" ∨ e = "neg") (h1 : 0 ≤ a₁) (h2 : 0 ≤ b₁) (h3 : 0 ≤ a₂) (h4 : 0 ≤ b₂) (h5 : a₁ < 16) (h6 : b₁ < 16) (h7 : a₂ < 16) (h8 : b₂ < 16)
    (hf : env.frame = some L) (hke : env.scope.kind = .function) (hdp : dp + 20 < recursionLimit) (hun : un + 100 < cLine)
    (post : ∀ h' tk, Fr h₀ L h' m → News h₀ L h' all → Q (.bool (hitS e n₁ a₁ b₁ n₂ a₂ b₂)) { s with heap := h', toks := tk }) :
    wpAny (model PR w) (AA dp un gd env outer) (call (.ref 28) [.str (PySem.Str.ofString e) te, .ref T₁, .ref T₂]) Q E s := by
  suffices hh : PySem.Challenge.rw_nn0290_01 = PySem.Challenge.rw_nn0290_01 → hd.heap_39 = hd.heap_39 → wpAny (model PR w) (AA dp un gd env outer) (call (.ref 28) [.str (PySem.Str.ofString e) te, .ref T₁, .ref T₂]) Q E s from hh rfl rfl
  k_fill
  intro _ _
  have NN : News h₀ L s.heap ((T₁, tup3 n₁ a₁ b₁ t1 t2 t3) :: (T₂, tup3 n₂ a₂ b₂ t4 t5 t6) :: all) := by
    intro z hz
    rcases List.mem_cons.mp hz with rfl | hz
    · exact N _ m1
    rcases List.mem_cons.mp hz with rfl | hz
    · exact N _ m2
    · exact N z hz
  have fin : ∀ {v : Value} {h' : Heap} {tk : Nat}, v = .bool (hitS e n₁ a₁ b₁ n₂ a₂ b₂) → Fr h₀ L h' m → News h₀ L h' ((T₁, tup3 n₁ a₁ b₁ t1 t2 t3) :: (T₂, tup3 n₂ a₂ b₂ t4 t5 t6) :: all) → Q v { s with heap := h', toks := tk } := by
    rintro v h' tk rfl F' N'
    exact post h' tk F' fun z hz => N' z (.tail _ (.tail _ hz))
  refine wpAny_call ?_
  refine' code_def (binds := [(PySem.Str.ofString "edge", Value.str (PySem.Str.ofString e) te), (PySem.Str.ofString "old", Value.ref T₁), (PySem.Str.ofString "new", Value.ref T₂)]) B F X NN T rfl hf hke ?a2 ?a3 ?a4 ?a5 ?a6 ?_ ?a8 ?a9 ?a10 ?a7
  case a2 => k_is
  case a3 => k_is
  case a4 => ktr_room
  case a5 => exact BindsTo.of_eq rfl
  case a6 => exact locs rfl
  case a7 => decide
  case a8 => rfl
  case a9 => rfl
  case a10 => rfl
  clear post F N NN B X T
  intro g L' h₁ FG F' N' B' X' T'
  (try dsimp only)
  rcases he with rfl | rfl | rfl
  all_goals (try k_fold)
  all_goals k_steps
  · refine Stop.out ?_
    refine ne_dataH (by ke_read) (by ke_read) (by ke_shaped) (by ke_shaped) (by ktr_units) ?_
    ke_norm
    k_steps
    exact leaveK_ (by assumption) (by assumption) fun kF kN => fin (congrArg Value.bool hit_any) kF kN
  all_goals (try dsimp only)
  all_goals (try k_unfold)
  all_goals (try dsimp only)
  all_goals (refine leaveK_ (by assumption) (by assumption) fun kF kN => fin (congrArg Value.bool ?_) kF kN)
  all_goals (first | exact hit_pos (by assumption) | exact hit_neg (by assumption) | exact hit_pos0 (by assumption) (by assumption) | exact hit_pos1 (by assumption) (by assumption) | exact hit_neg0 (by assumption) (by assumption) | exact hit_neg1 (by assumption) (by assumption))
end Mine
namespace Mine
open PySem PySem.W PySem.Calls PyProof.Rows PySem.Spec
theorem len_cases {rz : List Int} (h0 : 1 ≤ rz.length) (h1 : rz.length ≤ 4) : (∃ a, rz = [a]) ∨ (∃ a b, rz = [a, b]) ∨ (∃ a b c, rz = [a, b, c]) ∨ ∃ a b c d, rz = [a, b, c, d] := by
  match rz, h0, h1 with
  | [a], _, _ => exact .inl ⟨a, rfl⟩
  | [a, b], _, _ => exact .inr (.inl ⟨a, b, rfl⟩)
  | [a, b, c], _, _ => exact .inr (.inr (.inl ⟨a, b, c, rfl⟩))
  | [a, b, c, d], _, _ => exact .inr (.inr (.inr ⟨a, b, c, d, rfl⟩))
theorem fm2 (a : Int) : a.fmod 2 = a % 2 := Int.fmod_eq_emod_of_nonneg a (by decide)
theorem fd2 (a : Int) : a.fdiv 2 = a / 2 := Int.fdiv_eq_ediv_of_nonneg a (by decide)
theorem lo1 (a : Int) : lo [a] = a % 2 := by rw [← fm2]; show a.fmod 2 * 2 ^ 0 + 0 = _; omega
theorem lo2 (a b : Int) : lo [a, b] = a % 2 + b % 2 * 2 := by rw [← fm2, ← fm2]; show a.fmod 2 * 2 ^ 0 + (b.fmod 2 * 2 ^ 1 + 0) = _; omega
theorem lo3 (a b c : Int) : lo [a, b, c] = a % 2 + b % 2 * 2 + c % 2 * 4 := by rw [← fm2, ← fm2, ← fm2]; show a.fmod 2 * 2 ^ 0 + (b.fmod 2 * 2 ^ 1 + (c.fmod 2 * 2 ^ 2 + 0)) = _; omega
theorem lo4 (a b c d : Int) : lo [a, b, c, d] = a % 2 + b % 2 * 2 + c % 2 * 4 + d % 2 * 8 := by rw [← fm2, ← fm2, ← fm2, ← fm2]; show a.fmod 2 * 2 ^ 0 + (b.fmod 2 * 2 ^ 1 + (c.fmod 2 * 2 ^ 2 + (d.fmod 2 * 2 ^ 3 + 0))) = _; omega
theorem hi1 (a : Int) : hi [a] = a / 2 := by rw [← fd2]; show a.fdiv 2 * 2 ^ 0 + 0 = _; omega
theorem hi2 (a b : Int) : hi [a, b] = a / 2 + b / 2 * 2 := by rw [← fd2, ← fd2]; show a.fdiv 2 * 2 ^ 0 + (b.fdiv 2 * 2 ^ 1 + 0) = _; omega
theorem hi3 (a b c : Int) : hi [a, b, c] = a / 2 + b / 2 * 2 + c / 2 * 4 := by rw [← fd2, ← fd2, ← fd2]; show a.fdiv 2 * 2 ^ 0 + (b.fdiv 2 * 2 ^ 1 + (c.fdiv 2 * 2 ^ 2 + 0)) = _; omega
theorem hi4 (a b c d : Int) : hi [a, b, c, d] = a / 2 + b / 2 * 2 + c / 2 * 4 + d / 2 * 8 := by rw [← fd2, ← fd2, ← fd2, ← fd2]; show a.fdiv 2 * 2 ^ 0 + (b.fdiv 2 * 2 ^ 1 + (c.fdiv 2 * 2 ^ 2 + (d.fdiv 2 * 2 ^ 3 + 0))) = _; omega

/-- a vector's two ints, bounded, and its lowest bit -/
theorem vec_facts {rz : List Int} (h0 : 1 ≤ rz.length) (h1 : rz.length ≤ 4) (hb : ∀ z ∈ rz, (0 : Int) ≤ z ∧ z < 4) :
    0 ≤ lo rz ∧ lo rz < 16 ∧ 0 ≤ hi rz ∧ hi rz < 16 ∧ lo rz % 2 = rz.getD 0 0 % 2 ∧ hi rz % 2 = rz.getD 0 0 / 2 := by
  rcases len_cases h0 h1 with ⟨a, rfl⟩ | ⟨a, b, rfl⟩ | ⟨a, b, c, rfl⟩ | ⟨a, b, c, d, rfl⟩
  · have ha := hb a (by simp)
    rw [lo1, hi1]
    show 0 ≤ a % 2 ∧ _ ∧ _ ∧ _ ∧ _ % 2 = a % 2 ∧ _ % 2 = a / 2
    omega
  · have ha := hb a (by simp)
    have hb' := hb b (by simp)
    rw [lo2, hi2]
    show 0 ≤ _ ∧ _ ∧ _ ∧ _ ∧ _ % 2 = a % 2 ∧ _ % 2 = a / 2
    omega
  · have ha := hb a (by simp)
    have hb' := hb b (by simp)
    have hc := hb c (by simp)
    rw [lo3, hi3]
    show 0 ≤ _ ∧ _ ∧ _ ∧ _ ∧ _ % 2 = a % 2 ∧ _ % 2 = a / 2
    omega
  · have ha := hb a (by simp)
    have hb' := hb b (by simp)
    have hc := hb c (by simp)
    have hd' := hb d (by simp)
    rw [lo4, hi4]
    show 0 ≤ _ ∧ _ ∧ _ ∧ _ ∧ _ % 2 = a % 2 ∧ _ % 2 = a / 2
    omega

theorem vec_inj {rz sz : List Int} (h0 : 1 ≤ rz.length) (h1 : rz.length ≤ 4) (hl : rz.length = sz.length) (hb : ∀ z ∈ rz, (0 : Int) ≤ z ∧ z < 4) (hc : ∀ z ∈ sz, (0 : Int) ≤ z ∧ z < 4) (e1 : lo rz = lo sz) (e2 : hi rz = hi sz) : rz = sz := by
  rcases len_cases h0 h1 with ⟨a, rfl⟩ | ⟨a, b, rfl⟩ | ⟨a, b, c, rfl⟩ | ⟨a, b, c, d, rfl⟩
  · match sz, hl with
    | [a'], _ =>
      have ha := hb a (by simp)
      have ha' := hc a' (by simp)
      rw [lo1, lo1] at e1
      rw [hi1, hi1] at e2
      have : a = a' := by omega
      rw [this]
  · match sz, hl with
    | [a', b'], _ =>
      have ha := hb a (by simp)
      have ha' := hc a' (by simp)
      have hb2 := hb b (by simp)
      have hb2' := hc b' (by simp)
      rw [lo2, lo2] at e1
      rw [hi2, hi2] at e2
      have e3 : a = a' := by omega
      have e4 : b = b' := by omega
      rw [e3, e4]
  · match sz, hl with
    | [a', b', c'], _ =>
      have ha := hb a (by simp)
      have ha' := hc a' (by simp)
      have hb2 := hb b (by simp)
      have hb2' := hc b' (by simp)
      have hc2 := hb c (by simp)
      have hc2' := hc c' (by simp)
      rw [lo3, lo3] at e1
      rw [hi3, hi3] at e2
      have e3 : a = a' := by omega
      have e4 : b = b' := by omega
      have e5 : c = c' := by omega
      rw [e3, e4, e5]
  · match sz, hl with
    | [a', b', c', d'], _ =>
      have ha := hb a (by simp)
      have ha' := hc a' (by simp)
      have hb2 := hb b (by simp)
      have hb2' := hc b' (by simp)
      have hc2 := hb c (by simp)
      have hc2' := hc c' (by simp)
      have hd2 := hb d (by simp)
      have hd2' := hc d' (by simp)
      rw [lo4, lo4] at e1
      rw [hi4, hi4] at e2
      have e3 : a = a' := by omega
      have e4 : b = b' := by omega
      have e5 : c = c' := by omega
      have e6 : d = d' := by omega
      rw [e3, e4, e5, e6]

theorem bit_one {x : Int} (h0 : 0 ≤ x) (h1 : x < 16) : Builtin.bitAnd (x.fdiv (2 ^ Int.toNat 0)) 1 = x % 2 := by
  have key : ∀ n : Fin 16, Builtin.bitAnd (((n.val : Nat) : Int).fdiv (2 ^ Int.toNat 0)) 1 = ((n.val : Nat) : Int) % 2 := by decide +kernel
  have := key ⟨x.toNat, by omega⟩
  simpa [Int.toNat_of_nonneg h0] using this
theorem cod_vec {rz : List Int} (h0 : 1 ≤ rz.length) (h1 : rz.length ≤ 4) (hb : ∀ z ∈ rz, (0 : Int) ≤ z ∧ z < 4) : cod (lo rz) (hi rz) = rz.getD 0 0 := by
  obtain ⟨a1, a2, a3, a4, a5, a6⟩ := vec_facts h0 h1 hb
  unfold cod
  rw [bit_one a1 a2, bit_one a3 a4, a5, a6]
  omega
/-- the order of the law: 0, then x and z, then 1 -/
def ordr (k : Int) : Int := if k = 0 then 0 else if k = 1 then 2 else 1
section
variable {rz sz : List Int}
theorem law_any (h0 : 1 ≤ rz.length) (h1 : rz.length ≤ 4) (hl : rz.length = sz.length) (hb : ∀ z ∈ rz, (0 : Int) ≤ z ∧ z < 4) (hc : ∀ z ∈ sz, (0 : Int) ≤ z ∧ z < 4) :
    hitS "any" rz.length (lo rz) (hi rz) sz.length (lo sz) (hi sz) = !decide (rz = sz) := by
  rw [← hit_any]
  congr 1
  by_cases e : rz = sz
  · subst e; simp
  · rw [decide_eq_false e]
    cases q : (((rz.length : Int) == (sz.length : Int)) && (lo rz == lo sz && hi rz == hi sz)) with
    | false => rfl
    | true =>
      simp only [Bool.and_eq_true, beq_iff_eq] at q
      exact absurd (vec_inj h0 h1 hl hb hc q.2.1 q.2.2) e
theorem law_pos (h0 : 1 ≤ rz.length) (h1 : rz.length ≤ 4) (hl : rz.length = sz.length) (hb : ∀ z ∈ rz, (0 : Int) ≤ z ∧ z < 4) (hc : ∀ z ∈ sz, (0 : Int) ≤ z ∧ z < 4) {n₁ n₂ : Int} :
    hitS "pos" n₁ (lo rz) (hi rz) n₂ (lo sz) (hi sz) = decide (ordr (sz.getD 0 0) > ordr (rz.getD 0 0)) := by
  have k1 := cod_vec h0 h1 hb
  have k2 := cod_vec (hl ▸ h0) (hl ▸ h1) hc
  have b1 : 0 ≤ rz.getD 0 0 ∧ rz.getD 0 0 < 4 := hb _ (by rw [List.getD_eq_getElem?_getD, List.getElem?_eq_getElem (by omega)]; exact List.getElem_mem (by omega))
  have b2 : 0 ≤ sz.getD 0 0 ∧ sz.getD 0 0 < 4 := hc _ (by rw [List.getD_eq_getElem?_getD, List.getElem?_eq_getElem (by omega)]; exact List.getElem_mem (by omega))
  unfold hitS
  rw [k1, k2, if_neg (by decide : ¬ ("pos" = "any"))]
  generalize rz.getD 0 0 = u at *
  generalize sz.getD 0 0 = v at *
  have c1 : u = 0 ∨ u = 1 ∨ u = 2 ∨ u = 3 := by omega
  have c2 : v = 0 ∨ v = 1 ∨ v = 2 ∨ v = 3 := by omega
  rcases c1 with rfl | rfl | rfl | rfl <;> rcases c2 with rfl | rfl | rfl | rfl <;> decide
theorem law_neg (h0 : 1 ≤ rz.length) (h1 : rz.length ≤ 4) (hl : rz.length = sz.length) (hb : ∀ z ∈ rz, (0 : Int) ≤ z ∧ z < 4) (hc : ∀ z ∈ sz, (0 : Int) ≤ z ∧ z < 4) {n₁ n₂ : Int} :
    hitS "neg" n₁ (lo rz) (hi rz) n₂ (lo sz) (hi sz) = decide (ordr (sz.getD 0 0) < ordr (rz.getD 0 0)) := by
  have k1 := cod_vec h0 h1 hb
  have k2 := cod_vec (hl ▸ h0) (hl ▸ h1) hc
  have b1 : 0 ≤ rz.getD 0 0 ∧ rz.getD 0 0 < 4 := hb _ (by rw [List.getD_eq_getElem?_getD, List.getElem?_eq_getElem (by omega)]; exact List.getElem_mem (by omega))
  have b2 : 0 ≤ sz.getD 0 0 ∧ sz.getD 0 0 < 4 := hc _ (by rw [List.getD_eq_getElem?_getD, List.getElem?_eq_getElem (by omega)]; exact List.getElem_mem (by omega))
  unfold hitS
  rw [k1, k2, if_neg (by decide : ¬ ("neg" = "any"))]
  generalize rz.getD 0 0 = u at *
  generalize sz.getD 0 0 = v at *
  have c1 : u = 0 ∨ u = 1 ∨ u = 2 ∨ u = 3 := by omega
  have c2 : v = 0 ∨ v = 1 ∨ v = 2 ∨ v = 3 := by omega
  rcases c1 with rfl | rfl | rfl | rfl <;> rcases c2 with rfl | rfl | rfl | rfl <;> decide
end
end Mine
namespace Mine
open PySem PySem.W PySem.Calls PyProof.Rows PySem.Spec
local macro_rules | `(tactic| walk_at "call ref") => `(tactic| (k_here; (with_reducible show wpAny _ _ (call (Value.ref 40) _) _ _ _); refine stop_of ?_))
local macro_rules | `(tactic| walk_at "call ref") => `(tactic| (k_here; (with_reducible show wpAny _ _ (call (Value.ref 28) _) _ _ _); refine stop_of ?_))

theorem map_three {x y z : Str} {a b c : Value} {m : Str → Option Value} (h1 : m x = some a) (h2 : m y = some b) (h3 : m z = some c) : m = fun u => if u = x then some a else if u = y then some b else if u = z then some c else m u := by
  funext u
  by_cases e1 : u = x
  · rw [if_pos e1, e1, h1]
  · rw [if_neg e1]
    by_cases e2 : u = y
    · rw [if_pos e2, e2, h2]
    · rw [if_neg e2]
      by_cases e3 : u = z
      · rw [if_pos e3, e3, h3]
      · rw [if_neg e3]
/-- the law's table of order, as its dict bears it -/
abbrev ordK (t0 t1 t2 t3 : Tok) : List (Int × Value) := [(0, .int 0 t0), (1, .int 2 t1), (2, .int 1 t2), (3, .int 1 t3)]
theorem ord_value {u : Int} {t0 t1 t2 t3 : Tok} (h0 : 0 ≤ u) (h1 : u < 4) : ∃ t, valueAt (ordK t0 t1 t2 t3) u = some (.int (ordr u) t) := by
  have c : u = 0 ∨ u = 1 ∨ u = 2 ∨ u = 3 := by omega
  rcases c with rfl | rfl | rfl | rfl
  · exact ⟨t0, rfl⟩
  · exact ⟨t1, rfl⟩
  · exact ⟨t2, rfl⟩
  · exact ⟨t3, rfl⟩
theorem ord_item {prog : Program} {w : World} {A : Around} {E : Value → Shared → Prop} {s : Shared} {h₀ : Heap} {L d : Addr} {news : List (Addr × Obj)} {o : Obj} {u : Int} {tu t0 t1 t2 t3 : Tok} {value slice : PySem.Expr} {Q : Value → Shared → Prop}
    (N : News h₀ L s.heap news) (hp : (d, o) ∈ news) (hd : o.IsDictOf (intKind prog w) (ordK t0 t1 t2 t3)) (h0 : 0 ≤ u) (h1 : u < 4) (h : ∀ t, Q (.int (ordr u) t) { s with toks := s.toks + 1 })
    (hs : subscripted slice false (.ref d) (.int u tu) = operate [.ref d, .int u tu] (getItem (.ref d) (.int u tu)) := by with_unfolding_all rfl) (hg : ∀ r, letTemporaryGo value (.ref d) r = pure () := by intro _; with_unfolding_all rfl) :
    wpAny (model prog w) A (subscriptTail value slice (.ref d) (.int u tu)) Q E s := by
  obtain ⟨t, e⟩ := ord_value (t0 := t0) (t1 := t1) (t2 := t2) (t3 := t3) h0 h1
  exact kda_item N hp hd (intKind_is _ _ _ _) e (h t) hs hg
local macro_rules | `(tactic| walk_at "subscriptTail Name Subscript ref int") => `(tactic| (k_here; k_dflt (refine' ord_item ?N ?m ?d ?h0 ?h1 ?_ ?hs ?hg; (case N => assumption); (case m => k_mem); (case d => assumption); (case h0 => assumption); (case h1 => assumption); (case hs => with_unfolding_all rfl); (case hg => intro _; with_unfolding_all rfl); k_whole); intro _))
theorem bne_self (b : Bool) : ¬ (b != b) = true := by cases b <;> decide
abbrev LO (D : Addr) (ys : List Value) : Addr × Obj := (D, PySem.W.listOf ys.toArray ys.length)
set_option maxRecDepth 100000 in
set_option maxHeartbeats 8000000 in
theorem edge_turn {w : World} {A₀ : Around} {base h₀ : Heap} {outer : List Env} {m mg mb : Str → Option Value} {loose : List Str} {mean : ExcName → Option Value}
    {dp un : Nat} {gd : Option (List Code)} {s : Shared} {L fa cO cP D₀ D₁ O : Addr} {cd : Value} {oO dO' : Obj} {ys₀ ys₁ : List Value} {zs₀ zs₁ : List Int} {more : List (Addr × Obj)} {Q : Flow → Shared → Prop} {e : String} {te : Tok}
    (hdp : dp + 60 < recursionLimit) (hun : un + 140 < cLine)
    (B : Below A₀ base outer h₀) (F : Fr h₀ L s.heap m) (X : (hd.heap_39 w.params).In h₀) (T : Top hd.view_39 loose mean mg mb h₀)
    (N : News h₀ L s.heap ((O, dO') :: LO D₁ ys₁ :: LO D₀ ys₀ :: (cO, oO) :: more))
    {t0 t1 t2 t3 : Tok} (hdo : dO'.IsDictOf (intKind PR w) (ordK t0 t1 t2 t3))
    (dO : oO.data = .cell (some (.ref D₀)))
    (hI₀ : IntsAre ys₀ zs₀) (hI₁ : IntsAre ys₁ zs₁) (hl0 : 1 ≤ zs₀.length) (hl1 : zs₀.length ≤ 4) (hll : zs₀.length = zs₁.length) (hb₀ : ∀ z ∈ zs₀, (0 : Int) ≤ z ∧ z < 4) (hb₁ : ∀ z ∈ zs₁, (0 : Int) ≤ z ∧ z < 4)
    (hmn : m (PySem.Str.ofString "new") = some (.ref D₁)) (hmo : m (PySem.Str.ofString "order_of") = some (.ref O)) (hme : m (PySem.Str.ofString "edge") = some (.str (PySem.Str.ofString e) te))
    (he : e = "any" ∨ e = "pos" ∨ e = "neg")
    (post : ∀ m' h' tk, m' (PySem.Str.ofString "new") = some (.ref D₁) → m' (PySem.Str.ofString "order_of") = some (.ref O) → Fr h₀ L h' m' → News h₀ L h' ((O, dO') :: LO D₁ ys₁ :: LO D₀ ys₀ :: (cO, oO) :: more) → Q .next { s with heap := h', toks := tk }) :
    wpAny (model PR w) (AA dp un gd (ENV L fa cd cO cP) outer) (execs edgeBody (ENV L fa cd cO cP)) Q (fun _ _ => False) s := by
  suffices hh : PySem.Challenge.rw_nn0290_01 = PySem.Challenge.rw_nn0290_01 → hd.heap_39 = hd.heap_39 → wpAny (model PR w) (AA dp un gd (ENV L fa cd cO cP) outer) (execs edgeBody (ENV L fa cd cO cP)) Q (fun _ _ => False) s from hh rfl rfl
  k_fill
  intro _ _
  unfold ENV lawScope edgeBody turnBody lawBody lawDef PySem.Challenge.pw_nn0290_01
  dsimp only [nth, bodyOf, asgVal, scopeOf]
  obtain ⟨v1, v2, v3, v4, -, -⟩ := vec_facts hl0 hl1 hb₀
  obtain ⟨v5, v6, v7, v8, -, -⟩ := vec_facts (hll ▸ hl0) (hll ▸ hl1) hb₁
  rw [map_three hme hmo hmn] at F
  clear hme hmo hmn
  have hz0 : 0 ≤ zs₀.getD (Int.toNat 0) 0 ∧ zs₀.getD (Int.toNat 0) 0 < 4 := hb₀ _ (by rw [List.getD_eq_getElem?_getD, List.getElem?_eq_getElem (by show 0 < _; omega)]; exact List.getElem_mem _)
  have hz1 : 0 ≤ zs₁.getD (Int.toNat 0) 0 ∧ zs₁.getD (Int.toNat 0) 0 < 4 := hb₁ _ (by rw [List.getD_eq_getElem?_getD, List.getElem?_eq_getElem (by show 0 < _; omega)]; exact List.getElem_mem _)
  obtain ⟨hz00, hz01⟩ := hz0
  obtain ⟨hz10, hz11⟩ := hz1
  rcases he with rfl | rfl | rfl
  all_goals (try k_fold)
  all_goals k_steps
  all_goals (refine Stop.out ?_; refine vec_callU (rz := zs₀) (rv := ys₀) (kr := ys₀.length) B (by assumption) X T (by assumption) (by k_mem) hI₀ hl0 hl1 hb₀ rfl rfl (by omega) (by omega) ?_; intro U₀ t1' t2' t3' h₁ tk₁ hU₀ F₁ N₁; (try k_unfold); (try dsimp only); (try k_fold); k_steps)
  all_goals (refine Stop.out ?_; refine vec_callU (rz := zs₁) (rv := ys₁) (kr := ys₁.length) B F₁ X T N₁ (by k_mem) hI₁ (by omega) (by omega) hb₁ rfl rfl (by omega) (by omega) ?_; intro U₁ u1' u2' u3' h₂ tk₂ hU₁ F₂ N₂; clear F₁ N₁; (try k_unfold); (try dsimp only); (try k_fold); k_steps)
  all_goals (refine Stop.out ?_; refine hit_callU B F₂ X T N₂ (.tail _ (.head _)) (.head _) (Nat.ne_of_lt (hU₁ _ (.head _))) (by simp) v1 v3 v5 v7 v2 v4 v6 v8 rfl rfl (by omega) (by omega) ?_; intro h₃ tk₃ F₃ N₃; clear F₂ N₂; (try k_unfold); (try dsimp only))
  · have e1 : hitS "any" zs₀.length (lo zs₀) (hi zs₀) zs₁.length (lo zs₁) (hi zs₁) = !decide (zs₀ = zs₁) := law_any hl0 hl1 hll hb₀ hb₁
    rw [e1]
    generalize (!decide (zs₀ = zs₁)) = b at *
    (try k_fold)
    k_steps
    · exact absurd (by assumption) (bne_self b)
    · exact post _ _ _ (by rfl) (by rfl) F₃ (fun z hz => N₃ z (.tail _ (.tail _ hz)))
  · have e1 : hitS "pos" zs₀.length (lo zs₀) (hi zs₀) zs₁.length (lo zs₁) (hi zs₁) = decide (ordr (zs₁.getD (Int.toNat 0) 0) > ordr (zs₀.getD (Int.toNat 0) 0)) := law_pos hl0 hl1 hll hb₀ hb₁
    rw [e1]
    generalize decide (ordr (zs₁.getD (Int.toNat 0) 0) > ordr (zs₀.getD (Int.toNat 0) 0)) = b at *
    (try k_fold)
    k_steps
    · exact absurd (by assumption) (bne_self b)
    · exact post _ _ _ (by rfl) (by rfl) F₃ (fun z hz => N₃ z (.tail _ (.tail _ hz)))
  · have e1 : hitS "neg" zs₀.length (lo zs₀) (hi zs₀) zs₁.length (lo zs₁) (hi zs₁) = decide (ordr (zs₁.getD (Int.toNat 0) 0) < ordr (zs₀.getD (Int.toNat 0) 0)) := law_neg hl0 hl1 hll hb₀ hb₁
    rw [e1]
    generalize decide (ordr (zs₁.getD (Int.toNat 0) 0) < ordr (zs₀.getD (Int.toNat 0) 0)) = b at *
    (try k_fold)
    k_steps
    · exact absurd (by assumption) (bne_self b)
    · exact post _ _ _ (by rfl) (by rfl) F₃ (fun z hz => N₃ z (.tail _ (.tail _ hz)))
end Mine
namespace Mine
open PySem PySem.W PySem.Calls PyProof.Rows PySem.Spec
section
variable {prog : Program} {w : World} {A : Around} {E : Value → Shared → Prop} {s : Shared} {env : Env} {h₀ : Heap} {x : Str} {body : List Stmt} {Q : Flow → Shared → Prop}
/-- a turn's end: on, the ledger's own part as J says, the rest as it stood -/
def TurnEnd (h₀ : Heap) (L : Addr) (s : Shared) (own : List (Addr × Obj)) (J : (Str → Option Value) → List (Addr × Obj) → Prop) (f : Flow) (s' : Shared) : Prop :=
  f = .next ∧ ∃ h' tk m' nx, s' = { s with heap := h', toks := tk } ∧ Fr h₀ L h' m' ∧ News h₀ L h' (nx ++ own) ∧ J m' nx
theorem TurnEnd.post {L : Addr} {own : List (Addr × Obj)} {J : (Str → Option Value) → List (Addr × Obj) → Prop} {adr : List Addr} (hJ : ∀ m' nx, J m' nx → nx.map (·.1) = adr) {f : Flow} {s' : Shared} (h : TurnEnd h₀ L s own J f s') : InvPostN h₀ L J own adr s Q f s' := by
  obtain ⟨rfl, h', tk, m', nx, rfl, F, N, hj⟩ := h
  exact InvEndN.intro F N hj (hJ _ _ hj) (fun _ hp => List.mem_append_left _ hp) fun _ hp => List.mem_append_right _ hp

/-- a loop over a list that the ledger bears ahead of the rest -/
theorem iter_led {l : Addr} {vs : List Value} {k : Nat} {m₀ : Str → Option Value} {news : List (Addr × Obj)} (J : Nat → (Str → Option Value) → List (Addr × Obj) → Prop) (hh : A.handled = none)
    (F : Fr h₀ env.locals s.heap m₀) (N : News h₀ env.locals s.heap ((l, PySem.W.listOf vs.toArray k) :: news)) (off : ∀ q ∈ news, q.1 ≠ l) (hj : J 0 m₀ news) (hJ : ∀ i m' nx, J i m' nx → nx.map (·.1) = news.map (·.1))
    (turn : ∀ i v m₁ nx h tk own, vs[i]? = some v → J i m₁ nx → OwnOff own (news.map (·.1)) → Fr h₀ env.locals h (fun y => if y = x then some v else m₁ y) → News h₀ env.locals h (nx ++ own) →
      wpAny (model prog w) A (execs body env) (TurnEnd h₀ env.locals { s with heap := h, toks := tk } own (J (i + 1))) E { s with heap := h, toks := tk })
    (done : ∀ m₁ nx h tk, J vs.length m₁ nx → Fr h₀ env.locals h m₁ → News h₀ env.locals h nx → Q .next { s with heap := h, toks := tk }) :
    wpAny (model prog w) A (pyIter (.ref l)) (fun it s₂ => LoopAtV prog w A h₀ env x body Q E it s₂) E s := by
  have hl := N _ (.head _)
  have N' : News h₀ env.locals s.heap news := fun p hp => N p (.tail _ hp)
  have hls : s.heap.IsList l vs.toArray := ⟨_, hl.1, rfl, _, rfl⟩
  have low : ∀ {b : Addr} {o : Obj}, s.heap.get? b = some o → b ≠ s.heap.objs.size := fun e => Nat.ne_of_lt (Heap.lt_size e)
  have up : ∀ {b : Addr} {o : Obj}, s.heap.get? b = some o → (s.heap.push { cls := .type "list_iterator", data := .fields #[.ref l, .int 0 0] }).get? b = some o := fun e => Heap.get?_push_of_some _ e
  refine wpAny_pyIter_list hls (loop_invN J (Walks.list hh s.heap.objs.size l (low hl.1) vs.toArray) ?_ ?_ ?_ ?_ ⟨⟨_, Heap.get?_push_size _ rfl, rfl, rfl⟩, hls.at fun _ e => up e⟩ (F.push _) (fun p hp => ⟨up (N' p hp).1, (N' p hp).2⟩) hj ?_ ?_)
  · simp only [List.mem_cons, List.not_mem_nil, or_false]
    rintro (e | e)
    · exact Nat.ne_of_lt F.ns.lt e
    · exact hl.2.1 e.symm
  · intro b hb
    obtain rfl := List.mem_singleton.mp hb
    exact next_is_new F
  · intro p hp hI
    exact low (N' p hp).1 (List.mem_singleton.mp hI)
  · intro q hq
    simp only [List.mem_cons, List.not_mem_nil, or_false]
    rintro (e | e)
    · exact low (N' q hq).1 e
    · exact off q hq e
  · intro i v m₁ nx h tk own _ hP _ hoff hJ' F₁ N₁
    have hv : vs[i]? = some v := by simpa using hP
    exact wpAny_mono (turn i v m₁ nx h tk own hv hJ' hoff F₁ N₁) (fun f s' hf => hf.post (hJ (i + 1))) fun _ _ e => e
  · intro m₁ nx h tk hJ' F₁ N₁
    have e : vs.toArray.size = vs.length := by simp
    rw [e] at hJ'
    exact done m₁ nx h tk hJ' F₁ N₁

/-- a loop over a range from 0, by the turn's number -/
theorem iter_rng {r : Addr} {b₀ : Int} {t₀ u₀ v₀ : Tok} {n : Nat} {m₀ : Str → Option Value} {news : List (Addr × Obj)} (J : Nat → (Str → Option Value) → List (Addr × Obj) → Prop) (hh : A.handled = none)
    (hr : IsRange s.heap r 0 b₀ 1 t₀ u₀ v₀) (hsmall : Builtin.Range.small 0 b₀ 1 = true) (hn : Builtin.Range.rangeSize 0 b₀ 1 = (n : Int))
    (F : Fr h₀ env.locals s.heap m₀) (N : News h₀ env.locals s.heap news) (hj : J 0 m₀ news) (hJ : ∀ i m' nx, J i m' nx → nx.map (·.1) = news.map (·.1))
    (turn : ∀ i v m₁ nx h tk own, i < n → J i m₁ nx → OwnOff own (news.map (·.1)) → Fr h₀ env.locals h (fun y => if y = x then some v else m₁ y) → News h₀ env.locals h (nx ++ own) →
      wpAny (model prog w) A (execs body env) (TurnEnd h₀ env.locals { s with heap := h, toks := tk } own (J (i + 1))) E { s with heap := h, toks := tk })
    (done : ∀ m₁ nx h tk, J n m₁ nx → Fr h₀ env.locals h m₁ → News h₀ env.locals h nx → Q .next { s with heap := h, toks := tk }) :
    wpAny (model prog w) A (pyIter (.ref r)) (fun it s₂ => LoopAtV prog w A h₀ env x body Q E it s₂) E s := by
  have low : ∀ p ∈ news, p.1 ∉ [s.heap.objs.size] := fun p hp hm => Nat.ne_of_lt (Heap.lt_size (N p hp).1) (List.mem_singleton.mp hm)
  refine wpAny_pyIter_range hr hsmall (loop_invN J (Walks.range hh s.heap.objs.size 0 1 n).bound (fun hm => Nat.ne_of_lt F.ns.lt (List.mem_singleton.mp hm)) ?_ low low ?_ (F.push _) (fun p hp => ⟨Heap.get?_push_of_some _ (N p hp).1, (N p hp).2⟩) hj ?_ ?_)
  · intro b hb
    obtain rfl := List.mem_singleton.mp hb
    exact next_is_new F
  · show IsRangeIter _ _ _ _ _
    rw [hn]
    simpa using Heap.get?_push_size _ rfl
  · intro i v m₁ nx h tk own hi _ _ hoff hJ' F₁ N₁
    exact wpAny_mono (turn i v m₁ nx h tk own hi hJ' hoff F₁ N₁) (fun f s' hf => hf.post (hJ (i + 1))) fun _ _ e => e
  · exact done
end
end Mine
namespace Mine
open PySem PySem.W PySem.Calls PyProof.Rows PySem.Spec
theorem str3 {a b c : Value} {i : Nat} {v : Value} (h : [a, b, c][i]? = some v) : v = a ∨ v = b ∨ v = c := by
  match i, h with
  | 0, h => exact .inl (Option.some.inj h).symm
  | 1, h => exact .inr (.inl (Option.some.inj h).symm)
  | 2, h => exact .inr (.inr (Option.some.inj h).symm)
  | _ + 3, h => cases h
theorem loop_run {w : World} {A₀ : Around} {base h₀ : Heap} {outer : List Env} {m mg mb : Str → Option Value} {loose : List Str} {mean : ExcName → Option Value}
    {dp un : Nat} {gd : Option (List Code)} {s : Shared} {L fa cO cP D₀ D₁ O l : Addr} {cd : Value} {oO dO' : Obj} {ys₀ ys₁ : List Value} {zs₀ zs₁ : List Int} {more : List (Addr × Obj)} {Q : Flow → Shared → Prop} {ta tb tc : Tok}
    (hdp : dp + 60 < recursionLimit) (hun : un + 140 < cLine)
    (B : Below A₀ base outer h₀) (F : Fr h₀ L s.heap m) (X : (hd.heap_39 w.params).In h₀) (T : Top hd.view_39 loose mean mg mb h₀)
    (N : News h₀ L s.heap ((l, PySem.W.listOf [Value.str (PySem.Str.ofString "any") ta, Value.str (PySem.Str.ofString "pos") tb, Value.str (PySem.Str.ofString "neg") tc].toArray 0) :: (O, dO') :: LO D₁ ys₁ :: LO D₀ ys₀ :: (cO, oO) :: more))
    (hlt : @LT.lt Nat _ O l ∧ @LT.lt Nat _ D₁ l ∧ @LT.lt Nat _ D₀ l ∧ @LT.lt Nat _ cO l ∧ AllLt l more)
    {t0 t1 t2 t3 : Tok} (hdo : dO'.IsDictOf (intKind PR w) (ordK t0 t1 t2 t3))
    (dO : oO.data = .cell (some (.ref D₀)))
    (hI₀ : IntsAre ys₀ zs₀) (hI₁ : IntsAre ys₁ zs₁) (hl0 : 1 ≤ zs₀.length) (hl1 : zs₀.length ≤ 4) (hll : zs₀.length = zs₁.length) (hb₀ : ∀ z ∈ zs₀, (0 : Int) ≤ z ∧ z < 4) (hb₁ : ∀ z ∈ zs₁, (0 : Int) ≤ z ∧ z < 4)
    (hmn : m (PySem.Str.ofString "new") = some (.ref D₁)) (hmo : m (PySem.Str.ofString "order_of") = some (.ref O))
    (post : ∀ m' h' tk, Fr h₀ L h' m' → News h₀ L h' ((O, dO') :: LO D₁ ys₁ :: LO D₀ ys₀ :: (cO, oO) :: more) → Q .next { s with heap := h', toks := tk }) :
    wpAny (model PR w) (AA dp un gd (ENV L fa cd cO cP) outer) (pyIter (.ref l)) (fun it s₂ => LoopAtV PR w (AA dp un gd (ENV L fa cd cO cP) outer) h₀ (ENV L fa cd cO cP) (PySem.Str.ofString "edge") edgeBody Q (fun _ _ => False) it s₂) (fun _ _ => False) s := by
  obtain ⟨k1, k2, k3, k4, k5⟩ := hlt
  have off : ∀ q ∈ (O, dO') :: LO D₁ ys₁ :: LO D₀ ys₀ :: (cO, oO) :: more, q.1 ≠ l := by
    intro q hq
    have a : AllLt l ((O, dO') :: LO D₁ ys₁ :: LO D₀ ys₀ :: (cO, oO) :: more) := ⟨k1, k2, k3, k4, k5⟩
    exact Nat.ne_of_lt (allLt_mem a q hq)
  refine iter_led (fun _ m' nx => nx = (O, dO') :: LO D₁ ys₁ :: LO D₀ ys₀ :: (cO, oO) :: more ∧ m' (PySem.Str.ofString "new") = some (.ref D₁) ∧ m' (PySem.Str.ofString "order_of") = some (.ref O)) rfl F N off ⟨rfl, hmn, hmo⟩ (fun i m' nx h => by rw [h.1]) ?_ ?_
  · rintro i v m₁ nx h tk own hv ⟨rfl, hn, ho⟩ hoff F₂ N₂
    have turn : ∀ e te, (e = "any" ∨ e = "pos" ∨ e = "neg") → v = .str (PySem.Str.ofString e) te →
        wpAny (model PR w) (AA dp un gd (ENV L fa cd cO cP) outer) (execs edgeBody (ENV L fa cd cO cP)) (TurnEnd h₀ L { s with heap := h, toks := tk } own (fun m' nx => nx = (O, dO') :: LO D₁ ys₁ :: LO D₀ ys₀ :: (cO, oO) :: more ∧ m' (PySem.Str.ofString "new") = some (.ref D₁) ∧ m' (PySem.Str.ofString "order_of") = some (.ref O))) (fun _ _ => False) { s with heap := h, toks := tk } := by
      rintro e te he rfl
      refine edge_turn (more := more ++ own) (te := te) (e := e) hdp hun B F₂ X T N₂ hdo dO hI₀ hI₁ hl0 hl1 hll hb₀ hb₁ ?_ ?_ ?_ he ?_
      · rw [if_neg (by decide), hn]
      · rw [if_neg (by decide), ho]
      · rw [if_pos rfl]
      · intro m' h' tk' a b F₃ N₃
        exact ⟨rfl, h', tk', m', _, rfl, F₃, N₃, rfl, a, b⟩
    rcases str3 hv with q | q | q
    · exact turn _ _ (.inl rfl) q
    · exact turn _ _ (.inr (.inl rfl)) q
    · exact turn _ _ (.inr (.inr rfl)) q
  · rintro m₁ nx h tk ⟨rfl, _, _⟩ F₂ N₂
    exact post m₁ h tk F₂ N₂
end Mine
namespace Mine
open PySem PySem.W PySem.Calls PyProof.Rows PySem.Spec
def restBody : List Stmt := [nth turnBody 3, nth turnBody 4]
local macro_rules | `(tactic| walk_at "pyIter ref") => `(tactic| (refine stop_of ?_))

set_option maxRecDepth 100000 in
set_option maxHeartbeats 8000000 in
theorem edges_run {w : World} {A₀ : Around} {base h₀ : Heap} {outer : List Env} {m mg mb : Str → Option Value} {loose : List Str} {mean : ExcName → Option Value}
    {dp un : Nat} {gd : Option (List Code)} {s : Shared} {L fa cO cP D₀ D₁ : Addr} {cd : Value} {oO : Obj} {ys₀ ys₁ : List Value} {zs₀ zs₁ : List Int} {more : List (Addr × Obj)} {Q : Flow → Shared → Prop}
    {body : List Stmt} (hbody : body = restBody) (hdp : dp + 60 < recursionLimit) (hun : un + 140 < cLine)
    (B : Below A₀ base outer h₀) (F : Fr h₀ L s.heap m) (X : (hd.heap_39 w.params).In h₀) (T : Top hd.view_39 loose mean mg mb h₀)
    (N : News h₀ L s.heap ((D₁, PySem.W.listOf ys₁.toArray ys₁.length) :: (D₀, PySem.W.listOf ys₀.toArray ys₀.length) :: (cO, oO) :: more))
    (dO : oO.data = .cell (some (.ref D₀)))
    (hI₀ : IntsAre ys₀ zs₀) (hI₁ : IntsAre ys₁ zs₁) (hl0 : 1 ≤ zs₀.length) (hl1 : zs₀.length ≤ 4) (hll : zs₀.length = zs₁.length) (hb₀ : ∀ z ∈ zs₀, (0 : Int) ≤ z ∧ z < 4) (hb₁ : ∀ z ∈ zs₁, (0 : Int) ≤ z ∧ z < 4)
    (hm : m (PySem.Str.ofString "new") = some (.ref D₁))
    (post : ∀ m' h' tk, Fr h₀ L h' m' → News h₀ L h' ((D₁, PySem.W.listOf ys₁.toArray ys₁.length) :: (D₀, PySem.W.listOf ys₀.toArray ys₀.length) :: (cO, oO) :: more) → Q .next { s with heap := h', toks := tk }) :
    wpAny (model PR w) (AA dp un gd (ENV L fa cd cO cP) outer) (execs body (ENV L fa cd cO cP)) Q (fun _ _ => False) s := by
  suffices hh : PySem.Challenge.rw_nn0290_01 = PySem.Challenge.rw_nn0290_01 → hd.heap_39 = hd.heap_39 → wpAny (model PR w) (AA dp un gd (ENV L fa cd cO cP) outer) (execs body (ENV L fa cd cO cP)) Q (fun _ _ => False) s from hh rfl rfl
  k_fill
  intro _ _
  subst hbody
  unfold ENV lawScope restBody turnBody lawBody lawDef PySem.Challenge.pw_nn0290_01
  dsimp only [nth, bodyOf, asgVal, scopeOf]
  (try k_fold)
  k_steps
  rename Fr _ _ _ _ => F₁
  rename News _ _ _ _ => N₁
  rename Obj.IsDictOf _ _ _ => hd₁
  rename _ ∧ _ => l₁
  refine Stop.out ?_
  exact loop_run (s := _) hdp hun B F₁ X T N₁ l₁ hd₁ dO hI₀ hI₁ hl0 hl1 hll hb₀ hb₁ hm (by rfl) (fun m' h' tk F₂ N₂ => wpAny_execs_nil (post m' h' tk F₂ (fun z hz => N₂ z (.tail _ hz))))
end Mine
namespace Mine
open PySem PySem.W PySem.Calls PyProof.Rows PySem.Spec
local macro_rules | `(tactic| walk_at "call ref") => `(tactic| (k_here; (with_reducible show wpAny _ _ (call (Value.ref 35) _) _ _ _); refine stop_of ?_))
local macro_rules | `(tactic| walk_at "call ref") => `(tactic| (k_here; (with_reducible show wpAny _ _ (call (Value.ref 40) _) _ _ _); refine stop_of ?_))
local macro_rules | `(tactic| walk_at "call ref") => `(tactic| (k_here; (with_reducible show wpAny _ _ (call (Value.ref 28) _) _ _ _); refine stop_of ?_))
local macro_rules | `(tactic| walk_at "pyIter ref") => `(tactic| (refine stop_of ?_))
local macro_rules | `(tactic| walk_at "eval ListComp") => `(tactic| (refine stop_of ?_))
local macro_rules | `(tactic| walk_at "exec Assign cons ListComp") => `(tactic| ((with_reducible show wpAny _ _ (exec (Stmt.Assign [Expr.Name (Str.ofString "new") _] _ _) _) _ _ _); refine stop_of ?_))
local macro_rules | `(tactic| walk_at "exec Assign cons ListComp") => `(tactic| ((with_reducible show wpAny _ _ (exec (Stmt.Assign [Expr.Name (Str.ofString "old") _] _ _) _) _ _ _); refine wpAny_Assign_Name ?_))

local macro_rules | `(tactic| walk_at "storeName") => `(tactic| (k_here; (with_reducible show wpAny _ _ (storeName _ (Str.ofString "old") _) _ _ _); refine stop_of ?_))
theorem off1_mem {D : Addr} : ∀ {l : List (Addr × Obj)}, LCg.Off1 D l → ∀ z ∈ l, z.1 ≠ D
  | [], _, _, h => nomatch h
  | _ :: _, x, z, h => by
    rcases List.mem_cons.mp h with rfl | h
    · exact x.1
    · exact off1_mem x.2 z h
abbrev Led (p q cO cP : Addr) (x : Int) (tx : Tok) (y : Int) (ty : Tok) (n : Nat) (vs : List Value) (k : Nat) (oO oP : Obj) (own : List (Addr × Obj)) : List (Addr × Obj) :=
  (p, P3 x tx y ty q n) :: (q, PySem.W.listOf vs.toArray k) :: (cO, oO) :: (cP, oP) :: own
abbrev GL (p q cO cP : Addr) (vs : List Value) (k : Nat) (oO oP : Obj) (own : List (Addr × Obj)) (o : Obj) : List (Addr × Obj) :=
  (p, o) :: (q, PySem.W.listOf vs.toArray k) :: (cO, oO) :: (cP, oP) :: own

set_option maxRecDepth 100000 in
set_option maxHeartbeats 8000000 in
theorem turn_run {w : World} {A₀ : Around} {base h₀ : Heap} {outer : List Env} {m mg mb : Str → Option Value} {loose : List Str} {mean : ExcName → Option Value}
    {dp un : Nat} {gd : Option (List Code)} {s : Shared} {p q L fa cO cP : Addr} {cd : Value} {oO oP : Obj} {x y : Int} {tx ty : Tok} {n k : Nat} {vs : List Value} {ns : List Int} {own : List (Addr × Obj)} {Q : Flow → Shared → Prop}
    (hdp : dp + 60 < recursionLimit) (hun : un + 140 < cLine)
    (B : Below A₀ base outer h₀) (F : Fr h₀ L s.heap m) (X : (hd.heap_39 w.params).In h₀) (T : Top hd.view_39 loose mean mg mb h₀)
    (N : News h₀ L s.heap (Led p q cO cP x tx y ty n vs k oO oP own)) (hoff : OwnOff own [p, q, cO, cP])
    (dP : oP.data = .cell (some (.ref p))) {vO : Option Value} (dO : oO.data = .cell vO)
    (npq : @Ne Nat p q) (npO : @Ne Nat p cO) (npP : @Ne Nat p cP) (nqO : @Ne Nat q cO) (nqP : @Ne Nat q cP) (nOP : @Ne Nat cO cP)
    (hI : IntsAre vs ns) (hl0 : 0 < ns.length) (hl1 : ns.length ≤ 40) (hx : 0 ≤ x) (hy : 0 ≤ y) (hyb : y < 50000)
    (post : ∀ m' x' y' tx' ty' n' oO' v' h' tk, 0 ≤ x' → y ≤ y' → y' ≤ y + 13 → oO'.data = .cell v' → Fr h₀ L h' m' → News h₀ L h' (Led p q cO cP x' tx' y' ty' n' vs k oO' oP own) →
      Q .next { s with heap := h', toks := tk }) :
    wpAny (model PR w) (AA dp un gd (ENV L fa cd cO cP) outer) (execs turnBody (ENV L fa cd cO cP)) Q (fun _ _ => False) s := by
  suffices hh : PySem.Challenge.rw_nn0290_01 = PySem.Challenge.rw_nn0290_01 → hd.heap_39 = hd.heap_39 → wpAny (model PR w) (AA dp un gd (ENV L fa cd cO cP) outer) (execs turnBody (ENV L fa cd cO cP)) Q (fun _ _ => False) s from hh rfl rfl
  k_fill
  intro _ _
  unfold ENV lawScope turnBody lawBody lawDef PySem.Challenge.pw_nn0290_01
  dsimp only [nth, bodyOf, asgVal, scopeOf]
  (try k_fold)
  k_steps
  refine Stop.out ?_
  refine draw_callU (ns := ns) (k := k) (vs := vs) B F X T N (.head ?_) (by simp) npq hI hl0 hl1 hx hy (by omega) (.inr (.inl rfl)) rfl rfl (by omega) (by omega) ?_
  · intro z hz
    rcases List.mem_cons.mp hz with rfl | hz
    · exact Ne.symm npq
    rcases List.mem_cons.mp hz with rfl | hz
    · exact Ne.symm npO
    rcases List.mem_cons.mp hz with rfl | hz
    · exact Ne.symm npP
    · exact hoff.ne (by simp) z hz
  intro d t x₁ y₁ tx₁ ty₁ n₁ h₁ tk₁ a1 a2 a3 a4 a5 F₁ N₁
  try dsimp only at N₁
  clear N F
  (try k_unfold)
  (try dsimp only)
  (try k_fold)
  k_steps
  rename Fr _ _ _ _ => F₂
  rename News _ _ _ _ => N₂
  refine Stop.out ?_
  refine comp_old (G := GL p q cO cP vs k oO oP own) (b := 1 + d) (by omega) (by omega) B F₂ X T ⟨fun o => .head ?_, fun o => .tail _ (.head _), fun o => .tail _ (.tail _ (.tail _ (.head _))), dP, npq, Ne.symm npP⟩ N₂ hI hl0 hl1 a3 (by omega) (by omega) (by rfl) (by omega) (by omega) ?_
  · intro z hz
    rcases List.mem_cons.mp hz with rfl | hz
    · exact Ne.symm npq
    rcases List.mem_cons.mp hz with rfl | hz
    · exact Ne.symm npO
    rcases List.mem_cons.mp hz with rfl | hz
    · exact Ne.symm npP
    · exact hoff.ne (by simp) z hz
  intro D₀ ys₀ zs₀ x₂ y₂ tx₂ ty₂ n₂ h₂ tk₂ b1 b2 b3 b4 b5 b6 F₃ N₃ o3
  have D₀off := off1_mem o3
  clear N₂ F₂
  (try k_unfold)
  (try dsimp only)
  (try dsimp only [GL, P3] at N₃)
  (try k_fold)
  k_steps
  refine Stop.out ?_
  refine storeX_C F₃ N₃ (by rfl) (.tail ?_ (.tail npO (.tail nqO (.head ?_)))) dO ?_
  · exact Ne.symm (D₀off _ (.tail _ (.tail _ (.head _))))
  · intro z hz
    rcases List.mem_cons.mp hz with rfl | hz
    · exact Ne.symm nOP
    · exact hoff.ne (by simp) z hz
  intro h₃ oO' F₄ N₄ dO'
  try dsimp only at N₄
  clear N₃ F₃
  (try k_unfold)
  (try dsimp only)
  (try k_fold)
  k_steps
  refine Stop.out ?_
  refine comp_new (x := x₂) (tx := tx₂) (y := y₂) (ty := ty₂) (n := n₂) (D₀ := D₀) (k₀ := ys₀.length) (ys₀ := ys₀) (G := fun o => LO D₀ ys₀ :: GL p q cO cP vs k oO' oP own o) (b := 1 + d) (by omega) (by omega) B F₄ X T ⟨fun o => .tail ?_ (.head ?_), fun o => .tail _ (.tail _ (.head _)), fun o => .tail _ (.tail _ (.tail _ (.tail _ (.head _)))), dP, npq, Ne.symm npP⟩ N₄
    (fun o => .tail _ (.tail _ (.tail _ (.head _)))) dO' (fun o => .head _) b1 b2 b3 hI hl0 hl1 b4 (by omega) (by omega) (by rfl) (by omega) (by omega) ?_
  · exact Ne.symm (D₀off _ (.head _))
  · intro z hz
    rcases List.mem_cons.mp hz with rfl | hz
    · exact Ne.symm npq
    rcases List.mem_cons.mp hz with rfl | hz
    · exact Ne.symm npO
    rcases List.mem_cons.mp hz with rfl | hz
    · exact Ne.symm npP
    · exact hoff.ne (by simp) z hz
  intro D₁ ys₁ zs₁ x₃ y₃ tx₃ ty₃ n₃ h₄ tk₄ c1 c2 c3 c4 c5 c6 F₅ N₅ o5
  clear N₄ F₄
  obtain ⟨rb, hrb⟩ : ∃ rb, rb = restBody := ⟨_, rfl⟩
  show wpAny (model PR w) (AA dp un gd (ENV L fa cd cO cP) outer) (execs restBody (ENV L fa cd cO cP)) Q (fun _ _ => False) _
  rw [← hrb]
  refine edges_run hrb (more := (p, P3 x₃ tx₃ y₃ ty₃ q n₃) :: (q, PySem.W.listOf vs.toArray k) :: (cP, oP) :: own) (cO := cO) (oO := oO') hdp hun B F₅ X T (fun z hz => N₅ z ?_) dO' b1 c1 (by omega) (by omega) (by omega) b3 c3 (by rfl) ?_
  · rcases List.mem_cons.mp hz with rfl | hz
    · exact .head _
    rcases List.mem_cons.mp hz with rfl | hz
    · exact .tail _ (.head _)
    rcases List.mem_cons.mp hz with rfl | hz
    · exact .tail _ (.tail _ (.tail _ (.tail _ (.head _))))
    rcases List.mem_cons.mp hz with rfl | hz
    · exact .tail _ (.tail _ (.head _))
    rcases List.mem_cons.mp hz with rfl | hz
    · exact .tail _ (.tail _ (.tail _ (.head _)))
    · exact .tail _ (.tail _ (.tail _ (.tail _ (.tail _ hz))))
  · intro m' h' tk' F₆ N₆
    refine post m' x₃ y₃ tx₃ ty₃ n₃ oO' _ h' tk' c4 (by omega) (by omega) dO' F₆ (fun z hz => N₆ z ?_)
    rcases List.mem_cons.mp hz with rfl | hz
    · exact .tail _ (.tail _ (.tail _ (.head _)))
    rcases List.mem_cons.mp hz with rfl | hz
    · exact .tail _ (.tail _ (.tail _ (.tail _ (.head _))))
    rcases List.mem_cons.mp hz with rfl | hz
    · exact .tail _ (.tail _ (.head _))
    · exact .tail _ (.tail _ (.tail _ (.tail _ (.tail _ hz))))
end Mine
namespace Mine
open PySem PySem.W PySem.Calls PyProof.Rows PySem.Spec
def forBody : List Stmt := [nth lawBody 1, nth lawBody 2]
local macro_rules | `(tactic| walk_at "call ref") => `(tactic| (k_here; (with_reducible show wpAny _ _ (call (Value.ref 35) _) _ _ _); refine stop_of ?_))
local macro_rules | `(tactic| walk_at "pyIter ref") => `(tactic| (refine stop_of ?_))
set_option maxRecDepth 100000 in
set_option maxHeartbeats 8000000 in
theorem law_rest {w : World} {A₀ : Around} {base h₀ : Heap} {outer : List Env} {m mg mb : Str → Option Value} {loose : List Str} {mean : ExcName → Option Value}
    {dp un : Nat} {gd : Option (List Code)} {s : Shared} {p q L fa cO cP : Addr} {cd : Value} {oO oP : Obj} {tx ty : Tok} {n k : Nat} {vs : List Value} {ns : List Int} {own : List (Addr × Obj)} {Q : Flow → Shared → Prop}
    (hdp : dp + 60 < recursionLimit) (hun : un + 140 < cLine)
    (B : Below A₀ base outer h₀) (F : Fr h₀ L s.heap m) (X : (hd.heap_39 w.params).In h₀) (T : Top hd.view_39 loose mean mg mb h₀)
    (N : News h₀ L s.heap (Led p q cO cP 0 tx 0 ty n vs k oO oP own)) (hoff : OwnOff own [p, q, cO, cP])
    (dP : oP.data = .cell (some (.ref p))) {vO : Option Value} (dO : oO.data = .cell vO)
    (npq : @Ne Nat p q) (npO : @Ne Nat p cO) (npP : @Ne Nat p cP) (nqO : @Ne Nat q cO) (nqP : @Ne Nat q cP) (nOP : @Ne Nat cO cP)
    (hI : IntsAre vs ns) (hl0 : 0 < ns.length) (hl1 : ns.length ≤ 40)
    (post : ∀ m' h' tk, Fr h₀ L h' m' → Q (.ret (.bool true)) { s with heap := h', toks := tk }) :
    wpAny (model PR w) (AA dp un gd (ENV L fa cd cO cP) outer) (execs forBody (ENV L fa cd cO cP)) Q (fun _ _ => False) s := by
  suffices hh : PySem.Challenge.rw_nn0290_01 = PySem.Challenge.rw_nn0290_01 → hd.heap_39 = hd.heap_39 → wpAny (model PR w) (AA dp un gd (ENV L fa cd cO cP) outer) (execs forBody (ENV L fa cd cO cP)) Q (fun _ _ => False) s from hh rfl rfl
  k_fill
  intro _ _
  unfold ENV lawScope forBody lawBody lawDef PySem.Challenge.pw_nn0290_01
  dsimp only [nth, bodyOf, asgVal, scopeOf]
  (try k_fold)
  k_steps
  refine Stop.out ?_
  refine draw_callU (ns := ns) (k := k) (vs := vs) B (by assumption) X T (by assumption) (.head ?_) (.tail _ (.head _)) npq hI hl0 hl1 (by omega) (by omega) (by omega) (.inr (.inr rfl)) rfl rfl (by omega) (by omega) ?_
  · intro z hz
    rcases List.mem_cons.mp hz with rfl | hz
    · exact Ne.symm npq
    rcases List.mem_cons.mp hz with rfl | hz
    · exact Ne.symm npO
    rcases List.mem_cons.mp hz with rfl | hz
    · exact Ne.symm npP
    · exact hoff.ne (by simp) z hz
  intro d t x₁ y₁ tx₁ ty₁ n₁ h₁ tk₁ a1 a2 a3 a4 a5 F₁ N₁

  (try k_unfold)
  (try dsimp only)
  (try k_fold)
  k_steps
  rename IsRange _ _ _ _ _ _ _ _ => R₂
  rename Fr _ _ _ _ => F₂
  rename News _ _ _ _ => N₂
  refine Stop.out ?_
  have hdn : (((1 + d).toNat : Nat) : Int) = 1 + d := Int.toNat_of_nonneg (by omega)
  refine iter_rng (news := Led p q cO cP x₁ tx₁ y₁ ty₁ n₁ vs k oO oP []) (n := (1 + d).toNat)
    (fun i _ nx => ∃ x y tx ty n oO v, nx = Led p q cO cP x tx y ty n vs k oO oP [] ∧ 0 ≤ x ∧ 0 ≤ y ∧ y ≤ 1 + 13 * (i : Int) ∧ oO.data = .cell v)
    (by rfl) R₂ (small_one (by omega) (by omega) (by omega) (by omega)) ((rangeSize_nat 0 (1 + d)).trans (by rw [Int.sub_zero])) F₂ (fun z hz => N₂ z ?_) ⟨x₁, y₁, tx₁, ty₁, n₁, oO, vO, rfl, a3, a4, by omega, dO⟩ ?_ ?_ ?_
  · rcases List.mem_cons.mp hz with rfl | hz
    · exact .head _
    rcases List.mem_cons.mp hz with rfl | hz
    · exact .tail _ (.head _)
    rcases List.mem_cons.mp hz with rfl | hz
    · exact .tail _ (.tail _ (.head _))
    rcases List.mem_cons.mp hz with rfl | hz
    · exact .tail _ (.tail _ (.tail _ (.head _)))
    · exact nomatch hz
  · rintro i m' nx ⟨x, y, tx, ty, n, oO', v, rfl, _⟩
    rfl
  · rintro i v m₁ nx h tk own' hi ⟨x, y, tx, ty, n, oO', vO', rfl, b1, b2, b3, b4⟩ hoff' F₃ N₃
    refine turn_run hdp hun B F₃ X T N₃ hoff' dP b4 npq npO npP nqO nqP nOP hI hl0 hl1 b1 b2 (by omega) ?_
    intro m' x' y' tx' ty' n' oO₂ v' h' tk' c1 c2 c3 c4 F₄ N₄
    exact ⟨rfl, h', tk', m', _, rfl, F₄, N₄, x', y', tx', ty', n', oO₂, v', rfl, c1, by omega, by omega, c4⟩
  · rintro m₁ nx h tk ⟨x, y, tx, ty, n, oO', v, rfl, _⟩ F₃ N₃
    try dsimp only
    clear F₂ N₂
    (try k_fold)
    k_steps
    exact post m₁ h tk F₃
end Mine
namespace Mine
open PySem PySem.W PySem.Calls PyProof.Rows PySem.Spec
local macro_rules | `(tactic| walk_at "execs cons") => `(tactic| ((with_reducible show wpAny _ _ (execs (Stmt.For _ _ _ _ _ :: _) _) _ _ _); refine stop_of ?_))
theorem news_four {h₀ h : Heap} {L : Addr} {a b c d e f : Addr × Obj} (N : News h₀ L h [a, b, c, d, e, f]) : News h₀ L h [a, b, e, f] := by
  intro z hz
  rcases List.mem_cons.mp hz with rfl | hz
  · exact N _ (.head _)
  rcases List.mem_cons.mp hz with rfl | hz
  · exact N _ (.tail _ (.head _))
  rcases List.mem_cons.mp hz with rfl | hz
  · exact N _ (.tail _ (.tail _ (.tail _ (.tail _ (.head _)))))
  · exact N _ (.tail _ (.tail _ (.tail _ (.tail _ (.tail _ hz)))))
set_option maxRecDepth 100000 in
set_option maxHeartbeats 8000000 in
theorem main : PySem.Challenge.rw_nn0290_01.Holds := hd (by
  k_go0; (all_goals try k_fold); k_steps
  rename Below _ _ _ _ => B₁
  rename Fr _ _ _ _ => F₁
  rename News _ _ _ _ => N₁
  rename Frag.In _ _ => X₁
  rename Top _ _ _ _ _ _ => T₁
  rename _ ∧ _ => l₁
  rename _ = Data.cell _ => d₁
  rename IntsAre _ _ => I₁
  refine Stop.out ?_
  refine wpAny_mono (law_rest (own := []) (vO := ?vO) ?a1 ?a2 B₁ F₁ X₁ T₁ (news_four N₁) (fun _ h => nomatch h) d₁ ?a3 ?b1 ?b2 ?b3 ?b4 ?b5 ?b6 I₁ ?a4 ?a5 ?a6) (fun _ _ h => h) (fun _ _ h => h.elim)
  case a1 => first | decide | ktr_room
  case a2 => first | decide | ktr_units
  case a3 => assumption
  case b1 => k_ne
  case b2 => k_ne
  case b3 => k_ne
  case b4 => k_ne
  case b5 => k_ne
  case b6 => k_ne
  case a4 => simp only [List.length_take, List.length_append, List.length_cons, List.length_nil]; omega
  case a5 => simp only [List.length_take, List.length_append, List.length_cons, List.length_nil]; omega
  case a6 =>
    intro m' h' tk F₂
    k_steps)
end Mine
set_option maxRecDepth 100000 in
set_option maxHeartbeats 8000000 in
theorem PySem.Challenge.cw_nn0290_01_holds : PySem.Challenge.rw_nn0290_01.Holds := by
  exact Mine.main
