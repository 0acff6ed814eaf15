import PyProof.Rows.All
import Wide.All
import OpenK.AllK
import Wide.FinOn
import PySem.Challenge.RW_pq0569_01
open PySem PySem.W PyProof.Rows PySem.Calls PySem.Spec
set_option Elab.async false
set_option compiler.extract_closed false
set_option rowWalk.seconds 3000
namespace Mine
set_option maxRecDepth 100000 in
set_option maxHeartbeats 8000000 in
open_top hd for PySem.Challenge.rw_pq0569_01
theorem rst1 : True ∧ True := by (try walk1) <;> first | trivial | exact ⟨trivial, trivial⟩
section
section
variable {prog : Program} {w : World} {A : Around} {E : Value → Shared → Prop} {s : Shared} {h₀ : Heap} {L D : Addr} {m : Str → Option Value} {rest : List (Addr × Obj)} {n : Nat}
theorem pop0 {us : List Value} {l : List Int} {u : Tok} {Q : Value → Shared → Prop} (F : Fr h₀ L s.heap m) (N : News h₀ L s.heap ((D, listOf us.toArray n) :: rest)) (ho : OwnOff rest [D]) (hi : IntsAre us l) (hne : 0 < l.length)
    (hz : l.length ≤ 24) (h : ∀ h' y, Fr h₀ L h' m → News h₀ L h' ((D, listOf us.tail.toArray (n + 1)) :: rest) → IntsAre us.tail l.tail → Q y { s with heap := h' }) : wpAny (model prog w) A (call (.builtin "list.pop") [.ref D, .int 0 u]) Q E s := by
  have hl := hi.length
  cases hi with
  | nil => exact absurd hne (Nat.lt_irrefl 0)
  | @cons i t vs ns hi =>
    refine kl_popAt F N (p := []) (q := vs) (y := .int i t) (k := 0) rfl ?_ rfl (Upd.head fun p hp => ho p hp D (.head _)) ?_ fun h' F' N' => h h' _ F' N' hi
    · simp [seqIndex?]
    · have : (Value.int i t :: vs).length ≤ 24 := by rw [hl]; exact hz
      exact Nat.le_trans this (by decide)
end
local macro_rules | `(tactic| walk_at "call builtin:list.pop") => `(tactic| (k_here; (with_reducible show wpAny _ _ (call (Value.builtin _) [Value.ref _, Value.int 0 _]) _ _ _); k_dflt (refine' pop0 ?F ?N ?o ?i ?l ?z ?_; (case F => k_asm); (case N => k_asm); (case o => k_asm); (case i => k_asm); (case l => (simp only [List.length_set, List.length_cons]; omega)); (case z => (simp only [List.length_set, List.length_cons]; omega))); (intro h' y' F' N' hI'; (try dsimp only [List.tail] at N'))))

theorem fmod_lo {a k : Int} (h : 0 < k) : 0 ≤ a.fmod k := by rw [Int.fmod_eq_emod_of_nonneg _ (Int.le_of_lt h)]; exact Int.emod_nonneg _ (by omega)
theorem fmod_hi {a k : Int} (h : 0 < k) : a.fmod k < k := by rw [Int.fmod_eq_emod_of_nonneg _ (Int.le_of_lt h)]; exact Int.emod_lt_of_pos _ h

set_option maxRecDepth 100000 in
set_option maxHeartbeats 8000000 in
theorem take_c {w : World} {loose : List Str} {mean : ExcName → Option Value} {mg mb : Str → Option Value}
    {dp un : Nat} {gd : Option (List Code)} {cn : Str} {cs : Scope} {a : Addr} {ccd : Value} {cl : List (Str × Addr)} {outer : List Env} {A₀ : Around} {base h₀ : Heap} {L : Addr} {m : Str → Option Value} {s : Shared} {Q E : Value → Shared → Prop}
    {p : Addr} {vs : List Value} {ns : List Int} {n : Nat} {rest : List (Addr × Obj)} {k : Int} {t : Tok}
    (B : Below A₀ base outer h₀) (F : Fr h₀ L s.heap m) (X : (hd.heap_39 w.params).In h₀) (N : News h₀ L s.heap ((p, listOf vs.toArray n) :: rest)) (T : Top hd.view_39 loose mean mg mb h₀) (hk : cs.kind = .function)
    (hi : IntsAre vs ns) (hlen : ns.length ≤ 24) (hoff : OwnOff rest [p]) (h0 : 0 < k) (h1 : k < 100) (hd' : dp + 1 < recursionLimit) (hu : un + 8 < cLine)
    (hret : ∀ (d : Int) (t' : Tok) (vs' : List Value) (ns' : List Int) (n' : Nat) (h' : Heap) (tk' : Nat), 0 ≤ d → d < k → IntsAre vs' ns' → ns'.length ≤ 24 → Fr h₀ L h' m → News h₀ L h' ((p, listOf vs'.toArray n') :: rest) → Q (.int d t') { s with heap := h', toks := tk' }) :
    wpAny (model PySem.Challenge.rw_pq0569_01.row.prog w) (ktrTop dp un gd cn cs L a ccd cl outer) (call (.ref 144) [.ref p, .int k t]) Q E s := by
  w_top off
  revert X; k_fill; intro X
  cases hi with
  | nil =>
    refine wpAny_call ?_
    k_dflt ktr_enter
    k_steps
    exact hret 0 _ _ _ _ _ _ (Int.le_refl 0) h0 .nil hlen (by k_asm) (by k_asm)
  | @cons i t' vs1 ns1 hi =>
    have hi2 : IntsAre (Value.int i t' :: vs1) (i :: ns1) := .cons i t' hi
    simp only [List.length_cons] at hlen
    refine wpAny_call ?_
    k_dflt ktr_enter
    k_steps
    all_goals first
      | (exfalso; simp only [List.length_cons] at *; omega)
      | exact hret _ _ _ _ _ _ _ (fmod_lo h0) (fmod_hi h0) (by k_asm) (by simp only [List.length_set, List.length_cons]; omega) (by k_asm) (by k_asm)
      | exact hret _ _ _ _ _ _ _ (fmod_lo h0) (fmod_hi h0) (by k_asm) (by simp only [List.length_tail, List.length_set, List.length_cons]; omega) (by k_asm) (by k_asm)
end
section
/-- one row of the plan's rules: (left, right, level, action, line, before) -/
structure Row where
  left : Int
  right : List Int
  lev : Int
  act : Dat
  line : Int
  before : Int
def Row.rdat (r : Row) : Dat := .tuple (r.right.map Dat.int)
def Row.dat (r : Row) : Dat := .tuple [.int r.left, r.rdat, .int r.lev, r.act, .int r.line, .int r.before]
def Row.told (r : Row) : Dat := .tuple [.int r.left, r.rdat, .int r.lev, r.act, .int r.before]

structure Plan where
  names : List Str
  rows : List Row
  levels : List (Int × Dat)
  expect : Dat
  start : Int

def levDat (p : Int × Dat) : Dat := .tuple [.int p.1, p.2]
def levIns (p : Int × Dat) : List (Int × Dat) → List (Int × Dat)
  | [] => [p]
  | q :: r => if p.1 ≤ q.1 then p :: q :: r else q :: levIns p r
def levSort : List (Int × Dat) → List (Int × Dat)
  | [] => []
  | p :: r => levIns p (levSort r)

def Plan.told (P : Plan) : Dat :=
  .tuple [.tuple (P.names.map Dat.str), .int 6, .tuple (P.rows.map Row.told), .tuple ((levSort P.levels).map levDat), P.expect, .int P.start]

abbrev PROG : Program := PySem.Challenge.rw_pq0569_01.row.prog

/-- the ledger bears the plan at the dict a -/
inductive PlanAt (w : World) (led : List (Addr × Obj)) (a : Addr) (P : Plan) : Prop
  | mk (o : Obj) (nA rA lA : Addr) (ev : Value) (st : Tok) (nvs rvs lvs : List Value) (n1 n2 n3 : Nat)
    (h1 : (a, o) ∈ led)
    (h2 : o.IsDictOf (PySem.strKind PySem.Challenge.rw_pq0569_01.row.prog w) [(Str.ofString "names", .ref nA), (Str.ofString "rules", .ref rA), (Str.ofString "levels", .ref lA), (Str.ofString "expect", ev), (Str.ofString "start", .int P.start st)])
    (h3 : (nA, listOf nvs.toArray n1) ∈ led)
    (h4 : DatAll led nvs (P.names.map Dat.str))
    (h5 : (rA, listOf rvs.toArray n2) ∈ led)
    (h6 : DatAll led rvs (P.rows.map Row.dat))
    (h7 : (lA, listOf lvs.toArray n3) ∈ led)
    (h8 : DatAll led lvs (P.levels.map levDat))
    (h9 : DatIn led ev P.expect) : PlanAt w led a P

/-- the orders in which the levels stand -/
def LevOk (l : List (Int × Dat)) : Prop :=
  (∃ a, l = [(4, a)]) ∨ (∃ a b, l = [(4, a), (3, b)]) ∨ (∃ a b, l = [(3, b), (4, a)]) ∨ (∃ a b c, l = [(4, a), (3, b), (1, c)]) ∨ ∃ a b c, l = [(1, c), (3, b), (4, a)]
structure Plan.Ok (P : Plan) : Prop where
  names : P.names.length = 9
  rows : P.rows.length ≤ 4
  right : ∀ r ∈ P.rows, r.right.length ≤ 4
  left : ∀ r ∈ P.rows, 6 ≤ r.left ∧ r.left ≤ 8
  levs : LevOk P.levels

theorem dall_cons {led : List (Addr × Obj)} {vs : List Value} {d : Dat} {ds : List Dat} (h : DatAll led vs (d :: ds)) : ∃ v us, vs = v :: us ∧ DatIn led v d ∧ DatAll led us ds := by
  cases h with | cons a b => exact ⟨_, _, rfl, a, b⟩
theorem dall_nil {led : List (Addr × Obj)} {vs : List Value} (h : DatAll led vs []) : vs = [] := by cases h; rfl
theorem din_int {led : List (Addr × Obj)} {v : Value} {i : Int} (h : DatIn led v (.int i)) : ∃ t, v = .int i t := by cases h; exact ⟨_, rfl⟩
theorem din_str {led : List (Addr × Obj)} {v : Value} {x : Str} (h : DatIn led v (.str x)) : ∃ t, v = .str x t := by cases h; exact ⟨_, rfl⟩
theorem din_tup {led : List (Addr × Obj)} {v : Value} {ds : List Dat} (h : DatIn led v (.tuple ds)) : ∃ a vs n, v = .ref a ∧ (a, ({ cls := .type "tuple", data := .seq vs.toArray n } : Obj)) ∈ led ∧ DatAll led vs ds := by
  cases h with | tuple hm hd => exact ⟨_, _, _, rfl, hm, hd⟩
theorem row_open {led : List (Addr × Obj)} {v : Value} {r : Row} (h : DatIn led v r.dat) : ∃ a n t1 v2 t3 v4 t5 t6, v = .ref a ∧ (a, ({ cls := .type "tuple", data := .seq [Value.int r.left t1, v2, Value.int r.lev t3, v4, Value.int r.line t5, Value.int r.before t6].toArray n } : Obj)) ∈ led ∧ DatIn led v2 r.rdat ∧ DatIn led v4 r.act := by
  unfold Row.dat at h
  obtain ⟨a, vs, n, rfl, hm, hd⟩ := din_tup h
  obtain ⟨v1, us1, rfl, d1, hd1⟩ := dall_cons hd
  obtain ⟨t1, rfl⟩ := din_int d1
  obtain ⟨v2, us2, rfl, d2, hd2⟩ := dall_cons hd1
  obtain ⟨v3, us3, rfl, d3, hd3⟩ := dall_cons hd2
  obtain ⟨t3, rfl⟩ := din_int d3
  obtain ⟨v4, us4, rfl, d4, hd4⟩ := dall_cons hd3
  obtain ⟨v5, us5, rfl, d5, hd5⟩ := dall_cons hd4
  obtain ⟨t5, rfl⟩ := din_int d5
  obtain ⟨v6, us6, rfl, d6, hd6⟩ := dall_cons hd5
  obtain ⟨t6, rfl⟩ := din_int d6
  obtain rfl := dall_nil hd6
  exact ⟨_, _, _, _, _, _, _, _, rfl, hm, d2, d4⟩
theorem dats_get {α : Type} {led : List (Addr × Obj)} {vs : List Value} {l : List α} {f : α → Dat} {i : Nat} {v : Value} (h : DatAll led vs (l.map f)) (hv : vs[i]? = some v) : ∃ x, l[i]? = some x ∧ DatIn led v (f x) := by
  have hi : i < vs.length := (List.getElem?_eq_some_iff.mp hv).1
  have hl := h.length
  have hk : i < (l.map f).length := by omega
  obtain ⟨v', e, d⟩ := h.get hk
  rw [hv] at e
  cases e
  simp only [List.length_map] at hk
  exact ⟨l[i], by simp [hk], by simpa using d⟩
theorem take_snoc {α : Type} {l : List α} {i : Nat} {x : α} (h : l[i]? = some x) : l.take (i + 1) = l.take i ++ [x] := by
  rw [List.take_add_one, h]; rfl

/-- a mark at which the walk stops -/
def Halt (P : Prop) : Prop := P
theorem halt_of {P : Prop} (h : Halt P) : P := h
theorem un_halt {P : Prop} (h : P) : Halt P := h

/-- what is new lies apart from what stood -/
def Apart (news tl : List (Addr × Obj)) : Prop := ∀ q ∈ news, ∀ p ∈ tl, p.1 ≠ q.1
theorem Apart.nil {news : List (Addr × Obj)} : Apart news [] := fun _ _ _ h => nomatch h
theorem Apart.cons {news tl : List (Addr × Obj)} {x : Addr × Obj} (h : ∀ q ∈ news, x.1 ≠ q.1) (k : Apart news tl) : Apart news (x :: tl) := by
  intro q hq p hp
  rcases List.mem_cons.mp hp with rfl | hp
  · exact h q hq
  · exact k q hq p hp
theorem Apart.lt {news tl cur : List (Addr × Obj)} {x : Addr × Obj} (h : ∀ q ∈ cur, q.1 < x.1) (s : ∀ p ∈ news, p ∈ cur) (k : Apart news tl) : Apart news (x :: tl) :=
  .cons (fun q hq => Nat.ne_of_gt (h q (s q hq))) k
theorem off1_mem {D : Addr} : ∀ {l : List (Addr × Obj)}, LCg.Off1 D l → ∀ p ∈ l, p.1 ≠ D
  | [], _, _, h => nomatch h
  | _ :: _, x, p, h => by
    rcases List.mem_cons.mp h with rfl | h
    · exact x.1
    · exact off1_mem x.2 p h
theorem Apart.off {news tl cur : List (Addr × Obj)} {x : Addr × Obj} (h : LCg.Off1 x.1 cur) (s : ∀ p ∈ news, p ∈ cur) (k : Apart news tl) : Apart news (x :: tl) :=
  .cons (fun q hq e => off1_mem h q (s q hq) e.symm) k
theorem Apart.append {news tl tl' cur : List (Addr × Obj)} (h : Apart cur tl') (s : ∀ p ∈ news, p ∈ cur) (k : Apart news tl) : Apart news (tl' ++ tl) := by
  intro q hq p hp
  rcases List.mem_append.mp hp with hp | hp
  · exact h q (s q hq) p hp
  · exact k q hq p hp
theorem Apart.all {news tl : List (Addr × Obj)} {d : Addr} {o : Obj} (h : Apart news tl) (m : (d, o) ∈ news) : ∀ p ∈ tl, p.1 ≠ d := fun p hp => h _ m p hp
theorem Apart.sub {news cur tl : List (Addr × Obj)} (h : Apart cur tl) (s : ∀ p ∈ news, p ∈ cur) : Apart news tl := fun q hq => h q (s q hq)

/-- the ledger has grown by what lies apart -/
def Grown (news cur : List (Addr × Obj)) : Prop := ∃ tl, cur = tl ++ news ∧ Apart news tl
theorem Grown.refl {news : List (Addr × Obj)} : Grown news news := ⟨[], rfl, Apart.nil⟩
theorem Grown.sub {news cur : List (Addr × Obj)} (g : Grown news cur) : ∀ p ∈ news, p ∈ cur := by
  obtain ⟨tl, rfl, _⟩ := g
  exact fun p hp => List.mem_append_right _ hp
theorem Grown.lt {news cur : List (Addr × Obj)} {x : Addr × Obj} (h : ∀ q ∈ cur, q.1 < x.1) (g : Grown news cur) : Grown news (x :: cur) := by
  obtain ⟨tl, rfl, a⟩ := g
  exact ⟨x :: tl, rfl, .lt h (fun p hp => List.mem_append_right _ hp) a⟩
theorem Grown.cell {news cur : List (Addr × Obj)} {x : Addr × Obj} {l : Addr} (h : ∀ q ∈ cur, q.1 < l) (e : x.1 = l + 1) (g : Grown news cur) : Grown news (x :: cur) :=
  .lt (fun q hq => by rw [e]; exact Nat.lt_succ_of_lt (h q hq)) g
theorem Grown.off {news cur : List (Addr × Obj)} {x : Addr × Obj} (h : LCg.Off1 x.1 cur) (g : Grown news cur) : Grown news (x :: cur) := by
  obtain ⟨tl, rfl, a⟩ := g
  exact ⟨x :: tl, rfl, .off h (fun p hp => List.mem_append_right _ hp) a⟩
theorem Grown.app {news cur tl : List (Addr × Obj)} (h : Apart cur tl) (g : Grown news cur) : Grown news (tl ++ cur) := by
  obtain ⟨tl', rfl, a⟩ := g
  exact ⟨tl ++ tl', (List.append_assoc ..).symm, .append h (fun p hp => List.mem_append_right _ hp) a⟩
def Offs (ds : List Addr) (l : List (Addr × Obj)) : Prop := ∀ d ∈ ds, ∀ p ∈ l, p.1 ≠ d
theorem Grown.offs {news cur : List (Addr × Obj)} {x : Addr × Obj} (h : Offs [x.1] cur) (g : Grown news cur) : Grown news (x :: cur) := by
  obtain ⟨tl, rfl, a⟩ := g
  exact ⟨x :: tl, rfl, .cons (fun q hq e => h x.1 (.head _) q (List.mem_append_right _ hq) e.symm) a⟩
theorem ltOf2 {D : Addr} : ∀ {l : List (Addr × Obj)}, AllLt D l → ∀ p ∈ l, p.1 < D
  | [], _, _, h => nomatch h
  | _ :: _, x, p, h => by
    rcases List.mem_cons.mp h with rfl | h
    · exact x.1
    · exact ltOf2 x.2 p h
theorem Grown.ltc {news cur : List (Addr × Obj)} {x : Addr × Obj} (h : AllLt x.1 cur) (g : Grown news cur) : Grown news (x :: cur) := .lt (ltOf2 h) g
theorem ret_dat {h₀ h' : Heap} {L : Addr} {news cur : List (Addr × Obj)} {v : Value} {d : Dat} {R : Prop} (N : News h₀ L h' cur) (g : Grown news cur) (D : DatIn cur v d) (h : ∀ tl, News h₀ L h' (tl ++ news) → Apart news tl → DatIn (tl ++ news) v d → R) : R := by
  obtain ⟨tl, rfl, ha⟩ := g
  exact h tl N ha D

section
open LCg
variable {prog : Program} {w : World} {A : Around} {E : Value → Shared → Prop} {s : Shared} {h₀ : Heap} {L : Addr} {m : Str → Option Value} {env : Env}
theorem compE {elt iter : Expr} {x : Str} {px : Pos} {scope : Scope} {cl : List (Str × Addr)} {pos : Pos} {Q : Value → Shared → Prop} (F₀ : Fr h₀ L s.heap m)
    (hclos : closureFor scope env = pure cl) (hcell : ∀ y ∈ scope.names, y.2 ≠ .cell) (hkind : scope.kind = .function)
    (hnames : ∀ y ∈ scope.names, y.2 = .local → scope.names.lookup y.1 = some .local) (hx : scope.names.lookup x = some .local)
    (h : wpAny (model prog w) A (eval iter env) (fun v s' => Halt (CompSrc prog w A h₀ L m env elt x scope cl (fun s₂ => FinE h₀ L m s₂ Q) v s')) E s)
    (hs : ∀ x, foldedSetIterable iter env x = pure x := by intro _; rfl) :
    wpAny (model prog w) A (eval (.ListComp elt [⟨.Name x px, iter, [], 0⟩] scope pos) env) Q E s :=
  ListComp_U F₀ hclos hcell hkind hnames hx h hs
theorem compA {elt iter : Expr} {x y : Str} {px py : Pos} {scope : Scope} {cl : List (Str × Addr)} {pos spos : Pos} {Q : Flow → Shared → Prop} (F₀ : Fr h₀ L s.heap m) (hLe : env.locals = L)
    (hsw : swapsWith (.ListComp elt [⟨.Name x px, iter, [], 0⟩] scope pos) (some (.Name y py)) spos.line env = pure true)
    (hclos : closureFor scope env = pure cl) (hcell : ∀ z ∈ scope.names, z.2 ≠ .cell) (hkind : scope.kind = .function)
    (hnames : ∀ z ∈ scope.names, z.2 = .local → scope.names.lookup z.1 = some .local) (hx : scope.names.lookup x = some .local)
    (hy : env.kindOf y = some .local) (hp : (env.scope.kind == .class || (env.scope.kind == .module && env.locals != env.globals)) = false)
    (h : wpAny (model prog w) A (eval iter env) (fun v s' => Halt (CompSrc prog w A h₀ L m env elt x scope cl (fun s₂ => FinA h₀ L m s₂ y Q) v s')) E s)
    (hs : ∀ x, foldedSetIterable iter env x = pure x := by intro _; rfl) :
    wpAny (model prog w) A (exec (.Assign [.Name y py] (.ListComp elt [⟨.Name x px, iter, [], 0⟩] scope pos) spos) env) Q E s :=
  Assign_ListComp_U F₀ hLe hsw hclos hcell hkind hnames hx hy hp h hs

abbrev CompTurn (prog : Program) (w : World) (A : Around) (h₀ : Heap) (L : Addr) (m : Str → Option Value) (env : Env) (elt : Expr) (x : Str) (scope : Scope) (cl : List (Str × Addr)) (s₁ : Shared) (S : List (Addr × Obj) → Prop) (P : Nat → Value → Prop) (n : Nat) (J : Nat → List Value → List (Addr × Obj) → Prop) : Prop :=
  ∀ i v ys news I oI C oC D m₂ h tk (E' : Value → Shared → Prop), i < n → P i v → J i ys news → NsObj oC m₂ → m₂ x = some v → Fr h₀ L h m → News h₀ L h ((I, oI) :: (C, oC) :: (D, lst ys) :: news) → Off3 I C D news → ((@Ne Nat I C) ∧ (@Ne Nat I D) ∧ (@Ne Nat C D)) →
      wpAny (model prog w) A (eval elt (compEnvC scope cl C env)) (fun y s' => Halt (CompEnd h₀ L m { s₁ with heap := h, toks := tk } I oI C oC D (lst ys) S (fun y news' => J (i + 1) (ys ++ [y]) news') y s')) E' { s₁ with heap := h, toks := tk }

theorem tupOf {l : Addr} {vs : List Value} {n : Nat} {news : List (Addr × Obj)} {Q : Value → Shared → Prop} (F : Fr h₀ L s.heap m) (N : News h₀ L s.heap news) (hm : (l, PySem.W.listOf vs.toArray n) ∈ news) (hz : vs.length ≤ 64)
    (h : ∀ D h', Fr h₀ L h' m → News h₀ L h' ((D, ({ cls := .type "tuple", data := .seq vs.toArray } : Obj)) :: news) → (∀ p ∈ news, p.1 < D) → Q (.ref D) { s with heap := h' }) : wpAny (model prog w) A (call (.type "tuple") [.ref l]) Q E s :=
  kde_tupleOf F N (N.isList hm) (by rw [List.size_toArray]; omega) rfl h
theorem newTup {vs : List Value} {news : List (Addr × Obj)} {M : Model} {Q : Value → Shared → Prop} (F : Fr h₀ L s.heap m) (N : News h₀ L s.heap news)
    (h : ∀ D h', Fr h₀ L h' m → News h₀ L h' ((D, ({ cls := .type "tuple", data := .seq vs.toArray } : Obj)) :: news) → (∀ p ∈ news, p.1 < D) → Q (.ref D) { s with heap := h' }) (hz : vs.length ≤ 64) : wpAny M A (newTuple vs) Q E s :=
  kup_newTuple F N h (by rw [sizeLine_eq]; omega)

theorem comp_end1 {I C D D' : Addr} {oI oC oD o' : Obj} {nw : List (Addr × Obj)} {S : List (Addr × Obj) → Prop} {rest : Value → List (Addr × Obj) → Prop} {y : Value} {s₁ : Shared} {h' : Heap} {tk : Nat}
    (F' : Fr h₀ L h' m) (N' : News h₀ L h' ((D', o') :: (I, oI) :: (C, oC) :: (D, oD) :: nw)) (l1 : ∀ p ∈ (I, oI) :: (C, oC) :: (D, oD) :: nw, p.1 < D') (off : Off3 I C D nw) (hS : S ((D', o') :: nw)) (r : rest y ((D', o') :: nw)) :
    Halt (CompEnd h₀ L m s₁ I oI C oC D oD S rest y { s₁ with heap := h', toks := tk }) := by
  refine CompEnd.intro F' N' ((D', o') :: nw) ?_ ⟨⟨?_, ?_, ?_⟩, off⟩ hS r
  · intro p hp
    simp only [List.mem_cons] at hp ⊢
    rcases hp with h | h | h | h | h
    · exact .inr (.inl h)
    · exact .inr (.inr (.inl h))
    · exact .inr (.inr (.inr (.inl h)))
    · exact .inl h
    · exact .inr (.inr (.inr (.inr h)))
  · exact Nat.ne_of_gt (l1 _ (.head _))
  · exact Nat.ne_of_gt (l1 _ (.tail _ (.head _)))
  · exact Nat.ne_of_gt (l1 _ (.tail _ (.tail _ (.head _))))

theorem comp_rest {elt : Expr} {x : Str} {scope : Scope} {cl : List (Str × Addr)} {S : List (Addr × Obj) → Prop} {P : Nat → Value → Prop} {Fin : List Value → List (Addr × Obj) → Prop} {n : Nat} {news : List (Addr × Obj)} (J : Nat → List Value → List (Addr × Obj) → Prop)
    (hj : J 0 [] news) (turn : CompTurn prog w A h₀ L m env elt x scope cl s S P n J) (fin : ∀ ys news', J n ys news' → Fin ys news') : CompRest prog w A h₀ L m env elt x scope cl s S P Fin n 0 [] news := by
  have key : ∀ (j i : Nat) (ys : List Value) (nw : List (Addr × Obj)), i + j = n → J i ys nw → CompRest prog w A h₀ L m env elt x scope cl s S P Fin j i ys nw := by
    intro j
    induction j with
    | zero =>
      intro i ys nw hi hJ
      have e : i = n := by omega
      subst e
      exact fin ys nw hJ
    | succ j ih =>
      intro i ys nw hi hJ
      refine CompRest.succ ?_
      intro v I oI C oC D m₂ h tk E' hv hC hx F N off ne
      refine wpAny_mono (turn i v ys nw I oI C oC D m₂ h tk E' (by omega) hv hJ hC hx F N off ne) (fun y s₂ hq => ?_) fun _ _ e => e
      obtain ⟨h', tk', nw', e, F', N', off', hS, hJ'⟩ := hq
      exact ⟨h', tk', nw', e, F', N', off', hS, ih (i + 1) _ _ (by omega) hJ'⟩
  exact key n 0 [] news (by omega) hj

theorem comp_led {elt : Expr} {x : Str} {scope : Scope} {cl : List (Str × Addr)} {Fin : Shared → List Value → List (Addr × Obj) → Prop} {ax : Addr} {vs : List Value} {k : Nat} {news : List (Addr × Obj)} (J : Nat → List Value → List (Addr × Obj) → Prop)
    (hh : A.handled = none) (F : Fr h₀ L s.heap m) (N : News h₀ L s.heap news) (hm : (ax, PySem.W.listOf vs.toArray k) ∈ news) (hsz : vs.length ≤ 64) (hj : J 0 [] news)
    (turn : CompTurn prog w A h₀ L m env elt x scope cl s (SrcAt h₀ ax vs.toArray) (fun i v => vs[i]? = some v) vs.length J)
    (fin : ∀ g ys news', J vs.length ys news' → Fin { s with heap := g } ys news') : Halt (CompSrc prog w A h₀ L m env elt x scope cl Fin (.ref ax) s) := by
  refine CompSrc.ledger hh F N hm (by rw [List.size_toArray, sizeLine_eq]; omega) fun g => ?_
  have e : (fun (i : Nat) (v : Value) => vs.toArray[i]? = some v) = fun i v => vs[i]? = some v := by funext i v; simp
  rw [e, List.size_toArray]
  exact comp_rest J hj (fun i v ys nw I oI C oC D m₂ h tk E' => turn i v ys nw I oI C oC D m₂ h tk E') (fin g)

theorem comp_range {elt : Expr} {x : Str} {scope : Scope} {cl : List (Str × Addr)} {Fin : Shared → List Value → List (Addr × Obj) → Prop} {r : Addr} {b : Int} {t u v : Tok} {n : Nat} {news : List (Addr × Obj)} (J : Nat → List Value → List (Addr × Obj) → Prop)
    (hh : A.handled = none) (F : Fr h₀ L s.heap m) (N : News h₀ L s.heap news) (hr : IsRange s.heap r 0 b 1 t u v) (hsm : Builtin.Range.small 0 b 1 = true) (hn : Builtin.Range.rangeSize 0 b 1 = ((n : Nat) : Int)) (hsz : n ≤ 64) (hj : J 0 [] news)
    (turn : CompTurn prog w A h₀ L m env elt x scope cl s (fun _ => True) (fun i v => ∃ t, v = .int ((0 : Int) + (i : Int)) t) n J)
    (fin : ∀ g ys news', J n ys news' → Fin { s with heap := g } ys news') : Halt (CompSrc prog w A h₀ L m env elt x scope cl Fin (.ref r) s) :=
  CompSrc.range hh F N hr hsm hn (by rw [sizeLine_eq]; omega) fun g => comp_rest J hj (fun i v ys nw I oI C oC D m₂ h tk E' => turn i v ys nw I oI C oC D m₂ h tk E') (fin g)
end

section
variable {prog : Program} {w : World} {A : Around} {E : Value → Shared → Prop} {s : Shared} {h₀ : Heap} {L d : Addr} {news : List (Addr × Obj)} {o : Obj} {v : Value} {value slice : PySem.Expr}
theorem dictItemS {kvs : List (Str × Value)} {k : Str} {t : Tok} {Q : Value → Shared → Prop} (N : News h₀ L s.heap news) (hp : (d, o) ∈ news) (hd : o.IsDictOf (PySem.strKind prog w) kvs) (hl : valueAt kvs k = some v) (h : Q v { s with toks := s.toks + 1 })
    (hs : subscripted slice false (.ref d) (.str k t) = operate [.ref d, .str k t] (getItem (.ref d) (.str k t)) := by with_unfolding_all rfl) : wpAny (model prog w) A (subscriptTail value slice (.ref d) (.str k t)) Q E s :=
  kba_turn (value' := PySem.Expr.Name (PySem.Str.ofString "_") ⟨0, 0, 0, 0⟩) (fun _ => rfl) (kda_item (knd := PySem.strKind _ _) N hp hd (strKind_is _ _ _ _) hl h hs (fun _ => rfl))
theorem dictItemI {kvs : List (Int × Value)} {k : Int} {t : Tok} {Q : Value → Shared → Prop} (N : News h₀ L s.heap news) (hp : (d, o) ∈ news) (hd : o.IsDictOf (PySem.intKind prog w) kvs) (hl : valueAt kvs k = some v) (h : Q v { s with toks := s.toks + 1 })
    (hs : subscripted slice false (.ref d) (.int k t) = operate [.ref d, .int k t] (getItem (.ref d) (.int k t)) := by with_unfolding_all rfl) : wpAny (model prog w) A (subscriptTail value slice (.ref d) (.int k t)) Q E s :=
  kba_turn (value' := PySem.Expr.Name (PySem.Str.ofString "_") ⟨0, 0, 0, 0⟩) (fun _ => rfl) (kda_item (knd := PySem.intKind _ _) N hp hd (intKind_is _ _ _ _) hl h hs (fun _ => rfl))
theorem tupItem {t : Addr} {l : List Value} {n : Nat} {k : Int} {u : Tok} {j : Nat} {x : Value} {Q : Value → Shared → Prop} (N : News h₀ L s.heap news) (hp : (t, ({ cls := .type "tuple", data := .seq l.toArray n } : Obj)) ∈ news)
    (hlo : -(2 ^ 63) ≤ k) (hhi : k < 2 ^ 63) (hj : seqIndex? k l.length = some j) (hx : l[j]? = some x) (h : Q x s)
    (hs : subscripted slice false (.ref t) (.int k u) = operate [.ref t, .int k u] (getItem (.ref t) (.int k u)) := by with_unfolding_all rfl) :
    wpAny (model prog w) A (subscriptTail value slice (.ref t) (.int k u)) Q E s := item_tupleT (N.isTup hp) hlo hhi hj hx h hs
end
/-- a comprehension that makes data -/
def CJ (base : List (Addr × Obj)) (ds : List Dat) : Nat → List Value → List (Addr × Obj) → Prop :=
  fun i ys nw => ∃ tl, nw = tl ++ base ∧ Apart base tl ∧ ys.length = i ∧ DatAll nw ys (ds.take i)
theorem CJ.start {base : List (Addr × Obj)} {ds : List Dat} : CJ base ds 0 [] base := ⟨[], rfl, Apart.nil, rfl, by rw [List.take_zero]; exact .nil⟩
theorem CJ.snoc {base tl : List (Addr × Obj)} {ds : List Dat} {i : Nat} {ys : List Value} {x : Addr × Obj} {v : Value} {d : Dat} (hy : ys.length = i) (hys : DatAll (tl ++ base) ys (ds.take i)) (hd : ds[i]? = some d) (ha : Apart base (x :: tl)) (hv : DatIn (x :: (tl ++ base)) v d) :
    CJ base ds (i + 1) (ys ++ [v]) (x :: (tl ++ base)) := by
  refine ⟨x :: tl, rfl, ha, by simp [hy], ?_⟩
  rw [take_snoc hd]
  exact DatAll.append (hys.mono fun p hp => .tail _ hp) (.one hv)

theorem ints_at {α : Type} {vs : List Value} {l : List α} {f : α → Int} {i : Nat} {v : Value} (h : IntsAre vs (l.map f)) (hv : vs[i]? = some v) : ∃ x t, l[i]? = some x ∧ v = .int (f x) t := by
  have hl := h.length
  have hi : i < vs.length := (List.getElem?_eq_some_iff.mp hv).1
  simp only [List.length_map] at hl
  have hk : i < l.length := by omega
  obtain ⟨t, ht⟩ := h.get i (f l[i]) (by simp [hk])
  rw [hv] at ht
  cases ht
  exact ⟨l[i], t, by simp [hk], rfl⟩

/-- the ledger bears the rule at v -/
inductive RuleIn (w : World) (led : List (Addr × Obj)) (v : Value) (r : Row) : Prop
  | mk (x d : Addr) (ks : Nat → Tok) (num : Int) (rv av : Value) (c : Nat)
    (h1 : v = .ref x)
    (h2 : (x, instObj 39 d) ∈ led)
    (h3 : (d, dictOf [⟨PyData.keyHash w.params (Str.ofString "number"), .str (Str.ofString "number") (ks 0), .int num (ks 1)⟩, ⟨PyData.keyHash w.params (Str.ofString "left"), .str (Str.ofString "left") (ks 2), .int r.left (ks 3)⟩, ⟨PyData.keyHash w.params (Str.ofString "right"), .str (Str.ofString "right") (ks 4), rv⟩, ⟨PyData.keyHash w.params (Str.ofString "level_of"), .str (Str.ofString "level_of") (ks 5), .int r.lev (ks 6)⟩, ⟨PyData.keyHash w.params (Str.ofString "action"), .str (Str.ofString "action") (ks 7), av⟩, ⟨PyData.keyHash w.params (Str.ofString "line"), .str (Str.ofString "line") (ks 8), .int r.line (ks 9)⟩, ⟨PyData.keyHash w.params (Str.ofString "before"), .str (Str.ofString "before") (ks 10), .int r.before (ks 11)⟩] c) ∈ led)
    (h4 : DatIn led rv r.rdat)
    (h5 : DatIn led av r.act) : RuleIn w led v r
inductive RulesIn (w : World) (led : List (Addr × Obj)) : List Value → List Row → Prop
  | nil : RulesIn w led [] []
  | cons {v : Value} {vs : List Value} {r : Row} {rs : List Row} : RuleIn w led v r → RulesIn w led vs rs → RulesIn w led (v :: vs) (r :: rs)
theorem RuleIn.mono {w : World} {led led' : List (Addr × Obj)} {v : Value} {r : Row} (h : RuleIn w led v r) (s : ∀ p ∈ led, p ∈ led') : RuleIn w led' v r := by
  obtain ⟨x, d, ks, num, rv, av, c, e, m1, m2, d1, d2⟩ := h
  exact ⟨x, d, ks, num, rv, av, c, e, s _ m1, s _ m2, d1.mono s, d2.mono s⟩
theorem RulesIn.mono {w : World} {led led' : List (Addr × Obj)} {vs : List Value} {rs : List Row} (h : RulesIn w led vs rs) (s : ∀ p ∈ led, p ∈ led') : RulesIn w led' vs rs := by
  induction h with
  | nil => exact .nil
  | cons a _ ih => exact .cons (a.mono s) ih
theorem RulesIn.length {w : World} {led : List (Addr × Obj)} {vs : List Value} {rs : List Row} (h : RulesIn w led vs rs) : vs.length = rs.length := by
  induction h with
  | nil => rfl
  | cons _ _ ih => rw [List.length_cons, List.length_cons, ih]
theorem RulesIn.snoc {w : World} {led : List (Addr × Obj)} {vs : List Value} {rs : List Row} {v : Value} {r : Row} (h : RulesIn w led vs rs) (k : RuleIn w led v r) : RulesIn w led (vs ++ [v]) (rs ++ [r]) := by
  induction h with
  | nil => exact .cons k .nil
  | cons a _ ih => exact .cons a ih
theorem RulesIn.get {w : World} {led : List (Addr × Obj)} {vs : List Value} {rs : List Row} (h : RulesIn w led vs rs) : ∀ {i : Nat} {v : Value}, vs[i]? = some v → ∃ r, rs[i]? = some r ∧ RuleIn w led v r := by
  induction h with
  | nil => intro i v e; simp at e
  | cons a _ ih =>
    intro i v e
    cases i with
    | zero => simp at e; subst e; exact ⟨_, rfl, a⟩
    | succ i => simp at e; obtain ⟨r, h1, h2⟩ := ih e; exact ⟨r, by simpa using h1, h2⟩

/-- the pairs of the levels' dict -/
inductive PairsIn (led : List (Addr × Obj)) : List (Int × Value) → List (Int × Dat) → Prop
  | nil : PairsIn led [] []
  | cons {k : Int} {v : Value} {d : Dat} {l : List (Int × Value)} {r : List (Int × Dat)} : DatIn led v d → PairsIn led l r → PairsIn led ((k, v) :: l) ((k, d) :: r)
theorem PairsIn.mono {led led' : List (Addr × Obj)} {l : List (Int × Value)} {r : List (Int × Dat)} (h : PairsIn led l r) (s : ∀ p ∈ led, p ∈ led') : PairsIn led' l r := by
  induction h with
  | nil => exact .nil
  | cons a _ ih => exact .cons (a.mono s) ih

theorem lev_at {led : List (Addr × Obj)} {kvs : List (Int × Value)} {lev : List (Int × Dat)} {p : Int × Dat} (hP : PairsIn led kvs lev) (ok : LevOk lev) (hi : p ∈ levSort lev) : ∃ u, valueAt kvs p.1 = some u ∧ DatIn led u p.2 := by
  rcases ok with ⟨a, rfl⟩ | ⟨a, b, rfl⟩ | ⟨a, b, rfl⟩ | ⟨a, b, c, rfl⟩ | ⟨a, b, c, rfl⟩
  · cases hP with | cons d1 hP => cases hP; simp [levSort, levIns] at hi; subst hi; exact ⟨_, rfl, d1⟩
  · cases hP with | cons d1 hP => cases hP with | cons d2 hP => cases hP; simp [levSort, levIns] at hi; rcases hi with rfl | rfl <;> exact ⟨_, rfl, by assumption⟩
  · cases hP with | cons d1 hP => cases hP with | cons d2 hP => cases hP; simp [levSort, levIns] at hi; rcases hi with rfl | rfl <;> exact ⟨_, rfl, by assumption⟩
  · cases hP with | cons d1 hP => cases hP with | cons d2 hP => cases hP with | cons d3 hP => cases hP; simp [levSort, levIns] at hi; rcases hi with rfl | rfl | rfl <;> exact ⟨_, rfl, by assumption⟩
  · cases hP with | cons d1 hP => cases hP with | cons d2 hP => cases hP with | cons d3 hP => cases hP; simp [levSort, levIns] at hi; rcases hi with rfl | rfl | rfl <;> exact ⟨_, rfl, by assumption⟩

/-- the ledger bears the grammar at g -/
inductive GramAt (w : World) (led : List (Addr × Obj)) (g : Addr) (P : Plan) : Prop
  | mk (gd : Addr) (ks : Nat → Tok) (nA rA lA : Addr) (lo : Obj) (ev b1 b2 b3 b4 : Value) (nvs rvs : List Value) (kvs : List (Int × Value)) (n1 n2 c : Nat)
    (h1 : (g, instObj 121 gd) ∈ led)
    (h2 : (gd, dictOf [⟨PyData.keyHash w.params (Str.ofString "names"), .str (Str.ofString "names") (ks 0), .ref nA⟩, ⟨PyData.keyHash w.params (Str.ofString "terminal_count"), .str (Str.ofString "terminal_count") (ks 1), .int 6 (ks 2)⟩, ⟨PyData.keyHash w.params (Str.ofString "rules"), .str (Str.ofString "rules") (ks 3), .ref rA⟩, ⟨PyData.keyHash w.params (Str.ofString "levels"), .str (Str.ofString "levels") (ks 4), .ref lA⟩, ⟨PyData.keyHash w.params (Str.ofString "expect"), .str (Str.ofString "expect") (ks 5), ev⟩, ⟨PyData.keyHash w.params (Str.ofString "start"), .str (Str.ofString "start") (ks 6), .int P.start (ks 7)⟩, ⟨PyData.keyHash w.params (Str.ofString "by_left"), .str (Str.ofString "by_left") (ks 8), b1⟩, ⟨PyData.keyHash w.params (Str.ofString "offsets"), .str (Str.ofString "offsets") (ks 9), b2⟩, ⟨PyData.keyHash w.params (Str.ofString "owners"), .str (Str.ofString "owners") (ks 10), b3⟩, ⟨PyData.keyHash w.params (Str.ofString "item_count"), .str (Str.ofString "item_count") (ks 11), b4⟩] c) ∈ led)
    (h3 : (nA, listOf nvs.toArray n1) ∈ led)
    (h4 : DatAll led nvs (P.names.map Dat.str))
    (h5 : (rA, listOf rvs.toArray n2) ∈ led)
    (h6 : RulesIn w led rvs P.rows)
    (h7 : (lA, lo) ∈ led)
    (h8 : (lA == sysModules) = false)
    (h9 : lo.IsDictOf (PySem.intKind PySem.Challenge.rw_pq0569_01.row.prog w) kvs)
    (h10 : PairsIn led kvs P.levels)
    (h11 : DatIn led ev P.expect) : GramAt w led g P
end
section
/-- what follows a statement: the rest of the block, or what a leap meets -/
def Kont (M : Model) (A : Around) (rest : List Stmt) (env : Env) (Q : Flow → Shared → Prop) (E : Value → Shared → Prop) (f : Flow) (s : Shared) : Prop :=
  match f with
  | .next => wpAny M A (execs rest env) Q E s
  | f => Q f s
theorem kont_cons {M : Model} {A : Around} {E : Value → Shared → Prop} {hp : Heap} {g : Array GenState} {d : Drawn} {os : OsState} {X : Nat} {env : Env} {st : Stmt} {rest : List Stmt} {Q : Flow → Shared → Prop} (h : ∀ tk, wpAny M A (exec st env) (Kont M A rest env Q E) E ⟨hp, g, d, tk, os⟩) : wpAny M A (execs (st :: rest) env) Q E ⟨hp, g, d, X, os⟩ :=
  wpAny_execs_cons (wpAny_mono (h X) (fun f s k => by cases f <;> exact k) fun _ _ e => e)
theorem kont_next {M : Model} {A : Around} {E : Value → Shared → Prop} {s : Shared} {env : Env} {rest : List Stmt} {Q : Flow → Shared → Prop} (h : wpAny M A (execs rest env) Q E s) : Kont M A rest env Q E .next s := h
theorem kont_nil {M : Model} {A : Around} {E : Value → Shared → Prop} {s : Shared} {env : Env} {Q : Flow → Shared → Prop} (h : Q .next s) : Kont M A [] env Q E .next s := wpAny_execs_nil h
theorem kont_ret {M : Model} {A : Around} {E : Value → Shared → Prop} {s : Shared} {env : Env} {rest : List Stmt} {v : Value} {Q : Flow → Shared → Prop} (h : Q (.ret v) s) : Kont M A rest env Q E (.ret v) s := h
end
section
section
variable {prog : Program} {w : World} {A : Around} {E : Value → Shared → Prop} {s : Shared} {h₀ : Heap} {L a : Addr} {m : Str → Option Value} {news : List (Addr × Obj)} {v : Value}
theorem sort_one {n : Nat} {P : PySem.Fin → Shared → Prop} (F : Fr h₀ L s.heap m) (N : News h₀ L s.heap news) (ho : s.heap.get? a = some (seqObj "list" [v].toArray n)) (haL : a ≠ L) (ha0 : h₀.get? a = none) (hna : ∀ p ∈ news, p.1 ≠ a)
    (h : ∀ c h', Fr h₀ L h' m → News h₀ L h' ((a, seqObj "list" [v].toArray c) :: news) → P (.done (.ret .none)) { s with heap := h' }) :
    wpAny (model prog w) A (Builtin.«list.sort» ⟨[.ref a], []⟩) P E s := by
  have ha : a < s.heap.objs.size := Heap.lt_size ho
  have s1 := Heap.SameBut.update s.heap a (Obj.mapSeq fun _ => (#[] : Array Value))
  obtain ⟨e1, ho1⟩ : ∃ e1, (s.heap.update a (Obj.mapSeq fun _ => (#[] : Array Value))).get? a = some (seqObj "list" #[] e1) := ⟨_, get?_update_seq ho fun _ => #[]⟩
  have F3 : Fr h₀ L (((s.heap.update a (Obj.mapSeq fun _ => (#[] : Array Value))).push (seqObj "tuple" [v].toArray 0)).push (seqObj "list" #[] 0)) m := ((kas_fr F s1 haL ha0).push _).push _
  have N2 : News h₀ L (((s.heap.update a (Obj.mapSeq fun _ => (#[] : Array Value))).push (seqObj "tuple" [v].toArray 0)).push (seqObj "list" #[] 0)) news :=
    (kas_news N s1 hna).grown fun b x e => Heap.get?_push_of_some _ (Heap.get?_push_of_some _ e)
  have N3 : News h₀ L (((s.heap.update a (Obj.mapSeq fun _ => (#[] : Array Value))).push (seqObj "tuple" [v].toArray 0)).push (seqObj "list" #[] 0)) ((a, seqObj "list" #[] e1) :: news) := fun p hp => by
    rcases List.mem_cons.mp hp with rfl | hp
    · exact ⟨Heap.get?_push_of_some _ (Heap.get?_push_of_some _ ho1), haL, ha0⟩
    · exact N2 p hp
  rw [list_sort_plain]
  refine wpAny_bind (listItems_at ho rfl ?_)
  refine wpAny_bind (listUpdate_at ho rfl ?_ (by rw [List.size_toArray, sizeLine_eq]; exact Nat.le_of_ble_eq_true rfl) (Nat.zero_le _))
  refine wpAny_bind (seqEpoch_at ho1 rfl ?_)
  refine wpAny_bind (wpAny_newTuple ?_ (by show [v].length ≤ _; rw [sizeLine_eq]; exact Nat.le_of_ble_eq_true rfl))
  refine wpAny_bind (wpAny_newList ?_ (Nat.zero_le _))
  refine wpAny_holding ?_
  show wpAny (model prog w) A _ P E { s with heap := ((s.heap.update a (Obj.mapSeq fun _ => (#[] : Array Value))).push (seqObj "tuple" [v].toArray 0)).push (seqObj "list" #[] 0) }
  dsimp only
  have hn2 : [v].toArray.size < 2 := Nat.lt_succ_self 1
  rw [if_pos hn2]
  rw [if_pos hn2]
  refine wpAny_bind (wpAny_pure ?_)
  refine wpAny_bind (wpAny_pure ?_)
  have hz : arrOf (SortSt.mk' general' ([v].toArray.zip [v].toArray) #[] 7 none) = #[(v, v)] := by show [v].toArray.zip [v].toArray = _; simp
  dsimp only
  have na := N3 (a, seqObj "list" #[] e1) (.head _)
  refine wpAny_bind (seqEpoch_at na.1 rfl ?_)
  have s2 := Heap.SameBut.update (((s.heap.update a (Obj.mapSeq fun _ => (#[] : Array Value))).push (seqObj "tuple" [v].toArray 0)).push (seqObj "list" #[] 0)) a (Obj.mapSeq fun _ => [v].toArray)
  obtain ⟨c2, hc2⟩ : ∃ c2, ((((s.heap.update a (Obj.mapSeq fun _ => (#[] : Array Value))).push (seqObj "tuple" [v].toArray 0)).push (seqObj "list" #[] 0)).update a (Obj.mapSeq fun _ => [v].toArray)).get? a = some (seqObj "list" [v].toArray c2) := ⟨_, get?_update_seq na.1 fun _ => [v].toArray⟩
  have hm : Array.map (fun x => x.snd) (arrOf (SortSt.mk' general' ([v].toArray.zip [v].toArray) #[] 7 none)) = [v].toArray := by rw [hz]; simp
  rw [hm]
  refine wpAny_bind (listUpdate_at na.1 rfl ?_ (Nat.zero_le _) (by rw [sizeLine_eq]; exact Nat.le_of_ble_eq_true rfl))
  simp only [bne_self_eq_false, Bool.false_eq_true, if_false]
  refine wpAny_pure (h c2 _ (kas_fr F3 s2 haL ha0) fun p hp => ?_)
  rcases List.mem_cons.mp hp with rfl | hp
  · exact ⟨hc2, haL, ha0⟩
  · exact ⟨(s2.2 p.1 (hna p hp)).trans (N2 p hp).1, (N2 p hp).2⟩

theorem sorted_one {l : Addr} {Q : Value → Shared → Prop} (F : Fr h₀ L s.heap m) (N : News h₀ L s.heap news) (hl : s.heap.IsList l [v].toArray)
    (h : ∀ D c h', Fr h₀ L h' m → News h₀ L h' ((D, PySem.W.listOf [v].toArray c) :: news) → (∀ q ∈ news, q.1 < D) → Q (.ref D) { s with heap := h' }) :
    wpAny (model prog w) A (call (.builtin "sorted") [.ref l]) Q E s := by
  refine Calls.call_function_entry kind_sorted plain_sorted entry_sorted (args_sorted1 _) ?_
  unfold Builtin.«sorted»
  refine wpAny_bind (m := checkCount "sorted" 1 1 _) (wpAny_pure ?_)
  refine wpAny_bind (collect_list hl ?_ (by rw [sizeLine_eq]; exact Nat.le_of_ble_eq_true rfl))
  refine wpAny_bind (wpAny_newList ?_ (by rw [sizeLine_eq]; exact Nat.le_of_ble_eq_true rfl))
  have hsz : ((s.heap.push (seqObj "list" #[] 0)).update s.heap.objs.size (Obj.mapSeq (· ++ [v].toArray))).objs.size = s.heap.objs.size + 1 := by
    rw [Heap.size_update, size_push']
  have hoL : (((s.heap.push (seqObj "list" #[] 0)).update s.heap.objs.size (Obj.mapSeq (· ++ [v].toArray))).push (seqObj "list" [v].toArray 0)).get? (s.heap.objs.size + 1) = some (seqObj "list" [v].toArray 0) := by
    rw [← hsz]; exact Heap.get?_push_size _ rfl
  have keep : ∀ b o, s.heap.get? b = some o → (((s.heap.push (seqObj "list" #[] 0)).update s.heap.objs.size (Obj.mapSeq (· ++ [v].toArray))).push (seqObj "list" [v].toArray 0)).get? b = some o := fun b o q => by
    have hlt : b < s.heap.objs.size := Heap.lt_size q
    rw [Heap.get?_push_ne _ _ _ (by rw [hsz]; exact Nat.ne_of_lt (Nat.lt_succ_of_lt hlt)), Heap.get?_update_ne _ _ _ _ (Nat.ne_of_lt hlt), Heap.get?_push_ne _ _ _ (Nat.ne_of_lt hlt)]
    exact q
  have hL : L < s.heap.objs.size := F.ns.lt
  show wpAny _ _ _ _ _ { s with heap := ((s.heap.push (seqObj "list" #[] 0)).update s.heap.objs.size (Obj.mapSeq (· ++ [v].toArray))).push (seqObj "list" [v].toArray 0) }
  rw [hsz]
  refine wpAny_bind (wpAny_holding (wpAny_call_entry slot_list_sort ⟨_, hoL, rfl⟩ entry_list_sort ?body (args_list_sort _)))
  case body =>
    refine sort_one (s := { s with heap := ((s.heap.push (seqObj "list" #[] 0)).update s.heap.objs.size (Obj.mapSeq (· ++ [v].toArray))).push (seqObj "list" [v].toArray 0) })
      (F.kept keep) (N.grown keep) hoL (Nat.ne_of_gt (Nat.lt_succ_of_lt hL)) (Heap.get?_none_of_le (Nat.le_trans F.above (Nat.le_succ_of_le (Nat.le_of_lt hL))))
      (fun p hp => Nat.ne_of_lt (Nat.lt_succ_of_lt (Heap.lt_size (N p hp).1))) fun c h' F' N' => ?_
    exact ⟨_, rfl, wpAny_pure ⟨_, rfl, h _ c h' F' N' fun q hq => Nat.lt_succ_of_lt (Heap.lt_size (N q hq).1)⟩⟩
end
end
theorem rst2 : True ∧ True := by (try walk1) <;> first | trivial | exact ⟨trivial, trivial⟩
local macro_rules | `(tactic| k_mem) => `(tactic| first | exact List.Mem.head _ | with_reducible assumption | (refine List.mem_cons_of_mem _ ?_; k_mem) | (refine List.mem_append_left _ ?_; k_mem) | (refine List.mem_append_right _ ?_; k_mem))
section
theorem lev_open {led : List (Addr × Obj)} {v : Value} {k : Int} {d : Dat} (h : DatIn led v (levDat (k, d))) : ∃ a n t1 v2, v = .ref a ∧ (a, ({ cls := .type "tuple", data := .seq [Value.int k t1, v2].toArray n } : Obj)) ∈ led ∧ DatIn led v2 d := by
  obtain ⟨a, vs, n, rfl, hm, hd⟩ := din_tup h
  obtain ⟨v1, us1, rfl, d1, hd1⟩ := dall_cons hd
  obtain ⟨t1, rfl⟩ := din_int d1
  obtain ⟨v2, us2, rfl, d2, hd2⟩ := dall_cons hd1
  obtain rfl := dall_nil hd2
  exact ⟨_, _, _, _, rfl, hm, d2⟩
theorem dat_one {led : List (Addr × Obj)} {vs : List Value} {d : Dat} (h : DatAll led vs [d]) : ∃ v, vs = [v] ∧ DatIn led v d := by
  cases h with | cons a h => cases h; exact ⟨_, rfl, a⟩
theorem dat_two {led : List (Addr × Obj)} {vs : List Value} {d e : Dat} (h : DatAll led vs [d, e]) : ∃ v u, vs = [v, u] ∧ DatIn led v d ∧ DatIn led u e := by
  cases h with | cons a h => cases h with | cons b h => cases h; exact ⟨_, _, rfl, a, b⟩
theorem dat_three {led : List (Addr × Obj)} {vs : List Value} {d e f : Dat} (h : DatAll led vs [d, e, f]) : ∃ v u x, vs = [v, u, x] ∧ DatIn led v d ∧ DatIn led u e ∧ DatIn led x f := by
  cases h with | cons a h => cases h with | cons b h => cases h with | cons c h => cases h; exact ⟨_, _, _, rfl, a, b, c⟩

set_option maxRecDepth 100000 in
set_option maxHeartbeats 8000000 in
theorem sorted_lev {w : World} {A : Around} {h₀ : Heap} {L : Addr} {m : Str → Option Value} {s : Shared} {Q E : Value → Shared → Prop} {news : List (Addr × Obj)} {l : Addr} {vs : List Value} {n : Nat} {lev : List (Int × Dat)}
    (X : (hd.heap_39 w.params).In h₀) (F : Fr h₀ L s.heap m) (N : News h₀ L s.heap news) (hm : (l, PySem.W.listOf vs.toArray n) ∈ news) (hD : DatAll news vs (lev.map levDat)) (ok : LevOk lev)
    (h : ∀ D vs' c h' tk, Fr h₀ L h' m → News h₀ L h' ((D, PySem.W.listOf vs'.toArray c) :: news) → (∀ q ∈ news, q.1 < D) → DatAll news vs' ((levSort lev).map levDat) → vs'.length ≤ 3 → Q (.ref D) { s with heap := h', toks := tk }) :
    wpAny (model PySem.Challenge.rw_pq0569_01.row.prog w) A (call (.builtin "sorted") [.ref l]) Q E s := by
  w_top off
  revert X; k_fill; intro X
  rcases ok with ⟨a, rfl⟩ | ⟨a, b, rfl⟩ | ⟨a, b, rfl⟩ | ⟨a, b, c, rfl⟩ | ⟨a, b, c, rfl⟩
  · obtain ⟨v, rfl, d1⟩ := dat_one hD
    refine sorted_one F N (N.isList hm) fun D c h' F' N' l1 => h D [v] c h' s.toks F' N' l1 hD (Nat.le_of_ble_eq_true rfl)
  all_goals first
    | obtain ⟨v, u, rfl, d1, d2⟩ := dat_two hD
    | obtain ⟨v, u, x, rfl, d1, d2, d3⟩ := dat_three hD
  all_goals obtain ⟨a1, n1, t1, v1, rfl, hm1, e1⟩ := lev_open d1
  all_goals obtain ⟨a2, n2, t2, v2, rfl, hm2, e2⟩ := lev_open d2
  all_goals try (obtain ⟨a3, n3, t3, v3, rfl, hm3, e3⟩ := lev_open d3)
  all_goals refine kat_sorted F N (N.isList hm) (Nat.le_of_ble_eq_true rfl) (Nat.le_of_ble_eq_true rfl) ?_
  all_goals intro D e1 h' F' N' l1
  all_goals k_steps
  all_goals refine h D _ _ _ _ (by k_asm) (by k_asm) l1 ?_ (Nat.le_of_ble_eq_true rfl)
  all_goals first
    | exact .cons d1 (.cons d2 .nil)
    | exact .cons d2 (.cons d1 .nil)
    | exact .cons d1 (.cons d2 (.cons d3 .nil))
    | exact .cons d3 (.cons d2 (.cons d1 .nil))
end
theorem rst3 : True ∧ True := by (try walk1) <;> first | trivial | exact ⟨trivial, trivial⟩
local macro_rules | `(tactic| kd_in) => `(tactic| first
  | assumption
  | exact DatIn.none | exact DatIn.int _ _ | exact DatIn.str _ _
  | (refine DatIn.mono ?kdM (by assumption); (case kdM => (intro p hp; k_mem)))
  | (refine' DatIn.tuple (by k_mem) ?kdT; (case kdT => kd_all))
  | fail "kd_in")
local macro_rules | `(tactic| kd_all) => `(tactic| first
  | assumption
  | exact DatAll.nil
  | (refine DatAll.mono ?kdM (by assumption); (case kdM => (intro p hp; k_mem)))
  | (refine' DatAll.cons ?kd1 ?kd2; (case kd1 => kd_in); (case kd2 => kd_all))
  | fail "kd_all")
section
local macro_rules | `(tactic| tb_rel) => `(tactic| first
  | assumption
  | exact Apart.nil
  | (refine Apart.lt (by assumption) ?s ?k; (case s => (intro p hp; k_mem)); (case k => tb_rel))
  | (refine Apart.off (by assumption) ?s ?k; (case s => (intro p hp; k_mem)); (case k => tb_rel))
  | (refine Apart.append (by assumption) ?s ?k; (case s => (intro p hp; k_mem)); (case k => tb_rel))
  | fail "apart")
theorem ints_one {vs : List Value} {a : Int} (h : IntsAre vs [a]) : ∃ t, vs = [.int a t] := by
  cases h with | cons _ t h => cases h; exact ⟨_, rfl⟩
theorem ints_two {vs : List Value} {a b : Int} (h : IntsAre vs [a, b]) : ∃ t u, vs = [.int a t, .int b u] := by
  cases h with | cons _ t h => cases h with | cons _ u h => cases h; exact ⟨_, _, rfl⟩
theorem ints_three {vs : List Value} {a b c : Int} (h : IntsAre vs [a, b, c]) : ∃ t u x, vs = [.int a t, .int b u, .int c x] := by
  cases h with | cons _ t h => cases h with | cons _ u h => cases h with | cons _ x h => cases h; exact ⟨_, _, _, rfl⟩
theorem PairsIn.keys {led : List (Addr × Obj)} {l : List (Int × Value)} {r : List (Int × Dat)} (h : PairsIn led l r) : l.map (·.1) = r.map (·.1) := by
  induction h with
  | nil => rfl
  | cons _ _ ih => simp only [List.map_cons, ih]
theorem keys_ints {prog : Program} {w : World} : ∀ {kvs : List (Int × Value)} {vs : List Value}, vs.length = kvs.length → (∀ (j : Nat) (v : Value), vs[j]? = some v → ∃ k x, kvs[j]? = some (k, x) ∧ (PySem.intKind prog w).is k v = true) → IntsAre vs (kvs.map (·.1))
  | [], [], _, _ => .nil
  | (k, x) :: kvs, v :: vs, e, h => by
    obtain ⟨k', x', e1, e2⟩ := h 0 v rfl
    simp at e1
    obtain ⟨rfl, rfl⟩ := e1
    have hv : ∃ t, v = .int k t := Value.isInt_shape e2
    obtain ⟨t, rfl⟩ := hv
    refine .cons k t (keys_ints (by simpa using e) fun j u hu => h (j + 1) u (by simpa using hu))

set_option maxRecDepth 100000 in
set_option maxHeartbeats 8000000 in
theorem sorted_keys {w : World} {A : Around} {h₀ : Heap} {L : Addr} {m : Str → Option Value} {s : Shared} {Q E : Value → Shared → Prop} {news : List (Addr × Obj)} {d : Addr} {o : Obj} {kvs : List (Int × Value)} {lev : List (Int × Dat)}
    (X : (hd.heap_39 w.params).In h₀) (hh : A.handled = none) (F : Fr h₀ L s.heap m) (N : News h₀ L s.heap news) (hm : (d, o) ∈ news) (lo : (d == sysModules) = false) (hD : o.IsDictOf (PySem.intKind PySem.Challenge.rw_pq0569_01.row.prog w) kvs) (hk : kvs.map (·.1) = lev.map (·.1)) (ok : LevOk lev)
    (h : ∀ D vs' c h' tk, Fr h₀ L h' m → News h₀ L h' ((D, PySem.W.listOf vs'.toArray c) :: news) → (∀ q ∈ news, q.1 < D) → IntsAre vs' ((levSort lev).map (·.1)) → Q (.ref D) { s with heap := h', toks := tk }) :
    wpAny (model PySem.Challenge.rw_pq0569_01.row.prog w) A (call (.builtin "sorted") [.ref d]) Q E s := by
  w_top off
  revert X; k_fill; intro X
  have hdo := kda_dict N hm hD
  obtain ⟨ep, hat⟩ := hdo.dictAt
  have hlen : kvs.length = lev.length := by simpa using congrArg List.length hk
  have hl3 : kvs.length ≤ 3 := by
    rcases ok with ⟨a, rfl⟩ | ⟨a, b, rfl⟩ | ⟨a, b, rfl⟩ | ⟨a, b, c, rfl⟩ | ⟨a, b, c, rfl⟩ <;> (rw [hlen]; exact Nat.le_of_ble_eq_true rfl)
  refine kdu_sorted (kdl_dict (knd := PySem.intKind _ _) (kvs := kvs) (ep := ep) lo) hh F N hat (by rw [sizeLine_eq]; omega) fun D h' tk vs F' N' l1 hl hv => ?_
  have hi : IntsAre vs (kvs.map (·.1)) := keys_ints hl hv
  rw [hk] at hi
  rcases ok with ⟨a, rfl⟩ | ⟨a, b, rfl⟩ | ⟨a, b, rfl⟩ | ⟨a, b, c, rfl⟩ | ⟨a, b, c, rfl⟩
  all_goals simp only [List.map_cons, List.map_nil] at hi
  all_goals first
    | obtain ⟨t, rfl⟩ := ints_one hi
    | obtain ⟨t, u, rfl⟩ := ints_two hi
    | obtain ⟨t, u, x, rfl⟩ := ints_three hi
  · have nz := N' (D, PySem.W.listOf [Value.int 4 t].toArray 0) (.head _)
    refine wpAny_call_entry slot_list_sort ⟨_, nz.1, rfl⟩ entry_list_sort ?_ (args_list_sort _)
    refine sort_one F' (fun p hp => N' p (.tail _ hp)) nz.1 nz.2.1 nz.2.2 (fun p hp => Nat.ne_of_lt (l1 p hp)) fun c h'' F'' N'' => ?_
    exact ⟨_, rfl, h D _ c h'' tk F'' N'' l1 (.cons _ _ .nil)⟩
  all_goals refine kat_lsort F' N' (UpdF.head fun p hp => Nat.ne_of_lt (l1 p hp)) rfl (Nat.le_of_ble_eq_true rfl) (Nat.le_of_ble_eq_true rfl) ?_
  all_goals intro e1 h'' F'' N''
  all_goals k_steps
  all_goals refine h D _ _ _ _ (by k_asm) (by k_asm) l1 ?_
  all_goals first
    | exact .cons _ _ (.cons _ _ .nil)
    | exact .cons _ _ (.cons _ _ (.cons _ _ .nil))
end
theorem rst4 : True ∧ True := by (try walk1) <;> first | trivial | exact ⟨trivial, trivial⟩
local macro_rules | `(tactic| tb_rel) => `(tactic| first
  | with_reducible exact Grown.refl
  | ((refine Grown.ltc (by assumption) ?k); (case k => tb_rel))
  | ((with_reducible refine Grown.lt (by assumption) ?k); (case k => tb_rel))
  | ((with_reducible refine Grown.off (by assumption) ?k); (case k => tb_rel))
  | ((with_reducible refine Grown.app (by assumption) ?k); (case k => tb_rel))
  | ((with_reducible refine Grown.offs (by assumption) ?k); (case k => tb_rel))
  | ((refine Grown.cell (by assumption) rfl ?k); (case k => tb_rel))
  | fail "grown")
local macro_rules | `(tactic| walk_at "newTuple") => `(tactic| (k_here; k_dflt (refine' newTup ?F ?N ?_ ?z; (case F => k_asm); (case N => k_asm); (case z => exact Nat.le_of_ble_eq_true rfl)); intro D' h' F' N' l1; (have l1r := l1); (try k_lt l1); (try k_sweep)))
local macro_rules | `(tactic| walk_at "execs cons") => `(tactic| (k_here; (with_reducible refine kont_cons ?_); intro tk'; (try dsimp only)))
local macro_rules | `(tactic| walk_at "Kont") => `(tactic| first | (with_reducible refine kont_nil ?_) | (with_reducible refine kont_next ?_) | (with_reducible refine kont_ret ?_))
section
set_option maxRecDepth 100000 in
set_option maxHeartbeats 8000000 in
theorem rtold_c {w : World} {loose : List Str} {mean : ExcName → Option Value} {mg mb : Str → Option Value}
    {dp un : Nat} {gd : Option (List Code)} {cn : Str} {cs : Scope} {a : Addr} {ccd : Value} {cl : List (Str × Addr)} {outer : List Env} {A₀ : Around} {base h₀ : Heap} {L : Addr} {m : Str → Option Value} {s : Shared} {Q E : Value → Shared → Prop}
    {v : Value} {r : Row} {news led : List (Addr × Obj)}
    (B : Below A₀ base outer h₀) (F : Fr h₀ L s.heap m) (X : (hd.heap_39 w.params).In h₀) (N : News h₀ L s.heap news) (T : Top hd.view_39 loose mean mg mb h₀) (hk : cs.kind = .function)
    (hR : RuleIn w led v r) (hs : ∀ p ∈ led, p ∈ news) (hd' : dp + 1 < recursionLimit) (hu : un + 8 < cLine)
    (hret : ∀ (D : Addr) (o : Obj) (h' : Heap) (tk' : Nat), Fr h₀ L h' m → News h₀ L h' ((D, o) :: news) → (∀ p ∈ news, p.1 < D) → DatIn ((D, o) :: led) (.ref D) r.told → Q (.ref D) { s with heap := h', toks := tk' }) :
    wpAny (model PySem.Challenge.rw_pq0569_01.row.prog w) (ktrTop dp un gd cn cs L a ccd cl outer) (call (.ref 132) [v]) Q E s := by
  w_top off
  revert X; k_fill; intro X
  obtain ⟨x, d, ks, num, rv, av, c, rfl, hx, hdd, hrv, hav⟩ := hR
  have hx := hs _ hx
  have hdd := hs _ hdd
  have hrh := hrv.handed
  have hah := hav.handed
  refine wpAny_call ?_
  k_dflt (first | (refine' code_defC ?k1q1 ?k2q1 ?k3q1 ?k4q1 ?k5q1 ?kAq1 ?kFq1 ?kKq1 ?k6q1 ?k7q1 ?k8q1 ?k9q1 ?kBq1 ?kDq1 ?_ ?c2q1 ?c3q1 ?c4q1; (case kAq1 => exact rfl); (case kFq1 => exact rfl); (case kKq1 => first | exact rfl | assumption); (case k1q1 => k_asm); (case k2q1 => k_asm); (case k3q1 => k_asm); (case k4q1 => k_asm); (case k5q1 => k_asm); (case k6q1 => k_is); (case k7q1 => k_is); (case k8q1 => ktr_room); (case k9q1 => exact BindsTo.of_eq rfl); (case kBq1 => exact rfl); (case kDq1 => decide +kernel); (case c2q1 => exact rfl); (case c3q1 => exact rfl); (case c4q1 => exact rfl); k_whole; intro g' L' h' tk' cells' FG' F' N' Y' B' X' T' l1; (have l1r := l1); (try k_lt l1); k_cells Y'; (try simp only [List.cons_append, List.nil_append] at N'); (try dsimp only); (try k_fold)) | ktr_enter)
  k_steps
  rename (∀ p : Addr × Obj, p ∈ _ → p.1 < _) => l1r
  refine hret _ _ _ _ (by k_asm) (by k_asm) l1r ?_
  unfold Row.told
  exact .tuple (.head _) (.cons (.int _ _) (.cons (hrv.mono fun p hp => .tail _ hp) (.cons (.int _ _) (.cons (hav.mono fun p hp => .tail _ hp) (.cons (.int _ _) .nil)))))
end
theorem rst5 : True ∧ True := by (try walk1) <;> first | trivial | exact ⟨trivial, trivial⟩
local macro_rules | `(tactic| walk_at "eval ListComp") => `(tactic| (k_here; (fail_if_success (with_reducible show wpAny _ _ (eval (PySem.Expr.ListComp (PySem.Expr.BinOp _ _ _ _) _ _ _) _) _ _ _)); k_dflt (refine compE (F₀ := by k_asm) (by rfl) (by decide) (by rfl) (by decide) (by rfl) ?_)))
local macro_rules | `(tactic| walk_at "call type:tuple") => `(tactic| (k_here; refine halt_of ?_))
section
set_option maxRecDepth 100000 in
set_option maxHeartbeats 8000000 in
theorem told_c {w : World} {loose : List Str} {mean : ExcName → Option Value} {mg mb : Str → Option Value}
    {dp un : Nat} {gd : Option (List Code)} {cn : Str} {cs : Scope} {a : Addr} {ccd : Value} {cl : List (Str × Addr)} {outer : List Env} {A₀ : Around} {base h₀ : Heap} {L : Addr} {m : Str → Option Value} {s : Shared} {Q E : Value → Shared → Prop}
    {p : Addr} {P : Plan} {news : List (Addr × Obj)}
    (B : Below A₀ base outer h₀) (F : Fr h₀ L s.heap m) (X : (hd.heap_39 w.params).In h₀) (N : News h₀ L s.heap news) (T : Top hd.view_39 loose mean mg mb h₀) (hk : cs.kind = .function)
    (hP : GramAt w news p P) (ok : P.Ok) (hd' : dp + 4 < recursionLimit) (hu : un + 16 < cLine)
    (hret : ∀ (v : Value) (tl : List (Addr × Obj)) (h' : Heap) (tk' : Nat), Fr h₀ L h' m → News h₀ L h' (tl ++ news) → Apart news tl → DatIn (tl ++ news) v P.told → Q v { s with heap := h', toks := tk' }) :
    wpAny (model PySem.Challenge.rw_pq0569_01.row.prog w) (ktrTop dp un gd cn cs L a ccd cl outer) (call (.ref 137) [.ref p]) Q E s := by
  w_top off
  revert X; k_fill; intro X
  obtain ⟨gdA, ks, nA, rA, lA, lo, ev, b1, b2, b3, b4, nvs, rvs, kvs, n1, n2, c, hg, hgd, hnA, hnD, hrA, hrD, hlA, hlo, hlD, hlP, heD⟩ := hP
  have hrl := hrD.length
  have hnl := hnD.length
  simp only [List.length_map] at hrl hnl
  have okr := ok.rows
  have okn := ok.names
  have okl := ok.levs
  refine wpAny_call ?_
  k_dflt (first | (refine' code_defC ?k1q1 ?k2q1 ?k3q1 ?k4q1 ?k5q1 ?kAq1 ?kFq1 ?kKq1 ?k6q1 ?k7q1 ?k8q1 ?k9q1 ?kBq1 ?kDq1 ?_ ?c2q1 ?c3q1 ?c4q1; (case kAq1 => exact rfl); (case kFq1 => exact rfl); (case kKq1 => first | exact rfl | assumption); (case k1q1 => k_asm); (case k2q1 => k_asm); (case k3q1 => k_asm); (case k4q1 => k_asm); (case k5q1 => k_asm); (case k6q1 => k_is); (case k7q1 => k_is); (case k8q1 => ktr_room); (case k9q1 => exact BindsTo.of_eq rfl); (case kBq1 => exact rfl); (case kDq1 => decide +kernel); (case c2q1 => exact rfl); (case c3q1 => exact rfl); (case c4q1 => exact rfl); k_whole; intro g' L' h' tk' cells' FG' F' N' Y' B' X' T' l1; (have l1r := l1); (try k_lt l1); k_cells Y'; (try simp only [List.cons_append, List.nil_append] at N'); (try dsimp only); (try k_fold)) | ktr_enter)
  (k_steps; (repeat ((refine un_halt ?_); (first | (k_here; (with_reducible show wpAny _ _ (call (Value.ref 144) [Value.ref _, Value.int _ _]) _ _ _); k_dflt (refine take_u (by k_asm) (by k_asm) (by k_asm) (by k_asm) (by k_asm) (by first | exact rfl | assumption) (by k_updF) (by with_reducible assumption) (by first | with_reducible assumption | exact map_take24) (by decide) (by decide) (by ktr_room) (by ktr_units) ?_); intro d' t' vs' ns' n' h' tk' d0' d1' hI' hl' F' N'; (try dsimp only at N'); (try k_sweep)) | (k_here; (with_reducible show wpAny _ _ (call (Value.type _) [Value.ref _]) _ _ _); k_dflt (refine tupOf (by k_asm) (by k_asm) (by k_mem) (by omega) ?_); intro D' h' F' N' l1; (have l1r := l1); (try k_lt l1); (try k_sweep)) | (k_here; (with_reducible show wpAny _ _ (binaryOp _ (Value.ref _) (Value.ref _)) _ _ _); k_dflt (refine addL (by k_asm) (by k_asm) (by k_mem) (by k_mem) (by (simp only [List.length_append, List.length_take, List.length_drop, List.length_cons, List.length_nil]; omega)) ?_); intro D' h' F' N' l1; (have l1r := l1); (try k_lt l1); (try k_sweep)) | (k_here; k_dflt (refine kda_set (knd := PySem.strKind _ _) (by k_asm) (by k_asm) (by k_updF) (by with_reducible assumption) (strKind_is _ _ _ _) (by (rw [sizeLine_eq]; exact Nat.le_of_ble_eq_true (by with_unfolding_all rfl))) ?_); intro h' o' F' N' hd'; (try dsimp only at N'); (first | rw [stored_rules] at hd' | rw [stored_names] at hd' | rw [stored_levels] at hd' | rw [stored_expect] at hd' | rw [stored_start] at hd'); (try k_sweep))); k_steps)))
  (k_here; (with_reducible show wpAny _ _ (call (Value.builtin "sorted") [Value.ref _]) _ _ _); k_dflt (refine' sorted_keys ?Xq3 ?hhq3 ?Fq3 ?Nq3 ?Mq3 ?loq3 ?Dq3 ?kq3 ?oq3 ?_; (case Xq3 => k_asm); (case hhq3 => rfl); (case Fq3 => k_asm); (case Nq3 => k_asm); (case Mq3 => k_mem); (case loq3 => k_asm); (case Dq3 => with_reducible assumption); (case kq3 => exact PairsIn.keys (by with_reducible assumption)); (case oq3 => with_reducible assumption)); intro D' vs' c' h' tk' F' N' l1 hI'; (have l1r := l1); (try k_lt l1); (try k_sweep))
  (k_steps; (repeat ((refine un_halt ?_); (first | (k_here; (with_reducible show wpAny _ _ (call (Value.ref 144) [Value.ref _, Value.int _ _]) _ _ _); k_dflt (refine take_u (by k_asm) (by k_asm) (by k_asm) (by k_asm) (by k_asm) (by first | exact rfl | assumption) (by k_updF) (by with_reducible assumption) (by first | with_reducible assumption | exact map_take24) (by decide) (by decide) (by ktr_room) (by ktr_units) ?_); intro d' t' vs' ns' n' h' tk' d0' d1' hI' hl' F' N'; (try dsimp only at N'); (try k_sweep)) | (k_here; (with_reducible show wpAny _ _ (call (Value.type _) [Value.ref _]) _ _ _); k_dflt (refine tupOf (by k_asm) (by k_asm) (by k_mem) (by omega) ?_); intro D' h' F' N' l1; (have l1r := l1); (try k_lt l1); (try k_sweep)) | (k_here; (with_reducible show wpAny _ _ (binaryOp _ (Value.ref _) (Value.ref _)) _ _ _); k_dflt (refine addL (by k_asm) (by k_asm) (by k_mem) (by k_mem) (by (simp only [List.length_append, List.length_take, List.length_drop, List.length_cons, List.length_nil]; omega)) ?_); intro D' h' F' N' l1; (have l1r := l1); (try k_lt l1); (try k_sweep)) | (k_here; k_dflt (refine kda_set (knd := PySem.strKind _ _) (by k_asm) (by k_asm) (by k_updF) (by with_reducible assumption) (strKind_is _ _ _ _) (by (rw [sizeLine_eq]; exact Nat.le_of_ble_eq_true (by with_unfolding_all rfl))) ?_); intro h' o' F' N' hd'; (try dsimp only at N'); (first | rw [stored_rules] at hd' | rw [stored_names] at hd' | rw [stored_levels] at hd' | rw [stored_expect] at hd' | rw [stored_start] at hd'); (try k_sweep))); k_steps)))
  rename IntsAre _ _ => hI
  have hIl := hI.length
  have hll : (levSort P.levels).length ≤ 3 := by
    rcases okl with ⟨a, e⟩ | ⟨a, b, e⟩ | ⟨a, b, e⟩ | ⟨a, b, c, e⟩ | ⟨a, b, c, e⟩ <;> (rw [e]; exact Nat.le_of_ble_eq_true rfl)
  simp only [List.length_map] at hIl
  refine comp_led (J := CJ _ ((levSort P.levels).map levDat)) (by rfl) (by k_asm) (by k_asm) (by k_mem) (by omega) CJ.start ?_ ?_
  · intro i v ys nw I oI C oC D m₂ h tk E' hi hv hJ hC hx F N off ne
    obtain ⟨tl, rfl, hab, hyl, hys⟩ := hJ
    obtain ⟨q, t, hq, rfl⟩ := ints_at hI hv
    obtain ⟨u, hu, hud⟩ := lev_at hlP okl (List.mem_of_getElem? hq)
    (k_steps; (repeat ((refine un_halt ?_); (first | (k_here; (with_reducible show wpAny _ _ (call (Value.ref 144) [Value.ref _, Value.int _ _]) _ _ _); k_dflt (refine take_u (by k_asm) (by k_asm) (by k_asm) (by k_asm) (by k_asm) (by first | exact rfl | assumption) (by k_updF) (by with_reducible assumption) (by first | with_reducible assumption | exact map_take24) (by decide) (by decide) (by ktr_room) (by ktr_units) ?_); intro d' t' vs' ns' n' h' tk' d0' d1' hI' hl' F' N'; (try dsimp only at N'); (try k_sweep)) | (k_here; (with_reducible show wpAny _ _ (call (Value.type _) [Value.ref _]) _ _ _); k_dflt (refine tupOf (by k_asm) (by k_asm) (by k_mem) (by omega) ?_); intro D' h' F' N' l1; (have l1r := l1); (try k_lt l1); (try k_sweep)) | (k_here; (with_reducible show wpAny _ _ (binaryOp _ (Value.ref _) (Value.ref _)) _ _ _); k_dflt (refine addL (by k_asm) (by k_asm) (by k_mem) (by k_mem) (by (simp only [List.length_append, List.length_take, List.length_drop, List.length_cons, List.length_nil]; omega)) ?_); intro D' h' F' N' l1; (have l1r := l1); (try k_lt l1); (try k_sweep)) | (k_here; k_dflt (refine kda_set (knd := PySem.strKind _ _) (by k_asm) (by k_asm) (by k_updF) (by with_reducible assumption) (strKind_is _ _ _ _) (by (rw [sizeLine_eq]; exact Nat.le_of_ble_eq_true (by with_unfolding_all rfl))) ?_); intro h' o' F' N' hd'; (try dsimp only at N'); (first | rw [stored_rules] at hd' | rw [stored_names] at hd' | rw [stored_levels] at hd' | rw [stored_expect] at hd' | rw [stored_start] at hd'); (try k_sweep))); k_steps)))
    (k_here; k_dflt (refine' dictItemI ?Nq6 ?Mq6 ?Dq6 ?lq6 ?_ ?hsq6; (case Nq6 => k_asm); (case Dq6 => with_reducible assumption); (case Mq6 => k_mem); (case lq6 => with_reducible assumption); (case hsq6 => with_unfolding_all rfl)))
    (k_steps; (repeat ((refine un_halt ?_); (first | (k_here; (with_reducible show wpAny _ _ (call (Value.ref 144) [Value.ref _, Value.int _ _]) _ _ _); k_dflt (refine take_u (by k_asm) (by k_asm) (by k_asm) (by k_asm) (by k_asm) (by first | exact rfl | assumption) (by k_updF) (by with_reducible assumption) (by first | with_reducible assumption | exact map_take24) (by decide) (by decide) (by ktr_room) (by ktr_units) ?_); intro d' t' vs' ns' n' h' tk' d0' d1' hI' hl' F' N'; (try dsimp only at N'); (try k_sweep)) | (k_here; (with_reducible show wpAny _ _ (call (Value.type _) [Value.ref _]) _ _ _); k_dflt (refine tupOf (by k_asm) (by k_asm) (by k_mem) (by omega) ?_); intro D' h' F' N' l1; (have l1r := l1); (try k_lt l1); (try k_sweep)) | (k_here; (with_reducible show wpAny _ _ (binaryOp _ (Value.ref _) (Value.ref _)) _ _ _); k_dflt (refine addL (by k_asm) (by k_asm) (by k_mem) (by k_mem) (by (simp only [List.length_append, List.length_take, List.length_drop, List.length_cons, List.length_nil]; omega)) ?_); intro D' h' F' N' l1; (have l1r := l1); (try k_lt l1); (try k_sweep)) | (k_here; k_dflt (refine kda_set (knd := PySem.strKind _ _) (by k_asm) (by k_asm) (by k_updF) (by with_reducible assumption) (strKind_is _ _ _ _) (by (rw [sizeLine_eq]; exact Nat.le_of_ble_eq_true (by with_unfolding_all rfl))) ?_); intro h' o' F' N' hd'; (try dsimp only at N'); (first | rw [stored_rules] at hd' | rw [stored_names] at hd' | rw [stored_levels] at hd' | rw [stored_expect] at hd' | rw [stored_start] at hd'); (try k_sweep))); k_steps)))
    rename (∀ p : Addr × Obj, p ∈ _ → p.1 < _) => l1r
    refine comp_end1 (by k_asm) (by k_asm) l1r off (Or.inr ⟨_, by k_mem, rfl, _, rfl⟩) (CJ.snoc hyl hys (by rw [List.getElem?_map, hq]; rfl) (Apart.lt l1r (fun p hp => by k_mem) hab) ?_)
    exact .tuple (.head _) (.cons (.int _ _) (.cons (hud.mono fun p hp => by k_mem) .nil))
  · intro g ys nw hJ
    obtain ⟨tl, rfl, hab, hyl, hys⟩ := hJ
    rw [List.take_of_length_le (by simp only [List.length_map]; omega)] at hys
    unfold LCg.FinE
    intro D h tk F N o1
    (k_steps; (repeat ((refine un_halt ?_); (first | (k_here; (with_reducible show wpAny _ _ (call (Value.ref 144) [Value.ref _, Value.int _ _]) _ _ _); k_dflt (refine take_u (by k_asm) (by k_asm) (by k_asm) (by k_asm) (by k_asm) (by first | exact rfl | assumption) (by k_updF) (by with_reducible assumption) (by first | with_reducible assumption | exact map_take24) (by decide) (by decide) (by ktr_room) (by ktr_units) ?_); intro d' t' vs' ns' n' h' tk' d0' d1' hI' hl' F' N'; (try dsimp only at N'); (try k_sweep)) | (k_here; (with_reducible show wpAny _ _ (call (Value.type _) [Value.ref _]) _ _ _); k_dflt (refine tupOf (by k_asm) (by k_asm) (by k_mem) (by omega) ?_); intro D' h' F' N' l1; (have l1r := l1); (try k_lt l1); (try k_sweep)) | (k_here; (with_reducible show wpAny _ _ (binaryOp _ (Value.ref _) (Value.ref _)) _ _ _); k_dflt (refine addL (by k_asm) (by k_asm) (by k_mem) (by k_mem) (by (simp only [List.length_append, List.length_take, List.length_drop, List.length_cons, List.length_nil]; omega)) ?_); intro D' h' F' N' l1; (have l1r := l1); (try k_lt l1); (try k_sweep)) | (k_here; k_dflt (refine kda_set (knd := PySem.strKind _ _) (by k_asm) (by k_asm) (by k_updF) (by with_reducible assumption) (strKind_is _ _ _ _) (by (rw [sizeLine_eq]; exact Nat.le_of_ble_eq_true (by with_unfolding_all rfl))) ?_); intro h' o' F' N' hd'; (try dsimp only at N'); (first | rw [stored_rules] at hd' | rw [stored_names] at hd' | rw [stored_levels] at hd' | rw [stored_expect] at hd' | rw [stored_start] at hd'); (try k_sweep))); k_steps)))
    refine comp_led (J := CJ _ (P.rows.map Row.told)) (by rfl) (by k_asm) (by k_asm) (by k_mem) (by omega) CJ.start ?_ ?_
    · intro i v ys nw I oI C oC D m₂ h tk E' hi hv hJ hC hx F N off ne
      obtain ⟨tl2, rfl, hab2, hyl2, hys2⟩ := hJ
      obtain ⟨r, hr, hR⟩ := hrD.get hv
      (k_steps; (repeat ((refine un_halt ?_); (first | (k_here; (with_reducible show wpAny _ _ (call (Value.ref 144) [Value.ref _, Value.int _ _]) _ _ _); k_dflt (refine take_u (by k_asm) (by k_asm) (by k_asm) (by k_asm) (by k_asm) (by first | exact rfl | assumption) (by k_updF) (by with_reducible assumption) (by first | with_reducible assumption | exact map_take24) (by decide) (by decide) (by ktr_room) (by ktr_units) ?_); intro d' t' vs' ns' n' h' tk' d0' d1' hI' hl' F' N'; (try dsimp only at N'); (try k_sweep)) | (k_here; (with_reducible show wpAny _ _ (call (Value.type _) [Value.ref _]) _ _ _); k_dflt (refine tupOf (by k_asm) (by k_asm) (by k_mem) (by omega) ?_); intro D' h' F' N' l1; (have l1r := l1); (try k_lt l1); (try k_sweep)) | (k_here; (with_reducible show wpAny _ _ (binaryOp _ (Value.ref _) (Value.ref _)) _ _ _); k_dflt (refine addL (by k_asm) (by k_asm) (by k_mem) (by k_mem) (by (simp only [List.length_append, List.length_take, List.length_drop, List.length_cons, List.length_nil]; omega)) ?_); intro D' h' F' N' l1; (have l1r := l1); (try k_lt l1); (try k_sweep)) | (k_here; k_dflt (refine kda_set (knd := PySem.strKind _ _) (by k_asm) (by k_asm) (by k_updF) (by with_reducible assumption) (strKind_is _ _ _ _) (by (rw [sizeLine_eq]; exact Nat.le_of_ble_eq_true (by with_unfolding_all rfl))) ?_); intro h' o' F' N' hd'; (try dsimp only at N'); (first | rw [stored_rules] at hd' | rw [stored_names] at hd' | rw [stored_levels] at hd' | rw [stored_expect] at hd' | rw [stored_start] at hd'); (try k_sweep))); k_steps)))
      (k_here; (with_reducible show wpAny _ _ (call (Value.ref 132) [_]) _ _ _); k_dflt (refine' rtold_c ?Bq10 ?Fq10 ?Xq10 ?Nq10 ?Tq10 ?hkq10 ?Rq10 ?subq10 ?dq10 ?uq10 ?_; (case Bq10 => k_asm); (case Fq10 => k_asm); (case Xq10 => k_asm); (case Nq10 => k_asm); (case Tq10 => k_asm); (case hkq10 => first | exact rfl | assumption); (case Rq10 => with_reducible assumption); (case subq10 => (intro p hp; k_mem)); (case dq10 => ktr_room); (case uq10 => ktr_units)); intro D' o' h' tk' F' N' l1 hD'; (have l1r := l1); (try k_lt l1); (try k_sweep))
      (k_steps; (repeat ((refine un_halt ?_); (first | (k_here; (with_reducible show wpAny _ _ (call (Value.ref 144) [Value.ref _, Value.int _ _]) _ _ _); k_dflt (refine take_u (by k_asm) (by k_asm) (by k_asm) (by k_asm) (by k_asm) (by first | exact rfl | assumption) (by k_updF) (by with_reducible assumption) (by first | with_reducible assumption | exact map_take24) (by decide) (by decide) (by ktr_room) (by ktr_units) ?_); intro d' t' vs' ns' n' h' tk' d0' d1' hI' hl' F' N'; (try dsimp only at N'); (try k_sweep)) | (k_here; (with_reducible show wpAny _ _ (call (Value.type _) [Value.ref _]) _ _ _); k_dflt (refine tupOf (by k_asm) (by k_asm) (by k_mem) (by omega) ?_); intro D' h' F' N' l1; (have l1r := l1); (try k_lt l1); (try k_sweep)) | (k_here; (with_reducible show wpAny _ _ (binaryOp _ (Value.ref _) (Value.ref _)) _ _ _); k_dflt (refine addL (by k_asm) (by k_asm) (by k_mem) (by k_mem) (by (simp only [List.length_append, List.length_take, List.length_drop, List.length_cons, List.length_nil]; omega)) ?_); intro D' h' F' N' l1; (have l1r := l1); (try k_lt l1); (try k_sweep)) | (k_here; k_dflt (refine kda_set (knd := PySem.strKind _ _) (by k_asm) (by k_asm) (by k_updF) (by with_reducible assumption) (strKind_is _ _ _ _) (by (rw [sizeLine_eq]; exact Nat.le_of_ble_eq_true (by with_unfolding_all rfl))) ?_); intro h' o' F' N' hd'; (try dsimp only at N'); (first | rw [stored_rules] at hd' | rw [stored_names] at hd' | rw [stored_levels] at hd' | rw [stored_expect] at hd' | rw [stored_start] at hd'); (try k_sweep))); k_steps)))
      rename (∀ p : Addr × Obj, p ∈ _ → p.1 < _) => l1r
      rename DatIn _ _ r.told => hDr
      refine comp_end1 (by k_asm) (by k_asm) l1r off (Or.inr ⟨_, by k_mem, rfl, _, rfl⟩) (CJ.snoc hyl2 hys2 (by rw [List.getElem?_map, hr]; rfl) (Apart.lt l1r (fun p hp => by k_mem) hab2) ?_)
      exact hDr.mono (List.forall_mem_cons.mpr ⟨.head _, fun p hp => by k_mem⟩)
    · intro g ys nw hJ
      obtain ⟨tl2, rfl, hab2, hyl2, hys2⟩ := hJ
      rw [List.take_of_length_le (by simp only [List.length_map]; omega)] at hys2
      unfold LCg.FinE
      intro D h tk F N o1
      (k_steps; (repeat ((refine un_halt ?_); (first | (k_here; (with_reducible show wpAny _ _ (call (Value.ref 144) [Value.ref _, Value.int _ _]) _ _ _); k_dflt (refine take_u (by k_asm) (by k_asm) (by k_asm) (by k_asm) (by k_asm) (by first | exact rfl | assumption) (by k_updF) (by with_reducible assumption) (by first | with_reducible assumption | exact map_take24) (by decide) (by decide) (by ktr_room) (by ktr_units) ?_); intro d' t' vs' ns' n' h' tk' d0' d1' hI' hl' F' N'; (try dsimp only at N'); (try k_sweep)) | (k_here; (with_reducible show wpAny _ _ (call (Value.type _) [Value.ref _]) _ _ _); k_dflt (refine tupOf (by k_asm) (by k_asm) (by k_mem) (by omega) ?_); intro D' h' F' N' l1; (have l1r := l1); (try k_lt l1); (try k_sweep)) | (k_here; (with_reducible show wpAny _ _ (binaryOp _ (Value.ref _) (Value.ref _)) _ _ _); k_dflt (refine addL (by k_asm) (by k_asm) (by k_mem) (by k_mem) (by (simp only [List.length_append, List.length_take, List.length_drop, List.length_cons, List.length_nil]; omega)) ?_); intro D' h' F' N' l1; (have l1r := l1); (try k_lt l1); (try k_sweep)) | (k_here; k_dflt (refine kda_set (knd := PySem.strKind _ _) (by k_asm) (by k_asm) (by k_updF) (by with_reducible assumption) (strKind_is _ _ _ _) (by (rw [sizeLine_eq]; exact Nat.le_of_ble_eq_true (by with_unfolding_all rfl))) ?_); intro h' o' F' N' hd'; (try dsimp only at N'); (first | rw [stored_rules] at hd' | rw [stored_names] at hd' | rw [stored_levels] at hd' | rw [stored_expect] at hd' | rw [stored_start] at hd'); (try k_sweep))); k_steps)))
      refine ret_dat (by k_asm) (by tb_rel) ?_ (fun tl N ha D => hret _ tl _ _ (by k_asm) N ha D)
      unfold Plan.told
      kd_in
end
theorem rst6 : True ∧ True := by (try walk1) <;> first | trivial | exact ⟨trivial, trivial⟩
local macro_rules | `(tactic| walk_at "subscriptTail Name Constant ref int") => `(tactic| (k_here; k_dflt (refine' tupItem ?N ?M ?a ?b ?j ?x ?_ ?hs; (case N => k_asm); (case M => k_mem); (case a => decide); (case b => decide); (case j => rfl); (case x => rfl); (case hs => with_unfolding_all rfl))))
local macro_rules | `(tactic| walk_at "subscriptTail Name Constant ref str") => `(tactic| (k_here; k_dflt (refine' dictItemS ?N ?M ?D ?l ?_ ?hs; (case N => k_asm); (case M => k_mem); (case D => with_reducible assumption); (case l => rfl); (case hs => with_unfolding_all rfl))))
section
set_option maxRecDepth 100000 in
set_option maxHeartbeats 8000000 in
theorem due_c {w : World} {loose : List Str} {mean : ExcName → Option Value} {mg mb : Str → Option Value}
    {dp un : Nat} {gd : Option (List Code)} {cn : Str} {cs : Scope} {a : Addr} {ccd : Value} {cl : List (Str × Addr)} {outer : List Env} {A₀ : Around} {base h₀ : Heap} {L : Addr} {m : Str → Option Value} {s : Shared} {Q E : Value → Shared → Prop}
    {p : Addr} {P : Plan} {news : List (Addr × Obj)}
    (B : Below A₀ base outer h₀) (F : Fr h₀ L s.heap m) (X : (hd.heap_39 w.params).In h₀) (N : News h₀ L s.heap news) (T : Top hd.view_39 loose mean mg mb h₀) (hk : cs.kind = .function)
    (hP : PlanAt w news p P) (ok : P.Ok) (hd' : dp + 4 < recursionLimit) (hu : un + 16 < cLine)
    (hret : ∀ (v : Value) (tl : List (Addr × Obj)) (h' : Heap) (tk' : Nat), Fr h₀ L h' m → News h₀ L h' (tl ++ news) → Apart news tl → DatIn (tl ++ news) v P.told → Q v { s with heap := h', toks := tk' }) :
    wpAny (model PySem.Challenge.rw_pq0569_01.row.prog w) (ktrTop dp un gd cn cs L a ccd cl outer) (call (.ref 156) [.ref p]) Q E s := by
  w_top off
  revert X; k_fill; intro X
  obtain ⟨o, nA, rA, lA, ev, st, nvs, rvs, lvs, n1, n2, n3, ho, hdo, hnA, hnD, hrA, hrD, hlA, hlD, heD⟩ := hP
  have hrl := hrD.length
  have hnl := hnD.length
  have hll := hlD.length
  simp only [List.length_map] at hrl hnl hll
  have okr := ok.rows
  have okn := ok.names
  have okl := ok.levs
  refine wpAny_call ?_
  k_dflt (first | (refine' code_defC ?k1q1 ?k2q1 ?k3q1 ?k4q1 ?k5q1 ?kAq1 ?kFq1 ?kKq1 ?k6q1 ?k7q1 ?k8q1 ?k9q1 ?kBq1 ?kDq1 ?_ ?c2q1 ?c3q1 ?c4q1; (case kAq1 => exact rfl); (case kFq1 => exact rfl); (case kKq1 => first | exact rfl | assumption); (case k1q1 => k_asm); (case k2q1 => k_asm); (case k3q1 => k_asm); (case k4q1 => k_asm); (case k5q1 => k_asm); (case k6q1 => k_is); (case k7q1 => k_is); (case k8q1 => ktr_room); (case k9q1 => exact BindsTo.of_eq rfl); (case kBq1 => exact rfl); (case kDq1 => decide +kernel); (case c2q1 => exact rfl); (case c3q1 => exact rfl); (case c4q1 => exact rfl); k_whole; intro g' L' h' tk' cells' FG' F' N' Y' B' X' T' l1; (have l1r := l1); (try k_lt l1); k_cells Y'; (try simp only [List.cons_append, List.nil_append] at N'); (try dsimp only); (try k_fold)) | ktr_enter)
  (k_steps; (repeat ((refine un_halt ?_); (first | (k_here; (with_reducible show wpAny _ _ (call (Value.ref 144) [Value.ref _, Value.int _ _]) _ _ _); k_dflt (refine take_u (by k_asm) (by k_asm) (by k_asm) (by k_asm) (by k_asm) (by first | exact rfl | assumption) (by k_updF) (by with_reducible assumption) (by first | with_reducible assumption | exact map_take24) (by decide) (by decide) (by ktr_room) (by ktr_units) ?_); intro d' t' vs' ns' n' h' tk' d0' d1' hI' hl' F' N'; (try dsimp only at N'); (try k_sweep)) | (k_here; (with_reducible show wpAny _ _ (call (Value.type _) [Value.ref _]) _ _ _); k_dflt (refine tupOf (by k_asm) (by k_asm) (by k_mem) (by omega) ?_); intro D' h' F' N' l1; (have l1r := l1); (try k_lt l1); (try k_sweep)) | (k_here; (with_reducible show wpAny _ _ (binaryOp _ (Value.ref _) (Value.ref _)) _ _ _); k_dflt (refine addL (by k_asm) (by k_asm) (by k_mem) (by k_mem) (by (simp only [List.length_append, List.length_take, List.length_drop, List.length_cons, List.length_nil]; omega)) ?_); intro D' h' F' N' l1; (have l1r := l1); (try k_lt l1); (try k_sweep)) | (k_here; k_dflt (refine kda_set (knd := PySem.strKind _ _) (by k_asm) (by k_asm) (by k_updF) (by with_reducible assumption) (strKind_is _ _ _ _) (by (rw [sizeLine_eq]; exact Nat.le_of_ble_eq_true (by with_unfolding_all rfl))) ?_); intro h' o' F' N' hd'; (try dsimp only at N'); (first | rw [stored_rules] at hd' | rw [stored_names] at hd' | rw [stored_levels] at hd' | rw [stored_expect] at hd' | rw [stored_start] at hd'); (try k_sweep))); k_steps)))
  refine comp_led (J := CJ _ (P.rows.map Row.told)) (by rfl) (by k_asm) (by k_asm) (by k_mem) (by omega) CJ.start ?_ ?_
  · intro i v ys nw I oI C oC D m₂ h tk E' hi hv hJ hC hx F N off ne
    obtain ⟨tl, rfl, hab, hyl, hys⟩ := hJ
    obtain ⟨r, hr, hd⟩ := dats_get hrD hv
    obtain ⟨ra, rn, t1, v2, t3, v4, t5, t6, rfl, hrm, d2, d4⟩ := row_open hd
    (k_steps; (repeat ((refine un_halt ?_); (first | (k_here; (with_reducible show wpAny _ _ (call (Value.ref 144) [Value.ref _, Value.int _ _]) _ _ _); k_dflt (refine take_u (by k_asm) (by k_asm) (by k_asm) (by k_asm) (by k_asm) (by first | exact rfl | assumption) (by k_updF) (by with_reducible assumption) (by first | with_reducible assumption | exact map_take24) (by decide) (by decide) (by ktr_room) (by ktr_units) ?_); intro d' t' vs' ns' n' h' tk' d0' d1' hI' hl' F' N'; (try dsimp only at N'); (try k_sweep)) | (k_here; (with_reducible show wpAny _ _ (call (Value.type _) [Value.ref _]) _ _ _); k_dflt (refine tupOf (by k_asm) (by k_asm) (by k_mem) (by omega) ?_); intro D' h' F' N' l1; (have l1r := l1); (try k_lt l1); (try k_sweep)) | (k_here; (with_reducible show wpAny _ _ (binaryOp _ (Value.ref _) (Value.ref _)) _ _ _); k_dflt (refine addL (by k_asm) (by k_asm) (by k_mem) (by k_mem) (by (simp only [List.length_append, List.length_take, List.length_drop, List.length_cons, List.length_nil]; omega)) ?_); intro D' h' F' N' l1; (have l1r := l1); (try k_lt l1); (try k_sweep)) | (k_here; k_dflt (refine kda_set (knd := PySem.strKind _ _) (by k_asm) (by k_asm) (by k_updF) (by with_reducible assumption) (strKind_is _ _ _ _) (by (rw [sizeLine_eq]; exact Nat.le_of_ble_eq_true (by with_unfolding_all rfl))) ?_); intro h' o' F' N' hd'; (try dsimp only at N'); (first | rw [stored_rules] at hd' | rw [stored_names] at hd' | rw [stored_levels] at hd' | rw [stored_expect] at hd' | rw [stored_start] at hd'); (try k_sweep))); k_steps)))
    rename (∀ p : Addr × Obj, p ∈ _ → p.1 < _) => l1r
    refine comp_end1 (by k_asm) (by k_asm) l1r off (Or.inr ⟨_, by k_mem, rfl, _, rfl⟩) (CJ.snoc hyl hys (by rw [List.getElem?_map, hr]; rfl) (Apart.lt l1r (fun p hp => by k_mem) hab) ?_)
    exact .tuple (.head _) (.cons (.int _ _) (.cons (d2.mono fun p hp => by k_mem) (.cons (.int _ _) (.cons (d4.mono fun p hp => by k_mem) (.cons (.int _ _) .nil)))))
  · intro g ys nw hJ
    obtain ⟨tl, rfl, hab, hyl, hys⟩ := hJ
    rw [List.take_of_length_le (by simp only [List.length_map]; omega)] at hys
    unfold LCg.FinE
    intro D h tk F N o1
    (k_steps; (repeat ((refine un_halt ?_); (first | (k_here; (with_reducible show wpAny _ _ (call (Value.ref 144) [Value.ref _, Value.int _ _]) _ _ _); k_dflt (refine take_u (by k_asm) (by k_asm) (by k_asm) (by k_asm) (by k_asm) (by first | exact rfl | assumption) (by k_updF) (by with_reducible assumption) (by first | with_reducible assumption | exact map_take24) (by decide) (by decide) (by ktr_room) (by ktr_units) ?_); intro d' t' vs' ns' n' h' tk' d0' d1' hI' hl' F' N'; (try dsimp only at N'); (try k_sweep)) | (k_here; (with_reducible show wpAny _ _ (call (Value.type _) [Value.ref _]) _ _ _); k_dflt (refine tupOf (by k_asm) (by k_asm) (by k_mem) (by omega) ?_); intro D' h' F' N' l1; (have l1r := l1); (try k_lt l1); (try k_sweep)) | (k_here; (with_reducible show wpAny _ _ (binaryOp _ (Value.ref _) (Value.ref _)) _ _ _); k_dflt (refine addL (by k_asm) (by k_asm) (by k_mem) (by k_mem) (by (simp only [List.length_append, List.length_take, List.length_drop, List.length_cons, List.length_nil]; omega)) ?_); intro D' h' F' N' l1; (have l1r := l1); (try k_lt l1); (try k_sweep)) | (k_here; k_dflt (refine kda_set (knd := PySem.strKind _ _) (by k_asm) (by k_asm) (by k_updF) (by with_reducible assumption) (strKind_is _ _ _ _) (by (rw [sizeLine_eq]; exact Nat.le_of_ble_eq_true (by with_unfolding_all rfl))) ?_); intro h' o' F' N' hd'; (try dsimp only at N'); (first | rw [stored_rules] at hd' | rw [stored_names] at hd' | rw [stored_levels] at hd' | rw [stored_expect] at hd' | rw [stored_start] at hd'); (try k_sweep))); k_steps)))
    (k_here; (with_reducible show wpAny _ _ (call (Value.builtin "sorted") [Value.ref _]) _ _ _); k_dflt (refine' sorted_lev ?Xq5 ?Fq5 ?Nq5 ?Mq5 ?Dq5 ?oq5 ?_; (case Xq5 => k_asm); (case Fq5 => k_asm); (case Nq5 => k_asm); (case Mq5 => k_mem); (case oq5 => with_reducible assumption); (case Dq5 => (refine DatAll.mono ?subq5 (by with_reducible assumption); (case subq5 => (intro p hp; k_mem))))); intro D' vs' c' h' tk' F' N' l1 hS' hz'; (have l1r := l1); (try k_lt l1); (try k_sweep))
    (k_steps; (repeat ((refine un_halt ?_); (first | (k_here; (with_reducible show wpAny _ _ (call (Value.ref 144) [Value.ref _, Value.int _ _]) _ _ _); k_dflt (refine take_u (by k_asm) (by k_asm) (by k_asm) (by k_asm) (by k_asm) (by first | exact rfl | assumption) (by k_updF) (by with_reducible assumption) (by first | with_reducible assumption | exact map_take24) (by decide) (by decide) (by ktr_room) (by ktr_units) ?_); intro d' t' vs' ns' n' h' tk' d0' d1' hI' hl' F' N'; (try dsimp only at N'); (try k_sweep)) | (k_here; (with_reducible show wpAny _ _ (call (Value.type _) [Value.ref _]) _ _ _); k_dflt (refine tupOf (by k_asm) (by k_asm) (by k_mem) (by omega) ?_); intro D' h' F' N' l1; (have l1r := l1); (try k_lt l1); (try k_sweep)) | (k_here; (with_reducible show wpAny _ _ (binaryOp _ (Value.ref _) (Value.ref _)) _ _ _); k_dflt (refine addL (by k_asm) (by k_asm) (by k_mem) (by k_mem) (by (simp only [List.length_append, List.length_take, List.length_drop, List.length_cons, List.length_nil]; omega)) ?_); intro D' h' F' N' l1; (have l1r := l1); (try k_lt l1); (try k_sweep)) | (k_here; k_dflt (refine kda_set (knd := PySem.strKind _ _) (by k_asm) (by k_asm) (by k_updF) (by with_reducible assumption) (strKind_is _ _ _ _) (by (rw [sizeLine_eq]; exact Nat.le_of_ble_eq_true (by with_unfolding_all rfl))) ?_); intro h' o' F' N' hd'; (try dsimp only at N'); (first | rw [stored_rules] at hd' | rw [stored_names] at hd' | rw [stored_levels] at hd' | rw [stored_expect] at hd' | rw [stored_start] at hd'); (try k_sweep))); k_steps)))
    refine ret_dat (by k_asm) (by tb_rel) ?_ (fun tl N ha D => hret _ tl _ _ (by k_asm) N ha D)
    unfold Plan.told
    kd_in
end
section
section
variable {prog : Program} {w : World} {A : Around} {E : Value → Shared → Prop} {s : Shared} {env : Env} {h₀ : Heap} {target : Expr} {body : List Stmt} {Q : Flow → Shared → Prop}
inductive ForEnd (h₀ : Heap) (L I : Addr) (oI : Obj) (keep : List (Addr × Obj) → Prop) (J : (Str → Option Value) → List (Addr × Obj) → Prop) (s₁ s₂ : Shared) : Prop
  | mk (h' : _) (tk : _) (m' : _) (nx : _)
    (h1 : s₂ = { s₁ with heap := h', toks := tk })
    (h2 : Fr h₀ L h' m')
    (h3 : News h₀ L h' ((I, oI) :: nx))
    (h4 : (∀ p ∈ nx, p.1 ≠ I))
    (h5 : keep nx)
    (h6 : J m' nx) : ForEnd h₀ L I oI keep J s₁ s₂
def ForPost (h₀ : Heap) (L I : Addr) (oI : Obj) (keep : List (Addr × Obj) → Prop) (J : (Str → Option Value) → List (Addr × Obj) → Prop) (s₁ : Shared) (f : Flow) (s₂ : Shared) : Prop :=
  match f with
  | .ret _ => False
  | .brk => False
  | .cont => False
  | .next => Halt (ForEnd h₀ L I oI keep J s₁ s₂)

theorem forH {iter : Expr} {pos : Pos} {m : Str → Option Value} (F : Fr h₀ env.locals s.heap m)
    (h : wpAny (model prog w) A (eval iter env) (fun xv s₁ => Halt (wpAny (model prog w) A (pyIter xv) (fun it s₂ => TurnsAt prog w A h₀ env target body Q E it s₂) E s₁)) E s)
    (hs : ∀ x, foldedSetIterable iter env x = pure x := by intro _; rfl)
    (hE : PassesOwn (model prog w) A env E := by passes_own) :
    wpAny (model prog w) A (exec (.For target iter body [] pos) env) Q E s := For_turns F h hs hE

theorem for_led {l : Addr} {vs : List Value} {k : Nat} {m₀ : Str → Option Value} {news : List (Addr × Obj)} (J : Nat → (Str → Option Value) → List (Addr × Obj) → Prop)
    (hh : A.handled = none) (F : Fr h₀ env.locals s.heap m₀) (N : News h₀ env.locals s.heap news) (hm : (l, PySem.W.listOf vs.toArray k) ∈ news) (hj : J 0 m₀ news)
    (turn : ∀ i v m₁ news₁ h tk I oI, vs[i]? = some v → (∀ p ∈ news₁, p.1 ≠ I) → (l, PySem.W.listOf vs.toArray k) ∈ news₁ → J i m₁ news₁ → Fr h₀ env.locals h m₁ → News h₀ env.locals h ((I, oI) :: news₁) →
      wpAny (model prog w) A (assign target env v) (fun _ s₂ => wpAny (model prog w) A (execs body env) (ForPost h₀ env.locals I oI (fun nx => (l, PySem.W.listOf vs.toArray k) ∈ nx) (J (i + 1)) { s with heap := h, toks := tk }) E s₂) E { s with heap := h, toks := tk })
    (done : ∀ m₁ news₁ h tk, J vs.length m₁ news₁ → Fr h₀ env.locals h m₁ → News h₀ env.locals h news₁ → Q .next { s with heap := h, toks := tk }) :
    Halt (wpAny (model prog w) A (pyIter (.ref l)) (fun it s₂ => TurnsAt prog w A h₀ env target body Q E it s₂) E s) := by
  have hol : s.heap.get? l = some (PySem.W.listOf vs.toArray k) := (N _ hm).1
  have hls : s.heap.IsList l vs.toArray := ⟨_, hol, rfl, k, rfl⟩
  have hne : l ≠ s.heap.objs.size := Nat.ne_of_lt (Heap.lt_size hol)
  refine wpAny_pyIter_list hls ?_
  have W := KTurns.ofWalks (target := target) (Walks.list (prog := prog) (w := w) hh s.heap.objs.size l hne vs.toArray) fun i v s Q E st q => letGo_listiter st.1 q
  have hlen : vs.toArray.size = vs.length := by simp
  rw [hlen] at W
  refine ⟨_, _, _, vs.length, _, _, _, m₀, news, (fun i m nx => (l, PySem.W.listOf vs.toArray k) ∈ nx ∧ J i m nx), rfl, W, ?_, ?_, ?_, ⟨⟨_, Heap.get?_push_size _ rfl, rfl, rfl⟩, hls.at fun o e => Heap.get?_push_of_some _ e⟩, F.push _, (fun p hp => ⟨Heap.get?_push_of_some _ (N p hp).1, (N p hp).2⟩), ⟨hm, hj⟩, ?_, ?_⟩
  · intro hm'
    rcases List.mem_cons.mp hm' with e | hm'
    · exact absurd F.ns.lt (e ▸ Nat.lt_irrefl _)
    · exact (N _ hm).2.1 ((List.mem_singleton.mp hm').symm)
  · intro b hb
    rw [List.mem_singleton.mp hb]
    exact next_is_new F
  · intro p hp hI
    exact absurd (Heap.lt_size (N p hp).1) ((List.mem_singleton.mp hI) ▸ Nat.lt_irrefl _)
  · rintro i v m₁ news₁ h₁ tk₁ own hin hP ⟨hl₁, hJ⟩ hoff hown hget hfp hst F₁ N₁
    have hP' : vs[i]? = some v := by
      have hP2 : vs.toArray[i]? = some v := hP
      simpa using hP2
    have hI0 : h₀.get? s.heap.objs.size = none := next_is_new F
    obtain ⟨⟨oI, hoI, _⟩, _⟩ := id hst
    have hIown : (s.heap.objs.size, oI) ∈ own := hfp _ (List.mem_cons.mpr (.inl rfl)) hI0 _ hoI
    have N₂ : News h₀ env.locals h₁ ((s.heap.objs.size, oI) :: news₁) := fun p hp => N₁ p ((List.mem_cons.mp hp).elim (fun e => List.mem_append_left _ (e ▸ hIown)) fun h => List.mem_append_right _ h)
    have hlo : h₁.get? l = some (PySem.W.listOf vs.toArray k) := (N₁ _ (List.mem_append_right _ hl₁)).1
    refine wpAny_mono (turn i v m₁ news₁ h₁ tk₁ _ oI hP' (fun p hp e => hoff p hp (List.mem_singleton.mpr e)) hl₁ hJ F₁ N₂) (fun _ s₂ p => wpAny_mono p (fun f s₃ q => ?_) fun _ _ e => e) fun _ _ e => e
    cases f with
    | ret v => exact q.elim
    | brk => exact q.elim
    | cont => exact q.elim
    | next =>
      obtain ⟨h', tk, m', nx, e, F', N', ho, hk, hm⟩ := q
      refine .next ⟨rfl, h', tk, m', nx, e, F', fun p hp => ?_, fun p hp hI => ho p hp (List.mem_singleton.mp hI), hk, hm⟩
      rcases List.mem_append.mp hp with h | h
      · have h2 : h₁.get? p.1 = some p.2 := hget p h
        rcases List.mem_cons.mp (hown p h) with h3 | h3
        · have h4 : p = (s.heap.objs.size, oI) := by
            refine Prod.ext h3 ?_
            rw [h3, hoI] at h2
            exact (Option.some.inj h2).symm
          rw [h4]
          exact N' _ (.head _)
        · have h3' := List.mem_singleton.mp h3
          have h4 : p = (l, PySem.W.listOf vs.toArray k) := by
            refine Prod.ext h3' ?_
            rw [h3', hlo] at h2
            exact (Option.some.inj h2).symm
          rw [h4]
          exact N' _ (.tail _ hk)
      · exact N' p (.tail _ h)
  · rintro h' tk m' news' F' N' _ ⟨_, hJ⟩
    exact done m' news' h' tk hJ F' N'
end

/-- the entries of l lie off the addresses ds -/
theorem Offs.at {ds : List Addr} {l : List (Addr × Obj)} {d : Addr} (h : Offs ds l) (k : d ∈ ds) : ∀ p ∈ l, p.1 ≠ d := h d k
theorem Offs.at1 {d : Addr} {l : List (Addr × Obj)} (h : Offs [d] l) : ∀ p ∈ l, p.1 ≠ d := h d (.head _)
theorem same_addr {bs bs' : List (Addr × Obj)} (e : bs'.map (·.1) = bs.map (·.1)) {p : Addr × Obj} (h : p ∈ bs') : ∃ q ∈ bs, q.1 = p.1 := by
  have h1 : p.1 ∈ bs'.map (·.1) := List.mem_map.mpr ⟨p, h, rfl⟩
  rw [e] at h1
  obtain ⟨q, h2, h3⟩ := List.mem_map.mp h1
  exact ⟨q, h2, h3⟩
theorem Offs.same {ds : List Addr} {bs bs' base : List (Addr × Obj)} (h : Offs ds (bs ++ base)) (e : bs'.map (·.1) = bs.map (·.1)) : Offs ds (bs' ++ base) := by
  intro d hd p hp
  rcases List.mem_append.mp hp with hp | hp
  · obtain ⟨q, h2, h3⟩ := same_addr e hp
    rw [← h3]
    exact h d hd q (List.mem_append_left _ h2)
  · exact h d hd p (List.mem_append_right _ hp)
theorem Offs.sub {ds : List Addr} {l l' : List (Addr × Obj)} (h : Offs ds l) (s : ∀ p ∈ l', p ∈ l) : Offs ds l' := fun d hd p hp => h d hd p (s p hp)
theorem Apart.same {news bs bs' : List (Addr × Obj)} (h : Apart news bs) (e : bs'.map (·.1) = bs.map (·.1)) : Apart news bs' := by
  intro q hq p hp
  obtain ⟨r, h2, h3⟩ := same_addr e hp
  rw [← h3]
  exact h q hq r h2

theorem news_sub {h₀ h : Heap} {L : Addr} {l l' : List (Addr × Obj)} (N : News h₀ L h l) (s : ∀ p ∈ l', p ∈ l) : News h₀ L h l' := fun p hp => N p (s p hp)
theorem news_swap2 {h₀ h : Heap} {L : Addr} {a b c : Addr × Obj} {bs base : List (Addr × Obj)} (N : News h₀ L h (a :: (bs ++ b :: c :: base))) : News h₀ L h (a :: b :: c :: (bs ++ base)) :=
  news_sub N fun p hp => by grind
theorem news_swap4 {h₀ h : Heap} {L : Addr} {a a' a2 b c : Addr × Obj} {bs base : List (Addr × Obj)} (N : News h₀ L h (a :: a' :: a2 :: b :: c :: (bs ++ base))) : News h₀ L h (a :: a' :: a2 :: (bs ++ b :: c :: base)) :=
  news_sub N fun p hp => by grind
theorem news_swap4' {h₀ h : Heap} {L : Addr} {a a' a2 b c : Addr × Obj} {bs base : List (Addr × Obj)} (N : News h₀ L h (a :: a' :: a2 :: (bs ++ b :: c :: base))) : News h₀ L h (a :: a' :: a2 :: b :: c :: (bs ++ base)) :=
  news_sub N fun p hp => by grind

theorem frame_same (m₀ : Str → Option Value) (x : Str) : m₀ = fun y => if y = x then m₀ x else m₀ y := by
  funext y
  by_cases h : y = x
  · rw [if_pos h, h]
  · rw [if_neg h]
theorem frame_again (m₀ : Str → Option Value) (x : Str) (u v : Option Value) : (fun y => if y = x then v else (fun y => if y = x then u else m₀ y) y) = fun y => if y = x then v else m₀ y := by
  funext y
  by_cases h : y = x
  · simp only [if_pos h]
  · simp only [if_neg h]

/-- small lists of the program's own -/
def LBs (i : Nat) (bs : List (Addr × Obj)) : Prop := ∀ p ∈ bs, ∃ xs n, p.2 = PySem.W.listOf xs n ∧ xs.size ≤ i

section
variable {prog : Program} {w : World} {A : Around} {E : Value → Shared → Prop} {s : Shared} {h₀ : Heap} {L : Addr} {m : Str → Option Value}
theorem append_bs {c : Addr} {x : Value} {i : Nat} {pre bs base : List (Addr × Obj)} {Q : Value → Shared → Prop} (F : Fr h₀ L s.heap m) (N : News h₀ L s.heap (pre ++ (bs ++ base))) (hb : c ∈ bs.map (·.1)) (hl : LBs i bs) (hi : i ≤ 8)
    (hp : ∀ c ∈ bs.map (·.1), ∀ p ∈ pre, p.1 ≠ c) (hba : ∀ c ∈ bs.map (·.1), ∀ p ∈ base, p.1 ≠ c)
    (h : ∀ h' bs', Fr h₀ L h' m → News h₀ L h' (pre ++ (bs' ++ base)) → bs'.map (·.1) = bs.map (·.1) → LBs (i + 1) bs' → Q .none { s with heap := h' }) :
    wpAny (model prog w) A (call (.builtin "list.append") [.ref c, x]) Q E s := by
  obtain ⟨q, hq, rfl⟩ := List.mem_map.mp hb
  obtain ⟨xs, n, ho, hs⟩ := hl q hq
  obtain ⟨c, o⟩ := q
  simp only at ho
  subst ho
  have z := N _ (List.mem_append_right _ (List.mem_append_left _ hq))
  refine append_at (hsz := by rw [sizeLine_eq]; exact Nat.le_trans (Nat.le_trans hs hi) (by decide)) z.1 fun h' hsb ho' => ?_
  refine h h' (bs.map fun p => if p.1 = c then (c, PySem.W.listOf (xs.push x) (n + 1)) else p) (F.change hsb z.2.1 z.2.2) ?_ ?_ ?_
  · intro p hp'
    rcases List.mem_append.mp hp' with hp' | hp'
    · have z := N p (List.mem_append_left _ hp')
      exact ⟨(hsb.2 _ (hp _ hb p hp')).trans z.1, z.2⟩
    · rcases List.mem_append.mp hp' with hp' | hp'
      · obtain ⟨r, hr, rfl⟩ := List.mem_map.mp hp'
        by_cases hc : r.1 = c
        · rw [if_pos hc]
          exact ⟨ho', z.2⟩
        · rw [if_neg hc]
          have z := N r (List.mem_append_right _ (List.mem_append_left _ hr))
          exact ⟨(hsb.2 _ hc).trans z.1, z.2⟩
      · have z := N p (List.mem_append_right _ (List.mem_append_right _ hp'))
        exact ⟨(hsb.2 _ (hba _ hb p hp')).trans z.1, z.2⟩
  · rw [List.map_map]
    apply List.map_congr_left
    intro p _
    show (if p.1 = c then (c, PySem.W.listOf (xs.push x) (n + 1)) else p).1 = p.1
    by_cases hc : p.1 = c
    · rw [if_pos hc, hc]
    · rw [if_neg hc]
  · intro p hp'
    obtain ⟨r, hr, rfl⟩ := List.mem_map.mp hp'
    by_cases hc : r.1 = c
    · rw [if_pos hc]
      exact ⟨_, _, rfl, by rw [Array.size_push]; omega⟩
    · rw [if_neg hc]
      obtain ⟨xs, n, h1, h2⟩ := hl r hr
      exact ⟨xs, n, h1, by omega⟩

theorem bItem {value slice : PySem.Expr} {D : Addr} {ys : List Value} {n : Nat} {k : Int} {u : Tok} {bs : List (Addr × Obj)} {i : Nat} {news : List (Addr × Obj)} {Q : Value → Shared → Prop} (N : News h₀ L s.heap news) (hm : (D, PySem.W.listOf ys.toArray n) ∈ news)
    (hy : ∀ y ∈ ys, ∃ b ∈ bs.map (·.1), y = .ref b) (hl : LBs i bs) (h0 : 0 ≤ k) (h1 : k < (ys.length : Int)) (hz : ys.length ≤ 64) (h : ∀ c xs n, c ∈ bs.map (·.1) → (c, PySem.W.listOf xs n) ∈ bs → Q (.ref c) s)
    (hs : subscripted slice false (.ref D) (.int k u) = operate [.ref D, .int k u] (getItem (.ref D) (.int k u)) := by with_unfolding_all rfl) :
    wpAny (model prog w) A (subscriptTail value slice (.ref D) (.int k u)) Q E s := by
  have hk : k.toNat < ys.length := by omega
  obtain ⟨b, hb, e⟩ := hy _ (List.getElem_mem hk)
  have hx : ys[k.toNat]? = some (.ref b) := by rw [List.getElem?_eq_getElem hk, e]
  have h' : Q (.ref b) s := by
    obtain ⟨q, hq, e2⟩ := List.mem_map.mp hb
    obtain ⟨xs, j, e3, _⟩ := hl q hq
    obtain ⟨q1, q2⟩ := q
    simp only at e2 e3
    subst e2 e3
    exact h _ _ _ hb hq
  exact kba_turn (value' := PySem.Expr.Name (PySem.Str.ofString "_") ⟨0, 0, 0, 0⟩) (fun _ => rfl) (item_listL (N.isList hm) h0 (by omega) hx h' hs (fun _ => rfl))

theorem lenL {l : Addr} {its : Array Value} {n : Nat} {news : List (Addr × Obj)} {Q : Value → Shared → Prop} (N : News h₀ L s.heap news) (hm : (l, PySem.W.listOf its n) ∈ news) (hz : its.size ≤ 64)
    (h : Q (.int its.size (s.toks + 1)) { s with toks := s.toks + 1 + 1 }) : wpAny (model prog w) A (call (.builtin "len") [.ref l]) Q E s := PyProof.Rows.len_list (N.isList hm) (by omega) h
theorem lenT {l : Addr} {its : Array Value} {n : Nat} {news : List (Addr × Obj)} {Q : Value → Shared → Prop} (N : News h₀ L s.heap news) (hm : (l, ({ cls := .type "tuple", data := .seq its n } : Obj)) ∈ news) (hz : its.size ≤ 64)
    (h : Q (.int its.size (s.toks + 1)) { s with toks := s.toks + 1 + 1 }) : wpAny (model prog w) A (call (.builtin "len") [.ref l]) Q E s := PyProof.Rows.len_tuple (N.isTup hm) (by omega) h
end

theorem ltOf {D : Addr} : ∀ {l : List (Addr × Obj)}, AllLt D l → ∀ p ∈ l, p.1 < D
  | [], _, _, h => nomatch h
  | _ :: _, x, p, h => by
    rcases List.mem_cons.mp h with rfl | h
    · exact x.1
    · exact ltOf x.2 p h
section
variable {h₀ : Heap} {L : Addr} {m : Str → Option Value}
theorem comp_end1c {I C D D' : Addr} {oI oC oD o' : Obj} {nw : List (Addr × Obj)} {S : List (Addr × Obj) → Prop} {rest : Value → List (Addr × Obj) → Prop} {y : Value} {s₁ : Shared} {h' : Heap} {tk : Nat}
    (F' : Fr h₀ L h' m) (N' : News h₀ L h' ((D', o') :: (I, oI) :: (C, oC) :: (D, oD) :: nw)) (l1 : I < D' ∧ C < D' ∧ D < D' ∧ AllLt D' nw) (off : LCg.Off3 I C D nw) (hS : S ((D', o') :: nw)) (r : rest y ((D', o') :: nw)) :
    Halt (LCg.CompEnd h₀ L m s₁ I oI C oC D oD S rest y { s₁ with heap := h', toks := tk }) := by
  refine comp_end1 F' N' ?_ off hS r
  intro p hp
  simp only [List.mem_cons] at hp
  rcases hp with rfl | rfl | rfl | hp
  · exact l1.1
  · exact l1.2.1
  · exact l1.2.2.1
  · exact ltOf l1.2.2.2 p hp
theorem Apart.ltc {I C D D' : Addr} {o : Obj} {news bs : List (Addr × Obj)} (l1 : I < D' ∧ C < D' ∧ D < D' ∧ AllLt D' (bs ++ news)) (k : Apart news bs) : Apart news ((D', o) :: bs) :=
  .cons (fun q hq => Nat.ne_of_gt (ltOf l1.2.2.2 q (List.mem_append_right _ hq))) k

/-- the six attributes of a grammar that are given -/
theorem toks6 {w : World} {h : Heap} {a b : Addr × Obj} {dx nA rA lA : Addr} {ev : Value} {start : Int} {t0 t1 t2 t3 t4 t5 t6 t7 : Tok} {c : Nat} {rest : List (Addr × Obj)}
    (N : News h₀ L h (a :: b :: (dx, dictOf [⟨PyData.keyHash w.params (Str.ofString "names"), .str (Str.ofString "names") t0, .ref nA⟩, ⟨PyData.keyHash w.params (Str.ofString "terminal_count"), .str (Str.ofString "terminal_count") t1, .int 6 t2⟩,
      ⟨PyData.keyHash w.params (Str.ofString "rules"), .str (Str.ofString "rules") t3, .ref rA⟩, ⟨PyData.keyHash w.params (Str.ofString "levels"), .str (Str.ofString "levels") t4, .ref lA⟩,
      ⟨PyData.keyHash w.params (Str.ofString "expect"), .str (Str.ofString "expect") t5, ev⟩, ⟨PyData.keyHash w.params (Str.ofString "start"), .str (Str.ofString "start") t6, .int start t7⟩] c) :: rest)) :
    ∃ u0 u1 u2 u3 u4 u5 u6 u7, News h₀ L h (a :: b :: (dx, dictOf [⟨PyData.keyHash w.params (Str.ofString "names"), .str (Str.ofString "names") u0, .ref nA⟩, ⟨PyData.keyHash w.params (Str.ofString "terminal_count"), .str (Str.ofString "terminal_count") u1, .int 6 u2⟩,
      ⟨PyData.keyHash w.params (Str.ofString "rules"), .str (Str.ofString "rules") u3, .ref rA⟩, ⟨PyData.keyHash w.params (Str.ofString "levels"), .str (Str.ofString "levels") u4, .ref lA⟩,
      ⟨PyData.keyHash w.params (Str.ofString "expect"), .str (Str.ofString "expect") u5, ev⟩, ⟨PyData.keyHash w.params (Str.ofString "start"), .str (Str.ofString "start") u6, .int start u7⟩] c) :: rest) := ⟨_, _, _, _, _, _, _, _, N⟩
end

section
variable {h₀ : Heap} {L : Addr} {m : Str → Option Value}
theorem toks9 {w : World} {h : Heap} {a b e x : Addr × Obj} {dx nA rA lA : Addr} {ev v1 v2 v3 : Value} {start : Int} {t0 t1 t2 t3 t4 t5 t6 t7 t8 t9 t10 : Tok} {c : Nat} {bs rest : List (Addr × Obj)}
    (N : News h₀ L h (a :: b :: e :: (bs ++ x :: (dx, dictOf [⟨PyData.keyHash w.params (Str.ofString "names"), .str (Str.ofString "names") t0, .ref nA⟩, ⟨PyData.keyHash w.params (Str.ofString "terminal_count"), .str (Str.ofString "terminal_count") t1, .int 6 t2⟩,
      ⟨PyData.keyHash w.params (Str.ofString "rules"), .str (Str.ofString "rules") t3, .ref rA⟩, ⟨PyData.keyHash w.params (Str.ofString "levels"), .str (Str.ofString "levels") t4, .ref lA⟩,
      ⟨PyData.keyHash w.params (Str.ofString "expect"), .str (Str.ofString "expect") t5, ev⟩, ⟨PyData.keyHash w.params (Str.ofString "start"), .str (Str.ofString "start") t6, .int start t7⟩,
      ⟨PyData.keyHash w.params (Str.ofString "by_left"), .str (Str.ofString "by_left") t8, v1⟩, ⟨PyData.keyHash w.params (Str.ofString "offsets"), .str (Str.ofString "offsets") t9, v2⟩,
      ⟨PyData.keyHash w.params (Str.ofString "owners"), .str (Str.ofString "owners") t10, v3⟩] c) :: rest))) :
    ∃ u0 u1 u2 u3 u4 u5 u6 u7 u8 u9 u10, News h₀ L h (a :: b :: e :: (bs ++ x :: (dx, dictOf [⟨PyData.keyHash w.params (Str.ofString "names"), .str (Str.ofString "names") u0, .ref nA⟩, ⟨PyData.keyHash w.params (Str.ofString "terminal_count"), .str (Str.ofString "terminal_count") u1, .int 6 u2⟩,
      ⟨PyData.keyHash w.params (Str.ofString "rules"), .str (Str.ofString "rules") u3, .ref rA⟩, ⟨PyData.keyHash w.params (Str.ofString "levels"), .str (Str.ofString "levels") u4, .ref lA⟩,
      ⟨PyData.keyHash w.params (Str.ofString "expect"), .str (Str.ofString "expect") u5, ev⟩, ⟨PyData.keyHash w.params (Str.ofString "start"), .str (Str.ofString "start") u6, .int start u7⟩,
      ⟨PyData.keyHash w.params (Str.ofString "by_left"), .str (Str.ofString "by_left") u8, v1⟩, ⟨PyData.keyHash w.params (Str.ofString "offsets"), .str (Str.ofString "offsets") u9, v2⟩,
      ⟨PyData.keyHash w.params (Str.ofString "owners"), .str (Str.ofString "owners") u10, v3⟩] c) :: rest)) := ⟨_, _, _, _, _, _, _, _, _, _, _, N⟩
theorem toks10 {w : World} {h : Heap} {a b e x : Addr × Obj} {dx nA rA lA : Addr} {ev v1 v2 v3 v4 : Value} {start : Int} {t0 t1 t2 t3 t4 t5 t6 t7 t8 t9 t10 t11 : Tok} {c : Nat} {rest : List (Addr × Obj)}
    (N : News h₀ L h (a :: b :: e :: x :: (dx, dictOf [⟨PyData.keyHash w.params (Str.ofString "names"), .str (Str.ofString "names") t0, .ref nA⟩, ⟨PyData.keyHash w.params (Str.ofString "terminal_count"), .str (Str.ofString "terminal_count") t1, .int 6 t2⟩,
      ⟨PyData.keyHash w.params (Str.ofString "rules"), .str (Str.ofString "rules") t3, .ref rA⟩, ⟨PyData.keyHash w.params (Str.ofString "levels"), .str (Str.ofString "levels") t4, .ref lA⟩,
      ⟨PyData.keyHash w.params (Str.ofString "expect"), .str (Str.ofString "expect") t5, ev⟩, ⟨PyData.keyHash w.params (Str.ofString "start"), .str (Str.ofString "start") t6, .int start t7⟩,
      ⟨PyData.keyHash w.params (Str.ofString "by_left"), .str (Str.ofString "by_left") t8, v1⟩, ⟨PyData.keyHash w.params (Str.ofString "offsets"), .str (Str.ofString "offsets") t9, v2⟩,
      ⟨PyData.keyHash w.params (Str.ofString "owners"), .str (Str.ofString "owners") t10, v3⟩, ⟨PyData.keyHash w.params (Str.ofString "item_count"), .str (Str.ofString "item_count") t11, v4⟩] c) :: rest)) :
    ∃ ks : Nat → Tok, News h₀ L h (a :: b :: e :: x :: (dx, dictOf [⟨PyData.keyHash w.params (Str.ofString "names"), .str (Str.ofString "names") (ks 0), .ref nA⟩, ⟨PyData.keyHash w.params (Str.ofString "terminal_count"), .str (Str.ofString "terminal_count") (ks 1), .int 6 (ks 2)⟩,
      ⟨PyData.keyHash w.params (Str.ofString "rules"), .str (Str.ofString "rules") (ks 3), .ref rA⟩, ⟨PyData.keyHash w.params (Str.ofString "levels"), .str (Str.ofString "levels") (ks 4), .ref lA⟩,
      ⟨PyData.keyHash w.params (Str.ofString "expect"), .str (Str.ofString "expect") (ks 5), ev⟩, ⟨PyData.keyHash w.params (Str.ofString "start"), .str (Str.ofString "start") (ks 6), .int start (ks 7)⟩,
      ⟨PyData.keyHash w.params (Str.ofString "by_left"), .str (Str.ofString "by_left") (ks 8), v1⟩, ⟨PyData.keyHash w.params (Str.ofString "offsets"), .str (Str.ofString "offsets") (ks 9), v2⟩,
      ⟨PyData.keyHash w.params (Str.ofString "owners"), .str (Str.ofString "owners") (ks 10), v3⟩, ⟨PyData.keyHash w.params (Str.ofString "item_count"), .str (Str.ofString "item_count") (ks 11), v4⟩] c) :: rest) :=
  ⟨fun n => match n with | 0 => t0 | 1 => t1 | 2 => t2 | 3 => t3 | 4 => t4 | 5 => t5 | 6 => t6 | 7 => t7 | 8 => t8 | 9 => t9 | 10 => t10 | _ => t11, N⟩
end

theorem offs3c {O OF D x dx : Addr} {bs news : List (Addr × Obj)} (lO : @LT.lt Nat _ OF O ∧ @LT.lt Nat _ D O ∧ @LT.lt Nat _ x O ∧ @LT.lt Nat _ dx O ∧ AllLt O (bs ++ news)) (lF : @LT.lt Nat _ D OF ∧ @LT.lt Nat _ x OF ∧ @LT.lt Nat _ dx OF ∧ AllLt OF (bs ++ news))
    (d1 : @Ne Nat dx D) (d2 : @Ne Nat x D) (hD : ∀ p ∈ bs ++ news, p.1 ≠ D) (ox od : Obj) : Offs [O, OF, D] (bs ++ ((x, ox) :: (dx, od) :: news)) := by
  intro d hd p hp
  have hp' : p.1 = x ∨ p.1 = dx ∨ p ∈ bs ++ news := by
    simp only [List.mem_append, List.mem_cons] at hp ⊢
    rcases hp with h | rfl | rfl | h
    · exact .inr (.inr (.inl h))
    · exact .inl rfl
    · exact .inr (.inl rfl)
    · exact .inr (.inr (.inr h))
  simp only [List.mem_cons, List.not_mem_nil, or_false] at hd
  rcases hd with rfl | rfl | rfl
  · rcases hp' with e | e | h
    · rw [e]; exact Nat.ne_of_lt lO.2.2.1
    · rw [e]; exact Nat.ne_of_lt lO.2.2.2.1
    · exact Nat.ne_of_lt (ltOf lO.2.2.2.2 p h)
  · rcases hp' with e | e | h
    · rw [e]; exact Nat.ne_of_lt lF.2.1
    · rw [e]; exact Nat.ne_of_lt lF.2.2.1
    · exact Nat.ne_of_lt (ltOf lF.2.2.2 p h)
  · rcases hp' with e | e | h
    · rw [e]; exact d2
    · rw [e]; exact d1
    · exact hD p h

def Ne3 (a b c : Addr) : Prop := a ≠ b ∧ a ≠ c ∧ b ≠ c
theorem ne3 {O OF D : Addr} {P Q : Prop} (lO : @LT.lt Nat _ OF O ∧ @LT.lt Nat _ D O ∧ P) (lF : @LT.lt Nat _ D OF ∧ Q) : Ne3 O OF D := ⟨Nat.ne_of_gt lO.1, Nat.ne_of_gt lO.2.1, Nat.ne_of_gt lF.1⟩
def OffI (I O OF D : Addr) : Prop := I ≠ O ∧ I ≠ OF ∧ I ≠ D
theorem three_ne {I O OF D : Addr} {o1 o2 o3 : Obj} {l : List (Addr × Obj)} (h : ∀ p ∈ (O, o1) :: (OF, o2) :: (D, o3) :: l, p.1 ≠ I) : OffI I O OF D :=
  ⟨fun e => h _ (.head _) e.symm, fun e => h _ (.tail _ (.head _)) e.symm, fun e => h _ (.tail _ (.tail _ (.head _))) e.symm⟩
theorem updOF {I O OF D : Addr} {oI oO o o' oD : Obj} {l : List (Addr × Obj)} (a : OffI I O OF D) (b : Ne3 O OF D) (c : Offs [O, OF, D] l) :
    Upd OF o o' ((I, oI) :: (O, oO) :: (OF, o) :: (D, oD) :: l) ((I, oI) :: (O, oO) :: (OF, o') :: (D, oD) :: l) :=
  .tail a.2.1 (.tail b.1 (.head (List.forall_mem_cons.mpr ⟨fun e => b.2.2 e.symm, c OF (.tail _ (.head _))⟩)))
theorem updO {T2 T1 I O OF D : Addr} {q2 q1 oI o o' oO oD : Obj} {l : List (Addr × Obj)} (l2 : @LT.lt Nat _ T1 T2 ∧ @LT.lt Nat _ I T2 ∧ @LT.lt Nat _ O T2 ∧ @LT.lt Nat _ OF T2 ∧ @LT.lt Nat _ D T2 ∧ AllLt T2 l) (l1 : @LT.lt Nat _ I T1 ∧ @LT.lt Nat _ O T1 ∧ @LT.lt Nat _ OF T1 ∧ @LT.lt Nat _ D T1 ∧ AllLt T1 l)
    (a : OffI I O OF D) (b : Ne3 O OF D) (c : Offs [O, OF, D] l) :
    Upd O o o' ((T2, q2) :: (T1, q1) :: (I, oI) :: (O, o) :: (OF, oO) :: (D, oD) :: l) ((T2, q2) :: (T1, q1) :: (I, oI) :: (O, o') :: (OF, oO) :: (D, oD) :: l) :=
  .tail (Nat.ne_of_gt l2.2.2.1) (.tail (Nat.ne_of_gt l1.2.1) (.tail a.1 (.head (List.forall_mem_cons.mpr ⟨fun e => b.1 e.symm, List.forall_mem_cons.mpr ⟨fun e => b.2.1 e.symm, c O (.head _)⟩⟩))))
theorem pre4 {I O OF D : Addr} (oI : Obj) {o1 o2 o3 : Obj} {bs base : List (Addr × Obj)} (hI : ∀ p ∈ (O, o1) :: (OF, o2) :: (D, o3) :: (bs ++ base), p.1 ≠ I) (hO : Offs [O, OF, D] (bs ++ base)) : ∀ c ∈ bs.map (·.1), ∀ p ∈ [(I, oI), (O, o1), (OF, o2), (D, o3)], p.1 ≠ c := by
  intro c hc p hp
  obtain ⟨q, hq, rfl⟩ := List.mem_map.mp hc
  have hq' := List.mem_append_left base hq
  simp only [List.mem_cons, List.not_mem_nil, or_false] at hp
  rcases hp with rfl | rfl | rfl | rfl
  · exact fun e => hI q (.tail _ (.tail _ (.tail _ hq'))) e.symm
  · exact fun e => hO O (.head _) q hq' e.symm
  · exact fun e => hO OF (.tail _ (.head _)) q hq' e.symm
  · exact fun e => hO D (.tail _ (.tail _ (.head _))) q hq' e.symm
theorem base_ne {x dx : Addr} {ox od : Obj} {bs bs1 news : List (Addr × Obj)} (hx : ∀ p ∈ bs, p.1 ≠ x) (hd : ∀ p ∈ bs, p.1 ≠ dx) (hab : Apart news bs) (e : bs1.map (·.1) = bs.map (·.1)) : ∀ c ∈ bs1.map (·.1), ∀ p ∈ (x, ox) :: (dx, od) :: news, p.1 ≠ c := by
  intro c hc p hp
  rw [e] at hc
  obtain ⟨q, hq, rfl⟩ := List.mem_map.mp hc
  simp only [List.mem_cons] at hp
  rcases hp with rfl | rfl | hp
  · exact fun e => hx q hq e.symm
  · exact fun e => hd q hq e.symm
  · exact fun e => hab p hp q hq e.symm
theorem right_open {led : List (Addr × Obj)} {v : Value} {r : Row} (h : DatIn led v r.rdat) : ∃ t vs n, v = .ref t ∧ (t, ({ cls := .type "tuple", data := .seq vs n } : Obj)) ∈ led ∧ vs.size = r.right.length := by
  unfold Row.rdat at h
  generalize hd : Dat.tuple (r.right.map Dat.int) = d at h
  cases h with
  | @tuple a vs n ds hm hds =>
    cases hd
    have hl := hds.length
    exact ⟨_, _, _, rfl, hm, by rw [List.size_toArray, hl, List.length_map]⟩
  | _ => cases hd
theorem apart6 {O OF D x dx : Addr} {o1 o2 o3 q1 q2 q3 q4 : Obj} {bs bs' news : List (Addr × Obj)} (hO : Offs [O, OF, D] (bs ++ (x, q1) :: (dx, q2) :: news)) (l1 : ∀ p ∈ news, p.1 < dx) (l2 : dx < x) (hab : Apart news bs) (e : bs'.map (·.1) = bs.map (·.1)) :
    Apart news ((O, o1) :: (OF, o2) :: (D, o3) :: (x, q3) :: (dx, q4) :: bs') := by
  have hm : ∀ q ∈ news, q ∈ bs ++ (x, q1) :: (dx, q2) :: news := fun q hq => List.mem_append_right _ (.tail _ (.tail _ hq))
  refine .cons (fun q hq e => hO O (.head _) q (hm q hq) e.symm) (.cons (fun q hq e => hO OF (.tail _ (.head _)) q (hm q hq) e.symm) (.cons (fun q hq e => hO D (.tail _ (.tail _ (.head _))) q (hm q hq) e.symm) (.cons (fun q hq => ?_) (.cons (fun q hq => Nat.ne_of_gt (l1 q hq)) (hab.same e)))))
  exact Nat.ne_of_gt (Nat.lt_trans (l1 q hq) l2)

section
variable {prog : Program} {w : World} {A : Around} {E : Value → Shared → Prop} {s : Shared} {h₀ : Heap} {L : Addr} {m : Str → Option Value}
theorem extendL {D b : Addr} {ows : Array Value} {k n2 : Nat} {l2 : List Value} {news news' : List (Addr × Obj)} {Q : Value → Shared → Prop} (F : Fr h₀ L s.heap m) (N : News h₀ L s.heap news) (hb : (b, PySem.W.listOf l2.toArray n2) ∈ news) (hne : l2.length ≠ 0) (hz : ows.size + l2.length ≤ 64)
    (U : Upd D (PySem.W.listOf ows k) (PySem.W.listOf (ows.toList ++ l2).toArray (k + 1)) news news') (h : ∀ h', Fr h₀ L h' m → News h₀ L h' news' → Q .none { s with heap := h' }) : wpAny (model prog w) A (call (.builtin "list.extend") [.ref D, .ref b]) Q E s := by
  have hs : ∀ n, n ≤ 64 → n ≤ sizeLine := fun n hn => by rw [sizeLine_eq]; exact Nat.le_trans hn (by decide)
  refine kl_extend (l := ows.toList ++ l2) F N hb rfl hne U ?_ (hs _ (by rw [Array.length_toList]; omega)) (Nat.le_succ_of_le (hs _ (by rw [List.size_toArray]; omega))) h
  simp [Builtin.List.listTooLong]
  intro _
  have := hs (ows.size + l2.length) hz
  first | omega | (rw [sizeLine_eq] at this; omega)
theorem mulL {l : Addr} {v : Value} {k : Int} {u : Tok} {n : Nat} {news : List (Addr × Obj)} {Q : Value → Shared → Prop} (F : Fr h₀ L s.heap m) (N : News h₀ L s.heap news) (hm : (l, PySem.W.listOf [v].toArray n) ∈ news) (h0 : 0 ≤ k) (h1 : k ≤ 64)
    (h : ∀ D h', Fr h₀ L h' m → News h₀ L h' ((D, PySem.W.listOf (List.replicate k.toNat v).toArray 0) :: news) → (∀ p ∈ news, p.1 < D) → Q (.ref D) { s with heap := h' }) : wpAny (model prog w) A (binaryOp .Mult (.ref l) (.int k u)) Q E s :=
  KMa.mul F N (N.isList hm) (by omega) (by omega) (by simp only [List.length_cons, List.length_nil]; omega) List.flatten_replicate_singleton h
end
end
theorem rst7 : True ∧ True := by (try walk1) <;> first | trivial | exact ⟨trivial, trivial⟩
local macro_rules | `(tactic| k_all) => `(tactic| first | exact Offs.at1 (by assumption) | exact Offs.at (by assumption) (by k_mem))
local macro_rules | `(tactic| walk_at "call builtin:len") => `(tactic| (k_here; (with_reducible show wpAny _ _ (call (Value.builtin "len") [Value.ref _]) _ _ _); k_dflt (refine' lenL ?N ?M ?z ?_; (case N => k_asm); (case M => k_mem); (case z => with_reducible assumption))))
section
local macro_rules | `(tactic| walk_at "exec For Name Attribute cons nil") => `(tactic| (k_here; k_dflt (refine' forH ?F ?_ ?hs ?hE; (case F => k_asm); (case hs => (intro _; rfl)); (case hE => passes_own))))
local macro_rules | `(tactic| walk_at "binaryOp Mult ref int") => `(tactic| (k_here; refine halt_of ?_))
def BJ (base : List (Addr × Obj)) : Nat → List Value → List (Addr × Obj) → Prop :=
  fun i ys nw => ∃ bs, nw = bs ++ base ∧ Apart base bs ∧ ys.length = i ∧ LBs 0 bs ∧ ∀ y ∈ ys, ∃ b ∈ bs.map (·.1), y = .ref b
theorem BJ.start {base : List (Addr × Obj)} : BJ base 0 [] base := ⟨[], rfl, Apart.nil, rfl, (fun _ h => nomatch h), fun _ h => nomatch h⟩
theorem BJ.snoc {base bs : List (Addr × Obj)} {i : Nat} {ys : List Value} {a : Addr} {k : Nat} (hab : Apart base ((a, PySem.W.listOf #[] k) :: bs)) (hyl : ys.length = i) (hlb : LBs 0 bs) (hys : ∀ y ∈ ys, ∃ b ∈ bs.map (·.1), y = .ref b) :
    BJ base (i + 1) (ys ++ [.ref a]) ((a, PySem.W.listOf #[] k) :: (bs ++ base)) := by
  refine ⟨(a, PySem.W.listOf #[] k) :: bs, rfl, hab, by simp [hyl], ?_, ?_⟩
  · intro p hp
    rcases List.mem_cons.mp hp with rfl | hp
    · exact ⟨_, _, rfl, Nat.le_refl 0⟩
    · exact hlb p hp
  · intro y hy
    rcases List.mem_append.mp hy with hy | hy
    · obtain ⟨b, hb, e⟩ := hys y hy
      exact ⟨b, List.mem_cons_of_mem _ hb, e⟩
    · exact ⟨a, .head _, by simpa using hy⟩

inductive GJ (O OF D : Addr) (oD : Obj) (base : List (Addr × Obj)) (as : List Addr) (m₀ : Str → Option Value) (i : Nat) (m : (Str → Option Value)) (nx : List (Addr × Obj)) : Prop
  | mk (ows : _) (k1 : _) (ofs : _) (k2 : _) (bs : _) (u : _)
    (h1 : nx = (O, PySem.W.listOf ows k1) :: (OF, PySem.W.listOf ofs k2) :: (D, oD) :: (bs ++ base))
    (h2 : Offs [O, OF, D] (bs ++ base))
    (h3 : bs.map (·.1) = as)
    (h4 : LBs i bs)
    (h5 : ows.size ≤ 5 * i)
    (h6 : ofs.size ≤ i)
    (h7 : m = fun y => if y = Str.ofString "rule" then u else m₀ y) : GJ O OF D oD base as m₀ i m nx

theorem GJ.fin {h₀ h' : Heap} {L I O OF D T1 T2 rA : Addr} {q1 q2 oI oD oR : Obj} {o1 o2 : Obj} {ows' ofs' : Array Value} {k1 k2 i tk : Nat} {bs1 bs' base : List (Addr × Obj)} {as : List Addr} {m₀ : Str → Option Value} {u v : Option Value} {s₁ : Shared}
    (F : Fr h₀ L h' (fun y => if y = Str.ofString "rule" then v else (fun y => if y = Str.ofString "rule" then u else m₀ y) y)) (N : News h₀ L h' ((T2, q2) :: (T1, q1) :: (I, oI) :: (O, PySem.W.listOf ows' k1) :: (OF, PySem.W.listOf ofs' k2) :: (D, oD) :: (bs' ++ base)))
    (hI : ∀ p ∈ (O, o1) :: (OF, o2) :: (D, oD) :: (bs1 ++ base), p.1 ≠ I) (hO : Offs [O, OF, D] (bs1 ++ base)) (e' : bs'.map (·.1) = bs1.map (·.1)) (hmap : bs1.map (·.1) = as) (l' : LBs (i + 1) bs') (hs1 : ows'.size ≤ 5 * (i + 1)) (hs2 : ofs'.size ≤ i + 1) (hk : (rA, oR) ∈ base) :
    ForPost h₀ L I oI (fun nx => (rA, oR) ∈ nx) (GJ O OF D oD base as m₀ (i + 1)) s₁ .next { s₁ with heap := h', toks := tk } := by
  refine ⟨h', tk, _, (O, PySem.W.listOf ows' k1) :: (OF, PySem.W.listOf ofs' k2) :: (D, oD) :: (bs' ++ base), rfl, F, fun p hp => N p (.tail _ (.tail _ hp)), ?_, .tail _ (.tail _ (.tail _ (List.mem_append_right _ hk))), ows', k1, ofs', k2, bs', v, rfl, hO.same e', e'.trans hmap, l', hs1, hs2, frame_again _ _ _ _⟩
  intro p hp
  simp only [List.mem_cons, List.mem_append] at hp
  rcases hp with rfl | rfl | rfl | hp | hp
  · exact hI (O, o1) (.head _)
  · exact hI (OF, o2) (.tail _ (.head _))
  · exact hI (D, oD) (.tail _ (.tail _ (.head _)))
  · obtain ⟨q, hq, e⟩ := same_addr e' hp
    rw [← e]
    exact hI q (.tail _ (.tail _ (.tail _ (List.mem_append_left _ hq))))
  · exact hI p (.tail _ (.tail _ (.tail _ (List.mem_append_right _ hp))))

set_option maxRecDepth 100000 in
set_option maxHeartbeats 8000000 in
theorem gram_c {w : World} {loose : List Str} {mean : ExcName → Option Value} {mg mb : Str → Option Value}
    {dp un : Nat} {gd : Option (List Code)} {cn : Str} {cs : Scope} {a : Addr} {ccd : Value} {cl : List (Str × Addr)} {outer : List Env} {A₀ : Around} {base h₀ : Heap} {L : Addr} {m : Str → Option Value} {s : Shared} {Q E : Value → Shared → Prop}
    {nA rA lA : Addr} {ev : Value} {start : Int} {st t6 : Tok} {nvs rvs : List Value} {n1 n2 : Nat} {rows : List Row} {news : List (Addr × Obj)}
    (B : Below A₀ base outer h₀) (F : Fr h₀ L s.heap m) (X : (hd.heap_39 w.params).In h₀) (N : News h₀ L s.heap news) (T : Top hd.view_39 loose mean mg mb h₀) (hk : cs.kind = .function)
    (hnA : (nA, PySem.W.listOf nvs.toArray n1) ∈ news) (hn9 : nvs.length = 9) (hrA : (rA, PySem.W.listOf rvs.toArray n2) ∈ news) (hrD : RulesIn w news rvs rows) (hr4 : rows.length ≤ 4)
    (hleft : ∀ r ∈ rows, 6 ≤ r.left ∧ r.left ≤ 8) (hright : ∀ r ∈ rows, r.right.length ≤ 4) (hev : handedIn ev = true) (hd' : dp + 4 < recursionLimit) (hu : un + 32 < cLine)
    (hret : ∀ (g gdA : Addr) (ks : Nat → Tok) (b1 b2 b3 b4 : Value) (c : Nat) (tl : List (Addr × Obj)) (h' : Heap) (tk' : Nat), Fr h₀ L h' m → News h₀ L h' (tl ++ news) → Apart news tl → (g, instObj 121 gdA) ∈ tl →
      (gdA, dictOf [⟨PyData.keyHash w.params (Str.ofString "names"), .str (Str.ofString "names") (ks 0), .ref nA⟩, ⟨PyData.keyHash w.params (Str.ofString "terminal_count"), .str (Str.ofString "terminal_count") (ks 1), .int 6 (ks 2)⟩,
      ⟨PyData.keyHash w.params (Str.ofString "rules"), .str (Str.ofString "rules") (ks 3), .ref rA⟩, ⟨PyData.keyHash w.params (Str.ofString "levels"), .str (Str.ofString "levels") (ks 4), .ref lA⟩,
      ⟨PyData.keyHash w.params (Str.ofString "expect"), .str (Str.ofString "expect") (ks 5), ev⟩, ⟨PyData.keyHash w.params (Str.ofString "start"), .str (Str.ofString "start") (ks 6), .int start (ks 7)⟩,
      ⟨PyData.keyHash w.params (Str.ofString "by_left"), .str (Str.ofString "by_left") (ks 8), b1⟩, ⟨PyData.keyHash w.params (Str.ofString "offsets"), .str (Str.ofString "offsets") (ks 9), b2⟩,
      ⟨PyData.keyHash w.params (Str.ofString "owners"), .str (Str.ofString "owners") (ks 10), b3⟩, ⟨PyData.keyHash w.params (Str.ofString "item_count"), .str (Str.ofString "item_count") (ks 11), b4⟩] c) ∈ tl → Q (.ref g) { s with heap := h', toks := tk' }) :
    wpAny (model PySem.Challenge.rw_pq0569_01.row.prog w) (ktrTop dp un gd cn cs L a ccd cl outer) (call (.ref 121) [.ref nA, .int 6 t6, .ref rA, .ref lA, ev, .int start st]) Q E s := by
  w_top off
  revert X; k_fill; intro X
  k_dflt (refine' call_cls ?k1 ?k2 ?k3 ?k4 ?k5 ?k6 ?_; (case k1 => k_asm); (case k2 => k_asm); (case k3 => k_asm); (case k4 => k_is); (case k5 => k_is); (case k6 => k_is); k_whole)
  intro x dx h1 F1 N1 l1 l2
  have l1r := l1
  have l2r := l2
  (try k_lt l1); (try k_lt2 l2)
  k_dflt (first | (refine' code_defC ?k1q1 ?k2q1 ?k3q1 ?k4q1 ?k5q1 ?kAq1 ?kFq1 ?kKq1 ?k6q1 ?k7q1 ?k8q1 ?k9q1 ?kBq1 ?kDq1 ?_ ?c2q1 ?c3q1 ?c4q1; (case kAq1 => exact rfl); (case kFq1 => exact rfl); (case kKq1 => first | exact rfl | assumption); (case k1q1 => k_asm); (case k2q1 => k_asm); (case k3q1 => k_asm); (case k4q1 => k_asm); (case k5q1 => k_asm); (case k6q1 => k_is); (case k7q1 => k_is); (case k8q1 => ktr_room); (case k9q1 => exact BindsTo.of_eq rfl); (case kBq1 => exact rfl); (case kDq1 => decide +kernel); (case c2q1 => exact rfl); (case c3q1 => exact rfl); (case c4q1 => exact rfl); k_whole; intro g' L' h' tk' cells' FG' F' N' Y' B' X' T' l1; (have l1r := l1); (try k_lt l1); k_cells Y'; (try simp only [List.cons_append, List.nil_append] at N'); (try dsimp only); (try k_fold)) | (refine' code_def ?k1q2 ?k2q2 ?k3q2 ?k4q2 ?k5q2 ?kAq2 ?kFq2 ?kKq2 ?k6q2 ?k7q2 ?k8q2 ?k9q2 ?kBq2 ?_ ?c2q2 ?c3q2 ?c4q2 ?c5q2; (case kAq2 => exact rfl); (case kFq2 => exact rfl); (case kKq2 => first | exact rfl | assumption); (case k1q2 => k_asm); (case k2q2 => k_asm); (case k3q2 => k_asm); (case k4q2 => k_asm); (case k5q2 => k_asm); (case k6q2 => k_is); (case k7q2 => k_is); (case k8q2 => ktr_room); (case k9q2 => first | exact BindsTo.of_eq rfl | exact binds_K (by k_in) rfl (by k_is) rfl rfl rfl); (case c5q2 => decide); (case kBq2 => exact locs rfl); (case c2q2 => exact rfl); (case c3q2 => exact rfl); (case c4q2 => exact rfl); k_whole; intro g' L' h' FG' F' N' B' X' T'; (try dsimp only); (try k_fold)))
  k_steps
  refine comp_led (J := BJ _) (by rfl) (by k_asm) (by k_asm) (by k_mem) (by omega) BJ.start ?_ ?_
  · intro i v ys nw I oI C oC D m₂ h tk E' hi hv hJ hC hx F N off ne
    obtain ⟨bs, rfl, hab, hyl, hlb, hys⟩ := hJ
    k_steps
    rename (I < _ ∧ _) => l1c
    exact comp_end1c (by k_asm) (by k_asm) l1c off (Or.inr ⟨_, by k_mem, rfl, _, rfl⟩) (BJ.snoc (Apart.ltc l1c hab) hyl hlb hys)
  · intro g' ys nw hJ
    obtain ⟨bs, rfl, hab, hyl, hlb, hys⟩ := hJ
    unfold LCg.FinE
    intro D h tk F N o1
    have o1r := off1_mem o1
    have d1 : @Ne Nat dx D := o1r (dx, _) (by k_mem)
    have d2 : @Ne Nat x D := o1r (x, _) (by k_mem)
    have hDb : ∀ p ∈ bs ++ news, p.1 ≠ D := fun p hp => o1r p (by grind)
    have habx : ∀ p ∈ bs, p.1 ≠ x := fun p hp => hab (x, _) (by k_mem) p hp
    have habd : ∀ p ∈ bs, p.1 ≠ dx := fun p hp => hab (dx, _) (by k_mem) p hp
    have habn : Apart news bs := hab.sub fun p hp => by k_mem
    clear o1 o1r hab
    obtain ⟨u0, u1, u2, u3, u4, u5, u6, u7, N2⟩ := toks6 (news_swap2 N)
    clear N
    have ofs1 : Offs [dx] (bs ++ news) := by
      intro d hd p hp
      simp only [List.mem_singleton] at hd
      subst hd
      rcases List.mem_append.mp hp with hp | hp
      · exact habd p hp
      · exact Nat.ne_of_lt (l1r p hp)
    k_steps
    rename (@LT.lt Nat _ D _ ∧ _) => lF
    rename (@LT.lt Nat _ _ _ ∧ @LT.lt Nat _ D _ ∧ _) => lO
    have hOffs := offs3c lO lF d1 d2 hDb
    have hne3 := ne3 lO lF
    rename (News _ _ _ ((_, _) :: (_, _) :: (D, _) :: _)) => N4
    obtain ⟨u0, u1, u2, u3, u4, u5, u6, u7, u8, u9, u10, N5⟩ := toks9 (news_swap4 N4)
    clear N4
    refine for_led (J := GJ _ _ _ _ _ (bs.map (·.1)) _) (by rfl) (by k_asm) N5 (by k_mem) ⟨_, _, _, _, bs, _, rfl, hOffs _ _, rfl, hlb, by exact Nat.le_refl 0, by exact Nat.le_refl 0, frame_same _ (Str.ofString "rule")⟩ ?_ ?_
    · intro i v m₁ news₁ h tk I oI hv hI hl hJ F N
      obtain ⟨ows, k1, ofs, k2, bs1, u, rfl, hO1, hmap, hlb1, hs1, hs2, rfl⟩ := hJ
      obtain ⟨r, hr, hR⟩ := hrD.get hv
      have hrm := List.mem_of_getElem? hr
      have hi4 : i < 4 := Nat.lt_of_lt_of_le (List.getElem?_eq_some_iff.mp hr).1 hr4
      obtain ⟨rx, rd, rks, num, rv, av, rc, rfl, hrx, hrd, hdr, hda⟩ := hR
      obtain ⟨ra, rvs', rn, rfl, hra, hrl⟩ := right_open hdr
      have hl1 := hleft r hrm
      have hr5 := hright r hrm
      have how64 : ows.size ≤ 64 := by omega
      have hof64 : ofs.size ≤ 64 := by omega
      have hrv64 : rvs'.size ≤ 64 := by omega
      have hpre := pre4 oI hI hO1
      have hI3 := three_ne hI
      rw [← hmap] at hys
      clear N5
      have hb0 : 0 ≤ r.left := by omega
      have hb1 : r.left < (ys.length : Int) := by omega
      have hyz : ys.length ≤ 64 := by omega
      have hi8 : i ≤ 8 := by omega
      have hm0 : (0 : Int) ≤ (rvs'.size : Int) + 1 := by omega
      have hm1 : (rvs'.size : Int) + 1 ≤ 64 := by omega
      k_steps
      (k_here; k_dflt (refine' bItem ?Nq3 ?Mq3 ?yq3 ?lq3 ?aq3 ?bq3 ?zq3 ?_ ?hsq3; (case lq3 => with_reducible assumption); (case Nq3 => k_asm); (case Mq3 => k_mem); (case yq3 => with_reducible assumption); (case aq3 => with_reducible assumption); (case bq3 => with_reducible assumption); (case zq3 => with_reducible assumption); (case hsq3 => with_unfolding_all rfl)); intro c' xs' n' hc' hd')
      k_steps
      (k_here; (with_reducible show wpAny _ _ (call (Value.builtin _) [Value.ref _, _]) _ _ _); k_dflt (refine' append_bs (pre := [_, _, _, _]) ?Fq4 ?Nq4 ?bq4 ?lq4 ?iq4 ?pq4 ?aq4 ?_; (case bq4 => with_reducible assumption); (case lq4 => with_reducible assumption); (case Fq4 => k_asm); (case Nq4 => k_asm); (case iq4 => with_reducible assumption); (case pq4 => with_reducible assumption); (case aq4 => exact base_ne (by assumption) (by assumption) (by assumption) (by assumption))); intro h' bs' F' N' e' l'; (simp only [List.cons_append, List.nil_append] at N'); (try k_sweep))
      k_steps
      (k_here; (with_reducible show wpAny _ _ (call (Value.builtin _) [Value.ref _, _]) _ _ _); k_dflt (refine' append_K ?Fq5 ?Nq5 (updOF ?aq5 ?bq5 ?cq5) ?_ ?zq5; (case Fq5 => k_asm); (case Nq5 => k_asm); (case aq5 => with_reducible assumption); (case bq5 => with_reducible assumption); (case cq5 => first | with_reducible assumption | exact Offs.same (by assumption) (by assumption)); (case zq5 => (rw [sizeLine_eq]; exact Nat.le_trans (by with_reducible assumption) (by decide)))); intro h' F' N'; (try k_sweep))
      k_steps
      (k_here; (with_reducible show wpAny _ _ (call (Value.builtin "len") [Value.ref _]) _ _ _); k_dflt (refine' lenT ?Nq6 ?Mq6 ?zq6 ?_; (case Nq6 => k_asm); (case Mq6 => with_reducible k_mem); (case zq6 => with_reducible assumption)))
      k_steps
      (refine un_halt ?_)
      (k_here; (with_reducible show wpAny _ _ (binaryOp Operator.Mult (Value.ref _) (Value.int _ _)) _ _ _); k_dflt (refine' mulL ?Fq8 ?Nq8 ?Mq8 ?aq8 ?bq8 ?_; (case Fq8 => k_asm); (case Nq8 => k_asm); (case Mq8 => k_mem); (case aq8 => first | with_reducible assumption | omega); (case bq8 => first | with_reducible assumption | omega)); intro D' h' F' N' l1; (try k_lt l1); (try k_sweep))
      k_steps
      (k_here; (with_reducible show wpAny _ _ (call (Value.builtin _) [Value.ref _, Value.ref _]) _ _ _); k_dflt (refine' extendL ?Fq9 ?Nq9 ?bq9 ?neq9 ?zq9 (updO ?l2q9 ?l1q9 ?h1q9 ?h2q9 ?h3q9) ?_; (case Fq9 => k_asm); (case Nq9 => k_asm); (case bq9 => k_mem); (case l2q9 => with_reducible assumption); (case l1q9 => with_reducible assumption); (case h1q9 => with_reducible assumption); (case h2q9 => with_reducible assumption); (case h3q9 => exact Offs.same (by assumption) (by assumption)); (case neq9 => first | with_reducible assumption | (simp only [List.length_replicate]; omega)); (case zq9 => first | with_reducible assumption | (simp only [List.length_replicate]; omega))); intro h' F' N'; (try k_sweep))
      k_steps
      have e1 : (ows.toList ++ List.replicate ((rvs'.size : Int) + 1).toNat (Value.int num (rks 1))).toArray.size ≤ 5 * (i + 1) := by
        rw [List.size_toArray, List.length_append, List.length_replicate, Array.length_toList]; omega
      refine GJ.fin (by k_asm) (by assumption) hI hO1 (by assumption) hmap (by assumption) e1 ?_ (by k_mem)
      rw [Array.size_push]
      exact Nat.succ_le_succ hs2
    · intro m₁ news₁ h tk hJ F N
      obtain ⟨ows, k1, ofs, k2, bs1, u, rfl, hO1, hmap, hlb1, hs1, hs2, rfl⟩ := hJ
      have how64 : ows.size ≤ 64 := by
        have := hrD.length
        omega
      have N6 := news_swap4' N
      have ofs2 : Offs [dx] (bs1 ++ news) := ofs1.same hmap
      clear N N5
      k_steps
      rename (News _ _ _ ((_, _) :: (_, _) :: (D, _) :: (x, _) :: _)) => N7
      obtain ⟨ks, N8⟩ := toks10 N7
      exact hret x dx ks _ _ _ _ _ (_ :: _ :: _ :: _ :: _ :: bs1) _ _ (by k_asm) N8 (apart6 (hOffs (instObj 121 dx) (instObj 121 dx)) l1r l2r habn hmap) (by k_mem) (by k_mem)
end
section
section
variable {prog : Program} {w : World} {A : Around} {E : Value → Shared → Prop} {s : Shared}
theorem list_no_keys : typeLookup (.type "list") (Str.ofString "keys") = pure none := am_miss_of_fast (by decide +kernel)
theorem keys_miss {a : Addr} {xs : Array Value} {k : Nat} {Q : Option Value → Shared → Prop} (hx : s.heap.get? a = some { cls := .type "list", data := .seq xs k }) (hA : A.handled = none)
    (h : ∀ h' tk, (∀ b o, s.heap.get? b = some o → h'.get? b = some o) → Q none { s with heap := h', toks := tk }) : wpAny (model prog w) A (getAttr? (.ref a) (Str.ofString "keys")) Q E s := by
  obtain ⟨hp, g, d, tk, os⟩ := s
  have hT : ∀ tk', (⟨hp, g, d, tk', os⟩ : Shared).TypeIs (.ref a) "list" := fun _ => ⟨_, hx, rfl⟩
  have f1 := sub_AttributeError
  have f3 := PySem.F.slot_list_getattribute.lookup
  have f4 := PySem.F.slot_list_getattribute.bind (.ref a)
  have f5 := am_list_getattr_none
  have f6 := list_no_keys
  unfold getAttr? getAttrBy? getAttrBy
  repeat (any_goals (first | assumption | exact hT _ | (with_reducible refine wpAny_attempt ?_) | ((with_reducible show wpAny _ _ (call (Value.builtin "list.__getattribute__") _ _) _ _ _); refine call_meets PySem.F.slot_list_getattribute (hT _) am_entry_list_getattribute (PySem.F.args_list_getattribute_2 _ _) (meets_getattribute_miss_list a xs k #[] _ _ list_no_keys (by decide +kernel)) ⟨hx, hA, fun h' tk' e hx' => ?_⟩) | wp_step))
  obtain ⟨t', u', he⟩ := hx'.there
  show wpAny _ _ (getattributeRaised _ _ _ _ _ _ _) _ _ _
  unfold getattributeRaised
  have hTe : ∀ tk2, (⟨h', g, d, tk2, os⟩ : Shared).TypeIs (.ref e) "AttributeError" := fun _ => ⟨_, he, rfl⟩
  repeat (any_goals (first | assumption | exact hTe _ | wp_step))
  exact h _ _ hx'.keeps
end
theorem entry_dict_update_loop : entryFor table "dict.update.loop" = some Builtin.«dict.update.loop» := entryFor_of_tree (by kernel_rfl)
theorem plain_dict_update_loop : plainId "dict.update.loop" = true := by decide +kernel
section
variable {prog : Program} {w : World} {A : Around} {E : Value → Shared → Prop} {R : Result → Shared → Prop}
def KeepBut (I d : Addr) (h h' : Heap) : Prop := ∀ b o, b ≠ I → b ≠ d → h.get? b = some o → h'.get? b = some o
theorem stored_new {kvs : List (Int × Value)} {i : Nat} {k : Int} {x : Value} (hnd : (kvs.map (·.1)).Nodup) (h : kvs[i]? = some (k, x)) : stored (kvs.take i) k x = kvs.take (i + 1) := by
  rw [take_snoc h]
  unfold stored
  rw [if_neg]
  intro hany
  obtain ⟨q, hq, e⟩ := List.any_eq_true.mp hany
  have e : q.1 = k := of_decide_eq_true e
  obtain ⟨j, hj, e2⟩ := List.mem_take_iff_getElem.mp hq
  obtain ⟨hi, hi2⟩ := List.getElem?_eq_some_iff.mp h
  have hj2 : j < i := by omega
  have h1 : (kvs.map (·.1))[j]'(by simp; omega) = (kvs.map (·.1))[i]'(by simp; omega) := by
    rw [List.getElem_map, List.getElem_map, hi2]
    show _ = k
    rw [← e, ← e2]
  exact absurd ((List.getElem_inj hnd).mp h1) (by omega)

theorem upd_loop {I ax d : Addr} {items : Array Value} {kvs : List (Int × Value)} {h₁ : Heap} (hh : A.handled = none) (hI : ax ≠ I) (hdI : d ≠ I) (hda : ax ≠ d) (hn : items.size = kvs.length) (hnd : (kvs.map (·.1)).Nodup) (hz : kvs.length ≤ 64)
    (hp : ∀ (i : Nat) (v : Value), items[i]? = some v → ∃ t c k tk x, v = .ref t ∧ t ≠ I ∧ t ≠ d ∧ h₁.get? t = some ({ cls := .type "tuple", data := .seq #[.int k tk, x] c } : Obj) ∧ kvs[i]? = some (k, x)) :
    ∀ (j i : Nat) (s : Shared) (u : Tok), items.size - i = j → i ≤ items.size → (s.heap.IsListIter I ax i ∧ s.heap.IsList ax items) → KeepBut I d h₁ s.heap → s.heap.DictOf (PySem.intKind prog w) d (kvs.take i) →
      (∀ h' tk, KeepBut I d h₁ h' → h'.DictOf (PySem.intKind prog w) d kvs → R (.ok (.ret .none)) { s with heap := h', toks := tk }) →
      codeAny (model prog w) A (.builtin "dict.update.loop" ⟨[.ref d, .ref I, .int (i : Int) u, .none], []⟩) R s := by
  have W := Walks.list (prog := prog) (w := w) (A := A.in1) hh I ax hI items
  intro j
  induction j with
  | zero =>
    intro i s u hj hi hst hk hd hR
    have hin : i = items.size := by omega
    subst hin
    refine codeAny_builtin entry_dict_update_loop ?_
    rw [Around.under_plainId plain_dict_update_loop _]
    show wpAny _ A.in1 (pyNext (.ref I) >>= _) _ _ s
    refine wpAny_bind (W.done s _ _ hst fun h' tk hm => ?_)
    show wpAny _ A.in1 (Builtin.Dict.addKeywords d [] >>= _) _ _ _
    refine wpAny_bind (wpAny_pure ?_)
    show wpAny _ A.in1 (ret Value.none) _ _ _
    refine wpAny_pure (hR h' tk (fun b o h1 h2 h3 => hm b o (by simpa using h1) (hk b o h1 h2 h3)) ?_)
    rw [hn, List.take_length] at hd
    obtain ⟨o, es, ep, ho, rest⟩ := hd
    exact ⟨o, es, ep, hm d o (by simpa using hdI) ho, rest⟩
  | succ j ih =>
    intro i s u hj hi hst hk hd hR
    have hlt : i < items.size := by omega
    refine codeAny_builtin entry_dict_update_loop ?_
    rw [Around.under_plainId plain_dict_update_loop _]
    show wpAny _ A.in1 (pyNext (.ref I) >>= _) _ _ s
    refine wpAny_bind (W.item i s _ _ hlt hst fun v h' tk hP hst' hm => ?_)
    obtain ⟨t, c, k, tk0, x, rfl, t1, t2, t3, t4⟩ := hp i v hP
    have hk' : KeepBut I d h₁ h' := fun b o h1 h2 h3 => hm b o (by simpa using h1) (hk b o h1 h2 h3)
    have ht := hk' t _ t1 t2 t3
    have hd' : h'.DictOf (PySem.intKind prog w) d (kvs.take i) := by
      obtain ⟨o, es, ep, ho, rest⟩ := hd
      exact ⟨o, es, ep, hm d o (by simpa using hdI) ho, rest⟩
    show wpAny _ A.in1 (holding [Value.ref t] _ >>= _) _ _ _
    refine wpAny_bind (wpAny_holding ?_)
    refine wpAny_bind (wpAny_tryCatch ?_)
    unfold Builtin.Dict.pairItems
    refine wpAny_bind (wpAny_typeOf (T := "tuple") ⟨_, ht, rfl⟩ ?_)
    rw [if_pos (by decide)]
    refine wpAny_bind (wpAny_seqItems ht rfl (wpAny_pure ?_))
    show wpAny _ A.in1 (holding [Value.int k tk0, x] (dictSet d (.int k tk0) x)) _ _ _
    refine wpAny_holding (wpAny_dictSet_pairs (hsz := by rw [sizeLine_eq, List.length_take]; exact Nat.le_trans (Nat.le_trans (Nat.min_le_right _ _) hz) (by decide)) (intKind_is _ _ _ _) hd' fun h2 hd2 hs2 => ?_)
    rw [stored_new hnd t4] at hd2
    refine wpAny_pure ⟨plainId_quiet plain_dict_update_loop _, ih (i + 1) _ _ (by omega) hlt ?_ ?_ hd2 fun h3 tk3 hk3 hd3 => hR h3 tk3 hk3 hd3⟩
    · refine W.frame _ h' _ hst' fun b hb o e => ?_
      rw [hs2.2 b ?_]
      · exact e
      · intro e2
        simp only [List.mem_cons, List.not_mem_nil, or_false] at hb
        rcases hb with rfl | rfl
        · exact hdI e2.symm
        · exact hda e2
    · intro b o h1 h2' h3
      rw [hs2.2 b h2']
      exact hk' b o h1 h2' h3

theorem call_dict_pairs {ax : Addr} {items : Array Value} {n : Nat} {kvs : List (Int × Value)} {s : Shared} {Q : Value → Shared → Prop} (hh : A.handled = none) (hx : s.heap.get? ax = some ({ cls := .type "list", data := .seq items n } : Obj)) (hn : items.size = kvs.length) (hnd : (kvs.map (·.1)).Nodup) (hz : kvs.length ≤ 64)
    (hp : ∀ (i : Nat) (v : Value), items[i]? = some v → ∃ t c k tk x, v = .ref t ∧ s.heap.get? t = some ({ cls := .type "tuple", data := .seq #[.int k tk, x] c } : Obj) ∧ kvs[i]? = some (k, x))
    (h : ∀ h' tk, h'.DictOf (PySem.intKind prog w) s.heap.objs.size kvs → (∀ b o, s.heap.get? b = some o → h'.get? b = some o) → Q (.ref s.heap.objs.size) { s with heap := h', toks := tk }) :
    wpAny (model prog w) A (call (.type "dict") [.ref ax]) Q E s := by
  refine callType_codes (Q₁ := fun obj s₁ => obj = .ref s.heap.objs.size ∧ s₁ = { s with heap := s.heap.push { cls := .type "dict", data := .dict #[] } }) PySem.F.kt_called_dict (PySem.F.kt_typeCall_dict_1 _) PySem.F.entry_dict_init (kt_code_dict_new _ ⟨rfl, rfl⟩) ?_
  rintro obj s₁ ⟨rfl, rfl⟩
  have hnew : (s.heap.push { cls := .type "dict", data := .dict #[] }).DictOf (PySem.intKind prog w) s.heap.objs.size [] := Heap.DictOf.new s.heap
  have hx' : (s.heap.push { cls := .type "dict", data := .dict #[] }).get? ax = some ({ cls := .type "list", data := .seq items n } : Obj) := Heap.get?_push_of_some _ hx
  have hax : ax < s.heap.objs.size := Heap.lt_size hx
  refine ⟨hnew.typeIs, PySem.F.args_dict_init_2 _ _, ?_⟩
  unfold Builtin.«dict.__init__»
  refine wpAny_bind ?_
  unfold Builtin.Dict.selfAndRest
  refine wpAny_bind (wpAny_notOrdered_dict hnew.typeIs ?_)
  show wpAny _ _ (pure (s.heap.objs.size, [Value.ref ax])) _ _ _
  refine wpAny_pure ?_
  show wpAny _ _ (Builtin.Dict.updateFrom "dict.__init__" s.heap.objs.size (.ref ax) [] .none) _ _ _
  unfold Builtin.Dict.updateFrom
  refine wpAny_bind (wpAny_typeOf (T := "list") ⟨_, hx', rfl⟩ ?_)
  rw [if_pos (by decide)]
  refine wpAny_bind (keys_miss hx' (by exact hh) fun h1 tk1 hk1 => ?_)
  rw [if_pos (show (none : Option Value).isNone = true from rfl)]
  refine wpAny_bind (wpAny_rule ?_)
  have hx1 : h1.get? ax = some ({ cls := .type "list", data := .seq items n } : Obj) := hk1 _ _ hx'
  have hl1 : h1.IsList ax items := ⟨_, hx1, rfl, n, rfl⟩
  have hd0 : h1.DictOf (PySem.intKind prog w) s.heap.objs.size [] := by
    obtain ⟨o, es, ep, ho, rest⟩ := hnew
    exact ⟨o, es, ep, hk1 _ _ ho, rest⟩
  have hdI : s.heap.objs.size < h1.objs.size := by
    obtain ⟨o, es, ep, ho, rest⟩ := hd0
    exact Heap.lt_size ho
  have hax1 : ax < h1.objs.size := Heap.lt_size hx1
  refine wpAny_bind (wpAny_pyIter_list hl1 ?_)
  have hpush : ∀ b o, s.heap.get? b = some o → (h1.push { cls := .type "list_iterator", data := .fields #[.ref ax, .int 0 0] }).get? b = some o := fun b o hb => Heap.get?_push_of_some _ (hk1 _ _ (Heap.get?_push_of_some _ hb))
  refine wpAny_pure ⟨plainId_quiet plain_dict_update_loop _, ?_⟩
  show codeAny (model prog w) A.in1 (.builtin "dict.update.loop" ⟨[.ref s.heap.objs.size, .ref h1.objs.size, .int ((0 : Nat) : Int) 0, .none], []⟩) _ _
  refine upd_loop (A := A.in1) (I := h1.objs.size) (ax := ax) (d := s.heap.objs.size) (items := items) (kvs := kvs) (h₁ := h1.push { cls := .type "list_iterator", data := .fields #[.ref ax, .int 0 0] }) hh (Nat.ne_of_lt hax1) (Nat.ne_of_lt hdI) (Nat.ne_of_lt hax) hn hnd hz ?_ items.size 0 _ _ rfl (Nat.zero_le _) ⟨⟨_, Heap.get?_push_size _ rfl, rfl, rfl⟩, hl1.at fun o e => Heap.get?_push_of_some _ e⟩ (fun _ _ _ _ h => h) (hd0.push _) ?_
  · intro i v hv
    obtain ⟨t, c, k, tk, x, rfl, ht, hkv⟩ := hp i v hv
    have htl : t < s.heap.objs.size := Heap.lt_size ht
    exact ⟨t, c, k, tk, x, rfl, Nat.ne_of_lt (Nat.lt_trans htl hdI), Nat.ne_of_lt htl, hpush _ _ ht, hkv⟩
  · intro h' tk hk hd
    refine ⟨rfl, h h' tk hd fun b o hb => ?_⟩
    have hbl : b < s.heap.objs.size := Heap.lt_size hb
    exact hk b o (Nat.ne_of_lt (Nat.lt_trans hbl hdI)) (Nat.ne_of_lt hbl) (hpush b o hb)
end

/-- dict() of a list of pairs, over a ledger -/
theorem dict_pairs {w : World} {A : Around} {E : Value → Shared → Prop} {s : Shared} {h₀ : Heap} {L : Addr} {m : Str → Option Value} {led news : List (Addr × Obj)} {l : Addr} {vs : List Value} {n : Nat} {lev : List (Int × Dat)} {Q : Value → Shared → Prop}
    (hh : A.handled = none) (F : Fr h₀ L s.heap m) (N : News h₀ L s.heap news) (hbig : h₀.NoLimit) (hm : (l, PySem.W.listOf vs.toArray n) ∈ news) (hD : DatAll led vs (lev.map levDat)) (sub : ∀ p ∈ led, p ∈ news) (ok : LevOk lev)
    (h : ∀ D o kvs h' tk, Fr h₀ L h' m → News h₀ L h' ((D, o) :: news) → (∀ p ∈ news, p.1 < D) → (D == sysModules) = false → o.IsDictOf (PySem.intKind PROG w) kvs → PairsIn led kvs lev → Q (.ref D) { s with heap := h', toks := tk }) :
    wpAny (model PROG w) A (call (.type "dict") [.ref l]) Q E s := by
  have key : ∀ {vs : List Value} {lev : List (Int × Dat)}, DatAll led vs (lev.map levDat) → ∃ kvs : List (Int × Value), kvs.map (·.1) = lev.map (·.1) ∧ PairsIn led kvs lev ∧ vs.length = kvs.length ∧
      ∀ (i : Nat) (v : Value), vs[i]? = some v → ∃ t c k tk x, v = .ref t ∧ s.heap.get? t = some ({ cls := .type "tuple", data := .seq #[.int k tk, x] c } : Obj) ∧ kvs[i]? = some (k, x) := by
    intro vs lev
    induction lev generalizing vs with
    | nil => intro hD; cases hD; exact ⟨[], rfl, .nil, rfl, fun i v h => by simp at h⟩
    | cons p lev ih =>
      intro hD
      obtain ⟨k, d⟩ := p
      cases hD with
      | cons d1 hD =>
        obtain ⟨kvs, e1, e2, e3, e4⟩ := ih hD
        obtain ⟨a, c, t1, v2, rfl, hm1, d2⟩ := lev_open d1
        refine ⟨(k, v2) :: kvs, by simp [e1], .cons d2 e2, by simp [e3], fun i v hv => ?_⟩
        cases i with
        | zero => simp at hv; subst hv; exact ⟨a, c, k, t1, v2, rfl, (N _ (sub _ hm1)).1, rfl⟩
        | succ i => exact e4 i v (by simpa using hv)
  obtain ⟨kvs, e1, e2, e3, e4⟩ := key hD
  have hnd : (kvs.map (·.1)).Nodup := by
    rw [e1]
    rcases ok with ⟨a, rfl⟩ | ⟨a, b, rfl⟩ | ⟨a, b, rfl⟩ | ⟨a, b, c, rfl⟩ | ⟨a, b, c, rfl⟩ <;> simp
  have hl3 : kvs.length ≤ 3 := by
    have : kvs.length = lev.length := by simpa using congrArg List.length e1
    rcases ok with ⟨a, rfl⟩ | ⟨a, b, rfl⟩ | ⟨a, b, rfl⟩ | ⟨a, b, c, rfl⟩ | ⟨a, b, c, rfl⟩ <;> (rw [this]; exact Nat.le_of_ble_eq_true rfl)
  refine call_dict_pairs (items := vs.toArray) (kvs := kvs) hh (N _ hm).1 (by simpa using e3) hnd (by omega) (fun i v hv => e4 i v (by simpa using hv)) fun h' tk hd hk => ?_
  obtain ⟨o', ho', hd'⟩ := Heap.dictOf_iff.mp hd
  have hnone : h₀.get? s.heap.objs.size = none := next_is_new F
  refine h _ o' kvs h' tk ⟨F.ns.at' fun o e => hk _ o e, fun b o e => hk b o (F.keep b o e), F.above⟩ ?_ (fun p hp => Heap.lt_size (N p hp).1) (F.notModules (modules_low hbig)) hd' e2
  intro p hp
  rcases List.mem_cons.mp hp with rfl | hp
  · exact ⟨ho', Nat.ne_of_gt F.ns.lt, hnone⟩
  · exact ⟨hk _ _ (N p hp).1, (N p hp).2⟩
theorem mem_sub {led news : List (Addr × Obj)} {p : Addr × Obj} (h : ∀ p ∈ led, p ∈ news) (hp : p ∈ led) : p ∈ news := h p hp
end
theorem rst8 : True ∧ True := by (try walk1) <;> first | trivial | exact ⟨trivial, trivial⟩
local macro_rules | `(tactic| walk_at "call ref") => `(tactic| (k_here; refine halt_of ?_))
local macro_rules | `(tactic| walk_at "call type:list") => `(tactic| (k_here; refine halt_of ?_))
local macro_rules | `(tactic| walk_at "call type:dict") => `(tactic| (k_here; refine halt_of ?_))
section
local macro_rules | `(tactic| walk_at "exec For Tuple Subscript cons nil") => `(tactic| (k_here; k_dflt (refine' forH ?F ?_ ?hs ?hE; (case F => k_asm); (case hs => (intro _; rfl)); (case hE => passes_own))))
def setNames (m₀ : Str → Option Value) (u : Nat → Option Value) : Str → Option Value :=
  fun y => if y = Str.ofString "before" then u 0 else if y = Str.ofString "line" then u 1 else if y = Str.ofString "action" then u 2 else if y = Str.ofString "own_level" then u 3 else if y = Str.ofString "right" then u 4 else if y = Str.ofString "left" then u 5 else m₀ y
theorem setNames_same (m₀ : Str → Option Value) : m₀ = setNames m₀ fun n => match n with | 0 => m₀ (Str.ofString "before") | 1 => m₀ (Str.ofString "line") | 2 => m₀ (Str.ofString "action") | 3 => m₀ (Str.ofString "own_level") | 4 => m₀ (Str.ofString "right") | _ => m₀ (Str.ofString "left") := by
  funext y
  unfold setNames
  split
  · next h => exact congrArg m₀ h
  split
  · next h => exact congrArg m₀ h
  split
  · next h => exact congrArg m₀ h
  split
  · next h => exact congrArg m₀ h
  split
  · next h => exact congrArg m₀ h
  split
  · next h => exact congrArg m₀ h
  rfl
def setNames2 (m : Str → Option Value) (a b c d e f : Option Value) : Str → Option Value :=
  fun y => if y = Str.ofString "before" then a else (fun y => if y = Str.ofString "line" then b else (fun y => if y = Str.ofString "action" then c else (fun y => if y = Str.ofString "own_level" then d else (fun y => if y = Str.ofString "right" then e else (fun y => if y = Str.ofString "left" then f else m y) y) y) y) y) y
theorem setNames_again (m₀ : Str → Option Value) (u : Nat → Option Value) (a b c d e f : Option Value) : setNames2 (setNames m₀ u) a b c d e f = setNames m₀ fun n => match n with | 0 => a | 1 => b | 2 => c | 3 => d | 4 => e | _ => f := by
  funext y
  unfold setNames2 setNames
  dsimp only
  split
  · rfl
  split
  · rfl
  split
  · rfl
  split
  · rfl
  split
  · rfl
  split
  · rfl
  rfl

inductive LJ (w : World) (R : Addr) (led news : List (Addr × Obj)) (rows : List Row) (m₀ : Str → Option Value) (i : Nat) (m : (Str → Option Value)) (nx : List (Addr × Obj)) : Prop
  | mk (rvs : _) (k : _) (tl : _) (u : _)
    (h1 : nx = (R, PySem.W.listOf rvs.toArray k) :: (tl ++ news))
    (h2 : Apart news tl)
    (h3 : Offs [R] (tl ++ news))
    (h4 : RulesIn w (tl ++ led) rvs (rows.take i))
    (h5 : rvs.length ≤ i)
    (h6 : m = setNames m₀ u) : LJ w R led news rows m₀ i m nx
theorem LJ.start {w : World} {R : Addr} {led news : List (Addr × Obj)} {rows : List Row} {m₀ : Str → Option Value} (l : ∀ p ∈ news, p.1 < R) : LJ w R led news rows m₀ 0 m₀ ((R, PySem.W.listOf #[] 0) :: news) :=
  ⟨[], 0, [], _, rfl, Apart.nil, (fun d hd p hp => by simp only [List.mem_singleton] at hd; rw [hd]; exact Nat.ne_of_lt (l p hp)), by rw [List.take_zero]; exact .nil, Nat.le_refl 0, setNames_same m₀⟩

theorem ret_any {h₀ h' : Heap} {L : Addr} {news cur : List (Addr × Obj)} {X : List (Addr × Obj) → Prop} {R : Prop} (N : News h₀ L h' cur) (g : Grown news cur) (D : X cur) (h : ∀ tl, News h₀ L h' (tl ++ news) → Apart news tl → X (tl ++ news) → R) : R := by
  obtain ⟨tl, rfl, ha⟩ := g
  exact h tl N ha D

theorem ruleIn_mk {w : World} {led : List (Addr × Obj)} {x d : Addr} {t0 t1 t2 t3 t4 t5 t6 t7 t8 t9 t10 t11 : Tok} {num : Int} {rv av : Value} {c : Nat} {r : Row} (h1 : (x, instObj 39 d) ∈ led)
    (h2 : (d, dictOf [⟨PyData.keyHash w.params (Str.ofString "number"), .str (Str.ofString "number") t0, .int num t1⟩, ⟨PyData.keyHash w.params (Str.ofString "left"), .str (Str.ofString "left") t2, .int r.left t3⟩,
      ⟨PyData.keyHash w.params (Str.ofString "right"), .str (Str.ofString "right") t4, rv⟩, ⟨PyData.keyHash w.params (Str.ofString "level_of"), .str (Str.ofString "level_of") t5, .int r.lev t6⟩,
      ⟨PyData.keyHash w.params (Str.ofString "action"), .str (Str.ofString "action") t7, av⟩, ⟨PyData.keyHash w.params (Str.ofString "line"), .str (Str.ofString "line") t8, .int r.line t9⟩,
      ⟨PyData.keyHash w.params (Str.ofString "before"), .str (Str.ofString "before") t10, .int r.before t11⟩] c) ∈ led) (h3 : DatIn led rv r.rdat) (h4 : DatIn led av r.act) : RuleIn w led (.ref x) r :=
  ⟨x, d, fun n => match n with | 0 => t0 | 1 => t1 | 2 => t2 | 3 => t3 | 4 => t4 | 5 => t5 | 6 => t6 | 7 => t7 | 8 => t8 | 9 => t9 | 10 => t10 | _ => t11, num, rv, av, c, rfl, h1, h2, h3, h4⟩

theorem LJ.fin {w : World} {h₀ h' : Heap} {L I R x d rA : Addr} {oI oR ox od q : Obj} {rvs1 : List Value} {rv : Value} {r : Row} {k i tk : Nat} {tl led news : List (Addr × Obj)} {rows : List Row} {m₀ : Str → Option Value} {u : Nat → Option Value} {a b c e f g : Option Value} {s₁ : Shared}
    (F : Fr h₀ L h' (setNames2 (setNames m₀ u) a b c e f g)) (N : News h₀ L h' ((x, ox) :: (d, od) :: (I, oI) :: (R, PySem.W.listOf (rvs1.toArray.push rv) k) :: (tl ++ news)))
    (hI : ∀ p ∈ (R, q) :: (tl ++ news), p.1 ≠ I) (hO : Offs [R] (tl ++ news)) (hap : Apart news tl) (hl : @LT.lt Nat _ I d ∧ @LT.lt Nat _ R d ∧ AllLt d (tl ++ news)) (hx : @LT.lt Nat _ d x)
    (hR : RulesIn w (tl ++ led) rvs1 (rows.take i)) (hr : rows[i]? = some r) (hv : RuleIn w ((x, ox) :: (d, od) :: (tl ++ led)) rv r) (hlen : rvs1.length ≤ i) (hk : (rA, oR) ∈ news) :
    ForPost h₀ L I oI (fun nx => (rA, oR) ∈ nx) (LJ w R led news rows m₀ (i + 1)) s₁ .next { s₁ with heap := h', toks := tk } := by
  have hld := ltOf hl.2.2
  refine ⟨h', tk, _, (R, PySem.W.listOf (rvs1 ++ [rv]).toArray k) :: ((x, ox) :: (d, od) :: tl ++ news), rfl, F, ?_, ?_, .tail _ (List.mem_append_right _ hk), rvs1 ++ [rv], k, (x, ox) :: (d, od) :: tl, _, rfl, ?_, ?_, ?_, ?_, setNames_again _ _ _ _ _ _ _ _⟩
  · have e : (rvs1 ++ [rv]).toArray = rvs1.toArray.push rv := by simp
    rw [e]
    intro p hp
    refine N p ?_
    simp only [List.mem_cons, List.cons_append] at hp ⊢
    rcases hp with h | h | h | h | h
    · exact .inr (.inr (.inl h))
    · exact .inr (.inr (.inr (.inl h)))
    · exact .inl h
    · exact .inr (.inl h)
    · exact .inr (.inr (.inr (.inr h)))
  · intro p hp
    simp only [List.mem_cons, List.cons_append] at hp
    rcases hp with rfl | rfl | rfl | h
    · exact hI (R, q) (.head _)
    · exact Nat.ne_of_gt (Nat.lt_trans hl.1 hx)
    · exact Nat.ne_of_gt hl.1
    · exact hI p (.tail _ h)
  · exact .cons (fun q hq => Nat.ne_of_gt (Nat.lt_trans (hld q (List.mem_append_right _ hq)) hx)) (.cons (fun q hq => Nat.ne_of_gt (hld q (List.mem_append_right _ hq))) hap)
  · intro z hz p hp
    simp only [List.mem_singleton] at hz
    subst hz
    simp only [List.mem_cons, List.cons_append] at hp
    rcases hp with rfl | rfl | h
    · exact Nat.ne_of_gt (Nat.lt_trans hl.2.1 hx)
    · exact Nat.ne_of_gt hl.2.1
    · exact hO z (.head _) p h
  · rw [take_snoc hr]
    exact (hR.mono fun p hp => .tail _ (.tail _ hp)).snoc hv
  · rw [List.length_append, List.length_singleton]; omega

theorem laid_end {w : World} {h₀ h' : Heap} {L : Addr} {m : Str → Option Value} {s : Shared} {Q : Value → Shared → Prop} {P : Plan} {led news tl tl' : List (Addr × Obj)} {g gd Dd Dn R : Addr} {o : Obj} {nvs rvs : List Value} {kvs : List (Int × Value)} {n1 n2 c tk' : Nat} {ev b1 b2 b3 b4 : Value} {ks : Nat → Tok}
    (F : Fr h₀ L h' m) (N : News h₀ L h' (tl' ++ (Dd, o) :: (Dn, PySem.W.listOf nvs.toArray n1) :: (R, PySem.W.listOf rvs.toArray n2) :: (tl ++ news))) (ha : Apart ((Dd, o) :: (Dn, PySem.W.listOf nvs.toArray n1) :: (R, PySem.W.listOf rvs.toArray n2) :: (tl ++ news)) tl')
    (gr : Grown news ((Dd, o) :: (Dn, PySem.W.listOf nvs.toArray n1) :: (R, PySem.W.listOf rvs.toArray n2) :: (tl ++ news))) (hg : (g, instObj 121 gd) ∈ tl')
    (hgd : (gd, dictOf [⟨PyData.keyHash w.params (Str.ofString "names"), .str (Str.ofString "names") (ks 0), .ref Dn⟩, ⟨PyData.keyHash w.params (Str.ofString "terminal_count"), .str (Str.ofString "terminal_count") (ks 1), .int 6 (ks 2)⟩,
      ⟨PyData.keyHash w.params (Str.ofString "rules"), .str (Str.ofString "rules") (ks 3), .ref R⟩, ⟨PyData.keyHash w.params (Str.ofString "levels"), .str (Str.ofString "levels") (ks 4), .ref Dd⟩,
      ⟨PyData.keyHash w.params (Str.ofString "expect"), .str (Str.ofString "expect") (ks 5), ev⟩, ⟨PyData.keyHash w.params (Str.ofString "start"), .str (Str.ofString "start") (ks 6), .int P.start (ks 7)⟩,
      ⟨PyData.keyHash w.params (Str.ofString "by_left"), .str (Str.ofString "by_left") (ks 8), b1⟩, ⟨PyData.keyHash w.params (Str.ofString "offsets"), .str (Str.ofString "offsets") (ks 9), b2⟩,
      ⟨PyData.keyHash w.params (Str.ofString "owners"), .str (Str.ofString "owners") (ks 10), b3⟩, ⟨PyData.keyHash w.params (Str.ofString "item_count"), .str (Str.ofString "item_count") (ks 11), b4⟩] c) ∈ tl')
    (hn : DatAll led nvs (P.names.map Dat.str)) (hr : RulesIn w (tl ++ led) rvs P.rows) (lo : (Dd == sysModules) = false) (hd : o.IsDictOf (PySem.intKind PROG w) kvs) (hp : PairsIn led kvs P.levels) (he : DatIn led ev P.expect)
    (hret : ∀ (g : Addr) (tl : List (Addr × Obj)) (h' : Heap) (tk' : Nat), Fr h₀ L h' m → News h₀ L h' (tl ++ news) → Apart news tl → GramAt w (tl ++ led) g P → Q (.ref g) { s with heap := h', toks := tk' }) : Q (.ref g) { s with heap := h', toks := tk' } := by
  have e : ∀ l : List (Addr × Obj), tl' ++ (Dd, o) :: (Dn, PySem.W.listOf nvs.toArray n1) :: (R, PySem.W.listOf rvs.toArray n2) :: (tl ++ l) = (tl' ++ (Dd, o) :: (Dn, PySem.W.listOf nvs.toArray n1) :: (R, PySem.W.listOf rvs.toArray n2) :: tl) ++ l := fun l => by simp
  obtain ⟨tl9, e9, a9⟩ := gr
  have e10 : tl9 = (Dd, o) :: (Dn, PySem.W.listOf nvs.toArray n1) :: (R, PySem.W.listOf rvs.toArray n2) :: tl := by
    have : tl9 ++ news = ((Dd, o) :: (Dn, PySem.W.listOf nvs.toArray n1) :: (R, PySem.W.listOf rvs.toArray n2) :: tl) ++ news := by rw [← e9]; rfl
    exact List.append_cancel_right this
  subst e10
  refine hret g (tl' ++ (Dd, o) :: (Dn, PySem.W.listOf nvs.toArray n1) :: (R, PySem.W.listOf rvs.toArray n2) :: tl) h' tk' F (e news ▸ N) ?_ ?_
  · exact Apart.append (cur := (Dd, o) :: (Dn, PySem.W.listOf nvs.toArray n1) :: (R, PySem.W.listOf rvs.toArray n2) :: (tl ++ news)) ha (fun p hp => .tail _ (.tail _ (.tail _ (List.mem_append_right _ hp)))) a9
  · rw [← e led]
    have sl : ∀ p ∈ led, p ∈ tl' ++ (Dd, o) :: (Dn, PySem.W.listOf nvs.toArray n1) :: (R, PySem.W.listOf rvs.toArray n2) :: (tl ++ led) := fun p hp => List.mem_append_right _ (.tail _ (.tail _ (.tail _ (List.mem_append_right _ hp))))
    exact ⟨gd, ks, Dn, R, Dd, o, ev, b1, b2, b3, b4, nvs, rvs, kvs, n1, n2, c, List.mem_append_left _ hg, List.mem_append_left _ hgd, List.mem_append_right _ (.tail _ (.head _)), hn.mono sl, List.mem_append_right _ (.tail _ (.tail _ (.head _))),
      hr.mono fun p hp => List.mem_append_right _ (.tail _ (.tail _ (.tail _ hp))), List.mem_append_right _ (.head _), lo, hd, hp.mono sl, he.mono sl⟩

set_option maxRecDepth 100000 in
set_option maxHeartbeats 8000000 in
theorem laid_c {w : World} {loose : List Str} {mean : ExcName → Option Value} {mg mb : Str → Option Value}
    {dp un : Nat} {gd : Option (List Code)} {cn : Str} {cs : Scope} {a : Addr} {ccd : Value} {cl : List (Str × Addr)} {outer : List Env} {A₀ : Around} {base h₀ : Heap} {L : Addr} {m : Str → Option Value} {s : Shared} {Q E : Value → Shared → Prop}
    {p : Addr} {P : Plan} {led news : List (Addr × Obj)}
    (B : Below A₀ base outer h₀) (F : Fr h₀ L s.heap m) (X : (hd.heap_39 w.params).In h₀) (N : News h₀ L s.heap news) (T : Top hd.view_39 loose mean mg mb h₀) (hk : cs.kind = .function)
    (hP : PlanAt w led p P) (sub : ∀ p ∈ led, p ∈ news) (ok : P.Ok) (hd' : dp + 6 < recursionLimit) (hu : un + 48 < cLine)
    (hret : ∀ (g : Addr) (tl : List (Addr × Obj)) (h' : Heap) (tk' : Nat), Fr h₀ L h' m → News h₀ L h' (tl ++ news) → Apart news tl → GramAt w (tl ++ led) g P → Q (.ref g) { s with heap := h', toks := tk' }) :
    wpAny (model PySem.Challenge.rw_pq0569_01.row.prog w) (ktrTop dp un gd cn cs L a ccd cl outer) (call (.ref 151) [.ref p]) Q E s := by
  w_top off
  revert X; k_fill; intro X
  obtain ⟨o, nA, rA, lA, ev, st, nvs, rvs, lvs, n1, n2, n3, ho, hdo, hnA, hnD, hrA, hrD, hlA, hlD, heD⟩ := hP
  have ho := sub _ ho
  have hnA2 := sub _ hnA
  have hrA := sub _ hrA
  have hlA := sub _ hlA
  have hrl := hrD.length
  have hnl := hnD.length
  have hll := hlD.length
  simp only [List.length_map] at hrl hnl hll
  have okr := ok.rows
  have okn := ok.names
  have okl := ok.levs
  refine wpAny_call ?_
  k_dflt (first | (refine' code_defC ?k1q1 ?k2q1 ?k3q1 ?k4q1 ?k5q1 ?kAq1 ?kFq1 ?kKq1 ?k6q1 ?k7q1 ?k8q1 ?k9q1 ?kBq1 ?kDq1 ?_ ?c2q1 ?c3q1 ?c4q1; (case kAq1 => exact rfl); (case kFq1 => exact rfl); (case kKq1 => first | exact rfl | assumption); (case k1q1 => k_asm); (case k2q1 => k_asm); (case k3q1 => k_asm); (case k4q1 => k_asm); (case k5q1 => k_asm); (case k6q1 => k_is); (case k7q1 => k_is); (case k8q1 => ktr_room); (case k9q1 => exact BindsTo.of_eq rfl); (case kBq1 => exact rfl); (case kDq1 => decide +kernel); (case c2q1 => exact rfl); (case c3q1 => exact rfl); (case c4q1 => exact rfl); k_whole; intro g' L' h' tk' cells' FG' F' N' Y' B' X' T' l1; (have l1r := l1); (try k_lt l1); k_cells Y'; (try simp only [List.cons_append, List.nil_append] at N'); (try dsimp only); (try k_fold)) | (refine' code_def ?k1q2 ?k2q2 ?k3q2 ?k4q2 ?k5q2 ?kAq2 ?kFq2 ?kKq2 ?k6q2 ?k7q2 ?k8q2 ?k9q2 ?kBq2 ?_ ?c2q2 ?c3q2 ?c4q2 ?c5q2; (case kAq2 => exact rfl); (case kFq2 => exact rfl); (case kKq2 => first | exact rfl | assumption); (case k1q2 => k_asm); (case k2q2 => k_asm); (case k3q2 => k_asm); (case k4q2 => k_asm); (case k5q2 => k_asm); (case k6q2 => k_is); (case k7q2 => k_is); (case k8q2 => ktr_room); (case k9q2 => first | exact BindsTo.of_eq rfl | exact binds_K (by k_in) rfl (by k_is) rfl rfl rfl); (case c5q2 => decide); (case kBq2 => exact locs rfl); (case c2q2 => exact rfl); (case c3q2 => exact rfl); (case c4q2 => exact rfl); k_whole; intro g' L' h' FG' F' N' B' X' T'; (try dsimp only); (try k_fold)))
  k_steps
  rename (∀ p ∈ news, p.1 < _) => lR
  refine for_led (J := LJ w _ led news P.rows _) (by rfl) (by k_asm) (by k_asm) (by k_mem) (LJ.start lR) ?_ ?_
  · intro i v m₁ news₁ h tk I oI hv hI hl hJ F N
    obtain ⟨rvs1, k, tl, u, rfl, hap, hO, hR, hlen, rfl⟩ := hJ
    obtain ⟨r, hr, hd⟩ := dats_get hrD hv
    obtain ⟨ra, rn, t1, v2, t3, v4, t5, t6, rfl, hrm, d2, d4⟩ := row_open hd
    have hrm := sub _ hrm
    have hi4 : i < 4 := Nat.lt_of_lt_of_le (List.getElem?_eq_some_iff.mp hr).1 okr
    have hz64 : rvs1.toArray.size ≤ 64 := by rw [List.size_toArray]; omega
    have hIR : @Ne Nat _ I := hI _ (.head _)
    have hh2 := d2.handed
    have hh4 := d4.handed
    k_steps
    (refine un_halt ?_)
    (k_here; k_dflt (refine' call_cls ?k1q4 ?k2q4 ?k3q4 ?k4q4 ?k5q4 ?k6q4 ?_; (case k1q4 => k_asm); (case k2q4 => k_asm); (case k3q4 => k_asm); (case k4q4 => k_is); (case k5q4 => k_is); (case k6q4 => k_is); k_whole; intro x' d' h' F' N' l1 l2; (have l1r := l1); (try k_lt l1); (try k_lt2 l2); (try k_sweep); (first | (refine' code_defC ?k1q11 ?k2q11 ?k3q11 ?k4q11 ?k5q11 ?kAq11 ?kFq11 ?kKq11 ?k6q11 ?k7q11 ?k8q11 ?k9q11 ?kBq11 ?kDq11 ?_ ?c2q11 ?c3q11 ?c4q11; (case kAq11 => exact rfl); (case kFq11 => exact rfl); (case kKq11 => first | exact rfl | assumption); (case k1q11 => k_asm); (case k2q11 => k_asm); (case k3q11 => k_asm); (case k4q11 => k_asm); (case k5q11 => k_asm); (case k6q11 => k_is); (case k7q11 => k_is); (case k8q11 => ktr_room); (case k9q11 => exact BindsTo.of_eq rfl); (case kBq11 => exact rfl); (case kDq11 => decide +kernel); (case c2q11 => exact rfl); (case c3q11 => exact rfl); (case c4q11 => exact rfl); k_whole; intro g' L' h' tk' cells' FG' F' N' Y' B' X' T' l1; (have l1r := l1); (try k_lt l1); k_cells Y'; (try simp only [List.cons_append, List.nil_append] at N'); (try dsimp only); (try k_fold)) | (refine' code_def ?k1q12 ?k2q12 ?k3q12 ?k4q12 ?k5q12 ?kAq12 ?kFq12 ?kKq12 ?k6q12 ?k7q12 ?k8q12 ?k9q12 ?kBq12 ?_ ?c2q12 ?c3q12 ?c4q12 ?c5q12; (case kAq12 => exact rfl); (case kFq12 => exact rfl); (case kKq12 => first | exact rfl | assumption); (case k1q12 => k_asm); (case k2q12 => k_asm); (case k3q12 => k_asm); (case k4q12 => k_asm); (case k5q12 => k_asm); (case k6q12 => k_is); (case k7q12 => k_is); (case k8q12 => ktr_room); (case k9q12 => first | exact BindsTo.of_eq rfl | exact binds_K (by k_in) rfl (by k_is) rfl rfl rfl); (case c5q12 => decide); (case kBq12 => exact locs rfl); (case c2q12 => exact rfl); (case c3q12 => exact rfl); (case c4q12 => exact rfl); k_whole; intro g' L' h' FG' F' N' B' X' T'; (try dsimp only); (try k_fold)) | ktr_enter)))
    k_steps
    exact LJ.fin (by assumption) (by assumption) hI hO hap (by assumption) (by assumption) hR hr (ruleIn_mk (by k_mem) (by k_mem) (d2.mono fun p hp => by k_mem) (d4.mono fun p hp => by k_mem)) hlen hrA
  · intro m₁ news₁ h tk hJ F N
    obtain ⟨rvs1, k, tl, u, rfl, hap, hO, hR, hlen, rfl⟩ := hJ
    rw [List.take_of_length_le (by omega)] at hR
    have hnz : nvs.toArray.toList.length ≤ sizeLine := by
      rw [List.toList_toArray, hnl, okn, sizeLine_eq]; decide
    have hn9 : nvs.length = 9 := by omega
    have okleft := ok.left
    have okright := ok.right
    have hevh := heD.handed
    have hR2 : RulesIn w (tl ++ news) rvs1 P.rows := hR.mono fun p hp => (List.mem_append.mp hp).elim (fun h => List.mem_append_left _ h) fun h => List.mem_append_right _ (sub p h)
    k_steps
    (refine un_halt ?_)
    (k_here; (with_reducible show wpAny _ _ (call (Value.type _) [Value.ref _]) _ _ _); k_dflt (refine' kup_listOf ?Fq6 ?Nq6 ?bq6 List.toList_toArray ?_ ?zq6; (case Fq6 => k_asm); (case Nq6 => k_asm); (case bq6 => k_mem); (case zq6 => with_reducible assumption)); intro D' c' h' F' N' l1; (have l1r := l1); (try k_lt l1); (try k_sweep))
    k_steps
    (refine un_halt ?_)
    (k_here; (with_reducible show wpAny _ _ (call (Value.type "dict") [Value.ref _]) _ _ _); k_dflt (refine' dict_pairs ?hhq8 ?Fq8 ?Nq8 ?bq8 ?Mq8 ?Dq8 ?subq8 ?oq8 ?_; (case hhq8 => exact rfl); (case Fq8 => k_asm); (case Nq8 => k_asm); (case bq8 => exact Top.nolimit (by k_asm)); (case Mq8 => k_mem); (case oq8 => with_reducible assumption); (case Dq8 => with_reducible assumption); (case subq8 => (intro p hp; (have hp2 := mem_sub (by assumption) hp); k_mem))); intro D' o' kvs' h' tk' F' N' l1 lo' hd' hP'; (have l1r := l1); (try k_lt l1); (try k_sweep))
    k_steps
    (refine un_halt ?_)
    (k_here; (with_reducible show wpAny _ _ (call (Value.ref 121) [_, _, _, _, _, _]) _ _ _); k_dflt (refine' gram_c ?Bq10 ?Fq10 ?Xq10 ?Nq10 ?Tq10 ?hkq10 ?nAq10 ?n9q10 ?rAq10 ?rDq10 ?r4q10 ?lfq10 ?rtq10 ?evq10 ?dq10 ?uq10 ?_; (case Bq10 => k_asm); (case Fq10 => k_asm); (case Xq10 => k_asm); (case Nq10 => k_asm); (case Tq10 => k_asm); (case hkq10 => first | exact rfl | assumption); (case nAq10 => k_mem); (case n9q10 => with_reducible assumption); (case rAq10 => k_mem); (case rDq10 => (refine RulesIn.mono (by with_reducible assumption) ?subq10; (case subq10 => (intro p hp; k_mem)))); (case r4q10 => with_reducible assumption); (case lfq10 => with_reducible assumption); (case rtq10 => with_reducible assumption); (case evq10 => with_reducible assumption); (case dq10 => ktr_room); (case uq10 => ktr_units)); intro g' gd' ks' b1' b2' b3' b4' c' tl' h' tk' F' N' hap' hg' hgd')
    k_steps
    refine laid_end (by k_asm) (by k_asm) (by assumption) (Grown.lt (by assumption) (Grown.lt (by assumption) (Grown.offs (by assumption) (Grown.app hap Grown.refl)))) (by assumption) (by assumption) hnD hR (by assumption) (by assumption) (by assumption) heD hret
end
section
section
open LCg
variable {prog : Program} {w : World} {A : Around} {E : Value → Shared → Prop} {s : Shared} {h₀ : Heap} {L : Addr} {m : Str → Option Value} {env : Env}
abbrev tup (l : List Value) (n : Nat) : Obj := { cls := .type "tuple", data := .seq l.toArray n }
/-- one turn of a comprehension over pairs whose second part is a pair -/
def NTurn (prog : Program) (w : World) (A : Around) (h₀ : Heap) (L : Addr) (m : Str → Option Value) (env : Env) (elt : Expr) (x y z : Str) (scope : Scope) (cl : List (Str × Addr)) (s : Shared) (ax : Addr) (vs : List Value) (k : Nat)
    (J : Nat → List Value → List (Addr × Obj) → Prop) : Prop :=
  ∀ i v ys nw, vs[i]? = some v → J i ys nw → (ax, PySem.W.listOf vs.toArray k) ∈ nw → ∃ (t t2 : Addr) (n1 n2 : Nat) (v1 v2 v3 : Value), v = .ref t ∧ (t, tup [v1, .ref t2] n1) ∈ nw ∧ (t2, tup [v2, v3] n2) ∈ nw ∧
    ∀ I oI C oC D m₂ h tk (E' : Value → Shared → Prop), NsObj oC m₂ → m₂ x = some v1 → m₂ y = some v2 → m₂ z = some v3 → Fr h₀ L h m → News h₀ L h ((I, oI) :: (C, oC) :: (D, lst ys) :: nw) → Off3 I C D nw → ((@Ne Nat I C) ∧ (@Ne Nat I D) ∧ (@Ne Nat C D)) →
      wpAny (model prog w) A (eval elt (compEnvC scope cl C env)) (fun y s₂ => Halt (CompEnd h₀ L m { s with heap := h, toks := tk } I oI C oC D (lst ys) (fun nw => (ax, PySem.W.listOf vs.toArray k) ∈ nw) (fun y nw' => J (i + 1) (ys ++ [y]) nw') y s₂)) E' { s with heap := h, toks := tk }

inductive NInv (h₀ : Heap) (L : Addr) (m : Str → Option Value) (I C D ax : Addr) (vs : List Value) (k : Nat) (J : Nat → List Value → List (Addr × Obj) → Prop) (s₂ : Shared) (j : Nat) (s' : Shared) : Prop
  | mk (h' : Heap) (tk i : Nat) (ys : List Value) (m' : Str → Option Value) (nw : List (Addr × Obj)) (h1 : s' = { s₂ with heap := h', toks := tk }) (h2 : i ≤ vs.length) (h3 : j = vs.length + 1 - i) (h4 : ys.length = i) (h5 : h'.IsListIter I ax i ∧ h'.IsList ax vs.toArray) (h6 : Fr h₀ L h' m) (h7 : h'.Ns C m') (h8 : News h₀ L h' ((D, lst ys) :: nw))
    (h9 : Off3 I C D nw) (h10 : (ax, PySem.W.listOf vs.toArray k) ∈ nw) (h11 : J i ys nw) : NInv h₀ L m I C D ax vs k J s₂ j s'
theorem block_N {elt iter : Expr} {x y z : Str} {px py pz tp tp2 : Pos} {kk kk2} {scope : Scope} {cl : List (Str × Addr)} {pos : Pos} {s₂ : Shared} {I ax : Addr} {vs : List Value} {k : Nat} {news : List (Addr × Obj)}
    {Fin : List Value → List (Addr × Obj) → Prop} {RR : Value → Addr → Result → Shared → Prop} (J : Nat → List Value → List (Addr × Obj) → Prop)
    (hsz : vs.length ≤ sizeLine) (hne : ax ≠ I) (hst : s₂.heap.IsListIter I ax 0 ∧ s₂.heap.IsList ax vs.toArray)
    (hcell : ∀ y ∈ scope.names, y.2 ≠ .cell) (hkind : scope.kind = .function) (hx : scope.names.lookup x = some .local) (hy : scope.names.lookup y = some .local) (hz : scope.names.lookup z = some .local) (hxy : x ≠ y) (hxz : x ≠ z) (hyz : y ≠ z) (hh : A.handled = none)
    (F : Fr h₀ L s₂.heap m) (N : News h₀ L s₂.heap news) (hIL : L ≠ I) (hI₀ : h₀.get? I = none) (off : ∀ p ∈ news, p.1 ≠ I) (hS : (ax, PySem.W.listOf vs.toArray k) ∈ news) (hJ : J 0 [] news)
    (turn : NTurn prog w A h₀ L m env elt x y z scope cl s₂ ax vs k J) (fin : ∀ ys nw, J vs.length ys nw → Fin ys nw)
    (hRR : ∀ D C h tk m' ys news', Fr h₀ L h m → News h₀ L h ((D, lst ys) :: news') → Off1 D news' → h.Ns C m' → h₀.get? C = none → h₀.get? D = none → C ≠ L → D ≠ L → C ≠ D → (∀ p ∈ news', p.1 ≠ C) → Fin ys news' → RR (.ref D) C (.ok .next) { s₂ with heap := h, toks := tk }) :
    wpAny (model prog w) A (newList []) (fun acc s₃ => wpAny (model prog w) A (newFunctionEnv scope env.globals cl [] env.qual none .none (some env)) (fun cenv s₄ =>
      codeAny (model prog w) A (.compStart (.ListComp elt [⟨.Tuple [.Name x px, .Tuple [.Name y py, .Name z pz] kk2 tp2] kk tp, iter, [], 0⟩] scope pos) 0 (.ref I) acc { cenv with scope := relabel scope env }) (RR acc cenv.locals) s₄) E s₃) E s₂ := by
  have W := Walks.list (prog := prog) (w := w) hh I ax hne vs.toArray
  have hsize : vs.toArray.size = vs.length := by simp
  refine wpAny_newObj_type (wpAny_newFunctionEnv hcell (by intro y hy; simp at hy) (fun h₁ hns₁ hsb₁ => ?_) hkind)
  dsimp only at hns₁ hsb₁ ⊢
  generalize hH2 : s₂.heap.push { cls := .type "list", dict := none, data := .seq ([] : List Value).toArray } = H2 at hns₁ hsb₁ ⊢
  obtain ⟨oIt, hoIt, _⟩ := id hst.1
  have hIlt : I < s₂.heap.objs.size := Heap.lt_size hoIt
  have haxlt : ax < s₂.heap.objs.size := Heap.lt_size (N _ hS).1
  have hC : H2.objs.size = s₂.heap.objs.size + 1 := by rw [← hH2, Heap.size_push]
  generalize hD : s₂.heap.objs.size = D at *
  generalize hCn : H2.objs.size = C at *
  have hDC : D ≠ C := by rw [hC]; exact Nat.ne_of_lt (Nat.lt_succ_self _)
  have below : ∀ b, b < D → b ≠ C ∧ b ≠ D := fun b hb => ⟨by rw [hC]; exact Nat.ne_of_lt (Nat.lt_succ_of_lt hb), Nat.ne_of_lt hb⟩
  have hlow : ∀ b o, s₂.heap.get? b = some o → b < D := fun b o e => hD ▸ Heap.lt_size e
  have old : ∀ b o, s₂.heap.get? b = some o → h₁.get? b = some o := fun b o e => hsb₁.extBut b o (below b (hlow b o e)).1 (Heap.get?_push_of_some _ (hH2 ▸ Heap.get?_push_of_some _ e))
  have hacc : h₁.get? D = some (lst []) := hsb₁.extBut _ _ hDC (Heap.get?_push_of_some _ (hH2 ▸ hD ▸ Heap.get?_push_size _ rfl))
  have hst₁ : h₁.IsListIter I ax 0 ∧ h₁.IsList ax vs.toArray := W.frame _ _ _ hst fun b _ o e => old b o e
  have fresh₀ : ∀ a, D ≤ a → h₀.get? a = none := fun a ha => by
    cases e : h₀.get? a with
    | none => rfl
    | some o' => exact absurd (hlow a o' (F.keep a o' e)) (Nat.not_lt.mpr ha)
  have hD₀ : h₀.get? D = none := fresh₀ _ (Nat.le_refl _)
  have hC₀ : h₀.get? C = none := fresh₀ _ (by rw [hC]; exact Nat.le_succ _)
  have hLlt : L < D := hD ▸ F.ns.lt
  have hDL : D ≠ L := Ne.symm (below L hLlt).2
  have hCL : C ≠ L := Ne.symm (below L hLlt).1
  have hCI : I ≠ C := (below I hIlt).1
  have hDI : I ≠ D := (below I hIlt).2
  have haxC : ax ≠ C := (below ax haxlt).1
  have haxD : ax ≠ D := (below ax haxlt).2
  have off₀ : Off3 I C D news := Off3.of fun p hp => ⟨off p hp, (below _ (hlow _ _ (N p hp).1)).1, (below _ (hlow _ _ (N p hp).1)).2⟩
  have loop : ∀ s₃ : Shared, s₃ = { s₂ with heap := h₁, toks := s₂.toks + ([] : List (Str × Value)).length } →
      codeAny (model prog w) A (.compLoop (.ListComp elt [⟨.Tuple [.Name x px, .Tuple [.Name y py, .Name z pz] kk2 tp2] kk tp, iter, [], 0⟩] scope pos) 0 (.ref I) (.ref D) (compEnvC scope cl C env))
        (RR (.ref D) C) s₃ := by
    rintro s₃ rfl
    refine LCp.codeAny_compLoop_pair
      (NInv h₀ L m I C D ax vs k J s₂) ?_ (vs.length + 1)
      ⟨h₁, _, 0, [], _, news, rfl, Nat.zero_le _, rfl, rfl, hst₁, F.keeps old, hns₁, List.forall_mem_cons.mpr ⟨⟨hacc, hDL, hD₀⟩, fun p hp => ⟨old _ _ (N p hp).1, (N p hp).2⟩⟩, off₀, hS, hJ⟩
    rintro j s' ⟨h', tk, i, ys, m', nw, rfl, hi, rfl, hyl, hst', F', hn', N', off', hS', hJ'⟩
    have off3 := off'.mem
    by_cases hlt : i < vs.length
    · refine W.item i _ _ _ (by rw [hsize]; exact hlt) hst' fun v h₂ tk₂ hPv hst₂ hk₂ => ?_
      obtain ⟨t, t2, n1, n2, v1, v2, v3, rfl, hm1, hm2, next⟩ := turn i v ys nw (by simpa using hPv) hJ' hS'
      have N₂ : News h₀ L h₂ ((D, lst ys) :: nw) := news_but N' hk₂ (List.forall_mem_cons.mpr ⟨Ne.symm hDI, fun p hp => (off3 p hp).1⟩)
      have ht : IsTup h₂ t #[v1, .ref t2] := ⟨_, (N₂ _ (.tail _ hm1)).1, rfl, n1, rfl⟩
      refine wpAny_letOwnedTupleGo_listiter hst₂.1 ?_
      refine assign_Tuple_tuple hh ht rfl rfl fun h₃ he₃ => ?_
      have k₃ : ∀ b o, h₂.get? b = some o → h₃.get? b = some o := fun b o e => he₃ b o (Nat.ne_of_lt (Heap.lt_size e)) e
      have hn₃ := (hn'.at' fun o e => hk₂ _ o (by simpa using Ne.symm hCI) e).at' fun o e => k₃ _ o e
      refine assignInOrder_cons (wpAny_assign_Name (wpAny_storeName_local (lookup_relabel_local hx) hn₃ (fun h₄ hn₄ hs₄ => ?_) (by simp [compEnvC, relabel, hkind])))
      have t2C : t2 ≠ C := (off3 _ hm2).2.1
      have ht2 : IsTup h₄ t2 #[v2, v3] := ⟨_, hs₄.extBut _ _ t2C (k₃ _ _ (N₂ _ (.tail _ hm2)).1), rfl, n2, rfl⟩
      refine assignInOrder_cons ?_
      show wpAny _ _ (assign (.Tuple [.Name y py, .Name z pz] kk2 tp2) (compEnvC scope cl C env) (.ref t2)) _ _ _
      refine assign_Tuple_tuple hh ht2 rfl rfl fun h₅ he₅ => ?_
      have k₅ : ∀ b o, h₄.get? b = some o → h₅.get? b = some o := fun b o e => he₅ b o (Nat.ne_of_lt (Heap.lt_size e)) e
      refine assignInOrder_cons (wpAny_assign_Name (wpAny_storeName_local (lookup_relabel_local hy) (hn₄.at' fun o e => k₅ _ o e) (fun h₆ hn₆ hs₆ => ?_) (by simp [compEnvC, relabel, hkind])))
      refine assignInOrder_cons (wpAny_assign_Name (wpAny_storeName_local (lookup_relabel_local hz) hn₆ (fun h₇ hn₇ hs₇ => ?_) (by simp [compEnvC, relabel, hkind])))
      refine assignInOrder_nil (assignInOrder_nil ?_)
      have k₇ : ∀ b o, b ≠ C → h₂.get? b = some o → h₇.get? b = some o := fun b o hb e => hs₇.extBut b o hb (hs₆.extBut b o hb (k₅ _ _ (hs₄.extBut b o hb (k₃ b o e))))
      have hst₇ : h₇.IsListIter I ax (i + 1) ∧ h₇.IsList ax vs.toArray := W.frame _ _ _ hst₂ fun b hb o e => k₇ b o (fun q => by
        simp only [List.mem_cons, List.not_mem_nil, or_false] at hb
        rcases hb with rfl | rfl
        · exact hCI q
        · exact haxC q) e
      obtain ⟨oI, heI, _⟩ := id hst₇.1
      obtain ⟨oC, heC, hoC⟩ := ns_obj hn₇
      have F₇ : Fr h₀ L h₇ m := (((((fr_but F' hk₂ hIL hI₀).keeps k₃).change hs₄ hCL hC₀).keeps k₅).change hs₆ hCL hC₀).change hs₇ hCL hC₀
      have N₇ : News h₀ L h₇ ((I, oI) :: (C, oC) :: (D, lst ys) :: nw) := by
        refine List.forall_mem_cons.mpr ⟨⟨heI, Ne.symm hIL, hI₀⟩, List.forall_mem_cons.mpr ⟨⟨heC, hCL, hC₀⟩, fun p hp => ⟨k₇ _ _ ?_ (N₂ p hp).1, (N₂ p hp).2⟩⟩⟩
        rcases List.mem_cons.mp hp with rfl | hp
        · exact hDC
        · exact (off3 p hp).2.1
      refine wpAny_mono (next I oI C oC D _ h₇ _ _ hoC (by simp [hxy, hxz]) (by simp [hyz]) (by simp) F₇ N₇ off' ⟨hCI, hDI, Ne.symm hDC⟩) (fun y s₄ h₄ => ?_) fun _ _ e => e
      obtain ⟨h₈, tk₈, nw₈, rfl, F₈, N₈, off₈, hS₈, hJ₈⟩ := h₄
      have zI := (N₈ (I, oI) List.mem_cons_self).1
      have zC := (N₈ (C, oC) (List.mem_cons_of_mem _ List.mem_cons_self)).1
      have zD := (N₈ (D, lst ys) (List.mem_cons_of_mem _ (List.mem_cons_of_mem _ List.mem_cons_self))).1
      have N₈' : News h₀ L h₈ nw₈ := fun p hp => N₈ p (List.mem_cons_of_mem _ (List.mem_cons_of_mem _ (List.mem_cons_of_mem _ hp)))
      have hst₈ : h₈.IsListIter I ax (i + 1) ∧ h₈.IsList ax vs.toArray := by
        refine ⟨?_, ⟨_, (N₈' _ hS₈).1, rfl, k, rfl⟩⟩
        obtain ⟨o', q, r⟩ := hst₇.1
        rw [heI] at q
        cases q
        exact ⟨_, zI, r⟩
      refine append_at (hsz := by show ys.toArray.size ≤ sizeLine; rw [List.size_toArray, hyl]; exact Nat.le_trans hi hsz) zD fun h₉ hs₉ hD₉ => ?_
      have off8 := off₈.mem
      refine ⟨vs.length + 1 - (i + 1), by omega, h₉, tk₈, i + 1, ys ++ [y], _, nw₈, rfl, hlt, rfl, by rw [List.length_append, List.length_singleton, hyl], W.frame _ _ _ hst₈ (fun b hb o e => hs₉.extBut b o (fun q => ?_) e), F₈.change hs₉ hDL hD₀,
        (hoC.ns zC).sameBut hs₉ (Ne.symm hDC), List.forall_mem_cons.mpr ⟨⟨hD₉.trans (congrArg some (lst_snoc ys y)), hDL, hD₀⟩, fun p hp => ⟨hs₉.extBut _ _ (off8 p hp).2.2 (N₈' p hp).1, (N₈' p hp).2⟩⟩, off₈, hS₈, hJ₈⟩
      simp only [List.mem_cons, List.not_mem_nil, or_false] at hb
      rcases hb with rfl | rfl
      · exact hDI q
      · exact haxD q
    · obtain rfl : i = vs.length := Nat.le_antisymm hi (Nat.not_lt.mp hlt)
      refine W.done _ _ _ (by rw [hsize]; exact hst') fun h₂ tk₂ hk₂ => ?_
      exact hRR _ _ h₂ tk₂ _ ys nw (fr_but F' hk₂ hIL hI₀) (news_but N' hk₂ (List.forall_mem_cons.mpr ⟨Ne.symm hDI, fun p hp => (off3 p hp).1⟩)) off'.one (hn'.at' fun o e => hk₂ _ o (by simpa using Ne.symm hCI) e) hC₀ hD₀ hCL hDL (Ne.symm hDC) (fun p hp => (off3 p hp).2.1) (fin ys nw hJ')
  exact codeAny_compStart_list (loop _ rfl) (W.self 0 _ _ _ hst₁ (loop _ rfl))

inductive SrcN (prog : Program) (w : World) (A : Around) (h₀ : Heap) (L : Addr) (m : Str → Option Value) (env : Env) (elt : Expr) (x y z : Str) (scope : Scope) (cl : List (Str × Addr)) (Fin : Shared → List Value → List (Addr × Obj) → Prop) (xv : Value) (s₁ : Shared) : Prop
  | mk (ax : _) (vs : _) (k : _) (news : _) (J : _)
    (h1 : xv = .ref ax)
    (h2 : A.handled = none)
    (h3 : Fr h₀ L s₁.heap m)
    (h4 : News h₀ L s₁.heap news)
    (h5 : (ax, PySem.W.listOf vs.toArray k) ∈ news)
    (h6 : vs.length ≤ sizeLine)
    (h7 : J 0 [] news)
    (h8 : ∀ s₂ : Shared, (∃ h, s₂ = { s₁ with heap := h }) → NTurn prog w A h₀ L m env elt x y z scope cl s₂ ax vs k J ∧ ∀ ys nw, J vs.length ys nw → Fin s₂ ys nw) : SrcN prog w A h₀ L m env elt x y z scope cl Fin xv s₁

theorem ListComp_N {elt iter : Expr} {x y z : Str} {px py pz tp tp2 : Pos} {kk kk2} {scope : Scope} {cl : List (Str × Addr)} {pos : Pos} {Q : Value → Shared → Prop} (F₀ : Fr h₀ L s.heap m)
    (hclos : closureFor scope env = pure cl) (hcell : ∀ y ∈ scope.names, y.2 ≠ .cell) (hkind : scope.kind = .function)
    (hnames : ∀ y ∈ scope.names, y.2 = .local → scope.names.lookup y.1 = some .local) (hx : scope.names.lookup x = some .local) (hy : scope.names.lookup y = some .local) (hz : scope.names.lookup z = some .local) (hxy : x ≠ y) (hxz : x ≠ z) (hyz : y ≠ z)
    (h : wpAny (model prog w) A (eval iter env) (fun v s₁ => Halt (SrcN prog w A h₀ L m env elt x y z scope cl (fun s₂ => FinE h₀ L m s₂ Q) v s₁)) E s)
    (hs : ∀ x, foldedSetIterable iter env x = pure x := by intro _; rfl) :
    wpAny (model prog w) A (eval (.ListComp elt [⟨.Tuple [.Name x px, .Tuple [.Name y py, .Name z pz] kk2 tp2] kk tp, iter, [], 0⟩] scope pos) env) Q E s := by
  rw [eval_ListComp]
  refine wpAny_comprehension_free (use := none) rfl hs hclos hkind hnames (wpAny_mono h (fun xv s₁ h₁ => ?_) fun _ _ e => e)
  obtain ⟨ax, vs, k, news, J, rfl, hh, F, N, hm, hsz, hJ, R⟩ := h₁
  have hl := N.isList hm
  have hlt : ax < s₁.heap.objs.size := Heap.lt_size (N _ hm).1
  refine wpAny_pyIter_list hl ?_
  have up : ∀ b o, s₁.heap.get? b = some o → (s₁.heap.push { cls := .type "list_iterator", data := .fields #[.ref ax, .int 0 0] }).get? b = some o := fun b o e => Heap.get?_push_of_some _ e
  have R2 := R { s₁ with heap := s₁.heap.push { cls := .type "list_iterator", data := .fields #[.ref ax, .int 0 0] } } ⟨_, rfl⟩
  refine block_N J hsz (Nat.ne_of_lt hlt) ⟨⟨_, Heap.get?_push_size _ rfl, rfl, rfl⟩, hl.push _⟩ hcell hkind hx hy hz hxy hxz hyz hh
    (F.keeps up) (N.grown up) (Nat.ne_of_lt F.ns.lt) (next_is_new F) (fun p hp => Nat.ne_of_lt (Heap.lt_size (N p hp).1)) hm hJ R2.1 R2.2 ?_
  intro D C h tk m' ys news' F' N' o1 hn hC₀ hD₀ hCL hDL hCD offC fin
  refine ⟨m', hn, fun h'' hs'' => fin D h'' tk (F'.change hs'' hCL hC₀) (fun p hp => ?_) o1⟩
  refine ⟨hs''.extBut _ _ ?_ (N' p hp).1, (N' p hp).2⟩
  rcases List.mem_cons.mp hp with rfl | hp
  · exact Ne.symm hCD
  · exact offC p hp
end
end
section
theorem gen_toks {α : Type} {M : Model} {A : Around} {t : Sem α} {Q : α → Shared → Prop} {E : Value → Shared → Prop} {hp : Heap} {g : Array GenState} {d : Drawn} {os : OsState} {X : Nat} (h : ∀ tk, wpAny M A t Q E ⟨hp, g, d, tk, os⟩) : wpAny M A t Q E ⟨hp, g, d, X, os⟩ := h X
def ActOk (d : Dat) : Prop := d = .none ∨ d = .str (Str.ofString "") ∨ d = .str (Str.ofString "x")
def ExpOk (d : Dat) : Prop := d = .none ∨ d = .int 0 ∨ d = .int 2
theorem offs_tail {D : Addr} {x : Addr × Obj} {l : List (Addr × Obj)} (h : ∀ p ∈ x :: l, p.1 < D) : Offs [D] l := fun d hd p hp => by
  rw [List.mem_singleton.mp hd]
  exact Nat.ne_of_lt (h p (.tail _ hp))
theorem fmod_lo1 {a k : Int} (h : 0 < k) : 0 ≤ a.fmod k + 1 := Int.le_add_one (fmod_lo h)
section
variable {prog : Program} {w : World} {A : Around} {E : Value → Shared → Prop} {s : Shared} {h₀ : Heap} {L : Addr} {m : Str → Option Value} {news : List (Addr × Obj)}
/-- dict() of a dict of strs, over a ledger -/
theorem dict_copy {src : Addr} {o : Obj} {kvs : List (Str × Value)} {Q : Value → Shared → Prop} (F : Fr h₀ L s.heap m) (N : News h₀ L s.heap news) (hbig : h₀.NoLimit) (hm : (src, o) ∈ news) (hlo : (src == sysModules) = false) (hD : o.IsDictOf (PySem.strKind prog w) kvs) (hz : kvs.length ≤ sizeLine)
    (h : ∀ D o' h', Fr h₀ L h' m → News h₀ L h' ((D, o') :: news) → (∀ p ∈ news, p.1 < D) → (D == sysModules) = false → o'.IsDictOf (PySem.strKind prog w) kvs → Q (.ref D) { s with heap := h' }) :
    wpAny (model prog w) A (call (.type "dict") [.ref src]) Q E s := by
  refine kt_call_dict hlo (kda_dict N hm hD) hz fun h' hmm hs => ?_
  obtain ⟨o', ho', hd'⟩ := Heap.dictOf_iff.mp hmm
  have N1 := News.push F N { cls := .type "dict", data := .dict #[] }
  exact h _ o' h' ((F.push _).change hs (N1 _ (.head _)).2.1 (N1.fresh (.head _))) (N1.setHead N.apart hs ho') (fun p hp => Heap.lt_size (N p hp).1) (F.notModules (modules_low hbig)) hd'

/-- one row of the plan's rules, opened -/
theorem itemRow {value slice : PySem.Expr} {l : Addr} {rvs : List Value} {n : Nat} {k : Int} {u : Tok} {rows : List Row} {led : List (Addr × Obj)} {Q : Value → Shared → Prop} (N : News h₀ L s.heap news) (hm : (l, PySem.W.listOf rvs.toArray n) ∈ news) (hD : DatAll led rvs (rows.map Row.dat)) (sub : ∀ p ∈ led, p ∈ news)
    (h0 : 0 ≤ k) (h1 : k < (rvs.length : Int)) (hz : rvs.length ≤ 64) (hok : ∀ r ∈ rows, r.right.length ≤ 4 ∧ ActOk r.act)
    (h : ∀ r ra rn t1 v2 t3 v4 t5 t6, rows[k.toNat]? = some r → r.right.length ≤ 4 → ActOk r.act → (ra, ({ cls := .type "tuple", data := .seq [Value.int r.left t1, v2, Value.int r.lev t3, v4, Value.int r.line t5, Value.int r.before t6].toArray rn } : Obj)) ∈ news → DatIn led v2 r.rdat → DatIn led v4 r.act → handedIn v2 = true → handedIn v4 = true →
      DatIn led (.ref ra) r.dat → rvs[k.toNat]? = some (.ref ra) → Q (.ref ra) s)
    (hs : subscripted slice false (.ref l) (.int k u) = operate [.ref l, .int k u] (getItem (.ref l) (.int k u)) := by with_unfolding_all rfl) :
    wpAny (model prog w) A (subscriptTail value slice (.ref l) (.int k u)) Q E s := by
  have hk : k.toNat < rvs.length := by omega
  have hx : rvs[k.toNat]? = some rvs[k.toNat] := List.getElem?_eq_getElem hk
  obtain ⟨r, hr, hd⟩ := dats_get hD hx
  obtain ⟨ra, rn, t1, v2, t3, v4, t5, t6, e, hrm, d2, d4⟩ := row_open hd
  rw [e] at hx hd
  exact kba_turn (value' := PySem.Expr.Name (PySem.Str.ofString "_") ⟨0, 0, 0, 0⟩) (fun _ => rfl) (item_listL (N.isList hm) h0 (by omega) hx (h r ra rn t1 v2 t3 v4 t5 t6 hr (hok r (List.mem_of_getElem? hr)).1 (hok r (List.mem_of_getElem? hr)).2 (sub _ hrm) d2 d4 d2.handed d4.handed hd hx) hs (fun _ => rfl))

theorem itemSame {value slice : PySem.Expr} {l : Addr} {rvs : List Value} {n : Nat} {k : Int} {u : Tok} {v : Value} {Q : Value → Shared → Prop} (N : News h₀ L s.heap news) (hm : (l, PySem.W.listOf rvs.toArray n) ∈ news) (hx : rvs[k.toNat]? = some v)
    (h0 : 0 ≤ k) (hz : rvs.length ≤ 64) (h : Q v s)
    (hs : subscripted slice false (.ref l) (.int k u) = operate [.ref l, .int k u] (getItem (.ref l) (.int k u)) := by with_unfolding_all rfl) :
    wpAny (model prog w) A (subscriptTail value slice (.ref l) (.int k u)) Q E s := by
  have hk : k.toNat < rvs.length := (List.getElem?_eq_some_iff.mp hx).1
  exact kba_turn (value' := PySem.Expr.Name (PySem.Str.ofString "_") ⟨0, 0, 0, 0⟩) (fun _ => rfl) (item_listL (N.isList hm) h0 (by omega) hx h hs (fun _ => rfl))
theorem sliceTake {value slice : PySem.Expr} {l : Addr} {vs : List Value} {n : Nat} {k : Int} {u : Tok} {Q : Value → Shared → Prop} (F : Fr h₀ L s.heap m) (N : News h₀ L s.heap news) (hm : (l, PySem.W.listOf vs.toArray n) ∈ news) (h0 : 0 ≤ k) (hz : vs.length ≤ 64)
    (h : ∀ D h', Fr h₀ L h' m → News h₀ L h' ((D, PySem.W.listOf (vs.take k.toNat).toArray 0) :: news) → (∀ p ∈ news, p.1 < D) → Q (.ref D) { s with heap := h' })
    (hs : subscripted slice false (.ref l) (.ref s.heap.objs.size) = operate [.ref s.heap.objs.size, .ref l] (getItem (.ref l) (.ref s.heap.objs.size))) :
    wpAny (model prog w) A (subscriptTail value slice (.ref l) (.ref s.heap.objs.size)) Q E { s with heap := s.heap.push { cls := .type "slice", data := .fields #[.none, .int k u, .none] } } := by
  refine kba_turn (value' := PySem.Expr.Name (PySem.Str.ofString "_") ⟨0, 0, 0, 0⟩) (fun _ => rfl) (kms_slice_lit F N (N.isList hm) .none (.int k u) ?_ h hs (fun _ => rfl) (by rw [List.size_toArray, sizeLine_eq]; omega))
  unfold kms_pick kms_lo kms_hi
  dsimp only
  rw [if_neg (by omega), Nat.sub_zero, List.drop_zero]
  rcases Nat.le_total k.toNat vs.length with hle | hle
  · rw [Nat.min_eq_left hle]
  · rw [Nat.min_eq_right hle, List.take_length, List.take_of_length_le hle]
theorem sliceDrop {value slice : PySem.Expr} {l : Addr} {vs : List Value} {n : Nat} {k : Int} {u : Tok} {Q : Value → Shared → Prop} (F : Fr h₀ L s.heap m) (N : News h₀ L s.heap news) (hm : (l, PySem.W.listOf vs.toArray n) ∈ news) (h0 : 0 ≤ k) (hz : vs.length ≤ 64)
    (h : ∀ D h', Fr h₀ L h' m → News h₀ L h' ((D, PySem.W.listOf (vs.drop k.toNat).toArray 0) :: news) → (∀ p ∈ news, p.1 < D) → Q (.ref D) { s with heap := h' })
    (hs : subscripted slice false (.ref l) (.ref s.heap.objs.size) = operate [.ref s.heap.objs.size, .ref l] (getItem (.ref l) (.ref s.heap.objs.size))) :
    wpAny (model prog w) A (subscriptTail value slice (.ref l) (.ref s.heap.objs.size)) Q E { s with heap := s.heap.push { cls := .type "slice", data := .fields #[.int k u, .none, .none] } } := by
  refine kba_turn (value' := PySem.Expr.Name (PySem.Str.ofString "_") ⟨0, 0, 0, 0⟩) (fun _ => rfl) (kms_slice_lit F N (N.isList hm) (.int k u) .none ?_ h hs (fun _ => rfl) (by rw [List.size_toArray, sizeLine_eq]; omega))
  unfold kms_pick kms_lo kms_hi
  dsimp only
  rw [if_neg (by omega)]
  rcases Nat.le_total k.toNat vs.length with hle | hle
  · rw [Nat.min_eq_left hle, List.take_of_length_le (by rw [List.length_drop]; omega)]
  · rw [Nat.min_eq_right hle, Nat.sub_self, List.take_zero, List.drop_of_length_le hle]
theorem sliceDrop1 {value slice : PySem.Expr} {l : Addr} {vs : List Value} {n : Nat} {k : Int} {u : Tok} {Q : Value → Shared → Prop} (F : Fr h₀ L s.heap m) (N : News h₀ L s.heap news) (hm : (l, PySem.W.listOf vs.toArray n) ∈ news) (h0 : 0 ≤ k) (hz : vs.length ≤ 64)
    (h : ∀ D h', Fr h₀ L h' m → News h₀ L h' ((D, PySem.W.listOf (vs.drop (k.toNat + 1)).toArray 0) :: news) → (∀ p ∈ news, p.1 < D) → Q (.ref D) { s with heap := h' })
    (hs : subscripted slice false (.ref l) (.ref s.heap.objs.size) = operate [.ref s.heap.objs.size, .ref l] (getItem (.ref l) (.ref s.heap.objs.size))) :
    wpAny (model prog w) A (subscriptTail value slice (.ref l) (.ref s.heap.objs.size)) Q E { s with heap := s.heap.push { cls := .type "slice", data := .fields #[.int (k + 1) u, .none, .none] } } := by
  have e : (k + 1).toNat = k.toNat + 1 := by omega
  exact sliceDrop F N hm (by omega) hz (by rw [e]; exact h) hs
theorem addL {a b : Addr} {vs ws : List Value} {n n2 : Nat} {Q : Value → Shared → Prop} (F : Fr h₀ L s.heap m) (N : News h₀ L s.heap news) (ha : (a, PySem.W.listOf vs.toArray n) ∈ news) (hb : (b, PySem.W.listOf ws.toArray n2) ∈ news) (hz : vs.length + ws.length ≤ 64)
    (h : ∀ D h', Fr h₀ L h' m → News h₀ L h' ((D, PySem.W.listOf (vs ++ ws).toArray 0) :: news) → (∀ p ∈ news, p.1 < D) → Q (.ref D) { s with heap := h' }) : wpAny (model prog w) A (binaryOp .Add (.ref a) (.ref b)) Q E s :=
  kmk_add_lit F N (N.isList ha) (N.isList hb) (by rw [List.toList_toArray, List.toList_toArray]) h (by rw [List.toList_toArray, List.toList_toArray, sizeLine_eq]; omega)

/-- a right side with one symbol more -/
theorem addRight {v : Value} {b : Addr} {r : Row} {i : Int} {u : Tok} {n2 : Nat} {led : List (Addr × Obj)} {Q : Value → Shared → Prop} (F : Fr h₀ L s.heap m) (N : News h₀ L s.heap news) (hv : DatIn led v r.rdat) (sub : ∀ p ∈ led, p ∈ news) (hb : (b, ({ cls := .type "tuple", data := .seq [Value.int i u].toArray n2 } : Obj)) ∈ news) (hz : r.right.length ≤ 4)
    (h0 : DatIn ((b, ({ cls := .type "tuple", data := .seq [Value.int i u].toArray n2 } : Obj)) :: led) (.ref b) (.tuple ((r.right ++ [i]).map Dat.int)) → Q (.ref b) s)
    (h1 : ∀ D o h', Fr h₀ L h' m → News h₀ L h' ((D, o) :: news) → (∀ p ∈ news, p.1 < D) → DatIn ((D, o) :: led) (.ref D) (.tuple ((r.right ++ [i]).map Dat.int)) → Q (.ref D) { s with heap := h' }) : wpAny (model prog w) A (binaryOp .Add v (.ref b)) Q E s := by
  unfold Row.rdat at hv
  generalize hd : Dat.tuple (r.right.map Dat.int) = d at hv
  cases hv with
  | @tuple a vs n ds hm hds =>
    injection hd with hd
    subst hd
    have hl := hds.length
    rw [List.length_map] at hl
    have hall : DatAll led (vs ++ [.int i u]) ((r.right ++ [i]).map Dat.int) := by
      rw [List.map_append]
      exact DatAll.append hds (.one (.int _ _))
    have hm := sub _ hm
    cases vs with
    | nil =>
      refine kde_addT0 F N (N.isTup hm) (N.isTup hb) (by rw [List.toList_toArray]) (by rw [List.toList_toArray, List.toList_toArray]; simp) (h0 ?_)
      exact .tuple (.head _) (hall.mono fun p hp => .tail _ hp)
    | cons u us =>
      refine kde_addT F N (N.isTup hm) (N.isTup hb) (by rw [List.toList_toArray]; simp) (by rw [List.toList_toArray]; simp) (by rw [List.toList_toArray, List.toList_toArray, hl]; simp; omega) (by rw [List.toList_toArray, List.toList_toArray]) fun D h' F' N' l1 => ?_
      exact h1 D _ h' F' N' l1 (.tuple (.head _) (hall.mono fun p hp => .tail _ hp))
  | _ => cases hd
end
section
variable {w : World} {loose : List Str} {mean : ExcName → Option Value} {mg mb : Str → Option Value}
    {dp un : Nat} {gd : Option (List Code)} {cn : Str} {cs : Scope} {a : Addr} {ccd : Value} {cl : List (Str × Addr)} {outer : List Env} {A₀ : Around} {base h₀ : Heap} {L : Addr} {m : Str → Option Value} {s : Shared} {Q E : Value → Shared → Prop}
/-- one digit of the pool, wherever the pool lies in the ledger -/
theorem take_u {p : Addr} {vs : List Value} {ns : List Int} {n : Nat} {cur : List (Addr × Obj)} {g : Obj → List (Addr × Obj)} {k : Int} {t : Tok}
    (B : Below A₀ base outer h₀) (F : Fr h₀ L s.heap m) (X : (hd.heap_39 w.params).In h₀) (N : News h₀ L s.heap cur) (T : Top hd.view_39 loose mean mg mb h₀) (hk : cs.kind = .function) (U : UpdF p (PySem.W.listOf vs.toArray n) cur g)
    (hi : IntsAre vs ns) (hlen : ns.length ≤ 24) (h0 : 0 < k) (h1 : k < 100) (hd' : dp + 1 < recursionLimit) (hu : un + 8 < cLine)
    (hret : ∀ (d : Int) (t' : Tok) (vs' : List Value) (ns' : List Int) (n' : Nat) (h' : Heap) (tk' : Nat), 0 ≤ d → d < k → IntsAre vs' ns' → ns'.length ≤ 24 → Fr h₀ L h' m → News h₀ L h' (g (PySem.W.listOf vs'.toArray n')) → Q (.int d t') { s with heap := h', toks := tk' }) :
    wpAny (model PySem.Challenge.rw_pq0569_01.row.prog w) (ktrTop dp un gd cn cs L a ccd cl outer) (call (.ref 144) [.ref p, .int k t]) Q E s := by
  obtain ⟨pre, post, rfl, hg, e1, e2⟩ := U.split
  have N1 : News h₀ L s.heap ((p, PySem.W.listOf vs.toArray n) :: (pre ++ post)) := news_sub N fun q hq => by grind
  refine take_c B F X N1 T hk hi hlen (fun q hq D hD => ?_) h0 h1 hd' hu fun d t' vs' ns' n' h' tk' d0 d1 hi' hl' F' N' => hret d t' vs' ns' n' h' tk' d0 d1 hi' hl' F' ?_
  · rw [List.mem_singleton.mp hD]
    rcases List.mem_append.mp hq with hq | hq
    · exact e1 q hq
    · exact e2 q hq
  · rw [hg]
    exact news_sub N' fun q hq => by grind
end
section
variable {prog : Program} {w : World} {A : Around} {E : Value → Shared → Prop} {s : Shared} {news : List (Addr × Obj)}
theorem eqAct {v : Value} {d : Dat} {t : Tok} {Q : Value → Shared → Prop} (hv : DatIn news v d) (ok : ActOk d) (h1 : d = .str (Str.ofString "") → Q (.bool true) s) (h0 : d ≠ .str (Str.ofString "") → Q (.bool false) s) :
    wpAny (model prog w) A (compareOp .Eq v (.str (Str.ofString "") t)) Q E s := by
  rcases ok with rfl | rfl | rfl
  · cases hv
    exact cmp_ofEq (PySem.SeqAt.RcAt.none_str _ _ prog w E _ (h0 nofun))
  · cases hv
    exact PyProof.Rows.eq_str (h1 rfl)
  · cases hv
    exact PyProof.Rows.eq_str (h0 fun e => by injection e with e; revert e; decide)
theorem isNone {v : Value} {d : Dat} {Q : Value → Shared → Prop} (hv : DatIn news v d) (ok : ExpOk d) (h1 : d = .none → Q (.bool true) s) (h0 : d ≠ .none → Q (.bool false) s) :
    wpAny (model prog w) A (compareOp .Is v .none) Q E s := by
  rcases ok with rfl | rfl | rfl
  · cases hv
    exact wpAny_is_self rfl (h1 rfl)
  · cases hv
    exact wpAny_is_other rfl nofun (h0 nofun)
  · cases hv
    exact wpAny_is_other rfl nofun (h0 nofun)
end

def levTurn (p : Int × Dat) : Int × Dat := (p.1, match p.2 with | .tuple (d :: _) => .tuple [d, .str (Str.ofString "nonassoc")] | d => d)
def LevShape (l : List (Int × Dat)) : Prop := ∀ p ∈ l, ∃ i x, p.2 = Dat.tuple [.int i, .str x]

/-- how a row is turned -/
def RowTurned (r : Row) (way : Int) (r' : Row) : Prop :=
  r'.left = (if way = 4 then 15 - r.left else r.left) ∧ r'.right = (if way = 3 then r.right ++ [4] else r.right) ∧ r'.lev = (if way = 6 then 9 - r.lev else r.lev) ∧
  (if way = 5 then (r.act = .str (Str.ofString "") ∧ r'.act = .none) ∨ (r.act ≠ .str (Str.ofString "") ∧ r'.act = .str (Str.ofString "")) else r'.act = r.act) ∧
  r'.line = (if way = 1 then r.line + 1 else r.line) ∧ r'.before = (if way = 7 then r.before + 1 else r.before)
/-- how a plan is turned -/
structure Turned (P : Plan) (way : Int) (P' : Plan) : Prop where
  row : ∃ k r r', P.rows[k]? = some r ∧ (way = 4 → k ≠ 0) ∧ P'.rows = P.rows.take k ++ (r' :: P.rows.drop (k + 1)) ∧ RowTurned r way r'
  names : P'.names = if way = 2 then P.names.take 3 ++ (Str.ofString "Z" :: P.names.drop 4) else P.names
  levels : P'.levels = if way = 8 then P.levels.map levTurn else P.levels
  expect : if way = 9 then (P.expect = .none ∧ P'.expect = .int 0) ∨ (P.expect ≠ .none ∧ P'.expect = .none) else P'.expect = P.expect
  start : P'.start = if way = 10 then 15 - P.start else P.start

theorem dats_mid {α : Type} {led : List (Addr × Obj)} {vs : List Value} {l : List α} {f : α → Dat} {k : Nat} {v : Value} {x : α} (h : DatAll led vs (l.map f)) (hv : DatIn led v (f x)) : DatAll led (vs.take k ++ [v] ++ vs.drop (k + 1)) ((l.take k ++ (x :: l.drop (k + 1))).map f) := by
  have ht : ∀ (vs : List Value) (l : List α) (k : Nat), DatAll led vs (l.map f) → DatAll led (vs.take k) ((l.take k).map f) ∧ DatAll led (vs.drop k) ((l.drop k).map f) := by
    intro vs l
    induction l generalizing vs with
    | nil => intro k h; cases h; simp; exact .nil
    | cons y l ih =>
      intro k h
      cases h with
      | cons a b =>
        cases k with
        | zero => exact ⟨.nil, .cons a b⟩
        | succ k => exact ⟨.cons a (ih _ k b).1, (ih _ k b).2⟩
  rw [List.map_append, List.map_cons, List.append_assoc]
  exact DatAll.append (ht _ _ k h).1 (.cons hv (ht _ _ (k + 1) h).2)

theorem stored_names {a b c d e v : Value} : stored [(Str.ofString "names", a), (Str.ofString "rules", b), (Str.ofString "levels", c), (Str.ofString "expect", d), (Str.ofString "start", e)] (Str.ofString "names") v = [(Str.ofString "names", v), (Str.ofString "rules", b), (Str.ofString "levels", c), (Str.ofString "expect", d), (Str.ofString "start", e)] := by rfl
theorem stored_rules {a b c d e v : Value} : stored [(Str.ofString "names", a), (Str.ofString "rules", b), (Str.ofString "levels", c), (Str.ofString "expect", d), (Str.ofString "start", e)] (Str.ofString "rules") v = [(Str.ofString "names", a), (Str.ofString "rules", v), (Str.ofString "levels", c), (Str.ofString "expect", d), (Str.ofString "start", e)] := by rfl
theorem stored_levels {a b c d e v : Value} : stored [(Str.ofString "names", a), (Str.ofString "rules", b), (Str.ofString "levels", c), (Str.ofString "expect", d), (Str.ofString "start", e)] (Str.ofString "levels") v = [(Str.ofString "names", a), (Str.ofString "rules", b), (Str.ofString "levels", v), (Str.ofString "expect", d), (Str.ofString "start", e)] := by rfl
theorem stored_expect {a b c d e v : Value} : stored [(Str.ofString "names", a), (Str.ofString "rules", b), (Str.ofString "levels", c), (Str.ofString "expect", d), (Str.ofString "start", e)] (Str.ofString "expect") v = [(Str.ofString "names", a), (Str.ofString "rules", b), (Str.ofString "levels", c), (Str.ofString "expect", v), (Str.ofString "start", e)] := by rfl
theorem stored_start {a b c d e v : Value} : stored [(Str.ofString "names", a), (Str.ofString "rules", b), (Str.ofString "levels", c), (Str.ofString "expect", d), (Str.ofString "start", e)] (Str.ofString "start") v = [(Str.ofString "names", a), (Str.ofString "rules", b), (Str.ofString "levels", c), (Str.ofString "expect", d), (Str.ofString "start", v)] := by rfl
theorem lev_open2 {led : List (Addr × Obj)} {v : Value} {p : Int × Dat} {i : Int} {x : Str} (h : DatIn led v (levDat p)) (e : p.2 = .tuple [.int i, .str x]) : ∃ a n t b n2 t2 t3, v = .ref a ∧ (a, tup [Value.int p.1 t, .ref b] n) ∈ led ∧ (b, tup [Value.int i t2, .str x t3] n2) ∈ led := by
  obtain ⟨k, d⟩ := p
  obtain rfl : d = _ := e
  obtain ⟨a, n, t1, v2, rfl, hm, d2⟩ := lev_open h
  obtain ⟨b, vs, n2, rfl, hm2, hd⟩ := din_tup d2
  obtain ⟨v1, us1, rfl, d1, hd1⟩ := dall_cons hd
  obtain ⟨t2, rfl⟩ := din_int d1
  obtain ⟨v3, us2, rfl, d3, hd2⟩ := dall_cons hd1
  obtain ⟨t3, rfl⟩ := din_str d3
  obtain rfl := dall_nil hd2
  exact ⟨_, _, _, _, _, _, _, rfl, hm, hm2⟩
theorem comp_end2 {h₀ : Heap} {L : Addr} {m : Str → Option Value} {I C D D1 D2 : Addr} {oI oC oD o1 o2 : Obj} {nw : List (Addr × Obj)} {S : List (Addr × Obj) → Prop} {rest : Value → List (Addr × Obj) → Prop} {y : Value} {s₁ : Shared} {h' : Heap} {tk : Nat}
    (F' : Fr h₀ L h' m) (N' : News h₀ L h' ((D2, o2) :: (D1, o1) :: (I, oI) :: (C, oC) :: (D, oD) :: nw)) (l1 : ∀ p ∈ (I, oI) :: (C, oC) :: (D, oD) :: nw, p.1 < D1) (l2 : ∀ p ∈ (D1, o1) :: (I, oI) :: (C, oC) :: (D, oD) :: nw, p.1 < D2) (off : LCg.Off3 I C D nw) (hS : S ((D2, o2) :: (D1, o1) :: nw)) (r : rest y ((D2, o2) :: (D1, o1) :: nw)) :
    Halt (LCg.CompEnd h₀ L m s₁ I oI C oC D oD S rest y { s₁ with heap := h', toks := tk }) := by
  refine LCg.CompEnd.intro F' N' ((D2, o2) :: (D1, o1) :: nw) ?_ ⟨⟨?_, ?_, ?_⟩, ⟨?_, ?_, ?_⟩, off⟩ hS r
  · intro p hp
    simp only [List.mem_cons] at hp ⊢
    rcases hp with h | h | h | h | h | h
    · exact .inr (.inr (.inl h))
    · exact .inr (.inr (.inr (.inl h)))
    · exact .inr (.inr (.inr (.inr (.inl h))))
    · exact .inl h
    · exact .inr (.inl h)
    · exact .inr (.inr (.inr (.inr (.inr h))))
  · exact Nat.ne_of_gt (l2 _ (.tail _ (.head _)))
  · exact Nat.ne_of_gt (l2 _ (.tail _ (.tail _ (.head _))))
  · exact Nat.ne_of_gt (l2 _ (.tail _ (.tail _ (.tail _ (.head _)))))
  · exact Nat.ne_of_gt (l1 _ (.head _))
  · exact Nat.ne_of_gt (l1 _ (.tail _ (.head _)))
  · exact Nat.ne_of_gt (l1 _ (.tail _ (.tail _ (.head _))))
theorem CJ.snoc2 {base tl : List (Addr × Obj)} {ds : List Dat} {i : Nat} {ys : List Value} {x y : Addr × Obj} {v : Value} {d : Dat} (hy : ys.length = i) (hys : DatAll (tl ++ base) ys (ds.take i)) (hd : ds[i]? = some d) (ha : Apart base (y :: x :: tl)) (hv : DatIn (y :: x :: (tl ++ base)) v d) :
    CJ base ds (i + 1) (ys ++ [v]) (y :: x :: (tl ++ base)) := by
  refine ⟨y :: x :: tl, rfl, ha, by simp [hy], ?_⟩
  rw [take_snoc hd]
  exact DatAll.append (hys.mono fun p hp => .tail _ (.tail _ hp)) (.one hv)
theorem at_pos {d n : Int} (h0 : 0 < n) (h : ¬d.fmod n = 0) : (d.fmod n).toNat ≠ 0 := by
  have := fmod_lo (a := d) h0
  omega
/-- a comprehension that makes data of its own alone -/
def CJt (base : List (Addr × Obj)) (ds : List Dat) : Nat → List Value → List (Addr × Obj) → Prop :=
  fun i ys nw => ∃ tl, nw = tl ++ base ∧ Apart base tl ∧ ys.length = i ∧ DatAll tl ys (ds.take i)
theorem CJt.start {base : List (Addr × Obj)} {ds : List Dat} : CJt base ds 0 [] base := ⟨[], rfl, Apart.nil, rfl, by rw [List.take_zero]; exact .nil⟩
theorem CJt.snoc2 {base tl : List (Addr × Obj)} {ds : List Dat} {i : Nat} {ys : List Value} {x y : Addr × Obj} {v : Value} {d : Dat} (hy : ys.length = i) (hys : DatAll tl ys (ds.take i)) (hd : ds[i]? = some d) (ha : Apart base (y :: x :: tl)) (hv : DatIn (y :: x :: tl) v d) :
    CJt base ds (i + 1) (ys ++ [v]) (y :: x :: (tl ++ base)) := by
  refine ⟨y :: x :: tl, rfl, ha, by simp [hy], ?_⟩
  rw [take_snoc hd]
  exact DatAll.append (hys.mono fun p hp => .tail _ (.tail _ hp)) (.one hv)
theorem offs_app {o : Addr} {oo : Obj} {base news tl : List (Addr × Obj)} (h : Apart ((o, oo) :: base) tl) (l : Offs [o] news) : Offs [o] (tl ++ news) := by
  intro d hd p hp
  rw [List.mem_singleton.mp hd]
  rcases List.mem_append.mp hp with hp | hp
  · exact h _ (.head _) p hp
  · exact l o (.head _) p hp
/-- grown, but for the order -/
def GrownS (base cur : List (Addr × Obj)) : Prop := ∃ cur', Grown base cur' ∧ (∀ p ∈ cur', p ∈ cur) ∧ ∀ p ∈ cur, p ∈ cur'
theorem GrownS.ltc {base cur : List (Addr × Obj)} {x : Addr × Obj} (h : AllLt x.1 cur) (g : GrownS base cur) : GrownS base (x :: cur) := by
  obtain ⟨cur', g1, g2, g3⟩ := g
  refine ⟨x :: cur', .lt (fun q hq => ltOf2 h q (g2 q hq)) g1, fun p hp => ?_, fun p hp => ?_⟩
  · rcases List.mem_cons.mp hp with rfl | hp
    · exact .head _
    · exact .tail _ (g2 p hp)
  · rcases List.mem_cons.mp hp with rfl | hp
    · exact .head _
    · exact .tail _ (g3 p hp)
theorem grown8 {D o : Addr} {oD oo oo2 : Obj} {pl pl2 : Addr × Obj} {tl news : List (Addr × Obj)} (o1 : LCg.Off1 D (tl ++ (o, oo) :: pl :: news)) (hab : Apart ((o, oo) :: pl :: news) tl) (hlt : ∀ p ∈ pl2 :: news, p.1 < o) (e : pl2.1 = pl.1) : GrownS (pl :: news) ((D, oD) :: (o, oo2) :: pl :: (tl ++ news)) := by
  have o1r := off1_mem o1
  have hn : ∀ q ∈ pl :: news, q.1 < o := by
    intro q hq
    rcases List.mem_cons.mp hq with rfl | hq
    · exact e ▸ hlt _ (.head _)
    · exact hlt q (.tail _ hq)
  refine ⟨(D, oD) :: (o, oo2) :: (tl ++ pl :: news), ⟨(D, oD) :: (o, oo2) :: tl, rfl, .cons (fun q hq e => ?_) (.cons (fun q hq => Nat.ne_of_gt (hn q hq)) (hab.sub fun p hp => .tail _ hp))⟩, fun p hp => by grind, fun p hp => by grind⟩
  exact o1r q (List.mem_append_right _ (.tail _ hq)) e.symm
theorem PlanAt.mono {w : World} {led led' : List (Addr × Obj)} {a : Addr} {P : Plan} (h : PlanAt w led a P) (s : ∀ p ∈ led, p ∈ led') : PlanAt w led' a P := by
  obtain ⟨o, nA, rA, lA, ev, st, nvs, rvs, lvs, n1, n2, n3, ho, hdo, hnA, hnD, hrA, hrD, hlA, hlD, heD⟩ := h
  exact ⟨o, nA, rA, lA, ev, st, nvs, rvs, lvs, n1, n2, n3, s _ ho, hdo, s _ hnA, hnD.mono s, s _ hrA, hrD.mono s, s _ hlA, hlD.mono s, heD.mono s⟩
theorem map_take24 {f : Int → Int} {ns : List Int} : (List.map f (List.take 24 ns)).length ≤ 24 := by
  rw [List.length_map, List.length_take]; exact Nat.min_le_left _ _
end
section
theorem pull {p : Addr} {o : Obj} {cur : List (Addr × Obj)} {g : Obj → List (Addr × Obj)} (U : UpdF p o cur g) : ∃ rest, (∀ q ∈ (p, o) :: rest, q ∈ cur) ∧ (∀ q ∈ cur, q = (p, o) ∨ q ∈ rest) ∧ Offs [p] rest := by
  obtain ⟨pre, post, rfl, hg, e1, e2⟩ := U.split
  refine ⟨pre ++ post, fun q hq => by grind, fun q hq => by grind, fun d hd q hq => ?_⟩
  rw [List.mem_singleton.mp hd]
  rcases List.mem_append.mp hq with hq | hq
  · exact e1 q hq
  · exact e2 q hq
theorem no_off {q : Addr × Obj} {p : Addr} {o : Obj} {R : Prop} (h : q = (p, o) ∨ R) (ne : q.1 ≠ p) : R := by
  rcases h with rfl | h
  · exact absurd rfl ne
  · exact h
theorem fr_again {h₀ h : Heap} {L : Addr} {m₀ : Str → Option Value} {x : Str} {u v : Option Value} (F : Fr h₀ L h (fun y => if y = x then v else (fun y => if y = x then u else m₀ y) y)) : Fr h₀ L h (fun y => if y = x then v else m₀ y) := by
  rw [frame_again] at F
  exact F
theorem offs_cons {a : Addr} {x : Addr × Obj} {l : List (Addr × Obj)} (h : x.1 ≠ a) (k : Offs [a] l) : Offs [a] (x :: l) := fun d hd p hp => by
  rw [List.mem_singleton.mp hd]
  rcases List.mem_cons.mp hp with rfl | hp
  · exact h
  · exact k a (.head _) p hp
theorem Grown.toS {base cur : List (Addr × Obj)} (g : Grown base cur) : GrownS base cur := ⟨cur, g, fun _ h => h, fun _ h => h⟩
theorem GrownS.sub {base cur : List (Addr × Obj)} (g : GrownS base cur) : ∀ p ∈ base, p ∈ cur := by
  obtain ⟨cur', g1, g2, _⟩ := g
  exact fun p hp => g2 p (g1.sub p hp)
theorem GrownS.offs {base cur : List (Addr × Obj)} {x : Addr × Obj} (h : Offs [x.1] cur) (g : GrownS base cur) : GrownS base (x :: cur) := by
  obtain ⟨cur', g1, g2, g3⟩ := g
  refine ⟨x :: cur', .offs (fun d hd p hp => h d hd p (g2 p hp)) g1, fun p hp => ?_, fun p hp => ?_⟩
  · rcases List.mem_cons.mp hp with rfl | hp
    · exact .head _
    · exact .tail _ (g2 p hp)
  · rcases List.mem_cons.mp hp with rfl | hp
    · exact .head _
    · exact .tail _ (g3 p hp)
theorem GrownS.drop {D : Addr} {oD : Obj} {base cur rest : List (Addr × Obj)} (g : GrownS base cur) (ob : Offs [D] base) (r1 : ∀ q ∈ (D, oD) :: rest, q ∈ cur) (r2 : ∀ q ∈ cur, q = (D, oD) ∨ q ∈ rest) (r3 : Offs [D] rest) : GrownS base rest := by
  obtain ⟨cur', ⟨tl, rfl, ha⟩, g2, g3⟩ := g
  refine ⟨tl.filter (fun p => decide (p.1 ≠ D)) ++ base, ⟨_, rfl, fun q hq p hp => ha q hq p ((List.mem_filter.mp hp).1)⟩, fun p hp => ?_, fun p hp => ?_⟩
  · rcases List.mem_append.mp hp with h | h
    · have h2 := List.mem_filter.mp h
      exact no_off (r2 p (g2 p (List.mem_append_left _ h2.1))) (of_decide_eq_true h2.2)
    · exact no_off (r2 p (g2 p (List.mem_append_right _ h))) (ob D (.head _) p h)
  · rcases List.mem_append.mp (g3 p (r1 p (.tail _ hp))) with h | h
    · exact List.mem_append_left _ (List.mem_filter.mpr ⟨h, decide_eq_true (r3 D (.head _) p hp)⟩)
    · exact List.mem_append_right _ h

/-- the value of the conditional expression: a place in the rows -/
theorem at_cut {M : Model} {A : Around} {E : Value → Shared → Prop} {s : Shared} {env : Env} {e : PySem.Expr} {Q : Value → Shared → Prop} {n : Int} (way : Int)
    (h : wpAny M A (eval e env) (fun v s' => Halt (∃ k t tk, v = .int k t ∧ s' = { s with toks := tk } ∧ 0 ≤ k ∧ k < n ∧ (way = 4 → k.toNat ≠ 0))) E s)
    (kont : ∀ k t tk, 0 ≤ k → k < n → (way = 4 → k.toNat ≠ 0) → Q (.int k t) { s with toks := tk }) : Halt (wpAny M A (eval e env) Q E s) :=
  wpAny_mono h (fun v s' q => by obtain ⟨k, t, tk, rfl, rfl, h0, h1, h2⟩ := q; exact kont k t tk h0 h1 h2) fun _ _ x => x

/-- how the function stands behind its chain of ifs -/
inductive RowCut (w : World) (h₀ : Heap) (L : Addr) (m1 : Str → Option Value) (D rA : Addr) (base : List (Addr × Obj)) (P : Plan) (way : Int) (r : Row) (s s' : Shared) : Prop
  | mk (h : Heap) (tk : Nat) (oD : Obj) (rest : List (Addr × Obj)) (rv ev : Value) (nA lA : Addr) (st : Tok) (nvs lvs : List Value) (n1 n3 : Nat) (r' : Row) (nms : List Str) (lvls : List (Int × Dat)) (ex : Dat) (sta : Int)
    (h1 : s' = { s with heap := h, toks := tk })
    (h2 : Fr h₀ L h (fun y => if y = Str.ofString "row" then some rv else m1 y))
    (h3 : News h₀ L h ((D, oD) :: rest))
    (h4 : Offs [D] rest)
    (h5 : GrownS base rest)
    (h6 : oD.IsDictOf (PySem.strKind PROG w) [(Str.ofString "names", .ref nA), (Str.ofString "rules", .ref rA), (Str.ofString "levels", .ref lA), (Str.ofString "expect", ev), (Str.ofString "start", .int sta st)])
    (h7 : (nA, PySem.W.listOf nvs.toArray n1) ∈ rest)
    (h8 : DatAll rest nvs (nms.map Dat.str))
    (h9 : (lA, PySem.W.listOf lvs.toArray n3) ∈ rest)
    (h10 : DatAll rest lvs (lvls.map levDat))
    (h11 : DatIn rest ev ex)
    (h12 : DatIn rest rv r'.dat)
    (h13 : RowTurned r way r')
    (h14 : nms = (if way = 2 then P.names.take 3 ++ (Str.ofString "Z" :: P.names.drop 4) else P.names))
    (h15 : lvls = (if way = 8 then P.levels.map levTurn else P.levels))
    (h16 : (if way = 9 then (P.expect = .none ∧ ex = .int 0) ∨ (P.expect ≠ .none ∧ ex = .none) else ex = P.expect))
    (h17 : sta = (if way = 10 then 15 - P.start else P.start)) : RowCut w h₀ L m1 D rA base P way r s s'
theorem row_cut {M : Model} {A : Around} {E : Value → Shared → Prop} {s : Shared} {env : Env} {st : Stmt} {Q : Flow → Shared → Prop} {w : World} {h₀ : Heap} {L D rA : Addr} {m1 : Str → Option Value} {base : List (Addr × Obj)} {rv0 : Value} {oD0 : Obj} (P : Plan) (way : Int) (r : Row)
    (uF : Fr h₀ L s.heap (fun y => if y = Str.ofString "row" then some rv0 else m1 y)) (uN : News h₀ L s.heap ((D, oD0) :: base))
    (h : wpAny M A (exec st env) (fun f s' => f = .next ∧ Halt (RowCut w h₀ L m1 D rA base P way r s s')) E s) (kont : ∀ s', RowCut w h₀ L m1 D rA base P way r s s' → Q .next s') : Halt (wpAny M A (exec st env) Q E s) :=
  wpAny_mono h (fun f s' q => by obtain ⟨rfl, q⟩ := q; exact kont s' q) fun _ _ e => e
theorem no_dict {q : Addr × Obj} {D : Addr} {oD : Obj} {R : Prop} (hd : ∃ es ep, oD.data = .dict es ep) (h : q = (D, oD) ∨ R) (e : ∃ xs n, q.2.data = .seq xs n) : R := by
  rcases h with rfl | h
  · obtain ⟨es, ep, e1⟩ := hd
    obtain ⟨xs, n, e2⟩ := e
    rw [e1] at e2
    cases e2
  · exact h
mutual
theorem dat_drop {D : Addr} {oD : Obj} {cur rest : List (Addr × Obj)} (hd : ∃ es ep, oD.data = .dict es ep) (r2 : ∀ q ∈ cur, q = (D, oD) ∨ q ∈ rest) : ∀ {v : Value} {d : Dat}, DatIn cur v d → DatIn rest v d
  | _, _, .none => .none
  | _, _, .bool b => .bool b
  | _, _, .int i t => .int i t
  | _, _, .str x t => .str x t
  | _, _, .bytes b t => .bytes b t
  | _, _, .tuple h r => .tuple (no_dict hd (r2 _ h) ⟨_, _, rfl⟩) (dats_drop hd r2 r)
  | _, _, .list h r => .list (no_dict hd (r2 _ h) ⟨_, _, rfl⟩) (dats_drop hd r2 r)
theorem dats_drop {D : Addr} {oD : Obj} {cur rest : List (Addr × Obj)} (hd : ∃ es ep, oD.data = .dict es ep) (r2 : ∀ q ∈ cur, q = (D, oD) ∨ q ∈ rest) : ∀ {vs : List Value} {ds : List Dat}, DatAll cur vs ds → DatAll rest vs ds
  | _, _, .nil => .nil
  | _, _, .cons h r => .cons (dat_drop hd r2 h) (dats_drop hd r2 r)
end
theorem offs_all {D : Addr} {l : List (Addr × Obj)} (h : AllLt D l) : Offs [D] l := fun d hd p hp => by
  rw [List.mem_singleton.mp hd]
  exact Nat.ne_of_lt (ltOf2 h p hp)
theorem RowCut.make {w : World} {h₀ h : Heap} {L D rA nA lA : Addr} {m1 : Str → Option Value} {base cur : List (Addr × Obj)} {g : Obj → List (Addr × Obj)} {P : Plan} {way : Int} {r : Row} {s : Shared} {tk : Nat} {oD : Obj} {rv ev : Value} {st : Tok} {nvs lvs : List Value} {n1 n3 : Nat} (r' : Row) {nms : List Str} {lvls : List (Int × Dat)} {ex : Dat} {sta : Int}
    (hT : RowTurned r way r') (hn : nms = (if way = 2 then P.names.take 3 ++ (Str.ofString "Z" :: P.names.drop 4) else P.names)) (hl : lvls = (if way = 8 then P.levels.map levTurn else P.levels))
    (he : if way = 9 then (P.expect = .none ∧ ex = .int 0) ∨ (P.expect ≠ .none ∧ ex = .none) else ex = P.expect) (hs : sta = (if way = 10 then 15 - P.start else P.start))
    (F : Fr h₀ L h (fun y => if y = Str.ofString "row" then some rv else m1 y)) (N : News h₀ L h cur) (U : UpdF D oD cur g) (gr : GrownS base cur) (ob : Offs [D] base)
    (hD : oD.IsDictOf (PySem.strKind PROG w) [(Str.ofString "names", .ref nA), (Str.ofString "rules", .ref rA), (Str.ofString "levels", .ref lA), (Str.ofString "expect", ev), (Str.ofString "start", .int sta st)])
    (hnA : (nA, PySem.W.listOf nvs.toArray n1) ∈ cur) (hnD : DatAll cur nvs (nms.map Dat.str)) (hlA : (lA, PySem.W.listOf lvs.toArray n3) ∈ cur) (hlD : DatAll cur lvs (lvls.map levDat)) (heD : DatIn cur ev ex) (hr : DatIn cur rv r'.dat) :
    Halt (RowCut w h₀ L m1 D rA base P way r s { s with heap := h, toks := tk }) := by
  obtain ⟨rest, r1, r2, r3⟩ := pull U
  have hd : ∃ es ep, oD.data = .dict es ep := by
    obtain ⟨es, ep, _, e, _⟩ := hD
    exact ⟨es, ep, e⟩
  exact ⟨h, tk, oD, rest, rv, ev, nA, lA, st, nvs, lvs, n1, n3, r', nms, lvls, ex, sta, rfl, F, news_sub N r1, r3, gr.drop ob r1 r2 r3, hD, no_dict hd (r2 _ hnA) ⟨_, _, rfl⟩, dats_drop hd r2 hnD, no_dict hd (r2 _ hlA) ⟨_, _, rfl⟩, dats_drop hd r2 hlD, dat_drop hd r2 heD, dat_drop hd r2 hr, hT, hn, hl, he, hs⟩
end
theorem rst9 : True ∧ True := by (try walk1) <;> first | trivial | exact ⟨trivial, trivial⟩
local macro_rules | `(tactic| walk_at "binaryOp Add ref ref") => `(tactic| (k_here; refine halt_of ?_))
local macro_rules | `(tactic| walk_at "setItem ref str") => `(tactic| (k_here; refine halt_of ?_))
local macro_rules | `(tactic| walk_at "exec If") => `(tactic| (k_here; refine halt_of ?_))
local macro_rules | `(tactic| walk_at "eval IfExp") => `(tactic| (k_here; refine halt_of ?_))
local macro_rules | `(tactic| walk_at "subscriptTail") => `(tactic| (k_here; (with_reducible show wpAny _ _ (subscriptTail _ (PySem.Expr.Slice _ _ _ _) (Value.ref _) (Value.ref _)) _ _ _); refine halt_of ?_))
section
local macro_rules | `(tactic| walk_at "eval ListComp") => `(tactic| (k_here; k_dflt (refine ListComp_N (F₀ := by k_asm) (by rfl) (by decide) (by rfl) (by decide) (by rfl) (by rfl) (by rfl) (by decide) (by decide) (by decide) ?_)))
theorem leaf_end {w : World} {h₀ h' : Heap} {L : Addr} {m : Str → Option Value} {s : Shared} {Q : Value → Shared → Prop} {pool : Addr} {vs' : List Value} {n' tk' : Nat} {news cur : List (Addr × Obj)} {P : Plan} {way : Int} {o : Addr} {k : Nat} {r : Row} (r' : Row) (names' : List Str) (levels' : List (Int × Dat)) (expect' : Dat) (start' : Int)
    (hr : P.rows[k]? = some r) (h4 : way = 4 → k ≠ 0) (hT : RowTurned r way r') (hn : names' = if way = 2 then P.names.take 3 ++ (Str.ofString "Z" :: P.names.drop 4) else P.names) (hl : levels' = if way = 8 then P.levels.map levTurn else P.levels)
    (he : if way = 9 then (P.expect = .none ∧ expect' = .int 0) ∨ (P.expect ≠ .none ∧ expect' = .none) else expect' = P.expect) (hs : start' = if way = 10 then 15 - P.start else P.start)
    (F : Fr h₀ L h' m) (N : News h₀ L h' cur) (g : Grown ((pool, PySem.W.listOf vs'.toArray n') :: news) cur) (hP : PlanAt w cur o ⟨names', P.rows.take k ++ (r' :: P.rows.drop (k + 1)), levels', expect', start'⟩)
    (hret : ∀ (o : Addr) (vs' : List Value) (n' : Nat) (tl : List (Addr × Obj)) (P' : Plan) (h' : Heap) (tk' : Nat), Turned P way P' → Fr h₀ L h' m → News h₀ L h' (tl ++ (pool, PySem.W.listOf vs'.toArray n') :: news) → Apart ((pool, PySem.W.listOf vs'.toArray n') :: news) tl →
      PlanAt w (tl ++ (pool, PySem.W.listOf vs'.toArray n') :: news) o P' → Q (.ref o) { s with heap := h', toks := tk' }) : Q (.ref o) { s with heap := h', toks := tk' } := by
  obtain ⟨tl, rfl, ha⟩ := g
  exact hret o vs' n' tl _ h' tk' ⟨⟨k, r, r', hr, h4, rfl, hT⟩, hn, hl, he, hs⟩ F N ha hP

theorem leaf_endS {w : World} {h₀ h' : Heap} {L : Addr} {m : Str → Option Value} {s : Shared} {Q : Value → Shared → Prop} {pool : Addr} {vs' : List Value} {n' tk' : Nat} {news cur : List (Addr × Obj)} {P : Plan} {way : Int} {o : Addr} {k : Nat} {r : Row} (r' : Row) (names' : List Str) (levels' : List (Int × Dat)) (expect' : Dat) (start' : Int)
    (hr : P.rows[k]? = some r) (h4 : way = 4 → k ≠ 0) (hT : RowTurned r way r') (hn : names' = if way = 2 then P.names.take 3 ++ (Str.ofString "Z" :: P.names.drop 4) else P.names) (hl : levels' = if way = 8 then P.levels.map levTurn else P.levels)
    (he : if way = 9 then (P.expect = .none ∧ expect' = .int 0) ∨ (P.expect ≠ .none ∧ expect' = .none) else expect' = P.expect) (hs : start' = if way = 10 then 15 - P.start else P.start)
    (F : Fr h₀ L h' m) (N : News h₀ L h' cur) (g : GrownS ((pool, PySem.W.listOf vs'.toArray n') :: news) cur) (hP : PlanAt w cur o ⟨names', P.rows.take k ++ (r' :: P.rows.drop (k + 1)), levels', expect', start'⟩)
    (hret : ∀ (o : Addr) (vs' : List Value) (n' : Nat) (tl : List (Addr × Obj)) (P' : Plan) (h' : Heap) (tk' : Nat), Turned P way P' → Fr h₀ L h' m → News h₀ L h' (tl ++ (pool, PySem.W.listOf vs'.toArray n') :: news) → Apart ((pool, PySem.W.listOf vs'.toArray n') :: news) tl →
      PlanAt w (tl ++ (pool, PySem.W.listOf vs'.toArray n') :: news) o P' → Q (.ref o) { s with heap := h', toks := tk' }) : Q (.ref o) { s with heap := h', toks := tk' } := by
  obtain ⟨cur', g1, g2, g3⟩ := g
  exact leaf_end r' names' levels' expect' start' hr h4 hT hn hl he hs F (news_sub N g2) g1 (hP.mono g3) hret

set_option maxRecDepth 100000 in
set_option maxHeartbeats 8000000 in
theorem turned_c {w : World} {loose : List Str} {mean : ExcName → Option Value} {mg mb : Str → Option Value}
    {dp un : Nat} {gd : Option (List Code)} {cn : Str} {cs : Scope} {a : Addr} {ccd : Value} {cl : List (Str × Addr)} {outer : List Env} {A₀ : Around} {base h₀ : Heap} {L : Addr} {m : Str → Option Value} {s : Shared} {Q E : Value → Shared → Prop}
    {pool p : Addr} {vs : List Value} {ns : List Int} {n : Nat} {P : Plan} {way : Int} {wt : Tok} {news : List (Addr × Obj)}
    (B : Below A₀ base outer h₀) (F : Fr h₀ L s.heap m) (X : (hd.heap_39 w.params).In h₀) (N : News h₀ L s.heap ((pool, PySem.W.listOf vs.toArray n) :: news)) (T : Top hd.view_39 loose mean mg mb h₀) (hk : cs.kind = .function)
    (hi : IntsAre vs ns) (hlen : ns.length ≤ 24) (hpool : Offs [pool] news) (hP : PlanAt w news p P) (hlo : (p == sysModules) = false) (ok : P.Ok) (hrow : ∀ r ∈ P.rows, r.right.length ≤ 4 ∧ ActOk r.act) (hr2 : 2 ≤ P.rows.length) (hexp : ExpOk P.expect) (hlev : LevShape P.levels)
    (hway : 0 ≤ way ∧ way < 11) (hd' : dp + 6 < recursionLimit) (hu : un + 48 < cLine)
    (hret : ∀ (o : Addr) (vs' : List Value) (n' : Nat) (tl : List (Addr × Obj)) (P' : Plan) (h' : Heap) (tk' : Nat), Turned P way P' → Fr h₀ L h' m → News h₀ L h' (tl ++ (pool, PySem.W.listOf vs'.toArray n') :: news) → Apart ((pool, PySem.W.listOf vs'.toArray n') :: news) tl →
      PlanAt w (tl ++ (pool, PySem.W.listOf vs'.toArray n') :: news) o P' → Q (.ref o) { s with heap := h', toks := tk' }) :
    wpAny (model PySem.Challenge.rw_pq0569_01.row.prog w) (ktrTop dp un gd cn cs L a ccd cl outer) (call (.ref 161) [.ref pool, .ref p, .int way wt]) Q E s := by
  w_top off
  revert X; k_fill; intro X
  obtain ⟨o, nA, rA, lA, ev, st, nvs, rvs, lvs, n1, n2, n3, ho, hdo, hnA, hnD, hrA, hrD, hlA, hlD, heD⟩ := hP
  have hrl := hrD.length
  have hnl := hnD.length
  have hll := hlD.length
  simp only [List.length_map] at hrl hnl hll
  have okr := ok.rows
  have okn := ok.names
  have okl := ok.levs
  have hz64 : rvs.toArray.size ≤ 64 := by rw [List.size_toArray]; omega
  have hz64' : rvs.length ≤ 64 := by omega
  have hn64 : nvs.length ≤ 64 := by omega
  have hpos : (0 : Int) < (rvs.toArray.size : Int) := by rw [List.size_toArray]; omega
  have hne0 : ¬((rvs.toArray.size : Int) = 0) := by rw [List.size_toArray]; omega
  have hl64 : lvs.length ≤ 64 := by
    rw [hll]
    rcases okl with ⟨a, e⟩ | ⟨a, b, e⟩ | ⟨a, b, e⟩ | ⟨a, b, c, e⟩ | ⟨a, b, c, e⟩ <;> (rw [e]; exact Nat.le_of_ble_eq_true rfl)
  have h1lt : (1 : Int) < (rvs.length : Int) := by omega
  refine wpAny_call ?_
  k_dflt (first | (refine' code_defC ?k1q1 ?k2q1 ?k3q1 ?k4q1 ?k5q1 ?kAq1 ?kFq1 ?kKq1 ?k6q1 ?k7q1 ?k8q1 ?k9q1 ?kBq1 ?kDq1 ?_ ?c2q1 ?c3q1 ?c4q1; (case kAq1 => exact rfl); (case kFq1 => exact rfl); (case kKq1 => first | exact rfl | assumption); (case k1q1 => k_asm); (case k2q1 => k_asm); (case k3q1 => k_asm); (case k4q1 => k_asm); (case k5q1 => k_asm); (case k6q1 => k_is); (case k7q1 => k_is); (case k8q1 => ktr_room); (case k9q1 => exact BindsTo.of_eq rfl); (case kBq1 => exact rfl); (case kDq1 => decide +kernel); (case c2q1 => exact rfl); (case c3q1 => exact rfl); (case c4q1 => exact rfl); k_whole; intro g' L' h' tk' cells' FG' F' N' Y' B' X' T' l1; (have l1r := l1); (try k_lt l1); k_cells Y'; (try simp only [List.cons_append, List.nil_append] at N'); (try dsimp only); (try k_fold)) | (refine' code_def ?k1q2 ?k2q2 ?k3q2 ?k4q2 ?k5q2 ?kAq2 ?kFq2 ?kKq2 ?k6q2 ?k7q2 ?k8q2 ?k9q2 ?kBq2 ?_ ?c2q2 ?c3q2 ?c4q2 ?c5q2; (case kAq2 => exact rfl); (case kFq2 => exact rfl); (case kKq2 => first | exact rfl | assumption); (case k1q2 => k_asm); (case k2q2 => k_asm); (case k3q2 => k_asm); (case k4q2 => k_asm); (case k5q2 => k_asm); (case k6q2 => k_is); (case k7q2 => k_is); (case k8q2 => ktr_room); (case k9q2 => first | exact BindsTo.of_eq rfl | exact binds_K (by k_in) rfl (by k_is) rfl rfl rfl); (case c5q2 => decide); (case kBq2 => exact locs rfl); (case c2q2 => exact rfl); (case c3q2 => exact rfl); (case c4q2 => exact rfl); k_whole; intro g' L' h' FG' F' N' B' X' T'; (try dsimp only); (try k_fold)))
  k_steps
  (refine un_halt ?_)
  (k_here; (with_reducible show wpAny _ _ (call (Value.type "dict") [Value.ref _]) _ _ _); k_dflt (refine' dict_copy ?Fq4 ?Nq4 ?bq4 ?Mq4 ?loq4 ?Dq4 ?zq4 ?_; (case Fq4 => k_asm); (case Nq4 => k_asm); (case bq4 => exact Top.nolimit (by k_asm)); (case Mq4 => k_mem); (case loq4 => with_reducible assumption); (case Dq4 => with_reducible assumption); (case zq4 => (rw [sizeLine_eq]; exact Nat.le_of_ble_eq_true (by with_unfolding_all rfl)))); intro D' o' h' F' N' l1 lo' hd'; (have l1r := l1); (have lo2 := offs_tail l1); (try k_lt l1); (try k_sweep))
  (k_steps; (repeat ((refine un_halt ?_); (first | (k_here; (with_reducible show wpAny _ _ (call (Value.ref 144) [Value.ref _, Value.int _ _]) _ _ _); k_dflt (refine take_u (by k_asm) (by k_asm) (by k_asm) (by k_asm) (by k_asm) (by first | exact rfl | assumption) (by k_updF) (by with_reducible assumption) (by first | with_reducible assumption | exact map_take24) (by decide) (by decide) (by ktr_room) (by ktr_units) ?_); intro d' t' vs' ns' n' h' tk' d0' d1' hI' hl' F' N'; (try dsimp only at N'); (try k_sweep)) | (k_here; (with_reducible show wpAny _ _ (call (Value.type _) [Value.ref _]) _ _ _); k_dflt (refine tupOf (by k_asm) (by k_asm) (by k_mem) (by omega) ?_); intro D' h' F' N' l1; (have l1r := l1); (try k_lt l1); (try k_sweep)) | (k_here; (with_reducible show wpAny _ _ (binaryOp _ (Value.ref _) (Value.ref _)) _ _ _); k_dflt (refine addL (by k_asm) (by k_asm) (by k_mem) (by k_mem) (by (simp only [List.length_append, List.length_take, List.length_drop, List.length_cons, List.length_nil]; omega)) ?_); intro D' h' F' N' l1; (have l1r := l1); (try k_lt l1); (try k_sweep)) | (k_here; k_dflt (refine kda_set (knd := PySem.strKind _ _) (by k_asm) (by k_asm) (by k_updF) (by with_reducible assumption) (strKind_is _ _ _ _) (by (rw [sizeLine_eq]; exact Nat.le_of_ble_eq_true (by with_unfolding_all rfl))) ?_); intro h' o' F' N' hd'; (try dsimp only at N'); (first | rw [stored_rules] at hd' | rw [stored_names] at hd' | rw [stored_levels] at hd' | rw [stored_expect] at hd' | rw [stored_start] at hd'); (try k_sweep))); k_steps)))
  refine at_cut (n := (rvs.toArray.size : Int)) way ?_ ?_
  · refine wpAny_IfExp ?_
    k_steps
    all_goals first | exact ⟨1, _, _, rfl, rfl, by decide, by rw [List.size_toArray]; exact h1lt, fun _ => by decide⟩ | exact ⟨_, _, _, rfl, rfl, fmod_lo hpos, fmod_hi hpos, fun _ => at_pos hpos (by assumption)⟩ | exact ⟨_, _, _, rfl, rfl, fmod_lo hpos, fmod_hi hpos, fun e => absurd e (by assumption)⟩
  intro k kt ktk hk0 hk1 hk4
  rw [List.size_toArray] at hk1
  k_steps
  (k_here; k_dflt (refine' itemRow ?Nq6 ?Mq6 ?Dq6 ?subq6 ?aq6 ?bq6 ?zq6 ?okq6 ?_ ?hsq6; (case Nq6 => k_asm); (case Mq6 => k_mem); (case Dq6 => with_reducible assumption); (case subq6 => (intro p hp; k_mem)); (case aq6 => with_reducible assumption); (case bq6 => with_reducible assumption); (case zq6 => with_reducible assumption); (case okq6 => with_reducible assumption); (case hsq6 => with_unfolding_all rfl)); intro r' ra' rn' t1' v2' t3' v4' t5' t6' hr' hz' ha' hm' h2' h4' hh2' hh4' hd' hx')
  k_steps
  (k_here; k_dflt (refine' itemSame ?Nq7 ?Mq7 ?xq7 ?aq7 ?zq7 ?_ ?hsq7; (case Nq7 => k_asm); (case Mq7 => k_mem); (case xq7 => with_reducible assumption); (case aq7 => with_reducible assumption); (case zq7 => with_reducible assumption); (case hsq7 => with_unfolding_all rfl)))
  k_steps
  rename Row => r
  rename (P.rows[_]? = some r) => hr
  rename (DatIn _ _ (Row.rdat r)) => h2
  rename (DatIn _ _ (Row.act r)) => h4
  rename (DatIn _ (Value.ref _) (Row.dat r)) => hrd
  refine row_cut (w := w) (rA := rA) P way r (by k_asm) (by k_asm) ?_ ?_
  · refine wpAny_If ?_
    k_steps
    · obtain rfl : way = 1 := by assumption
      refine RowCut.make { r with line := r.line + 1 } (nms := P.names) (lvls := P.levels) (ex := P.expect) (sta := P.start) (by unfold RowTurned; simp [*]) (by rfl) (by rfl) (by simp) (by rfl) (fr_again (by k_asm)) (by k_asm) (by k_updF) (Grown.toS (by tb_rel)) (offs_all (by assumption)) (by assumption) (by k_mem) (hnD.mono fun p hp => by k_mem) (by k_mem) (hlD.mono fun p hp => by k_mem) (heD.mono fun p hp => by k_mem) (.tuple (by k_mem) (.cons (.int _ _) (.cons (h2.mono fun p hp => by k_mem) (.cons (.int _ _) (.cons (h4.mono fun p hp => by k_mem) (.cons (.int _ _) (.cons (.int _ _) .nil)))))))
    refine wpAny_If ?_
    k_steps
    · (refine un_halt ?_; (k_here; (with_reducible show wpAny _ _ (subscriptTail _ (PySem.Expr.Slice none _ none _) (Value.ref _) (Value.ref _)) _ _ _); k_dflt (refine' sliceTake ?Fq8 ?Nq8 ?Mq8 ?aq8 ?zq8 ?_ ?hsq8; (case Fq8 => k_asm); (case Nq8 => k_asm); (case Mq8 => k_mem); (case aq8 => first | with_reducible assumption | decide); (case zq8 => with_reducible assumption); (case hsq8 => with_unfolding_all rfl)); intro D' h' F' N' l1; (have l1r := l1); (try k_lt l1); (try k_sweep)))
      (k_steps; (repeat ((refine un_halt ?_); (first | (k_here; (with_reducible show wpAny _ _ (call (Value.ref 144) [Value.ref _, Value.int _ _]) _ _ _); k_dflt (refine take_u (by k_asm) (by k_asm) (by k_asm) (by k_asm) (by k_asm) (by first | exact rfl | assumption) (by k_updF) (by with_reducible assumption) (by first | with_reducible assumption | exact map_take24) (by decide) (by decide) (by ktr_room) (by ktr_units) ?_); intro d' t' vs' ns' n' h' tk' d0' d1' hI' hl' F' N'; (try dsimp only at N'); (try k_sweep)) | (k_here; (with_reducible show wpAny _ _ (call (Value.type _) [Value.ref _]) _ _ _); k_dflt (refine tupOf (by k_asm) (by k_asm) (by k_mem) (by omega) ?_); intro D' h' F' N' l1; (have l1r := l1); (try k_lt l1); (try k_sweep)) | (k_here; (with_reducible show wpAny _ _ (binaryOp _ (Value.ref _) (Value.ref _)) _ _ _); k_dflt (refine addL (by k_asm) (by k_asm) (by k_mem) (by k_mem) (by (simp only [List.length_append, List.length_take, List.length_drop, List.length_cons, List.length_nil]; omega)) ?_); intro D' h' F' N' l1; (have l1r := l1); (try k_lt l1); (try k_sweep)) | (k_here; k_dflt (refine kda_set (knd := PySem.strKind _ _) (by k_asm) (by k_asm) (by k_updF) (by with_reducible assumption) (strKind_is _ _ _ _) (by (rw [sizeLine_eq]; exact Nat.le_of_ble_eq_true (by with_unfolding_all rfl))) ?_); intro h' o' F' N' hd'; (try dsimp only at N'); (first | rw [stored_rules] at hd' | rw [stored_names] at hd' | rw [stored_levels] at hd' | rw [stored_expect] at hd' | rw [stored_start] at hd'); (try k_sweep))); k_steps)))
      (refine un_halt ?_; (k_here; (with_reducible show wpAny _ _ (subscriptTail _ (PySem.Expr.Slice _ none none _) (Value.ref _) (Value.ref _)) _ _ _); k_dflt (refine' sliceDrop ?Fq10 ?Nq10 ?Mq10 ?aq10 ?zq10 ?_ ?hsq10; (case Fq10 => k_asm); (case Nq10 => k_asm); (case Mq10 => k_mem); (case aq10 => first | exact fmod_lo1 (by assumption) | decide); (case zq10 => with_reducible assumption); (case hsq10 => with_unfolding_all rfl)); intro D' h' F' N' l1; (have l1r := l1); (try k_lt l1); (try k_sweep)))
      (k_steps; (repeat ((refine un_halt ?_); (first | (k_here; (with_reducible show wpAny _ _ (call (Value.ref 144) [Value.ref _, Value.int _ _]) _ _ _); k_dflt (refine take_u (by k_asm) (by k_asm) (by k_asm) (by k_asm) (by k_asm) (by first | exact rfl | assumption) (by k_updF) (by with_reducible assumption) (by first | with_reducible assumption | exact map_take24) (by decide) (by decide) (by ktr_room) (by ktr_units) ?_); intro d' t' vs' ns' n' h' tk' d0' d1' hI' hl' F' N'; (try dsimp only at N'); (try k_sweep)) | (k_here; (with_reducible show wpAny _ _ (call (Value.type _) [Value.ref _]) _ _ _); k_dflt (refine tupOf (by k_asm) (by k_asm) (by k_mem) (by omega) ?_); intro D' h' F' N' l1; (have l1r := l1); (try k_lt l1); (try k_sweep)) | (k_here; (with_reducible show wpAny _ _ (binaryOp _ (Value.ref _) (Value.ref _)) _ _ _); k_dflt (refine addL (by k_asm) (by k_asm) (by k_mem) (by k_mem) (by (simp only [List.length_append, List.length_take, List.length_drop, List.length_cons, List.length_nil]; omega)) ?_); intro D' h' F' N' l1; (have l1r := l1); (try k_lt l1); (try k_sweep)) | (k_here; k_dflt (refine kda_set (knd := PySem.strKind _ _) (by k_asm) (by k_asm) (by k_updF) (by with_reducible assumption) (strKind_is _ _ _ _) (by (rw [sizeLine_eq]; exact Nat.le_of_ble_eq_true (by with_unfolding_all rfl))) ?_); intro h' o' F' N' hd'; (try dsimp only at N'); (first | rw [stored_rules] at hd' | rw [stored_names] at hd' | rw [stored_levels] at hd' | rw [stored_expect] at hd' | rw [stored_start] at hd'); (try k_sweep))); k_steps)))
      · obtain rfl : way = 2 := by assumption
        refine RowCut.make r (nms := P.names.take 3 ++ (Str.ofString "Z" :: P.names.drop 4)) (lvls := P.levels) (ex := P.expect) (sta := P.start) (by unfold RowTurned; simp [*]) (by rfl) (by rfl) (by simp) (by rfl) (by k_asm) (by k_asm) (by k_updF) (Grown.toS (by tb_rel)) (offs_all (by assumption)) (by assumption) (by k_mem) (dats_mid (k := 3) (hnD.mono fun p hp => by k_mem) (.str _ _)) (by k_mem) (hlD.mono fun p hp => by k_mem) (heD.mono fun p hp => by k_mem) (hrd.mono fun p hp => by k_mem)
    refine wpAny_If ?_
    k_steps
    · (k_here; (k_dflt (refine' addRight ?Fq12 ?Nq12 ?vq12 ?subq12 ?bq12 ?zq12 ?g0q12 ?g1q12; (case Fq12 => k_asm); (case Nq12 => k_asm); (case vq12 => with_reducible assumption); (case subq12 => (intro p hp; k_mem)); (case bq12 => k_mem); (case zq12 => with_reducible assumption))) <;> first | (intro D' o' h' F' N' l1 e'; (have l1r := l1); k_lt l1; (try k_sweep)) | intro e')
      all_goals k_steps
      · obtain rfl : way = 3 := by assumption
        rename (DatIn _ _ (Dat.tuple (List.map Dat.int _))) => h3
        refine RowCut.make { r with right := r.right ++ [4] } (nms := P.names) (lvls := P.levels) (ex := P.expect) (sta := P.start) (by unfold RowTurned; simp [*]) (by rfl) (by rfl) (by simp) (by rfl) (fr_again (by k_asm)) (by k_asm) (by k_updF) (Grown.toS (by tb_rel)) (offs_all (by assumption)) (by assumption) (by k_mem) (hnD.mono fun p hp => by k_mem) (by k_mem) (hlD.mono fun p hp => by k_mem) (heD.mono fun p hp => by k_mem) (.tuple (by k_mem) (.cons (.int _ _) (.cons (h3.mono (List.forall_mem_cons.mpr ⟨by k_mem, fun p hp => by k_mem⟩)) (.cons (.int _ _) (.cons (h4.mono fun p hp => by k_mem) (.cons (.int _ _) (.cons (.int _ _) .nil)))))))
      · obtain rfl : way = 3 := by assumption
        rename (DatIn _ _ (Dat.tuple (List.map Dat.int _))) => h3
        refine RowCut.make { r with right := r.right ++ [4] } (nms := P.names) (lvls := P.levels) (ex := P.expect) (sta := P.start) (by unfold RowTurned; simp [*]) (by rfl) (by rfl) (by simp) (by rfl) (fr_again (by k_asm)) (by k_asm) (by k_updF) (Grown.toS (by tb_rel)) (offs_all (by assumption)) (by assumption) (by k_mem) (hnD.mono fun p hp => by k_mem) (by k_mem) (hlD.mono fun p hp => by k_mem) (heD.mono fun p hp => by k_mem) (.tuple (by k_mem) (.cons (.int _ _) (.cons (h3.mono (List.forall_mem_cons.mpr ⟨by k_mem, fun p hp => by k_mem⟩)) (.cons (.int _ _) (.cons (h4.mono fun p hp => by k_mem) (.cons (.int _ _) (.cons (.int _ _) .nil)))))))
    refine wpAny_If ?_
    k_steps
    · obtain rfl : way = 4 := by assumption
      refine RowCut.make { r with left := 15 - r.left } (nms := P.names) (lvls := P.levels) (ex := P.expect) (sta := P.start) (by unfold RowTurned; simp [*]) (by rfl) (by rfl) (by simp) (by rfl) (fr_again (by k_asm)) (by k_asm) (by k_updF) (Grown.toS (by tb_rel)) (offs_all (by assumption)) (by assumption) (by k_mem) (hnD.mono fun p hp => by k_mem) (by k_mem) (hlD.mono fun p hp => by k_mem) (heD.mono fun p hp => by k_mem) (.tuple (by k_mem) (.cons (.int _ _) (.cons (h2.mono fun p hp => by k_mem) (.cons (.int _ _) (.cons (h4.mono fun p hp => by k_mem) (.cons (.int _ _) (.cons (.int _ _) .nil)))))))
    refine wpAny_If ?_
    k_steps
    · refine wpAny_IfExp ?_
      k_steps
      (k_here; k_dflt (refine' eqAct ?vq13 ?oq13 (fun e' => ?_) (fun e' => ?_); (case vq13 => with_reducible assumption); (case oq13 => with_reducible assumption)))
      all_goals k_steps
      · obtain rfl : way = 5 := by assumption
        refine RowCut.make { r with act := .none } (nms := P.names) (lvls := P.levels) (ex := P.expect) (sta := P.start) (by unfold RowTurned; simp [*]) (by rfl) (by rfl) (by simp) (by rfl) (fr_again (by k_asm)) (by k_asm) (by k_updF) (Grown.toS (by tb_rel)) (offs_all (by assumption)) (by assumption) (by k_mem) (hnD.mono fun p hp => by k_mem) (by k_mem) (hlD.mono fun p hp => by k_mem) (heD.mono fun p hp => by k_mem) (.tuple (by k_mem) (.cons (.int _ _) (.cons (h2.mono fun p hp => by k_mem) (.cons (.int _ _) (.cons (.none) (.cons (.int _ _) (.cons (.int _ _) .nil)))))))
      · obtain rfl : way = 5 := by assumption
        refine RowCut.make { r with act := .str (Str.ofString "") } (nms := P.names) (lvls := P.levels) (ex := P.expect) (sta := P.start) (by unfold RowTurned; simp [*]) (by rfl) (by rfl) (by simp) (by rfl) (fr_again (by k_asm)) (by k_asm) (by k_updF) (Grown.toS (by tb_rel)) (offs_all (by assumption)) (by assumption) (by k_mem) (hnD.mono fun p hp => by k_mem) (by k_mem) (hlD.mono fun p hp => by k_mem) (heD.mono fun p hp => by k_mem) (.tuple (by k_mem) (.cons (.int _ _) (.cons (h2.mono fun p hp => by k_mem) (.cons (.int _ _) (.cons (.str _ _) (.cons (.int _ _) (.cons (.int _ _) .nil)))))))
    refine wpAny_If ?_
    k_steps
    · obtain rfl : way = 6 := by assumption
      refine RowCut.make { r with lev := 9 - r.lev } (nms := P.names) (lvls := P.levels) (ex := P.expect) (sta := P.start) (by unfold RowTurned; simp [*]) (by rfl) (by rfl) (by simp) (by rfl) (fr_again (by k_asm)) (by k_asm) (by k_updF) (Grown.toS (by tb_rel)) (offs_all (by assumption)) (by assumption) (by k_mem) (hnD.mono fun p hp => by k_mem) (by k_mem) (hlD.mono fun p hp => by k_mem) (heD.mono fun p hp => by k_mem) (.tuple (by k_mem) (.cons (.int _ _) (.cons (h2.mono fun p hp => by k_mem) (.cons (.int _ _) (.cons (h4.mono fun p hp => by k_mem) (.cons (.int _ _) (.cons (.int _ _) .nil)))))))
    refine wpAny_If ?_
    k_steps
    · obtain rfl : way = 7 := by assumption
      refine RowCut.make { r with before := r.before + 1 } (nms := P.names) (lvls := P.levels) (ex := P.expect) (sta := P.start) (by unfold RowTurned; simp [*]) (by rfl) (by rfl) (by simp) (by rfl) (fr_again (by k_asm)) (by k_asm) (by k_updF) (Grown.toS (by tb_rel)) (offs_all (by assumption)) (by assumption) (by k_mem) (hnD.mono fun p hp => by k_mem) (by k_mem) (hlD.mono fun p hp => by k_mem) (heD.mono fun p hp => by k_mem) (.tuple (by k_mem) (.cons (.int _ _) (.cons (h2.mono fun p hp => by k_mem) (.cons (.int _ _) (.cons (h4.mono fun p hp => by k_mem) (.cons (.int _ _) (.cons (.int _ _) .nil)))))))
    refine wpAny_If ?_
    k_steps
    · refine ⟨lA, lvs, n3, _, CJt _ ((P.levels.map levTurn).map levDat), rfl, by rfl, by k_asm, by k_asm, by k_mem, by rw [sizeLine_eq]; exact Nat.le_trans hl64 (by decide), CJt.start, ?_⟩
      intro s₂ hs₂
      obtain ⟨g9, rfl⟩ := hs₂
      refine ⟨?_, ?_⟩
      · intro i v ys nw hv hJ hm
        obtain ⟨tl, rfl, hab, hyl, hys⟩ := hJ
        obtain ⟨q, hq, hdq⟩ := dats_get hlD hv
        obtain ⟨i0, x0, hsh⟩ := hlev q (List.mem_of_getElem? hq)
        obtain ⟨a1, n4, t4, b1, n5, t5, t6, rfl, hm1, hm2⟩ := lev_open2 hdq hsh
        refine ⟨a1, b1, n4, n5, _, _, _, rfl, by k_mem, by k_mem, ?_⟩
        intro I oI C oC D m₂ h tk E' hC hx1 hx2 hx3 F N off ne
        k_steps
        rename (∀ p ∈ (_, _) :: (I, oI) :: (C, oC) :: (D, _) :: _, p.1 < _) => la2
        rename (∀ p ∈ (I, oI) :: (C, oC) :: (D, _) :: _, p.1 < _) => la1
        refine comp_end2 (by k_asm) (by k_asm) la1 la2 off (by k_mem) (CJt.snoc2 hyl hys (d := levDat (levTurn q)) (by rw [List.getElem?_map, List.getElem?_map, hq]; rfl) (Apart.lt la2 (fun p hp => by k_mem) (Apart.lt la1 (fun p hp => by k_mem) hab)) ?_)
        unfold levDat levTurn
        rw [hsh]
        exact .tuple (.head _) (.cons (.int _ _) (.cons (.tuple (.tail _ (.head _)) (.cons (.int _ _) (.cons (.str _ _) .nil))) .nil))
      · intro ys nw hJ
        obtain ⟨tl, rfl, hab, hyl, hys⟩ := hJ
        rw [List.take_of_length_le (by simp only [List.length_map]; omega)] at hys
        unfold LCg.FinE
        intro D h tk F N o1
        rename (Offs [_] news) => lo2
        have hO2 := offs_app hab lo2
        have d1 : @Ne Nat _ D := off1_mem o1 _ (List.mem_append_right _ (.head _))
        have N2 := news_swap2 N
        have hys2 : DatAll (tl ++ news) ys _ := hys.mono fun p hp => List.mem_append_left _ hp
        clear N
        (k_steps; (repeat ((refine un_halt ?_); (first | (k_here; (with_reducible show wpAny _ _ (call (Value.ref 144) [Value.ref _, Value.int _ _]) _ _ _); k_dflt (refine take_u (by k_asm) (by k_asm) (by k_asm) (by k_asm) (by k_asm) (by first | exact rfl | assumption) (by k_updF) (by with_reducible assumption) (by first | with_reducible assumption | exact map_take24) (by decide) (by decide) (by ktr_room) (by ktr_units) ?_); intro d' t' vs' ns' n' h' tk' d0' d1' hI' hl' F' N'; (try dsimp only at N'); (try k_sweep)) | (k_here; (with_reducible show wpAny _ _ (call (Value.type _) [Value.ref _]) _ _ _); k_dflt (refine tupOf (by k_asm) (by k_asm) (by k_mem) (by omega) ?_); intro D' h' F' N' l1; (have l1r := l1); (try k_lt l1); (try k_sweep)) | (k_here; (with_reducible show wpAny _ _ (binaryOp _ (Value.ref _) (Value.ref _)) _ _ _); k_dflt (refine addL (by k_asm) (by k_asm) (by k_mem) (by k_mem) (by (simp only [List.length_append, List.length_take, List.length_drop, List.length_cons, List.length_nil]; omega)) ?_); intro D' h' F' N' l1; (have l1r := l1); (try k_lt l1); (try k_sweep)) | (k_here; k_dflt (refine kda_set (knd := PySem.strKind _ _) (by k_asm) (by k_asm) (by k_updF) (by with_reducible assumption) (strKind_is _ _ _ _) (by (rw [sizeLine_eq]; exact Nat.le_of_ble_eq_true (by with_unfolding_all rfl))) ?_); intro h' o' F' N' hd'; (try dsimp only at N'); (first | rw [stored_rules] at hd' | rw [stored_names] at hd' | rw [stored_levels] at hd' | rw [stored_expect] at hd' | rw [stored_start] at hd'); (try k_sweep))); k_steps)))
        obtain rfl : way = 8 := by assumption
        refine RowCut.make r (nms := P.names) (lvls := P.levels.map levTurn) (ex := P.expect) (sta := P.start) (by unfold RowTurned; simp [*]) (by rfl) (by rfl) (by simp) (by rfl) (by k_asm) (by k_asm) (by k_updF) (by refine' grown8 o1 hab ?hlt ?he; (case hlt => assumption); (case he => rfl)) (offs_all (by assumption)) (by assumption) (by k_mem) (hnD.mono fun p hp => by k_mem) (by k_mem) (hys2.mono fun p hp => by k_mem) (heD.mono fun p hp => by k_mem) (hrd.mono fun p hp => by k_mem)
    refine wpAny_If ?_
    k_steps
    · refine wpAny_IfExp ?_
      k_steps
      (k_here; k_dflt (refine' isNone ?vq15 ?oq15 (fun e' => ?_) (fun e' => ?_); (case vq15 => with_reducible assumption); (case oq15 => with_reducible assumption)))
      all_goals (k_steps; (repeat ((refine un_halt ?_); (first | (k_here; (with_reducible show wpAny _ _ (call (Value.ref 144) [Value.ref _, Value.int _ _]) _ _ _); k_dflt (refine take_u (by k_asm) (by k_asm) (by k_asm) (by k_asm) (by k_asm) (by first | exact rfl | assumption) (by k_updF) (by with_reducible assumption) (by first | with_reducible assumption | exact map_take24) (by decide) (by decide) (by ktr_room) (by ktr_units) ?_); intro d' t' vs' ns' n' h' tk' d0' d1' hI' hl' F' N'; (try dsimp only at N'); (try k_sweep)) | (k_here; (with_reducible show wpAny _ _ (call (Value.type _) [Value.ref _]) _ _ _); k_dflt (refine tupOf (by k_asm) (by k_asm) (by k_mem) (by omega) ?_); intro D' h' F' N' l1; (have l1r := l1); (try k_lt l1); (try k_sweep)) | (k_here; (with_reducible show wpAny _ _ (binaryOp _ (Value.ref _) (Value.ref _)) _ _ _); k_dflt (refine addL (by k_asm) (by k_asm) (by k_mem) (by k_mem) (by (simp only [List.length_append, List.length_take, List.length_drop, List.length_cons, List.length_nil]; omega)) ?_); intro D' h' F' N' l1; (have l1r := l1); (try k_lt l1); (try k_sweep)) | (k_here; k_dflt (refine kda_set (knd := PySem.strKind _ _) (by k_asm) (by k_asm) (by k_updF) (by with_reducible assumption) (strKind_is _ _ _ _) (by (rw [sizeLine_eq]; exact Nat.le_of_ble_eq_true (by with_unfolding_all rfl))) ?_); intro h' o' F' N' hd'; (try dsimp only at N'); (first | rw [stored_rules] at hd' | rw [stored_names] at hd' | rw [stored_levels] at hd' | rw [stored_expect] at hd' | rw [stored_start] at hd'); (try k_sweep))); k_steps)))
      · obtain rfl : way = 9 := by assumption
        refine RowCut.make r (nms := P.names) (lvls := P.levels) (ex := .int 0) (sta := P.start) (by unfold RowTurned; simp [*]) (by rfl) (by rfl) (by simp [*]) (by rfl) (by k_asm) (by k_asm) (by k_updF) (Grown.toS (by tb_rel)) (offs_all (by assumption)) (by assumption) (by k_mem) (hnD.mono fun p hp => by k_mem) (by k_mem) (hlD.mono fun p hp => by k_mem) (.int _ _) (hrd.mono fun p hp => by k_mem)
      · obtain rfl : way = 9 := by assumption
        refine RowCut.make r (nms := P.names) (lvls := P.levels) (ex := .none) (sta := P.start) (by unfold RowTurned; simp [*]) (by rfl) (by rfl) (by simp [*]) (by rfl) (by k_asm) (by k_asm) (by k_updF) (Grown.toS (by tb_rel)) (offs_all (by assumption)) (by assumption) (by k_mem) (hnD.mono fun p hp => by k_mem) (by k_mem) (hlD.mono fun p hp => by k_mem) (.none) (hrd.mono fun p hp => by k_mem)
    refine wpAny_If ?_
    k_steps
    · (repeat ((refine un_halt ?_); (first | (k_here; (with_reducible show wpAny _ _ (call (Value.ref 144) [Value.ref _, Value.int _ _]) _ _ _); k_dflt (refine take_u (by k_asm) (by k_asm) (by k_asm) (by k_asm) (by k_asm) (by first | exact rfl | assumption) (by k_updF) (by with_reducible assumption) (by first | with_reducible assumption | exact map_take24) (by decide) (by decide) (by ktr_room) (by ktr_units) ?_); intro d' t' vs' ns' n' h' tk' d0' d1' hI' hl' F' N'; (try dsimp only at N'); (try k_sweep)) | (k_here; (with_reducible show wpAny _ _ (call (Value.type _) [Value.ref _]) _ _ _); k_dflt (refine tupOf (by k_asm) (by k_asm) (by k_mem) (by omega) ?_); intro D' h' F' N' l1; (have l1r := l1); (try k_lt l1); (try k_sweep)) | (k_here; (with_reducible show wpAny _ _ (binaryOp _ (Value.ref _) (Value.ref _)) _ _ _); k_dflt (refine addL (by k_asm) (by k_asm) (by k_mem) (by k_mem) (by (simp only [List.length_append, List.length_take, List.length_drop, List.length_cons, List.length_nil]; omega)) ?_); intro D' h' F' N' l1; (have l1r := l1); (try k_lt l1); (try k_sweep)) | (k_here; k_dflt (refine kda_set (knd := PySem.strKind _ _) (by k_asm) (by k_asm) (by k_updF) (by with_reducible assumption) (strKind_is _ _ _ _) (by (rw [sizeLine_eq]; exact Nat.le_of_ble_eq_true (by with_unfolding_all rfl))) ?_); intro h' o' F' N' hd'; (try dsimp only at N'); (first | rw [stored_rules] at hd' | rw [stored_names] at hd' | rw [stored_levels] at hd' | rw [stored_expect] at hd' | rw [stored_start] at hd'); (try k_sweep))); k_steps))
      · obtain rfl : way = 10 := by assumption
        refine RowCut.make r (nms := P.names) (lvls := P.levels) (ex := P.expect) (sta := 15 - P.start) (by unfold RowTurned; simp [*]) (by rfl) (by rfl) (by simp) (by rfl) (by k_asm) (by k_asm) (by k_updF) (Grown.toS (by tb_rel)) (offs_all (by assumption)) (by assumption) (by k_mem) (hnD.mono fun p hp => by k_mem) (by k_mem) (hlD.mono fun p hp => by k_mem) (heD.mono fun p hp => by k_mem) (hrd.mono fun p hp => by k_mem)
    obtain rfl : way = 0 := by omega
    refine RowCut.make r (nms := P.names) (lvls := P.levels) (ex := P.expect) (sta := P.start) (by unfold RowTurned; simp [*]) (by rfl) (by rfl) (by simp) (by rfl) (by k_asm) (by k_asm) (by k_updF) (Grown.toS (by tb_rel)) (offs_all (by assumption)) (by assumption) (by k_mem) (hnD.mono fun p hp => by k_mem) (by k_mem) (hlD.mono fun p hp => by k_mem) (heD.mono fun p hp => by k_mem) (hrd.mono fun p hp => by k_mem)
  intro s' hs
  obtain ⟨h, tk, oD, rest, rv, ev', nA', lA', st', nvs', lvs', n1', n3', r', nms, lvls, ex, sta, rfl, F, N, hO, gr, hdD, mA, dA, mL, dL, dE, hrv, hT, hn, hl, he, hs⟩ := hs
  have ho' := gr.sub _ (.tail _ ho)
  have hrA' := gr.sub _ (.tail _ hrA)
  have hrD' := hrD.mono fun p hp => gr.sub p (.tail _ hp)
  k_steps
  (refine un_halt ?_; (k_here; (with_reducible show wpAny _ _ (subscriptTail _ (PySem.Expr.Slice none _ none _) (Value.ref _) (Value.ref _)) _ _ _); k_dflt (refine' sliceTake ?Fq18 ?Nq18 ?Mq18 ?aq18 ?zq18 ?_ ?hsq18; (case Fq18 => k_asm); (case Nq18 => k_asm); (case Mq18 => k_mem); (case aq18 => first | with_reducible assumption | decide); (case zq18 => with_reducible assumption); (case hsq18 => with_unfolding_all rfl)); intro D' h' F' N' l1; (have l1r := l1); (try k_lt l1); (try k_sweep)))
  (k_steps; (repeat ((refine un_halt ?_); (first | (k_here; (with_reducible show wpAny _ _ (call (Value.ref 144) [Value.ref _, Value.int _ _]) _ _ _); k_dflt (refine take_u (by k_asm) (by k_asm) (by k_asm) (by k_asm) (by k_asm) (by first | exact rfl | assumption) (by k_updF) (by with_reducible assumption) (by first | with_reducible assumption | exact map_take24) (by decide) (by decide) (by ktr_room) (by ktr_units) ?_); intro d' t' vs' ns' n' h' tk' d0' d1' hI' hl' F' N'; (try dsimp only at N'); (try k_sweep)) | (k_here; (with_reducible show wpAny _ _ (call (Value.type _) [Value.ref _]) _ _ _); k_dflt (refine tupOf (by k_asm) (by k_asm) (by k_mem) (by omega) ?_); intro D' h' F' N' l1; (have l1r := l1); (try k_lt l1); (try k_sweep)) | (k_here; (with_reducible show wpAny _ _ (binaryOp _ (Value.ref _) (Value.ref _)) _ _ _); k_dflt (refine addL (by k_asm) (by k_asm) (by k_mem) (by k_mem) (by (simp only [List.length_append, List.length_take, List.length_drop, List.length_cons, List.length_nil]; omega)) ?_); intro D' h' F' N' l1; (have l1r := l1); (try k_lt l1); (try k_sweep)) | (k_here; k_dflt (refine kda_set (knd := PySem.strKind _ _) (by k_asm) (by k_asm) (by k_updF) (by with_reducible assumption) (strKind_is _ _ _ _) (by (rw [sizeLine_eq]; exact Nat.le_of_ble_eq_true (by with_unfolding_all rfl))) ?_); intro h' o' F' N' hd'; (try dsimp only at N'); (first | rw [stored_rules] at hd' | rw [stored_names] at hd' | rw [stored_levels] at hd' | rw [stored_expect] at hd' | rw [stored_start] at hd'); (try k_sweep))); k_steps)))
  (refine un_halt ?_; (k_here; (with_reducible show wpAny _ _ (subscriptTail _ (PySem.Expr.Slice _ none none _) (Value.ref _) (Value.ref _)) _ _ _); k_dflt (refine' sliceDrop1 ?Fq20 ?Nq20 ?Mq20 ?aq20 ?zq20 ?_ ?hsq20; (case Fq20 => k_asm); (case Nq20 => k_asm); (case Mq20 => k_mem); (case aq20 => first | with_reducible assumption | decide); (case zq20 => with_reducible assumption); (case hsq20 => with_unfolding_all rfl)); intro D' h' F' N' l1; (have l1r := l1); (try k_lt l1); (try k_sweep)))
  (k_steps; (repeat ((refine un_halt ?_); (first | (k_here; (with_reducible show wpAny _ _ (call (Value.ref 144) [Value.ref _, Value.int _ _]) _ _ _); k_dflt (refine take_u (by k_asm) (by k_asm) (by k_asm) (by k_asm) (by k_asm) (by first | exact rfl | assumption) (by k_updF) (by with_reducible assumption) (by first | with_reducible assumption | exact map_take24) (by decide) (by decide) (by ktr_room) (by ktr_units) ?_); intro d' t' vs' ns' n' h' tk' d0' d1' hI' hl' F' N'; (try dsimp only at N'); (try k_sweep)) | (k_here; (with_reducible show wpAny _ _ (call (Value.type _) [Value.ref _]) _ _ _); k_dflt (refine tupOf (by k_asm) (by k_asm) (by k_mem) (by omega) ?_); intro D' h' F' N' l1; (have l1r := l1); (try k_lt l1); (try k_sweep)) | (k_here; (with_reducible show wpAny _ _ (binaryOp _ (Value.ref _) (Value.ref _)) _ _ _); k_dflt (refine addL (by k_asm) (by k_asm) (by k_mem) (by k_mem) (by (simp only [List.length_append, List.length_take, List.length_drop, List.length_cons, List.length_nil]; omega)) ?_); intro D' h' F' N' l1; (have l1r := l1); (try k_lt l1); (try k_sweep)) | (k_here; k_dflt (refine kda_set (knd := PySem.strKind _ _) (by k_asm) (by k_asm) (by k_updF) (by with_reducible assumption) (strKind_is _ _ _ _) (by (rw [sizeLine_eq]; exact Nat.le_of_ble_eq_true (by with_unfolding_all rfl))) ?_); intro h' o' F' N' hd'; (try dsimp only at N'); (first | rw [stored_rules] at hd' | rw [stored_names] at hd' | rw [stored_levels] at hd' | rw [stored_expect] at hd' | rw [stored_start] at hd'); (try k_sweep))); k_steps)))
  refine leaf_endS r' nms lvls ex sta hr hk4 hT hn hl he hs (by k_asm) (by k_asm) (by
    refine GrownS.ltc (by assumption) (GrownS.ltc (by assumption) (GrownS.ltc (by assumption) (GrownS.ltc (by assumption) (GrownS.ltc (by assumption) ?_))))
    exact GrownS.offs hO gr) ?_ hret
  · exact ⟨_, _, _, _, _, _, _, _, _, _, _, _, by k_mem, by with_reducible assumption, by k_mem, dA.mono fun p hp => by k_mem, by k_mem, dats_mid (hrD'.mono fun p hp => by k_mem) (hrv.mono fun p hp => by k_mem), by k_mem, dL.mono fun p hp => by k_mem, dE.mono fun p hp => by k_mem⟩
end
section
def IJ (base : List (Addr × Obj)) : Nat → List Value → List (Addr × Obj) → Prop := fun i ys nw => nw = base ∧ ys.length = i ∧ ∃ ms, IntsAre ys ms
theorem IJ.start {base : List (Addr × Obj)} : IJ base 0 [] base := ⟨rfl, rfl, [], .nil⟩
theorem ints_append {vs ws : List Value} {ns ms : List Int} (h : IntsAre vs ns) (k : IntsAre ws ms) : IntsAre (vs ++ ws) (ns ++ ms) := by
  induction h with
  | nil => exact k
  | cons a b _ ih => exact .cons a b ih
theorem IJ.snoc {base : List (Addr × Obj)} {i : Nat} {ys : List Value} {n : Int} {t : Tok} (h : IJ base i ys base) : IJ base (i + 1) (ys ++ [.int n t]) base := by
  obtain ⟨_, h1, ms, h2⟩ := h
  exact ⟨rfl, by simp [h1], ms ++ [n], ints_append h2 (.cons n t .nil)⟩
theorem comp_end0 {h₀ : Heap} {L : Addr} {m : Str → Option Value} {I C D : Addr} {oI oC oD : Obj} {nw : List (Addr × Obj)} {S : List (Addr × Obj) → Prop} {rest : Value → List (Addr × Obj) → Prop} {y : Value} {s₁ : Shared} {h' : Heap} {tk : Nat}
    (F' : Fr h₀ L h' m) (N' : News h₀ L h' ((I, oI) :: (C, oC) :: (D, oD) :: nw)) (off : LCg.Off3 I C D nw) (hS : S nw) (r : rest y nw) :
    Halt (LCg.CompEnd h₀ L m s₁ I oI C oC D oD S rest y { s₁ with heap := h', toks := tk }) :=
  LCg.CompEnd.intro F' N' nw (fun _ h => h) off hS r
theorem ints_get {vs : List Value} {ns : List Int} {i : Nat} {v : Value} (h : IntsAre vs ns) (hv : vs[i]? = some v) : ∃ n t, v = .int n t := by
  induction h generalizing i with
  | nil => simp at hv
  | cons a b _ ih =>
    cases i with
    | zero => simp at hv; exact ⟨_, _, hv.symm⟩
    | succ i => exact ih (by simpa using hv)
theorem ints_len24 {vs : List Value} {ns : List Int} (h : IntsAre vs (List.take 24 ns)) : vs.length ≤ 24 := by
  rw [h.length, List.length_take]; exact Nat.min_le_left _ _
section
variable {prog : Program} {w : World} {A : Around} {E : Value → Shared → Prop} {s : Shared} {env : Env} {h₀ : Heap} {body : List Stmt} {Q : Flow → Shared → Prop}
theorem for_range {y : Str} {py : Pos} {r : Addr} {b : Int} {t u v : Tok} {n : Nat} {m₀ : Str → Option Value} {news : List (Addr × Obj)} (J : Nat → (Str → Option Value) → List (Addr × Obj) → Prop)
    (hh : A.handled = none) (F : Fr h₀ env.locals s.heap m₀) (N : News h₀ env.locals s.heap news) (hr : IsRange s.heap r 0 b 1 t u v) (hsm : Builtin.Range.small 0 b 1 = true) (hn : Builtin.Range.rangeSize 0 b 1 = ((n : Nat) : Int)) (hj : J 0 m₀ news)
    (turn : ∀ i t m₁ news₁ h tk I oI, i < n → (∀ p ∈ news₁, p.1 ≠ I) → J i m₁ news₁ → Fr h₀ env.locals h m₁ → News h₀ env.locals h ((I, oI) :: news₁) →
      wpAny (model prog w) A (assign (.Name y py) env (.int (0 + (i : Int)) t)) (fun _ s₂ => wpAny (model prog w) A (execs body env) (ForPost h₀ env.locals I oI (fun _ => True) (J (i + 1)) { s with heap := h, toks := tk }) E s₂) E { s with heap := h, toks := tk })
    (done : ∀ m₁ news₁ h tk, J n m₁ news₁ → Fr h₀ env.locals h m₁ → News h₀ env.locals h news₁ → Q .next { s with heap := h, toks := tk }) :
    Halt (wpAny (model prog w) A (pyIter (.ref r)) (fun it s₂ => TurnsAt prog w A h₀ env (.Name y py) body Q E it s₂) E s) := by
  refine wpAny_pyIter_range hr hsm ?_
  have W := KTurns.ofWalks (target := .Name y py) (LCg.range_walks (prog := prog) (w := w) (I := s.heap.objs.size) hh 0 n) fun i v s Q E st q => wpAny_pure q
  refine ⟨_, _, _, n, _, _, _, m₀, news, (fun i m nx => J i m nx), rfl, W, ?_, ?_, ?_, ?_, F.push _, (fun p hp => ⟨Heap.get?_push_of_some _ (N p hp).1, (N p hp).2⟩), hj, ?_, ?_⟩
  · intro hm'
    exact absurd F.ns.lt (List.mem_singleton.mp hm' ▸ Nat.lt_irrefl _)
  · intro b hb
    rw [List.mem_singleton.mp hb]
    exact next_is_new F
  · intro p hp hI
    exact absurd (Heap.lt_size (N p hp).1) ((List.mem_singleton.mp hI) ▸ Nat.lt_irrefl _)
  · show (s.heap.push _).get? _ = some _
    rw [hn]
    have e : ((0 : Int) + ((0 : Nat) : Int) * 1) = 0 := by simp
    have e2 : ((n : Nat) : Int) - ((0 : Nat) : Int) = (n : Int) := by simp
    rw [e, e2]
    exact Heap.get?_push_size _ rfl
  · rintro i v m₁ news₁ h₁ tk₁ own hin hP hJ hoff hown hget hfp hst F₁ N₁
    obtain ⟨t, rfl⟩ := hP
    have hI0 : h₀.get? s.heap.objs.size = none := next_is_new F
    have hst2 : ∃ oI, h₁.get? s.heap.objs.size = some oI := ⟨_, hst⟩
    obtain ⟨oI, hoI⟩ := hst2
    have hIown : (s.heap.objs.size, oI) ∈ own := hfp _ (List.mem_singleton.mpr rfl) hI0 _ hoI
    have N₂ : News h₀ env.locals h₁ ((s.heap.objs.size, oI) :: news₁) := fun p hp => N₁ p ((List.mem_cons.mp hp).elim (fun e => List.mem_append_left _ (e ▸ hIown)) fun h => List.mem_append_right _ h)
    refine wpAny_mono (turn i t m₁ news₁ h₁ tk₁ _ oI hin (fun p hp e => hoff p hp (List.mem_singleton.mpr e)) hJ F₁ N₂) (fun _ s₂ p => wpAny_mono p (fun f s₃ q => ?_) fun _ _ e => e) fun _ _ e => e
    cases f with
    | ret v => exact q.elim
    | brk => exact q.elim
    | cont => exact q.elim
    | next =>
      obtain ⟨h', tk, m', nx, e, F', N', ho, _, hm⟩ := q
      refine .next ⟨rfl, h', tk, m', nx, e, F', fun p hp => ?_, fun p hp hI => ho p hp (List.mem_singleton.mp hI), hm⟩
      rcases List.mem_append.mp hp with h | h
      · have h2 : h₁.get? p.1 = some p.2 := hget p h
        have h3 := List.mem_singleton.mp (hown p h)
        have h4 : p = (s.heap.objs.size, oI) := by
          refine Prod.ext h3 ?_
          rw [h3, hoI] at h2
          exact (Option.some.inj h2).symm
        rw [h4]
        exact N' _ (.head _)
      · exact N' p (.tail _ h)
  · rintro h' tk m' news' F' N' _ hJ
    exact done m' news' h' tk hJ F' N'
end
end
section
section
variable {prog : Program} {w : World} {A : Around} {E : Value → Shared → Prop} {s : Shared} {h₀ : Heap} {L : Addr} {m : Str → Option Value} {news : List (Addr × Obj)}
theorem tupAny {value slice : PySem.Expr} {T : Addr} {l : List Value} {n : Nat} {k b : Int} {u : Tok} {Q : Value → Shared → Prop} (N : News h₀ L s.heap news) (hm : (T, ({ cls := .type "tuple", data := .seq l.toArray n } : Obj)) ∈ news) (h0 : 0 ≤ k) (h1 : k < b) (h2 : b = (l.length : Int)) (hz : l.length ≤ 64)
    (h : ∀ v ∈ l, Q v s) (hs : subscripted slice false (.ref T) (.int k u) = operate [.ref T, .int k u] (getItem (.ref T) (.int k u)) := by with_unfolding_all rfl) : wpAny (model prog w) A (subscriptTail value slice (.ref T) (.int k u)) Q E s := by
  subst h2
  have hk : k.toNat < l.length := by omega
  refine kba_turn (value' := PySem.Expr.Name (PySem.Str.ofString "_") ⟨0, 0, 0, 0⟩) (fun _ => rfl) (item_tupleT (j := k.toNat) (N.isTup hm) (by omega) (by omega) ?_ (List.getElem?_eq_getElem hk) (h _ (List.getElem_mem hk)) hs)
  unfold seqIndex?
  simp
  omega
theorem tupInts {value slice : PySem.Expr} {T : Addr} {l : List Value} {n : Nat} {k b : Int} {u : Tok} {Q : Value → Shared → Prop} (N : News h₀ L s.heap news) (hm : (T, ({ cls := .type "tuple", data := .seq l.toArray n } : Obj)) ∈ news) (h0 : 0 ≤ k) (h1 : k < b) (h2 : b = (l.length : Int)) (hz : l.length ≤ 64)
    (hl : ∀ v ∈ l, ∃ x t, v = Value.int x t) (h : ∀ x t, Q (.int x t) s) (hs : subscripted slice false (.ref T) (.int k u) = operate [.ref T, .int k u] (getItem (.ref T) (.int k u)) := by with_unfolding_all rfl) : wpAny (model prog w) A (subscriptTail value slice (.ref T) (.int k u)) Q E s :=
  tupAny N hm h0 h1 h2 hz (fun v hv => by obtain ⟨x, t, rfl⟩ := hl v hv; exact h x t) hs
theorem tupDat {value slice : PySem.Expr} {T : Addr} {l : List Value} {n : Nat} {k b : Int} {u : Tok} {R : Dat → Prop} {Q : Value → Shared → Prop} (N : News h₀ L s.heap news) (hm : (T, ({ cls := .type "tuple", data := .seq l.toArray n } : Obj)) ∈ news) (h0 : 0 ≤ k) (h1 : k < b) (h2 : b = (l.length : Int)) (hz : l.length ≤ 64)
    (hl : ∀ v ∈ l, ∃ d, DatIn [] v d ∧ R d) (h : ∀ v d, DatIn [] v d → R d → handedIn v = true → Q v s) (hs : subscripted slice false (.ref T) (.int k u) = operate [.ref T, .int k u] (getItem (.ref T) (.int k u)) := by with_unfolding_all rfl) : wpAny (model prog w) A (subscriptTail value slice (.ref T) (.int k u)) Q E s :=
  tupAny N hm h0 h1 h2 hz (fun v hv => by obtain ⟨d, h3, h4⟩ := hl v hv; exact h v d h3 h4 h3.handed) hs
end
theorem acts3 {t u : Tok} : ∀ v ∈ [Value.none, .str (Str.ofString "") t, .str (Str.ofString "x") u], ∃ d, DatIn [] v d ∧ ActOk d := by
  intro v hv
  simp only [List.mem_cons, List.not_mem_nil, or_false] at hv
  rcases hv with rfl | rfl | rfl
  · exact ⟨_, .none, .inl rfl⟩
  · exact ⟨_, .str _ _, .inr (.inl rfl)⟩
  · exact ⟨_, .str _ _, .inr (.inr rfl)⟩
theorem exps3 {t u : Tok} : ∀ v ∈ [Value.none, .int 0 t, .int 2 u], ∃ d, DatIn [] v d ∧ ExpOk d := by
  intro v hv
  simp only [List.mem_cons, List.not_mem_nil, or_false] at hv
  rcases hv with rfl | rfl | rfl
  · exact ⟨_, .none, .inl rfl⟩
  · exact ⟨_, .int _ _, .inr (.inl rfl)⟩
  · exact ⟨_, .int _ _, .inr (.inr rfl)⟩
theorem ints5 {a b c d e : Int} {t1 t2 t3 t4 t5 : Tok} : ∀ v ∈ [Value.int a t1, .int b t2, .int c t3, .int d t4, .int e t5], ∃ x t, v = Value.int x t := by
  intro v hv
  simp only [List.mem_cons, List.not_mem_nil, or_false] at hv
  rcases hv with rfl | rfl | rfl | rfl | rfl <;> exact ⟨_, _, rfl⟩

def RowOk (r : Row) : Prop := 7 ≤ r.left ∧ r.left ≤ 8 ∧ r.right.length ≤ 3 ∧ ActOk r.act
def RowsOk (rows : List Row) : Prop := ∃ r0 rest, rows = r0 :: rest ∧ r0.left = 6 ∧ r0.right.length ≤ 3 ∧ ActOk r0.act ∧ ∀ r ∈ rest, RowOk r
def setTwo (m₀ : Str → Option Value) (a b : Option Value) : Str → Option Value := fun y => if y = Str.ofString "right" then a else if y = Str.ofString "turn" then b else m₀ y
theorem setTwo_same (m₀ : Str → Option Value) : m₀ = setTwo m₀ (m₀ (Str.ofString "right")) (m₀ (Str.ofString "turn")) := by
  funext y
  unfold setTwo
  split
  · next h => exact congrArg m₀ h
  split
  · next h => exact congrArg m₀ h
  rfl
theorem setTwo_again (m₀ : Str → Option Value) (a b c d : Option Value) : (fun y => if y = Str.ofString "right" then c else (fun y => if y = Str.ofString "turn" then d else setTwo m₀ a b y) y) = setTwo m₀ c d := by
  funext y
  unfold setTwo
  dsimp only
  split
  · rfl
  split
  · rfl
  rfl

/-- the loop that makes the rows -/
inductive JR (pool R : Addr) (base : List (Addr × Obj)) (m₀ : Str → Option Value) (i : Nat) (m : (Str → Option Value)) (nx : List (Addr × Obj)) : Prop
  | mk (vs : _) (ns : _) (n : _) (rvs : _) (k : _) (tl : _) (rows : _) (a : _) (b : _)
    (h1 : nx = (pool, PySem.W.listOf vs.toArray n) :: (R, PySem.W.listOf rvs.toArray k) :: (tl ++ base))
    (h2 : IntsAre vs ns)
    (h3 : ns.length ≤ 24)
    (h4 : Offs [pool, R] (tl ++ base))
    (h5 : @Ne Nat pool R)
    (h6 : DatAll (tl ++ base) rvs (rows.map Row.dat))
    (h7 : rows.length = 1 + i)
    (h8 : RowsOk rows)
    (h9 : m = setTwo m₀ a b) : JR pool R base m₀ i m nx
/-- the comprehension that makes a right side -/
inductive J2 (pool : Addr) (ds : List Addr) (rest : List (Addr × Obj)) (i : Nat) (ys : List Value) (nw : List (Addr × Obj)) : Prop
  | mk (vs : _) (ns : _) (n : _) (tl : _)
    (h1 : nw = (pool, PySem.W.listOf vs.toArray n) :: (tl ++ rest))
    (h2 : IntsAre vs ns)
    (h3 : ns.length ≤ 24)
    (h4 : Offs [pool] (tl ++ rest))
    (h5 : Offs ds tl)
    (h6 : ys.length = i)
    (h7 : ∃ l : List Int, DatAll [] ys (l.map Dat.int)) : J2 pool ds rest i ys nw
theorem J2.fin {h₀ h' : Heap} {L : Addr} {m : Str → Option Value} {I C D T pool : Addr} {ds : List Addr} {oI oC oD oT : Obj} {vs vs0 : List Value} {ns : List Int} {n n0 i tk : Nat} {tl rest : List (Addr × Obj)} {ys : List Value} {l : List Int} {x : Int} {t : Tok} {s₁ : Shared}
    (F : Fr h₀ L h' m) (N : News h₀ L h' ((T, oT) :: (I, oI) :: (C, oC) :: (D, oD) :: (pool, PySem.W.listOf vs.toArray n) :: (tl ++ rest))) (l1 : @LT.lt Nat _ I T ∧ @LT.lt Nat _ C T ∧ @LT.lt Nat _ D T ∧ @LT.lt Nat _ pool T ∧ AllLt T (tl ++ rest)) (off : LCg.Off3 I C D ((pool, PySem.W.listOf vs0.toArray n0) :: (tl ++ rest)))
    (hi : IntsAre vs ns) (hl : ns.length ≤ 24) (hO : Offs [pool] (tl ++ rest)) (hOR : Offs ds tl) (hR : ∀ d ∈ ds, ∃ o, (d, o) ∈ rest) (hy : ys.length = i) (hd : DatAll [] ys (l.map Dat.int)) :
    Halt (LCg.CompEnd h₀ L m s₁ I oI C oC D oD (fun _ => True) (fun y nw' => J2 pool ds rest (i + 1) (ys ++ [y]) nw') (.int x t) { s₁ with heap := h', toks := tk }) := by
  have hlt := ltOf l1.2.2.2.2
  refine LCg.CompEnd.intro F N ((pool, PySem.W.listOf vs.toArray n) :: ((T, oT) :: tl ++ rest)) (fun p hp => by grind) ⟨off.1, ⟨Nat.ne_of_gt l1.1, Nat.ne_of_gt l1.2.1, Nat.ne_of_gt l1.2.2.1⟩, off.2⟩ trivial ⟨vs, ns, n, (T, oT) :: tl, rfl, hi, hl, ?_, ?_, by simp [hy], l ++ [x], ?_⟩
  · intro d hd' p hp
    rw [List.mem_singleton.mp hd']
    rcases List.mem_cons.mp hp with rfl | hp
    · exact Nat.ne_of_gt l1.2.2.2.1
    · exact hO pool (.head _) p hp
  · intro d hd' p hp
    rcases List.mem_cons.mp hp with rfl | hp
    · obtain ⟨oR, hR⟩ := hR d hd'
      exact Nat.ne_of_gt (hlt _ (List.mem_append_right _ hR))
    · exact hOR d hd' p hp
  · rw [List.map_append]
    exact DatAll.append hd (.one (.int _ _))
theorem perm6 {h₀ h : Heap} {L : Addr} {a b c d e f : Addr × Obj} (N : News h₀ L h [a, b, c, d, e, f]) : News h₀ L h (d :: a :: ([] ++ [b, c, e, f])) := news_sub N fun p hp => by grind
theorem offs_two {a b : Addr} {l : List (Addr × Obj)} (h1 : ∀ p ∈ l, p.1 ≠ a) (h2 : ∀ p ∈ l, p.1 ≠ b) : Offs [a, b] l := by
  intro d hd p hp
  simp only [List.mem_cons, List.not_mem_nil, or_false] at hd
  rcases hd with rfl | rfl
  · exact h1 p hp
  · exact h2 p hp
theorem range_ok {b : Int} (h0 : 0 ≤ b) (h1 : b ≤ 4) : Builtin.Range.small 0 b 1 = true ∧ Builtin.Range.rangeSize 0 b 1 = ((b.toNat : Nat) : Int) := by
  have : b = 0 ∨ b = 1 ∨ b = 2 ∨ b = 3 ∨ b = 4 := by omega
  rcases this with rfl | rfl | rfl | rfl | rfl <;> exact ⟨by decide, by decide⟩
def row0 : Row := ⟨6, [7, 0], 0, .none, 0, 0⟩
theorem rows0 : RowsOk [row0] := ⟨row0, [], rfl, rfl, by decide, .inl rfl, fun _ h => nomatch h⟩
theorem RowsOk.snoc {rows : List Row} {r : Row} (h : RowsOk rows) (k : RowOk r) : RowsOk (rows ++ [r]) := by
  obtain ⟨r0, rest, rfl, h1, h2, h3, h4⟩ := h
  refine ⟨r0, rest ++ [r], rfl, h1, h2, h3, fun q hq => ?_⟩
  rcases List.mem_append.mp hq with hq | hq
  · exact h4 q hq
  · rw [List.mem_singleton.mp hq]; exact k
theorem news_front {h₀ h : Heap} {L : Addr} {a b c : Addr × Obj} {l : List (Addr × Obj)} (N : News h₀ L h (a :: b :: c :: l)) : News h₀ L h (b :: ([] ++ (a :: c :: l))) := news_sub N fun p hp => by grind
theorem offs_one {a b : Addr} {l : List (Addr × Obj)} (h : Offs [a, b] l) : Offs [a] l := fun d hd p hp => by rw [List.mem_singleton.mp hd]; exact h a (.head _) p hp
theorem offs_snd {a b : Addr} {l : List (Addr × Obj)} (h : Offs [a, b] l) : Offs [b] l := fun d hd p hp => by rw [List.mem_singleton.mp hd]; exact h b (.tail _ (.head _)) p hp
theorem news_p3 {h₀ h : Heap} {L : Addr} {a b c d : Addr × Obj} {tl l : List (Addr × Obj)} (N : News h₀ L h (a :: b :: (tl ++ c :: d :: l))) : News h₀ L h (a :: b :: d :: (tl ++ c :: l)) := news_sub N fun p hp => by grind
theorem offs_of {a : Addr} {tl l : List (Addr × Obj)} (h1 : Offs [a] tl) (h2 : Offs [a] l) : Offs [a] (tl ++ l) := fun d hd p hp => by
  rw [List.mem_singleton.mp hd]
  rcases List.mem_append.mp hp with hp | hp
  · exact h1 a (.head _) p hp
  · exact h2 a (.head _) p hp
theorem Offs.one {d : Addr} {ds : List Addr} {l : List (Addr × Obj)} (h : Offs ds l) (k : d ∈ ds) : Offs [d] l := fun e he p hp => by rw [List.mem_singleton.mp he]; exact h d k p hp
theorem offs_left {d : Addr} {tl l : List (Addr × Obj)} (h : Offs [d] (tl ++ l)) : Offs [d] tl := h.sub fun p hp => List.mem_append_left _ hp
theorem J2.start {pool R I : Addr} {oR oI : Obj} {vs : List Value} {ns : List Int} {n : Nat} {l : List (Addr × Obj)} (hi : IntsAre vs ns) (hl : ns.length ≤ 24) (h1 : @Ne Nat pool I) (h2 : @Ne Nat pool R) (h3 : Offs [pool] l) :
    J2 pool [R, I] ((I, oI) :: (R, oR) :: l) 0 [] ((pool, PySem.W.listOf vs.toArray n) :: ([] ++ (I, oI) :: (R, oR) :: l)) :=
  ⟨vs, ns, n, [], rfl, hi, hl, offs_cons (Ne.symm h1) (offs_cons (Ne.symm h2) h3), (fun _ _ _ h => nomatch h), rfl, [], .nil⟩
theorem two_in {R I : Addr} {oR oI : Obj} {l : List (Addr × Obj)} : ∀ d ∈ [R, I], ∃ o, (d, o) ∈ (I, oI) :: (R, oR) :: l := by
  intro d hd
  simp only [List.mem_cons, List.not_mem_nil, or_false] at hd
  rcases hd with rfl | rfl
  · exact ⟨_, .tail _ (.head _)⟩
  · exact ⟨_, .head _⟩
theorem offs_p3 {p I R : Addr} {oI oR : Obj} {tl l : List (Addr × Obj)} (h : Offs [p] (tl ++ (I, oI) :: (R, oR) :: l)) : Offs [p] (tl ++ (I, oI) :: l) := h.sub fun q hq => by grind
theorem JR.fin {h₀ h' : Heap} {L T6 Ta Tr D pool R I : Addr} {oa oD oI o0 : Obj} {vs vs0 ys rvs : List Value} {ns : List Int} {n n0 k' tk i : Nat} {tl2 tl base : List (Addr × Obj)} {l2 : List Int} {left lev line before : Int} {t1 t2 t3 t4 : Tok} {v : Value} {act : Dat} {rows : List Row} {m₀ : Str → Option Value} {a b c d : Option Value} {s₁ : Shared}
    (F : Fr h₀ L h' (fun y => if y = Str.ofString "right" then c else (fun y => if y = Str.ofString "turn" then d else setTwo m₀ a b y) y))
    (N : News h₀ L h' ((T6, ({ cls := .type "tuple", data := .seq [Value.int left t1, .ref Tr, .int lev t2, v, .int line t3, .int before t4].toArray } : Obj)) :: (Ta, oa) :: (Tr, ({ cls := .type "tuple", data := .seq ys.toArray } : Obj)) :: (D, oD) :: (pool, PySem.W.listOf vs.toArray n) :: (R, PySem.W.listOf (rvs.toArray.push (.ref T6)) k') :: (tl2 ++ (I, oI) :: (tl ++ base))))
    (l6 : @LT.lt Nat _ Ta T6 ∧ @LT.lt Nat _ Tr T6 ∧ @LT.lt Nat _ D T6 ∧ @LT.lt Nat _ pool T6 ∧ @LT.lt Nat _ R T6 ∧ AllLt T6 (tl2 ++ (I, oI) :: (tl ++ base)))
    (la : @LT.lt Nat _ Tr Ta ∧ @LT.lt Nat _ D Ta ∧ @LT.lt Nat _ pool Ta ∧ @LT.lt Nat _ R Ta ∧ AllLt Ta (tl2 ++ (I, oI) :: (tl ++ base)))
    (lr : @LT.lt Nat _ D Tr ∧ @LT.lt Nat _ pool Tr ∧ @LT.lt Nat _ R Tr ∧ AllLt Tr (tl2 ++ (I, oI) :: (tl ++ base)))
    (hp0 : pool ≠ D) (hR0 : R ≠ D) (hID : I ≠ D) (hI : ∀ p ∈ (pool, PySem.W.listOf vs0.toArray n0) :: (R, o0) :: (tl ++ base), p.1 ≠ I) (hOR2 : Offs [R, I] tl2) (hO2 : Offs [pool] (tl2 ++ (I, oI) :: (tl ++ base))) (hO : Offs [pool, R] (tl ++ base)) (hne : @Ne Nat pool R)
    (hi : IntsAre vs ns) (hl : ns.length ≤ 24) (hD : DatAll (tl ++ base) rvs (rows.map Row.dat)) (hrl : rows.length = 1 + i) (hro : RowsOk rows) (hdl : DatAll [] ys (l2.map Dat.int)) (hy3 : ys.length ≤ 3) (hv : DatIn [] v act) (hact : ActOk act) (hle : 7 ≤ left ∧ left ≤ 8) :
    ForPost h₀ L I oI (fun _ => True) (JR pool R base m₀ (i + 1)) s₁ .next { s₁ with heap := h', toks := tk } := by
  have hl2 : l2.length ≤ 3 := by have := hdl.length; rw [List.length_map] at this; omega
  have e : (rvs ++ [Value.ref T6]).toArray = rvs.toArray.push (.ref T6) := by simp
  have g6 := ltOf l6.2.2.2.2.2
  have ga := ltOf la.2.2.2.2
  have gr := ltOf lr.2.2.2
  have mI : (I, oI) ∈ tl2 ++ (I, oI) :: (tl ++ base) := List.mem_append_right _ (.head _)
  refine ⟨h', tk, _, (pool, PySem.W.listOf vs.toArray n) :: (R, PySem.W.listOf (rvs ++ [Value.ref T6]).toArray k') :: (((T6, ({ cls := .type "tuple", data := .seq [Value.int left t1, .ref Tr, .int lev t2, v, .int line t3, .int before t4].toArray } : Obj)) :: (Ta, oa) :: (Tr, ({ cls := .type "tuple", data := .seq ys.toArray } : Obj)) :: (D, oD) :: (tl2 ++ tl)) ++ base), rfl, F, ?_, ?_, trivial, vs, ns, n, rvs ++ [Value.ref T6], k', (T6, ({ cls := .type "tuple", data := .seq [Value.int left t1, .ref Tr, .int lev t2, v, .int line t3, .int before t4].toArray } : Obj)) :: (Ta, oa) :: (Tr, ({ cls := .type "tuple", data := .seq ys.toArray } : Obj)) :: (D, oD) :: (tl2 ++ tl), rows ++ [⟨left, l2, lev, act, line, before⟩], _, _, rfl, hi, hl, ?_, hne, ?_, ?_, hro.snoc ⟨hle.1, hle.2, hl2, hact⟩, setTwo_again _ _ _ _ _⟩
  · rw [e]
    exact news_sub N fun p hp => by grind
  · intro p hp
    simp only [List.mem_cons, List.mem_append, List.cons_append] at hp
    rcases hp with rfl | rfl | rfl | rfl | rfl | rfl | (hp | hp) | hp
    · exact hI (pool, PySem.W.listOf vs0.toArray n0) (.head _)
    · exact hI (R, o0) (.tail _ (.head _))
    · exact Nat.ne_of_gt (g6 _ mI)
    · exact Nat.ne_of_gt (ga _ mI)
    · exact Nat.ne_of_gt (gr _ mI)
    · exact fun q => hID q.symm
    · exact hOR2 I (.tail _ (.head _)) p hp
    · exact hI p (.tail _ (.tail _ (List.mem_append_left _ hp)))
    · exact hI p (.tail _ (.tail _ (List.mem_append_right _ hp)))
  · intro z hz p hp
    simp only [List.mem_cons, List.not_mem_nil, or_false] at hz
    simp only [List.mem_cons, List.mem_append, List.cons_append] at hp
    rcases hz with rfl | rfl
    · rcases hp with rfl | rfl | rfl | rfl | (hp | hp) | hp
      · exact Nat.ne_of_gt l6.2.2.2.1
      · exact Nat.ne_of_gt la.2.2.1
      · exact Nat.ne_of_gt lr.2.1
      · exact fun q => hp0 q.symm
      · exact hO2 _ (.head _) p (List.mem_append_left _ hp)
      · exact hO _ (.head _) p (List.mem_append_left _ hp)
      · exact hO _ (.head _) p (List.mem_append_right _ hp)
    · rcases hp with rfl | rfl | rfl | rfl | (hp | hp) | hp
      · exact Nat.ne_of_gt l6.2.2.2.2.1
      · exact Nat.ne_of_gt la.2.2.2.1
      · exact Nat.ne_of_gt lr.2.2.1
      · exact fun q => hR0 q.symm
      · exact hOR2 _ (.head _) p hp
      · exact hO _ (.tail _ (.head _)) p (List.mem_append_left _ hp)
      · exact hO _ (.tail _ (.head _)) p (List.mem_append_right _ hp)
  · rw [List.map_append]
    refine DatAll.append (hD.mono fun p hp => by grind) (.one ?_)
    exact .tuple (.head _) (.cons (.int _ _) (.cons (.tuple (.tail _ (.tail _ (.head _))) (hdl.mono (List.forall_mem_nil _))) (.cons (.int _ _) (.cons (hv.mono (List.forall_mem_nil _)) (.cons (.int _ _) (.cons (.int _ _) .nil))))))
  · rw [List.length_append, hrl]; simp; omega
theorem one_add {d : Int} (h : 0 ≤ d) : 0 ≤ 1 + d := by omega
theorem revL {prog : Program} {w : World} {A : Around} {E : Value → Shared → Prop} {s : Shared} {h₀ : Heap} {L : Addr} {m : Str → Option Value} {news : List (Addr × Obj)} {value slice : PySem.Expr} {l : Addr} {vs : List Value} {n : Nat} {u : Tok} {ops : List Value} {Q : Value → Shared → Prop} (F : Fr h₀ L s.heap m) (N : News h₀ L s.heap news) (hm : (l, PySem.W.listOf vs.toArray n) ∈ news) (hz : vs.length ≤ 64)
    (h : ∀ D h', Fr h₀ L h' m → News h₀ L h' ((D, PySem.W.listOf vs.reverse.toArray 0) :: news) → (∀ p ∈ news, p.1 < D) → Q (.ref D) { s with heap := h' })
    (hs : subscripted slice false (.ref l) (.ref s.heap.objs.size) = operate ops (getItem (.ref l) (.ref s.heap.objs.size))) :
    wpAny (model prog w) A (subscriptTail value slice (.ref l) (.ref s.heap.objs.size)) Q E { s with heap := s.heap.push { cls := .type "slice", data := .fields #[.none, .none, .int (-1) u] } } :=
  kba_turn (value' := PySem.Expr.Name (PySem.Str.ofString "_") ⟨0, 0, 0, 0⟩) (fun _ => rfl) (krv_lit F N (N.isList hm) (.int (-1) u) rfl h hs (fun _ => rfl) (by rw [List.size_toArray, sizeLine_eq]; omega))
def lev3 : List (Int × Dat) := [(4, .tuple [.int 1, .str (Str.ofString "left")]), (3, .tuple [.int 2, .str (Str.ofString "right")]), (1, .tuple [.int 2, .str (Str.ofString "right")])]
theorem lev3_shape : LevShape lev3 := by
  intro p hp
  simp only [lev3, List.mem_cons, List.not_mem_nil, or_false] at hp
  rcases hp with rfl | rfl | rfl <;> exact ⟨_, _, rfl⟩
theorem LevShape.sub {l l' : List (Int × Dat)} (h : LevShape l) (s : ∀ p ∈ l', p ∈ l) : LevShape l' := fun p hp => h p (s p hp)
theorem lev3_ok {d : Int} (h0 : 0 ≤ d) (h1 : d < 3) : LevOk (lev3.take (1 + d).toNat) ∧ LevOk (lev3.take (1 + d).toNat).reverse := by
  have : d = 0 ∨ d = 1 ∨ d = 2 := by omega
  rcases this with rfl | rfl | rfl
  · exact ⟨.inl ⟨_, rfl⟩, .inl ⟨_, rfl⟩⟩
  · exact ⟨.inr (.inl ⟨_, _, rfl⟩), .inr (.inr (.inl ⟨_, _, rfl⟩))⟩
  · exact ⟨.inr (.inr (.inr (.inl ⟨_, _, _, rfl⟩))), .inr (.inr (.inr (.inr ⟨_, _, _, rfl⟩)))⟩
theorem dats_take {led : List (Addr × Obj)} {vs : List Value} {ds : List Dat} (h : DatAll led vs ds) : ∀ k, DatAll led (vs.take k) (ds.take k) := by
  intro k
  induction k generalizing vs ds with
  | zero => exact .nil
  | succ k ih =>
    cases h with
    | nil => exact .nil
    | cons a b => exact .cons a (ih b)
theorem dats_rev {led : List (Addr × Obj)} : ∀ {vs : List Value} {ds : List Dat}, DatAll led vs ds → DatAll led vs.reverse ds.reverse
  | _, _, .nil => .nil
  | _, _, .cons a b => by
    rw [List.reverse_cons, List.reverse_cons]
    exact DatAll.append (dats_rev b) (.one a)
theorem no_tup {a p : Addr} {xs ys : Array Value} {n k : Nat} {R : Prop} (h : (a, ({ cls := .type "tuple", data := .seq xs n } : Obj)) = (p, PySem.W.listOf ys k) ∨ R) : R := by
  rcases h with h | h
  · injection h with _ h
    injection h with h
    revert h
    simp
  · exact h

/-- how the law stands when the levels are made -/
inductive LevCut (h₀ : Heap) (L : Addr) (m1 : Str → Option Value) (pool R : Addr) (rvs : List Value) (k : Nat) (rows : List Row) (cell : Addr × Obj) (s s' : Shared) : Prop
  | mk (h : _) (tk : _) (lA : _) (lvs : _) (n3 : _) (lev : _) (vs : _) (ns : _) (n : _) (rest : _)
    (h1 : s' = { s with heap := h, toks := tk })
    (h2 : Fr h₀ L h (fun y => if y = Str.ofString "levels" then some (.ref lA) else m1 y))
    (h3 : News h₀ L h ((pool, PySem.W.listOf vs.toArray n) :: rest))
    (h4 : IntsAre vs ns)
    (h5 : ns.length ≤ 24)
    (h6 : Offs [pool] rest)
    (h7 : (lA, PySem.W.listOf lvs.toArray n3) ∈ rest)
    (h8 : DatAll rest lvs (lev.map levDat))
    (h9 : LevOk lev)
    (h10 : (∀ p ∈ lev, p ∈ lev3))
    (h11 : (R, PySem.W.listOf rvs.toArray k) ∈ rest)
    (h12 : DatAll rest rvs (rows.map Row.dat))
    (h13 : cell ∈ rest) : LevCut h₀ L m1 pool R rvs k rows cell s s'
theorem lev_cut {M : Model} {A : Around} {E : Value → Shared → Prop} {s : Shared} {env : Env} {st : Stmt} {Q : Flow → Shared → Prop} {h₀ : Heap} {L D1 pool R : Addr} {m1 : Str → Option Value} {rvs : List Value} {k : Nat} {rows : List Row} {tl : List (Addr × Obj)} {x1 x2 x3 cell : Addr × Obj}
    (uF : Fr h₀ L s.heap (fun y => if y = Str.ofString "levels" then some (.ref D1) else m1 y)) (uhne : @Ne Nat pool R) (uhO : Offs [pool] (tl ++ [x1, x2, x3, cell])) (uhD : DatAll (tl ++ [x1, x2, x3, cell]) rvs (rows.map Row.dat))
    (h : wpAny M A (exec st env) (fun f s' => f = .next ∧ Halt (LevCut h₀ L m1 pool R rvs k rows cell s s')) E s) (kont : ∀ s', LevCut h₀ L m1 pool R rvs k rows cell s s' → Q .next s') : Halt (wpAny M A (exec st env) Q E s) :=
  wpAny_mono h (fun f s' q => by obtain ⟨rfl, q⟩ := q; exact kont s' q) fun _ _ e => e
theorem LevCut.make {h₀ h : Heap} {L : Addr} {m1 : Str → Option Value} {pool R lA : Addr} {rvs lvs vs : List Value} {ns : List Int} {k n n3 tk : Nat} {rows : List Row} {lev : List (Int × Dat)} {cell x1 x2 x3 : Addr × Obj} {s : Shared} {cur tl : List (Addr × Obj)} {g : Obj → List (Addr × Obj)}
    (F : Fr h₀ L h (fun y => if y = Str.ofString "levels" then some (.ref lA) else m1 y)) (N : News h₀ L h cur) (U : UpdF pool (PySem.W.listOf vs.toArray n) cur g) (hi : IntsAre vs ns) (hl : ns.length ≤ 24) (hm : (lA, PySem.W.listOf lvs.toArray n3) ∈ cur) (hne1 : lA ≠ pool)
    (hne : @Ne Nat pool R) (hR : (R, PySem.W.listOf rvs.toArray k) ∈ cur) (hO : Offs [pool] (tl ++ [x1, x2, x3, cell])) (hsub : ∀ p ∈ tl ++ [x1, x2, x3, cell], p ∈ cur) (hD : DatAll (tl ++ [x1, x2, x3, cell]) rvs (rows.map Row.dat)) (ok : LevOk lev) (sh : ∀ p ∈ lev, p ∈ lev3)
    (hL : ∀ rest, (∀ q ∈ cur, q = (pool, PySem.W.listOf vs.toArray n) ∨ q ∈ rest) → DatAll rest lvs (lev.map levDat)) : Halt (LevCut h₀ L m1 pool R rvs k rows cell s { s with heap := h, toks := tk }) := by
  obtain ⟨rest, r1, r2, r3⟩ := pull U
  refine ⟨h, tk, lA, lvs, n3, lev, vs, ns, n, rest, rfl, F, news_sub N r1, hi, hl, r3, no_off (r2 _ hm) hne1, hL rest r2, ok, sh, no_off (r2 _ hR) (Ne.symm hne), hD.mono fun p hp => no_off (r2 p (hsub p hp)) (hO pool (.head _) p hp), no_off (r2 _ (hsub _ ?_)) (hO pool (.head _) _ ?_)⟩
  · exact List.mem_append_right _ (.tail _ (.tail _ (.tail _ (.head _))))
  · exact List.mem_append_right _ (.tail _ (.tail _ (.tail _ (.head _))))
theorem lev_all {led : List (Addr × Obj)} {vals : List Value} (h : DatAll led vals (lev3.map levDat)) (j : Nat) : DatAll led (vals.take j) ((lev3.take j).map levDat) ∧ DatAll led (vals.take j).reverse ((lev3.take j).reverse.map levDat) := by
  have h1 : DatAll led (vals.take j) ((lev3.take j).map levDat) := by
    rw [List.map_take]
    exact dats_take h j
  refine ⟨h1, ?_⟩
  rw [List.map_reverse]
  exact dats_rev h1
theorem lev_take_sub {j : Nat} : ∀ p ∈ lev3.take j, p ∈ lev3 := fun _ hp => List.mem_of_mem_take hp
theorem lev_rev_sub {j : Nat} : ∀ p ∈ (lev3.take j).reverse, p ∈ lev3 := fun _ hp => List.mem_of_mem_take (List.mem_reverse.mp hp)
end
section
section
variable {prog : Program} {w : World} {A : Around} {E : Value → Shared → Prop} {s : Shared} {h₀ : Heap} {L : Addr} {news : List (Addr × Obj)} {v u : Value} {d e : Dat} {Q : Value → Shared → Prop}
open Classical in
theorem eqv_is (ok1 : kqdOk 8 d = true) (ok2 : kqdOk 8 e = true) : PyData.eqv (kqdP d) (kqdP e) = decide (d = e) := by
  have q := kqd_eqv 8 d e 8 ok1 ok2
  by_cases hq : d = e
  · rw [decide_eq_true hq]; exact q.mpr hq
  · rw [decide_eq_false hq]; exact Bool.eq_false_iff.mpr fun x => hq (q.mp x)
theorem shaped_of (ok1 : kqdOk 8 d = true) : SeqAt.shaped (kqdP d) = true := by
  have l := kqd_lay 8 d ok1
  unfold SeqAt.shaped; rw [l.1, Bool.true_and]; exact decide_eq_true (Nat.le_trans l.2 (by decide))
open Classical in
theorem dat_eq (N : News h₀ L s.heap news) (hv : DatIn news v d) (hu : DatIn news u e) (ok1 : kqdOk 8 d = true) (ok2 : kqdOk 8 e = true) (hun : A.units + 64 < cLine) (h : Q (.bool (decide (d = e))) s) : wpAny (model prog w) A (compareOp .Eq v u) Q E s := by
  obtain ⟨as, ra⟩ := kqd_in N 8 hv ok1
  obtain ⟨bs, rb⟩ := kqd_in N 8 hu ok2
  exact eq_dataH ra rb (shaped_of ok1) (shaped_of ok2) hun (by rw [eqv_is ok1 ok2]; exact h)
open Classical in
theorem dat_ne (N : News h₀ L s.heap news) (hv : DatIn news v d) (hu : DatIn news u e) (ok1 : kqdOk 8 d = true) (ok2 : kqdOk 8 e = true) (hun : A.units + 64 < cLine) (h : Q (.bool (!decide (d = e))) s) : wpAny (model prog w) A (compareOp .NotEq v u) Q E s := by
  obtain ⟨as, ra⟩ := kqd_in N 8 hv ok1
  obtain ⟨bs, rb⟩ := kqd_in N 8 hu ok2
  exact ne_dataH ra rb (shaped_of ok1) (shaped_of ok2) hun (by rw [eqv_is ok1 ok2]; exact h)
theorem dat_ne_same (N : News h₀ L s.heap news) (hv : DatIn news v d) (hu : DatIn news u d) (ok1 : kqdOk 8 d = true) (hun : A.units + 64 < cLine) (h : Q (.bool false) s) : wpAny (model prog w) A (compareOp .NotEq v u) Q E s :=
  dat_ne N hv hu ok1 ok1 hun (by simpa using h)
end
theorem GramAt.mono {w : World} {led led' : List (Addr × Obj)} {g : Addr} {P : Plan} (h : GramAt w led g P) (s : ∀ p ∈ led, p ∈ led') : GramAt w led' g P := by
  obtain ⟨gd, ks, nA, rA, lA, lo, ev, b1, b2, b3, b4, nvs, rvs, kvs, n1, n2, c, h1, h2, h3, h4, h5, h6, h7, h8, h9, h10, h11⟩ := h
  exact ⟨gd, ks, nA, rA, lA, lo, ev, b1, b2, b3, b4, nvs, rvs, kvs, n1, n2, c, s _ h1, s _ h2, s _ h3, h4.mono s, s _ h5, h6.mono s, s _ h7, h8, h9, h10.mono s, h11.mono s⟩

/-- what strings and data a plan bears -/
structure Nice (P : Plan) : Prop where
  names : ∀ n ∈ P.names, PyData.strOk n = true
  acts : ∀ r ∈ P.rows, ActOk r.act
  levs : ∀ p ∈ P.levels, ∃ i x, p.2 = Dat.tuple [.int i, .str x] ∧ PyData.strOk x = true
  expect : ExpOk P.expect
theorem act_ok {d : Dat} (h : ActOk d) (n : Nat) : kqdOk (n + 1) d = true := by
  rcases h with rfl | rfl | rfl
  · rfl
  · show PyData.strOk _ = true; decide +kernel
  · show PyData.strOk _ = true; decide +kernel
theorem exp_ok {d : Dat} (h : ExpOk d) (n : Nat) : kqdOk (n + 1) d = true := by
  rcases h with rfl | rfl | rfl <;> rfl
theorem mem_levIns {p q : Int × Dat} : ∀ {l : List (Int × Dat)}, q ∈ levIns p l → q = p ∨ q ∈ l
  | [], h => by simp [levIns] at h; exact .inl h
  | x :: l, h => by
    unfold levIns at h
    split at h
    · rcases List.mem_cons.mp h with h | h
      · exact .inl h
      · exact .inr h
    · rcases List.mem_cons.mp h with h | h
      · exact .inr (h ▸ .head _)
      · rcases mem_levIns h with h | h
        · exact .inl h
        · exact .inr (.tail _ h)
theorem mem_levSort {q : Int × Dat} : ∀ {l : List (Int × Dat)}, q ∈ levSort l → q ∈ l
  | [], h => h
  | x :: l, h => by
    rcases mem_levIns h with h | h
    · exact h ▸ .head _
    · exact .tail _ (mem_levSort h)
theorem levIns_ne {p : Int × Dat} {l : List (Int × Dat)} : levIns p l ≠ [] := by
  cases l with
  | nil => simp [levIns]
  | cons x l => unfold levIns; split <;> simp
theorem row_told_ok {r : Row} (h : ActOk r.act) : kqdOk 6 r.told = true := by
  have h1 : (r.right.map Dat.int).all (kqdOk 4) = true := by
    rw [List.all_map]
    exact List.all_eq_true.mpr fun _ _ => rfl
  have h2 := act_ok h 4
  have h3 : kqdOk 5 r.rdat = true := h1
  simp [Row.told, kqdOk, h2, h3]
theorem told_ok {P : Plan} (h : Nice P) : kqdOk 8 P.told = true := by
  have h1 : kqdOk 7 (.tuple (P.names.map Dat.str)) = true := by
    show (P.names.map Dat.str).all (kqdOk 6) = true
    rw [List.all_map]
    exact List.all_eq_true.mpr fun n hn => h.names n hn
  have h2 : kqdOk 7 (.tuple (P.rows.map Row.told)) = true := by
    show (P.rows.map Row.told).all (kqdOk 6) = true
    rw [List.all_map]
    exact List.all_eq_true.mpr fun r hr => row_told_ok (h.acts r hr)
  have h3 : kqdOk 7 (.tuple ((levSort P.levels).map levDat)) = true := by
    show ((levSort P.levels).map levDat).all (kqdOk 6) = true
    rw [List.all_map]
    refine List.all_eq_true.mpr fun p hp => ?_
    obtain ⟨i, x, e, hx⟩ := h.levs p (mem_levSort hp)
    show kqdOk 6 (levDat p) = true
    unfold levDat
    rw [e]
    simp [kqdOk, hx]
  have h4 := exp_ok h.expect 6
  unfold Plan.told
  show ([_, _, _, _, _, _].all (kqdOk 7)) = true
  simp only [List.all_cons, List.all_nil, h1, h2, h3, h4, Bool.and_true, Bool.true_and]
  rfl
theorem rows_list_ok {rows : List Row} (h : ∀ r ∈ rows, ActOk r.act) : kqdOk 8 (.list (rows.map Row.told)) = true := by
  show (rows.map Row.told).all (kqdOk 7) = true
  rw [List.all_map]
  refine List.all_eq_true.mpr fun r hr => ?_
  have h1 : (r.right.map Dat.int).all (kqdOk 5) = true := by
    rw [List.all_map]
    exact List.all_eq_true.mpr fun _ _ => rfl
  have h2 := act_ok (h r hr) 5
  have h3 : kqdOk 6 r.rdat = true := h1
  simp [Row.told, kqdOk, h2, h3]

theorem levTurn_sides {p : Int × Dat} {i : Int} {x : Str} (h : p.2 = .tuple [.int i, .str x]) : (levTurn p).2 = .tuple [.int i, .str (Str.ofString "nonassoc")] := by
  unfold levTurn
  rw [h]
theorem lev_differ {l : List (Int × Dat)} (hne : l ≠ []) (hs : ∀ p ∈ l, ∃ i x, p.2 = Dat.tuple [.int i, .str x] ∧ x ≠ Str.ofString "nonassoc") : (levSort l).map levDat ≠ (levSort (l.map levTurn)).map levDat := by
  intro h
  cases l with
  | nil => exact hne rfl
  | cons p l =>
    have h1 : levSort (p :: l) ≠ [] := levIns_ne
    obtain ⟨a, as, ha⟩ := List.exists_cons_of_ne_nil h1
    rw [ha] at h
    have hb : ∃ b bs, levSort ((p :: l).map levTurn) = b :: bs := List.exists_cons_of_ne_nil (by rw [List.map_cons]; exact levIns_ne)
    obtain ⟨b, bs, hb⟩ := hb
    rw [hb] at h
    simp only [List.map_cons] at h
    have hab : levDat a = levDat b := (List.cons.inj h).1
    obtain ⟨i, x, e1, e2⟩ := hs a (mem_levSort (by rw [ha]; exact .head _))
    have hbm : b ∈ (p :: l).map levTurn := mem_levSort (by rw [hb]; exact .head _)
    obtain ⟨q, hq, rfl⟩ := List.mem_map.mp hbm
    obtain ⟨j, y, e3, _⟩ := hs q hq
    unfold levDat at hab
    rw [e1, levTurn_sides e3] at hab
    injection hab with hab
    injection hab with _ hab
    injection hab with hab _
    injection hab with hab
    injection hab with _ hab
    injection hab with hab _
    injection hab with hab
    exact e2 hab
theorem names_inj : ∀ {l k : List Str}, l.map Dat.str = k.map Dat.str → l = k
  | [], [], _ => rfl
  | [], _ :: _, h => by simp at h
  | _ :: _, [], h => by simp at h
  | a :: l, b :: k, h => by
    simp only [List.map_cons] at h
    injection h with h1 h2
    injection h1 with h1
    rw [h1, names_inj h2]
theorem ints_inj : ∀ {l k : List Int}, l.map Dat.int = k.map Dat.int → l = k
  | [], [], _ => rfl
  | [], _ :: _, h => by simp at h
  | _ :: _, [], h => by simp at h
  | a :: l, b :: k, h => by
    simp only [List.map_cons] at h
    injection h with h1 h2
    injection h1 with h1
    rw [h1, ints_inj h2]
theorem told_inj {P P' : Plan} (h : P.told = P'.told) : P.names = P'.names ∧ P.rows.map Row.told = P'.rows.map Row.told ∧ (levSort P.levels).map levDat = (levSort P'.levels).map levDat ∧ P.expect = P'.expect ∧ P.start = P'.start := by
  unfold Plan.told at h
  injection h with h
  injection h with h1 h
  injection h with _ h
  injection h with h2 h
  injection h with h3 h
  injection h with h4 h
  injection h with h5 _
  injection h1 with h1
  injection h2 with h2
  injection h3 with h3
  injection h5 with h5
  exact ⟨names_inj h1, h2, h3, h4, h5⟩
theorem row_told_inj {r r' : Row} (h : r.told = r'.told) : r.left = r'.left ∧ r.right = r'.right ∧ r.lev = r'.lev ∧ r.act = r'.act ∧ r.before = r'.before := by
  unfold Row.told Row.rdat at h
  injection h with h
  injection h with h1 h
  injection h with h2 h
  injection h with h3 h
  injection h with h4 h
  injection h with h5 _
  injection h1 with h1
  injection h2 with h2
  injection h3 with h3
  injection h5 with h5
  exact ⟨h1, ints_inj h2, h3, h4, h5⟩
/-- the plain law: two plans are told alike exactly if they differ in nothing but a line -/
theorem plain_law {P P' : Plan} {way : Int} (hT : Turned P way P') (hw : 0 ≤ way ∧ way < 11) (hA : P.names[3]? = some (Str.ofString "A")) (hn9 : P.names.length = 9) (hne : P.levels ≠ [])
    (hs : ∀ p ∈ P.levels, ∃ i x, p.2 = Dat.tuple [.int i, .str x] ∧ x ≠ Str.ofString "nonassoc") : P.told = P'.told ↔ way < 2 := by
  obtain ⟨⟨k, r, r', hr, h4, hrows, hrt⟩, hn, hl, he, hst⟩ := hT
  obtain ⟨t1, t2, t3, t4, t5, t6⟩ := hrt
  have hk : k < P.rows.length := (List.getElem?_eq_some_iff.mp hr).1
  constructor
  · intro h
    obtain ⟨e1, e2, e3, e4, e5⟩ := told_inj h
    have hrr : r.told = r'.told := by
      have := congrArg (fun l => l[k]?) e2
      simp only [List.getElem?_map, hr, hrows] at this
      rw [List.getElem?_append_right (by rw [List.length_take]; omega)] at this
      rw [List.length_take, Nat.min_eq_left (by omega), Nat.sub_self] at this
      simpa using this
    obtain ⟨q1, q2, q3, q4, q5⟩ := row_told_inj hrr
    have hways : way = 0 ∨ way = 1 ∨ way = 2 ∨ way = 3 ∨ way = 4 ∨ way = 5 ∨ way = 6 ∨ way = 7 ∨ way = 8 ∨ way = 9 ∨ way = 10 := by omega
    rcases hways with rfl | rfl | rfl | rfl | rfl | rfl | rfl | rfl | rfl | rfl | rfl
    · decide
    · decide
    · exfalso
      rw [if_pos rfl] at hn
      rw [hn] at e1
      have := congrArg (fun l => l[3]?) e1
      simp only [hA] at this
      rw [List.getElem?_append_right (by rw [List.length_take]; omega), List.length_take, Nat.min_eq_left (by omega)] at this
      simp at this
      revert this
      decide
    · exfalso
      rw [if_pos rfl] at t2
      rw [t2] at q2
      have := congrArg List.length q2
      simp at this
    · exfalso
      rw [if_pos rfl] at t1
      omega
    · exfalso
      rw [if_pos rfl] at t4
      rcases t4 with ⟨a, b⟩ | ⟨a, b⟩
      · rw [a, b] at q4; cases q4
      · exact a (q4.trans b)
    · exfalso
      rw [if_pos rfl] at t3
      omega
    · exfalso
      rw [if_pos rfl] at t6
      omega
    · exfalso
      rw [if_pos rfl] at hl
      rw [hl] at e3
      exact lev_differ hne hs e3
    · exfalso
      rw [if_pos rfl] at he
      rcases he with ⟨a, b⟩ | ⟨a, b⟩
      · rw [a, b] at e4; cases e4
      · exact a (e4.trans b)
    · exfalso
      rw [if_pos rfl] at hst
      omega
  · intro hlt
    have h2 : way ≠ 2 ∧ way ≠ 3 ∧ way ≠ 4 ∧ way ≠ 5 ∧ way ≠ 6 ∧ way ≠ 7 ∧ way ≠ 8 ∧ way ≠ 9 ∧ way ≠ 10 := by omega
    obtain ⟨w2, w3, w4, w5, w6, w7, w8, w9, w10⟩ := h2
    rw [if_neg w4] at t1
    rw [if_neg w3] at t2
    rw [if_neg w6] at t3
    rw [if_neg w5] at t4
    rw [if_neg w7] at t6
    rw [if_neg w2] at hn
    rw [if_neg w8] at hl
    rw [if_neg w9] at he
    rw [if_neg w10] at hst
    have hrr : r'.told = r.told := by
      unfold Row.told Row.rdat
      rw [t1, t2, t3, t4, t6]
    have hre : P'.rows.map Row.told = P.rows.map Row.told := by
      rw [hrows, List.map_append, List.map_cons, hrr]
      have e : P.rows = P.rows.take k ++ (r :: P.rows.drop (k + 1)) := by
        have : r = P.rows[k] := by rw [List.getElem?_eq_getElem hk] at hr; exact (Option.some.inj hr).symm
        rw [this, List.getElem_cons_drop, List.take_append_drop]
      conv => rhs; rw [e, List.map_append, List.map_cons]
    unfold Plan.told
    rw [hn, hl, he, hst, hre]

theorem turned_ok {P P' : Plan} {way : Int} (hT : Turned P way P') (ok : P.Ok) (nice : Nice P) (hro : RowsOk P.rows) : P'.Ok ∧ Nice P' := by
  obtain ⟨⟨k, r, r', hr, h4, hrows, hrt⟩, hn, hl, he, hst⟩ := hT
  obtain ⟨t1, t2, t3, t4, t5, t6⟩ := hrt
  have hk : k < P.rows.length := (List.getElem?_eq_some_iff.mp hr).1
  have hmem : ∀ q ∈ P'.rows, q = r' ∨ q ∈ P.rows := by
    intro q hq
    rw [hrows] at hq
    rcases List.mem_append.mp hq with hq | hq
    · exact .inr (List.mem_of_mem_take hq)
    · rcases List.mem_cons.mp hq with hq | hq
      · exact .inl hq
      · exact .inr (List.mem_of_mem_drop hq)
  have hlen : P'.rows.length = P.rows.length := by
    rw [hrows, List.length_append, List.length_cons, List.length_take, List.length_drop]
    omega
  have hrm := List.mem_of_getElem? hr
  have hr3 : r.right.length ≤ 3 ∧ (k ≠ 0 → 7 ≤ r.left ∧ r.left ≤ 8) := by
    obtain ⟨r0, rest, e, h1, h2, h3, h5⟩ := hro
    rw [e] at hr
    cases k with
    | zero =>
      simp at hr
      subst hr
      exact ⟨h2, fun h => absurd rfl h⟩
    | succ k =>
      have := h5 r (List.mem_of_getElem? (by simpa using hr))
      exact ⟨this.2.2.1, fun _ => ⟨this.1, this.2.1⟩⟩
  have hact : ActOk r'.act := by
    have ha := nice.acts r hrm
    split at t4
    · rcases t4 with ⟨_, b⟩ | ⟨_, b⟩
      · rw [b]; exact .inl rfl
      · rw [b]; exact .inr (.inl rfl)
    · rw [t4]; exact ha
  constructor
  · refine ⟨?_, by rw [hlen]; exact ok.rows, fun q hq => ?_, fun q hq => ?_, ?_⟩
    · rw [hn]
      split
      · rw [List.length_append, List.length_cons, List.length_take, List.length_drop, ok.names]; decide
      · exact ok.names
    · rcases hmem q hq with rfl | hq
      · rw [t2]
        split
        · rw [List.length_append]; simp; omega
        · exact ok.right r hrm
      · exact ok.right q hq
    · rcases hmem q hq with rfl | hq
      · rw [t1]
        split
        · next e => have := hr3.2 (h4 e); omega
        · exact ok.left r hrm
      · exact ok.left q hq
    · rw [hl]
      split
      · rcases ok.levs with ⟨a, e⟩ | ⟨a, b, e⟩ | ⟨a, b, e⟩ | ⟨a, b, c, e⟩ | ⟨a, b, c, e⟩ <;> rw [e]
        · exact .inl ⟨_, rfl⟩
        · exact .inr (.inl ⟨_, _, rfl⟩)
        · exact .inr (.inr (.inl ⟨_, _, rfl⟩))
        · exact .inr (.inr (.inr (.inl ⟨_, _, _, rfl⟩)))
        · exact .inr (.inr (.inr (.inr ⟨_, _, _, rfl⟩)))
      · exact ok.levs
  · refine ⟨fun n hn' => ?_, fun q hq => ?_, fun p hp => ?_, ?_⟩
    · rw [hn] at hn'
      split at hn'
      · rcases List.mem_append.mp hn' with h | h
        · exact nice.names n (List.mem_of_mem_take h)
        · rcases List.mem_cons.mp h with h | h
          · rw [h]; decide +kernel
          · exact nice.names n (List.mem_of_mem_drop h)
      · exact nice.names n hn'
    · rcases hmem q hq with rfl | hq
      · exact hact
      · exact nice.acts q hq
    · rw [hl] at hp
      split at hp
      · obtain ⟨q, hq, rfl⟩ := List.mem_map.mp hp
        obtain ⟨i, x, e, _⟩ := nice.levs q hq
        exact ⟨i, _, levTurn_sides e, by decide +kernel⟩
      · exact nice.levs p hp
    · split at he
      · rcases he with ⟨_, b⟩ | ⟨_, b⟩
        · rw [b]; exact .inr (.inl rfl)
        · rw [b]; exact .inl rfl
      · rw [he]; exact nice.expect

def names9 : List Str := [Str.ofString "$end", Str.ofString "error", Str.ofString "$undefined", Str.ofString "A", Str.ofString "B", Str.ofString "C", Str.ofString "$accept", Str.ofString "s", Str.ofString "t"]
theorem names9_ok : ∀ n ∈ names9, PyData.strOk n = true := by
  intro n hn
  simp only [names9, List.mem_cons, List.not_mem_nil, or_false] at hn
  rcases hn with rfl | rfl | rfl | rfl | rfl | rfl | rfl | rfl | rfl <;> decide +kernel
/-- the facts of the plan that the law makes -/
theorem made_plan {rows : List Row} {lev : List (Int × Dat)} {ex : Dat} {st : Int} (hro : RowsOk rows) (hrl : rows.length ≤ 4) (lok : LevOk lev) (hx : ExpOk ex) (sub : ∀ p ∈ lev, p ∈ lev3) :
    (Plan.mk names9 rows lev ex st).Ok ∧ Nice (Plan.mk names9 rows lev ex st) ∧ (∀ r ∈ rows, r.right.length ≤ 4 ∧ ActOk r.act) ∧ lev ≠ [] ∧ ∀ p ∈ lev, ∃ i x, p.2 = Dat.tuple [.int i, .str x] ∧ x ≠ Str.ofString "nonassoc" := by
  have hall : ∀ r ∈ rows, r.right.length ≤ 3 ∧ ActOk r.act ∧ 6 ≤ r.left ∧ r.left ≤ 8 := by
    obtain ⟨r0, rest, rfl, h1, h2, h3, h5⟩ := hro
    intro r hr
    rcases List.mem_cons.mp hr with rfl | hr
    · exact ⟨h2, h3, by omega, by omega⟩
    · obtain ⟨a, b, c, d⟩ := h5 r hr
      exact ⟨c, d, by omega, b⟩
  have hl3 : ∀ p ∈ lev3, ∃ i x, p.2 = Dat.tuple [.int i, .str x] ∧ PyData.strOk x = true ∧ x ≠ Str.ofString "nonassoc" := by
    intro p hp
    simp only [lev3, List.mem_cons, List.not_mem_nil, or_false] at hp
    rcases hp with rfl | rfl | rfl <;> exact ⟨_, _, rfl, by decide +kernel, by decide⟩
  refine ⟨⟨rfl, hrl, fun r hr => Nat.le_succ_of_le (hall r hr).1, fun r hr => (hall r hr).2.2, lok⟩, ⟨names9_ok, fun r hr => (hall r hr).2.1, fun p hp => ?_, hx⟩, fun r hr => ⟨Nat.le_succ_of_le (hall r hr).1, (hall r hr).2.1⟩, ?_, fun p hp => ?_⟩
  · obtain ⟨i, x, e, h1, _⟩ := hl3 p (sub p hp)
    exact ⟨i, x, e, h1⟩
  · rcases lok with ⟨a, e⟩ | ⟨a, b, e⟩ | ⟨a, b, e⟩ | ⟨a, b, c, e⟩ | ⟨a, b, c, e⟩ <;> (rw [e]; simp)
  · obtain ⟨i, x, e, _, h2⟩ := hl3 p (sub p hp)
    exact ⟨i, x, e, h2⟩
theorem plan_mk {w : World} {h₀ h : Heap} {L : Addr} {a p0 : Addr × Obj} {pd ln R lA : Addr} {o : Obj} {v : Value} {ex : Dat} {st : Int} {t t0 t1 t2 t3 t4 t5 t6 t7 t8 : Tok} {rest : List (Addr × Obj)} {rvs lvs : List Value} {n k n3 : Nat} {rows : List Row} {lev : List (Int × Dat)}
    (uN : News h₀ L h (a :: (pd, o) :: (ln, PySem.W.listOf [Value.str (Str.ofString "$end") t0, .str (Str.ofString "error") t1, .str (Str.ofString "$undefined") t2, .str (Str.ofString "A") t3, .str (Str.ofString "B") t4, .str (Str.ofString "C") t5, .str (Str.ofString "$accept") t6, .str (Str.ofString "s") t7, .str (Str.ofString "t") t8].toArray n) :: p0 :: rest))
    (hd : o.IsDictOf (PySem.strKind PROG w) [(Str.ofString "names", .ref ln), (Str.ofString "rules", .ref R), (Str.ofString "levels", .ref lA), (Str.ofString "expect", v), (Str.ofString "start", .int st t)])
    (hR : (R, PySem.W.listOf rvs.toArray k) ∈ rest) (hRD : DatAll rest rvs (rows.map Row.dat)) (hl : (lA, PySem.W.listOf lvs.toArray n3) ∈ rest) (hlD : DatAll rest lvs (lev.map levDat)) (hv : DatIn [] v ex) :
    PlanAt w (a :: (pd, o) :: (ln, PySem.W.listOf [Value.str (Str.ofString "$end") t0, .str (Str.ofString "error") t1, .str (Str.ofString "$undefined") t2, .str (Str.ofString "A") t3, .str (Str.ofString "B") t4, .str (Str.ofString "C") t5, .str (Str.ofString "$accept") t6, .str (Str.ofString "s") t7, .str (Str.ofString "t") t8].toArray n) :: rest) pd ⟨names9, rows, lev, ex, st⟩ := by
  have s : ∀ p ∈ rest, p ∈ a :: (pd, o) :: (ln, PySem.W.listOf [Value.str (Str.ofString "$end") t0, .str (Str.ofString "error") t1, .str (Str.ofString "$undefined") t2, .str (Str.ofString "A") t3, .str (Str.ofString "B") t4, .str (Str.ofString "C") t5, .str (Str.ofString "$accept") t6, .str (Str.ofString "s") t7, .str (Str.ofString "t") t8].toArray n) :: rest := fun p hp => .tail _ (.tail _ (.tail _ hp))
  exact ⟨o, ln, R, lA, v, t, _, rvs, lvs, n, k, n3, .tail _ (.head _), hd, .tail _ (.tail _ (.head _)), .cons (.str _ _) (.cons (.str _ _) (.cons (.str _ _) (.cons (.str _ _) (.cons (.str _ _) (.cons (.str _ _) (.cons (.str _ _) (.cons (.str _ _) (.cons (.str _ _) .nil)))))))), s _ hR, hRD.mono s, s _ hl, hlD.mono s, hv.mono (List.forall_mem_nil _)⟩
theorem front_tl4 {h₀ h : Heap} {L : Addr} {a b c p : Addr × Obj} {tl rest : List (Addr × Obj)} (N : News h₀ L h (tl ++ a :: b :: c :: p :: rest)) : News h₀ L h (p :: (tl ++ a :: b :: c :: rest)) := news_sub N fun q hq => by grind
theorem offs_t4 {a b c : Addr × Obj} {p : Addr} {o : Obj} {tl rest : List (Addr × Obj)} (h : Apart (a :: b :: c :: (p, o) :: rest) tl) (h1 : a.1 ≠ p) (h2 : b.1 ≠ p) (h3 : c.1 ≠ p) (k : Offs [p] rest) : Offs [p] (tl ++ a :: b :: c :: rest) :=
  offs_of (fun d hd q hq => by rw [List.mem_singleton.mp hd]; exact h (p, o) (.tail _ (.tail _ (.tail _ (.head _)))) q hq) (offs_cons h1 (offs_cons h2 (offs_cons h3 k)))
theorem sub4 {a b c p : Addr × Obj} {rest : List (Addr × Obj)} : ∀ q ∈ a :: b :: c :: rest, q ∈ a :: b :: c :: p :: rest := fun q hq => by grind
theorem pack {w : World} {h₀ h : Heap} {L : Addr} {led : List (Addr × Obj)} {g g2 p p2 R : Addr} {P P2 : Plan} {rvs : List Value} {k : Nat} {ds : List Dat} (N : News h₀ L h led) (h1 : GramAt w led g P) (h2 : GramAt w led g2 P2) (h3 : PlanAt w led p P) (h4 : PlanAt w led p2 P2) (h5 : (R, PySem.W.listOf rvs.toArray k) ∈ led) (h6 : DatAll led rvs ds) :
    ∃ cur, News h₀ L h cur ∧ GramAt w cur g P ∧ GramAt w cur g2 P2 ∧ PlanAt w cur p P ∧ PlanAt w cur p2 P2 ∧ (R, PySem.W.listOf rvs.toArray k) ∈ cur ∧ DatAll cur rvs ds := ⟨led, N, h1, h2, h3, h4, h5, h6⟩
end
theorem rst10 : True ∧ True := by (try walk1) <;> first | trivial | exact ⟨trivial, trivial⟩
section
local macro_rules | `(tactic| walk_at "exec For Name Call cons nil") => `(tactic| (k_here; k_dflt (refine' forH ?F ?_ ?hs ?hE; (case F => k_asm); (case hs => (intro _; rfl)); (case hE => passes_own))))
local macro_rules | `(tactic| walk_at "subscriptTail Tuple") => `(tactic| (k_here; refine halt_of ?_))
local macro_rules | `(tactic| walk_at "subscriptTail Name Slice ref ref") => `(tactic| (k_here; (with_reducible show wpAny _ _ (subscriptTail _ (PySem.Expr.Slice none none _ _) _ _) _ _ _); refine halt_of ?_))
local macro_rules | `(tactic| walk_at "compareOp NotEq ref ref") => `(tactic| (k_here; refine halt_of ?_))
set_option maxRecDepth 100000 in
set_option maxHeartbeats 8000000 in
theorem law_t : PySem.Challenge.rw_pq0569_01.Holds := by
  w_top off
  refine hd ?_
  k_go0
  all_goals try k_fold
  (k_steps; (repeat ((refine un_halt ?_); (first | (k_here; (with_reducible show wpAny _ _ (call (Value.ref 144) [Value.ref _, Value.int _ _]) _ _ _); k_dflt (refine take_u (by k_asm) (by k_asm) (by k_asm) (by k_asm) (by k_asm) (by first | exact rfl | assumption) (by k_updF) (by with_reducible assumption) (by first | with_reducible assumption | exact map_take24) (by decide) (by decide) (by ktr_room) (by ktr_units) ?_); intro d' t' vs' ns' n' h' tk' d0' d1' hI' hl' F' N'; (try dsimp only at N'); (try k_sweep)) | (k_here; (with_reducible show wpAny _ _ (call (Value.type _) [Value.ref _]) _ _ _); k_dflt (refine tupOf (by k_asm) (by k_asm) (by k_mem) (by omega) ?_); intro D' h' F' N' l1; (have l1r := l1); (try k_lt l1); (try k_sweep)) | (k_here; (with_reducible show wpAny _ _ (binaryOp _ (Value.ref _) (Value.ref _)) _ _ _); k_dflt (refine addL (by k_asm) (by k_asm) (by k_mem) (by k_mem) (by (simp only [List.length_append, List.length_take, List.length_drop, List.length_cons, List.length_nil]; omega)) ?_); intro D' h' F' N' l1; (have l1r := l1); (try k_lt l1); (try k_sweep)) | (k_here; k_dflt (refine kda_set (knd := PySem.strKind _ _) (by k_asm) (by k_asm) (by k_updF) (by with_reducible assumption) (strKind_is _ _ _ _) (by (rw [sizeLine_eq]; exact Nat.le_of_ble_eq_true (by with_unfolding_all rfl))) ?_); intro h' o' F' N' hd'; (try dsimp only at N'); (first | rw [stored_rules] at hd' | rw [stored_names] at hd' | rw [stored_levels] at hd' | rw [stored_expect] at hd' | rw [stored_start] at hd'); (try k_sweep))); k_steps)))
  rename (IsRange _ _ 0 _ 1 _ _ _) => hrg
  have hok : ∀ d : Int, 0 ≤ d → d < 3 → Builtin.Range.small 0 (1 + d) 1 = true ∧ Builtin.Range.rangeSize 0 (1 + d) 1 = (((1 + d).toNat : Nat) : Int) := fun d h0 h1 => range_ok (by omega) (by omega)
  refine for_range (J := JR _ _ [_, _, _, _] _) (by rfl) (by assumption) (perm6 (by assumption)) hrg (hok _ (by assumption) (by assumption)).1 (hok _ (by assumption) (by assumption)).2
    ⟨_, _, _, [_], _, [], [row0], _, _, rfl, by assumption, by assumption, offs_two (by intro p hp; simp only [List.mem_cons, List.not_mem_nil, or_false, List.nil_append] at hp; rcases hp with rfl | rfl | rfl | rfl <;> (refine neN ?_; dsimp only; omega)) (by intro p hp; simp only [List.mem_cons, List.not_mem_nil, or_false, List.nil_append] at hp; rcases hp with rfl | rfl | rfl | rfl <;> (refine neN ?_; dsimp only; omega)), by omega, .cons (.tuple (.head _) (.cons (.int _ _) (.cons (.tuple (.tail _ (.head _)) (.cons (.int _ _) (.cons (.int _ _) .nil))) (.cons (.int _ _) (.cons .none (.cons (.int _ _) (.cons (.int _ _) .nil))))))) .nil, rfl, rows0, setTwo_same _⟩ ?_ ?_
  · intro i t m₁ news₁ h tk I oI hin hI hJ F N
    obtain ⟨vs, ns, n, rvs, k, tl, rows, a, b, rfl, hi, hl, hO, hne, hD, hrl, hro, rfl⟩ := hJ
    have hOp := offs_one hO
    have hOR := offs_snd hO
    have hIp : @Ne Nat _ I := hI _ (.head _)
    have hIR : @Ne Nat _ I := hI _ (.tail _ (.head _))
    (k_steps; (repeat ((refine un_halt ?_); (first | (k_here; (with_reducible show wpAny _ _ (call (Value.ref 144) [Value.ref _, Value.int _ _]) _ _ _); k_dflt (refine take_u (by k_asm) (by k_asm) (by k_asm) (by k_asm) (by k_asm) (by first | exact rfl | assumption) (by k_updF) (by with_reducible assumption) (by first | with_reducible assumption | exact map_take24) (by decide) (by decide) (by ktr_room) (by ktr_units) ?_); intro d' t' vs' ns' n' h' tk' d0' d1' hI' hl' F' N'; (try dsimp only at N'); (try k_sweep)) | (k_here; (with_reducible show wpAny _ _ (call (Value.type _) [Value.ref _]) _ _ _); k_dflt (refine tupOf (by k_asm) (by k_asm) (by k_mem) (by omega) ?_); intro D' h' F' N' l1; (have l1r := l1); (try k_lt l1); (try k_sweep)) | (k_here; (with_reducible show wpAny _ _ (binaryOp _ (Value.ref _) (Value.ref _)) _ _ _); k_dflt (refine addL (by k_asm) (by k_asm) (by k_mem) (by k_mem) (by (simp only [List.length_append, List.length_take, List.length_drop, List.length_cons, List.length_nil]; omega)) ?_); intro D' h' F' N' l1; (have l1r := l1); (try k_lt l1); (try k_sweep)) | (k_here; k_dflt (refine kda_set (knd := PySem.strKind _ _) (by k_asm) (by k_asm) (by k_updF) (by with_reducible assumption) (strKind_is _ _ _ _) (by (rw [sizeLine_eq]; exact Nat.le_of_ble_eq_true (by with_unfolding_all rfl))) ?_); intro h' o' F' N' hd'; (try dsimp only at N'); (first | rw [stored_rules] at hd' | rw [stored_names] at hd' | rw [stored_levels] at hd' | rw [stored_expect] at hd' | rw [stored_start] at hd'); (try k_sweep))); k_steps)))
    refine comp_range (J := J2 _ _ _) (by rfl) (by assumption) (news_front (by assumption)) (by assumption) (range_ok (by assumption) (Int.le_of_lt (by assumption))).1 (range_ok (by assumption) (Int.le_of_lt (by assumption))).2 (by omega)
      (J2.start (by assumption) (by assumption) hIp hne hOp) ?_ ?_
    · intro i2 v ys nw I2 oI2 C oC D m₂ h tk E' hi9 hv hJ hC hx F N off ne
      obtain ⟨vs2, ns2, n2, tl2, rfl, hi2, hl2, hO2, hOR2, hyl, l2, hdl⟩ := hJ
      have off1 := off.1
      (k_steps; (repeat ((refine un_halt ?_); (first | (k_here; (with_reducible show wpAny _ _ (call (Value.ref 144) [Value.ref _, Value.int _ _]) _ _ _); k_dflt (refine take_u (by k_asm) (by k_asm) (by k_asm) (by k_asm) (by k_asm) (by first | exact rfl | assumption) (by k_updF) (by with_reducible assumption) (by first | with_reducible assumption | exact map_take24) (by decide) (by decide) (by ktr_room) (by ktr_units) ?_); intro d' t' vs' ns' n' h' tk' d0' d1' hI' hl' F' N'; (try dsimp only at N'); (try k_sweep)) | (k_here; (with_reducible show wpAny _ _ (call (Value.type _) [Value.ref _]) _ _ _); k_dflt (refine tupOf (by k_asm) (by k_asm) (by k_mem) (by omega) ?_); intro D' h' F' N' l1; (have l1r := l1); (try k_lt l1); (try k_sweep)) | (k_here; (with_reducible show wpAny _ _ (binaryOp _ (Value.ref _) (Value.ref _)) _ _ _); k_dflt (refine addL (by k_asm) (by k_asm) (by k_mem) (by k_mem) (by (simp only [List.length_append, List.length_take, List.length_drop, List.length_cons, List.length_nil]; omega)) ?_); intro D' h' F' N' l1; (have l1r := l1); (try k_lt l1); (try k_sweep)) | (k_here; k_dflt (refine kda_set (knd := PySem.strKind _ _) (by k_asm) (by k_asm) (by k_updF) (by with_reducible assumption) (strKind_is _ _ _ _) (by (rw [sizeLine_eq]; exact Nat.le_of_ble_eq_true (by with_unfolding_all rfl))) ?_); intro h' o' F' N' hd'; (try dsimp only at N'); (first | rw [stored_rules] at hd' | rw [stored_names] at hd' | rw [stored_levels] at hd' | rw [stored_expect] at hd' | rw [stored_start] at hd'); (try k_sweep))); k_steps)))
      (refine un_halt ?_; (k_here; k_dflt (refine' tupInts ?Nq4 ?Mq4 ?aq4 ?bq4 ?eq4 ?zq4 ?lq4 ?_ ?hsq4; (case Nq4 => k_asm); (case Mq4 => k_mem); (case aq4 => with_reducible assumption); (case bq4 => with_reducible assumption); (case eq4 => rfl); (case zq4 => exact Nat.le_of_ble_eq_true rfl); (case lq4 => exact ints5); (case hsq4 => with_unfolding_all rfl)); intro x' t'))
      (k_steps; (repeat ((refine un_halt ?_); (first | (k_here; (with_reducible show wpAny _ _ (call (Value.ref 144) [Value.ref _, Value.int _ _]) _ _ _); k_dflt (refine take_u (by k_asm) (by k_asm) (by k_asm) (by k_asm) (by k_asm) (by first | exact rfl | assumption) (by k_updF) (by with_reducible assumption) (by first | with_reducible assumption | exact map_take24) (by decide) (by decide) (by ktr_room) (by ktr_units) ?_); intro d' t' vs' ns' n' h' tk' d0' d1' hI' hl' F' N'; (try dsimp only at N'); (try k_sweep)) | (k_here; (with_reducible show wpAny _ _ (call (Value.type _) [Value.ref _]) _ _ _); k_dflt (refine tupOf (by k_asm) (by k_asm) (by k_mem) (by omega) ?_); intro D' h' F' N' l1; (have l1r := l1); (try k_lt l1); (try k_sweep)) | (k_here; (with_reducible show wpAny _ _ (binaryOp _ (Value.ref _) (Value.ref _)) _ _ _); k_dflt (refine addL (by k_asm) (by k_asm) (by k_mem) (by k_mem) (by (simp only [List.length_append, List.length_take, List.length_drop, List.length_cons, List.length_nil]; omega)) ?_); intro D' h' F' N' l1; (have l1r := l1); (try k_lt l1); (try k_sweep)) | (k_here; k_dflt (refine kda_set (knd := PySem.strKind _ _) (by k_asm) (by k_asm) (by k_updF) (by with_reducible assumption) (strKind_is _ _ _ _) (by (rw [sizeLine_eq]; exact Nat.le_of_ble_eq_true (by with_unfolding_all rfl))) ?_); intro h' o' F' N' hd'; (try dsimp only at N'); (first | rw [stored_rules] at hd' | rw [stored_names] at hd' | rw [stored_levels] at hd' | rw [stored_expect] at hd' | rw [stored_start] at hd'); (try k_sweep))); k_steps)))
      exact J2.fin (by assumption) (by assumption) (by assumption) off (by assumption) (by assumption) hO2 hOR2 two_in hyl hdl
    · intro g' ys nw hJ
      obtain ⟨vs2, ns2, n2, tl2, rfl, hi2, hl2, hO2, hOR2, hyl, l2, hdl⟩ := hJ
      unfold LCg.FinE
      intro D h tk F N o1
      have N2 := news_p3 N
      have hp0 : @Ne Nat _ D := o1.1
      have hR0 : @Ne Nat _ D := off1_mem o1 _ (.tail _ (List.mem_append_right _ (.tail _ (.head _))))
      have hOpp := offs_p3 hO2
      have hORR := offs_of (hOR2.one (.head _)) (offs_cons (x := (I, oI)) (Ne.symm hIR) hOR)
      have hy3 : ys.length ≤ 3 := by omega
      have hz64 : rvs.toArray.size ≤ 64 := by rw [List.size_toArray, hD.length, List.length_map, hrl]; omega
      clear N
      have hI0 : @Ne Nat I D := off1_mem o1 (I, oI) (.tail _ (List.mem_append_right _ (.head _)))
      have hle : ∀ d : Int, 0 ≤ d → d < 2 → 7 ≤ 7 + d ∧ 7 + d ≤ 8 := fun d h0 h1 => by omega
      (k_steps; (repeat ((refine un_halt ?_); (first | (k_here; (with_reducible show wpAny _ _ (call (Value.ref 144) [Value.ref _, Value.int _ _]) _ _ _); k_dflt (refine take_u (by k_asm) (by k_asm) (by k_asm) (by k_asm) (by k_asm) (by first | exact rfl | assumption) (by k_updF) (by with_reducible assumption) (by first | with_reducible assumption | exact map_take24) (by decide) (by decide) (by ktr_room) (by ktr_units) ?_); intro d' t' vs' ns' n' h' tk' d0' d1' hI' hl' F' N'; (try dsimp only at N'); (try k_sweep)) | (k_here; (with_reducible show wpAny _ _ (call (Value.type _) [Value.ref _]) _ _ _); k_dflt (refine tupOf (by k_asm) (by k_asm) (by k_mem) (by omega) ?_); intro D' h' F' N' l1; (have l1r := l1); (try k_lt l1); (try k_sweep)) | (k_here; (with_reducible show wpAny _ _ (binaryOp _ (Value.ref _) (Value.ref _)) _ _ _); k_dflt (refine addL (by k_asm) (by k_asm) (by k_mem) (by k_mem) (by (simp only [List.length_append, List.length_take, List.length_drop, List.length_cons, List.length_nil]; omega)) ?_); intro D' h' F' N' l1; (have l1r := l1); (try k_lt l1); (try k_sweep)) | (k_here; k_dflt (refine kda_set (knd := PySem.strKind _ _) (by k_asm) (by k_asm) (by k_updF) (by with_reducible assumption) (strKind_is _ _ _ _) (by (rw [sizeLine_eq]; exact Nat.le_of_ble_eq_true (by with_unfolding_all rfl))) ?_); intro h' o' F' N' hd'; (try dsimp only at N'); (first | rw [stored_rules] at hd' | rw [stored_names] at hd' | rw [stored_levels] at hd' | rw [stored_expect] at hd' | rw [stored_start] at hd'); (try k_sweep))); k_steps)))
      (refine un_halt ?_; (k_here; k_dflt (refine' tupDat ?Nq7 ?Mq7 ?aq7 ?bq7 ?eq7 ?zq7 ?lq7 ?_ ?hsq7; (case Nq7 => k_asm); (case Mq7 => k_mem); (case aq7 => with_reducible assumption); (case bq7 => with_reducible assumption); (case eq7 => rfl); (case zq7 => exact Nat.le_of_ble_eq_true rfl); (case lq7 => exact acts3); (case hsq7 => with_unfolding_all rfl)); intro v' d' hv' hd' hh'))
      (k_steps; (repeat ((refine un_halt ?_); (first | (k_here; (with_reducible show wpAny _ _ (call (Value.ref 144) [Value.ref _, Value.int _ _]) _ _ _); k_dflt (refine take_u (by k_asm) (by k_asm) (by k_asm) (by k_asm) (by k_asm) (by first | exact rfl | assumption) (by k_updF) (by with_reducible assumption) (by first | with_reducible assumption | exact map_take24) (by decide) (by decide) (by ktr_room) (by ktr_units) ?_); intro d' t' vs' ns' n' h' tk' d0' d1' hI' hl' F' N'; (try dsimp only at N'); (try k_sweep)) | (k_here; (with_reducible show wpAny _ _ (call (Value.type _) [Value.ref _]) _ _ _); k_dflt (refine tupOf (by k_asm) (by k_asm) (by k_mem) (by omega) ?_); intro D' h' F' N' l1; (have l1r := l1); (try k_lt l1); (try k_sweep)) | (k_here; (with_reducible show wpAny _ _ (binaryOp _ (Value.ref _) (Value.ref _)) _ _ _); k_dflt (refine addL (by k_asm) (by k_asm) (by k_mem) (by k_mem) (by (simp only [List.length_append, List.length_take, List.length_drop, List.length_cons, List.length_nil]; omega)) ?_); intro D' h' F' N' l1; (have l1r := l1); (try k_lt l1); (try k_sweep)) | (k_here; k_dflt (refine kda_set (knd := PySem.strKind _ _) (by k_asm) (by k_asm) (by k_updF) (by with_reducible assumption) (strKind_is _ _ _ _) (by (rw [sizeLine_eq]; exact Nat.le_of_ble_eq_true (by with_unfolding_all rfl))) ?_); intro h' o' F' N' hd'; (try dsimp only at N'); (first | rw [stored_rules] at hd' | rw [stored_names] at hd' | rw [stored_levels] at hd' | rw [stored_expect] at hd' | rw [stored_start] at hd'); (try k_sweep))); k_steps)))
      exact JR.fin (by assumption) (by assumption) (by assumption) (by assumption) (by assumption) hp0 hR0 hI0 hI hOR2 hOpp hO hne (by assumption) (by assumption) hD hrl hro hdl hy3 (by assumption) (by assumption) (hle _ (by assumption) (by assumption))
  · intro m₁ news₁ h tk hJ F N
    obtain ⟨vs, ns, n, rvs, k, tl, rows, a, b, rfl, hi, hl, hO, hne, hD, hrl, hro, rfl⟩ := hJ
    have hOp := offs_one hO
    have hOR := offs_snd hO
    have hr4 : rows.length ≤ 4 := by omega
    have hr2 : 2 ≤ rows.length := by omega
    (k_steps; (repeat ((refine un_halt ?_); (first | (k_here; (with_reducible show wpAny _ _ (call (Value.ref 144) [Value.ref _, Value.int _ _]) _ _ _); k_dflt (refine take_u (by k_asm) (by k_asm) (by k_asm) (by k_asm) (by k_asm) (by first | exact rfl | assumption) (by k_updF) (by with_reducible assumption) (by first | with_reducible assumption | exact map_take24) (by decide) (by decide) (by ktr_room) (by ktr_units) ?_); intro d' t' vs' ns' n' h' tk' d0' d1' hI' hl' F' N'; (try dsimp only at N'); (try k_sweep)) | (k_here; (with_reducible show wpAny _ _ (call (Value.type _) [Value.ref _]) _ _ _); k_dflt (refine tupOf (by k_asm) (by k_asm) (by k_mem) (by omega) ?_); intro D' h' F' N' l1; (have l1r := l1); (try k_lt l1); (try k_sweep)) | (k_here; (with_reducible show wpAny _ _ (binaryOp _ (Value.ref _) (Value.ref _)) _ _ _); k_dflt (refine addL (by k_asm) (by k_asm) (by k_mem) (by k_mem) (by (simp only [List.length_append, List.length_take, List.length_drop, List.length_cons, List.length_nil]; omega)) ?_); intro D' h' F' N' l1; (have l1r := l1); (try k_lt l1); (try k_sweep)) | (k_here; k_dflt (refine kda_set (knd := PySem.strKind _ _) (by k_asm) (by k_asm) (by k_updF) (by with_reducible assumption) (strKind_is _ _ _ _) (by (rw [sizeLine_eq]; exact Nat.le_of_ble_eq_true (by with_unfolding_all rfl))) ?_); intro h' o' F' N' hd'; (try dsimp only at N'); (first | rw [stored_rules] at hd' | rw [stored_names] at hd' | rw [stored_levels] at hd' | rw [stored_expect] at hd' | rw [stored_start] at hd'); (try k_sweep))); k_steps)))
    (refine un_halt ?_; (k_here; (with_reducible show wpAny _ _ (subscriptTail _ (PySem.Expr.Slice none _ none _) (Value.ref _) (Value.ref _)) _ _ _); k_dflt (refine' sliceTake ?Fq10 ?Nq10 ?Mq10 ?aq10 ?zq10 ?_ ?hsq10; (case Fq10 => k_asm); (case Nq10 => k_asm); (case Mq10 => k_mem); (case aq10 => exact one_add (by assumption)); (case zq10 => exact Nat.le_of_ble_eq_true rfl); (case hsq10 => with_unfolding_all rfl)); intro D' h' F' N' l1; (have l1r := l1); (try k_lt l1); (try k_sweep)))
    (k_steps; (repeat ((refine un_halt ?_); (first | (k_here; (with_reducible show wpAny _ _ (call (Value.ref 144) [Value.ref _, Value.int _ _]) _ _ _); k_dflt (refine take_u (by k_asm) (by k_asm) (by k_asm) (by k_asm) (by k_asm) (by first | exact rfl | assumption) (by k_updF) (by with_reducible assumption) (by first | with_reducible assumption | exact map_take24) (by decide) (by decide) (by ktr_room) (by ktr_units) ?_); intro d' t' vs' ns' n' h' tk' d0' d1' hI' hl' F' N'; (try dsimp only at N'); (try k_sweep)) | (k_here; (with_reducible show wpAny _ _ (call (Value.type _) [Value.ref _]) _ _ _); k_dflt (refine tupOf (by k_asm) (by k_asm) (by k_mem) (by omega) ?_); intro D' h' F' N' l1; (have l1r := l1); (try k_lt l1); (try k_sweep)) | (k_here; (with_reducible show wpAny _ _ (binaryOp _ (Value.ref _) (Value.ref _)) _ _ _); k_dflt (refine addL (by k_asm) (by k_asm) (by k_mem) (by k_mem) (by (simp only [List.length_append, List.length_take, List.length_drop, List.length_cons, List.length_nil]; omega)) ?_); intro D' h' F' N' l1; (have l1r := l1); (try k_lt l1); (try k_sweep)) | (k_here; k_dflt (refine kda_set (knd := PySem.strKind _ _) (by k_asm) (by k_asm) (by k_updF) (by with_reducible assumption) (strKind_is _ _ _ _) (by (rw [sizeLine_eq]; exact Nat.le_of_ble_eq_true (by with_unfolding_all rfl))) ?_); intro h' o' F' N' hd'; (try dsimp only at N'); (first | rw [stored_rules] at hd' | rw [stored_names] at hd' | rw [stored_levels] at hd' | rw [stored_expect] at hd' | rw [stored_start] at hd'); (try k_sweep))); k_steps)))
    refine lev_cut (k := k) (by assumption) hne hOp hD ?_ ?_
    · refine wpAny_If ?_
      (k_steps; (repeat ((refine un_halt ?_); (first | (k_here; (with_reducible show wpAny _ _ (call (Value.ref 144) [Value.ref _, Value.int _ _]) _ _ _); k_dflt (refine take_u (by k_asm) (by k_asm) (by k_asm) (by k_asm) (by k_asm) (by first | exact rfl | assumption) (by k_updF) (by with_reducible assumption) (by first | with_reducible assumption | exact map_take24) (by decide) (by decide) (by ktr_room) (by ktr_units) ?_); intro d' t' vs' ns' n' h' tk' d0' d1' hI' hl' F' N'; (try dsimp only at N'); (try k_sweep)) | (k_here; (with_reducible show wpAny _ _ (call (Value.type _) [Value.ref _]) _ _ _); k_dflt (refine tupOf (by k_asm) (by k_asm) (by k_mem) (by omega) ?_); intro D' h' F' N' l1; (have l1r := l1); (try k_lt l1); (try k_sweep)) | (k_here; (with_reducible show wpAny _ _ (binaryOp _ (Value.ref _) (Value.ref _)) _ _ _); k_dflt (refine addL (by k_asm) (by k_asm) (by k_mem) (by k_mem) (by (simp only [List.length_append, List.length_take, List.length_drop, List.length_cons, List.length_nil]; omega)) ?_); intro D' h' F' N' l1; (have l1r := l1); (try k_lt l1); (try k_sweep)) | (k_here; k_dflt (refine kda_set (knd := PySem.strKind _ _) (by k_asm) (by k_asm) (by k_updF) (by with_reducible assumption) (strKind_is _ _ _ _) (by (rw [sizeLine_eq]; exact Nat.le_of_ble_eq_true (by with_unfolding_all rfl))) ?_); intro h' o' F' N' hd'; (try dsimp only at N'); (first | rw [stored_rules] at hd' | rw [stored_names] at hd' | rw [stored_levels] at hd' | rw [stored_expect] at hd' | rw [stored_start] at hd'); (try k_sweep))); k_steps)))
      · (refine un_halt ?_; (k_here; (with_reducible show wpAny _ _ (subscriptTail _ (PySem.Expr.Slice none none (some _) _) (Value.ref _) (Value.ref _)) _ _ _); k_dflt (refine' revL ?Fq13 ?Nq13 ?Mq13 ?zq13 ?_ ?hsq13; (case Fq13 => k_asm); (case Nq13 => k_asm); (case Mq13 => k_mem); (case zq13 => exact Nat.le_trans (List.length_take_le' _ _) (Nat.le_of_ble_eq_true rfl)); (case hsq13 => with_unfolding_all rfl)); intro D' h' F' N' l1; (have l1r := l1); (try k_lt l1); (try k_sweep)))
        (k_steps; (repeat ((refine un_halt ?_); (first | (k_here; (with_reducible show wpAny _ _ (call (Value.ref 144) [Value.ref _, Value.int _ _]) _ _ _); k_dflt (refine take_u (by k_asm) (by k_asm) (by k_asm) (by k_asm) (by k_asm) (by first | exact rfl | assumption) (by k_updF) (by with_reducible assumption) (by first | with_reducible assumption | exact map_take24) (by decide) (by decide) (by ktr_room) (by ktr_units) ?_); intro d' t' vs' ns' n' h' tk' d0' d1' hI' hl' F' N'; (try dsimp only at N'); (try k_sweep)) | (k_here; (with_reducible show wpAny _ _ (call (Value.type _) [Value.ref _]) _ _ _); k_dflt (refine tupOf (by k_asm) (by k_asm) (by k_mem) (by omega) ?_); intro D' h' F' N' l1; (have l1r := l1); (try k_lt l1); (try k_sweep)) | (k_here; (with_reducible show wpAny _ _ (binaryOp _ (Value.ref _) (Value.ref _)) _ _ _); k_dflt (refine addL (by k_asm) (by k_asm) (by k_mem) (by k_mem) (by (simp only [List.length_append, List.length_take, List.length_drop, List.length_cons, List.length_nil]; omega)) ?_); intro D' h' F' N' l1; (have l1r := l1); (try k_lt l1); (try k_sweep)) | (k_here; k_dflt (refine kda_set (knd := PySem.strKind _ _) (by k_asm) (by k_asm) (by k_updF) (by with_reducible assumption) (strKind_is _ _ _ _) (by (rw [sizeLine_eq]; exact Nat.le_of_ble_eq_true (by with_unfolding_all rfl))) ?_); intro h' o' F' N' hd'; (try dsimp only at N'); (first | rw [stored_rules] at hd' | rw [stored_names] at hd' | rw [stored_levels] at hd' | rw [stored_expect] at hd' | rw [stored_start] at hd'); (try k_sweep))); k_steps)))
        exact LevCut.make (fr_again (by assumption)) (by assumption) (by k_updF) (by assumption) (by assumption) (by k_mem) (by refine neN ?_; omega) hne (by k_mem) hOp (fun p hp => by k_mem) hD (lev3_ok (by assumption) (by assumption)).2 lev_rev_sub fun rest r2 => (lev_all (.cons (.tuple (no_tup (r2 _ (by k_mem))) (.cons (.int _ _) (.cons (.tuple (no_tup (r2 _ (by k_mem))) (.cons (.int _ _) (.cons (.str _ _) .nil))) .nil))) (.cons (.tuple (no_tup (r2 _ (by k_mem))) (.cons (.int _ _) (.cons (.tuple (no_tup (r2 _ (by k_mem))) (.cons (.int _ _) (.cons (.str _ _) .nil))) .nil))) (.cons (.tuple (no_tup (r2 _ (by k_mem))) (.cons (.int _ _) (.cons (.tuple (no_tup (r2 _ (by k_mem))) (.cons (.int _ _) (.cons (.str _ _) .nil))) .nil))) .nil))) _).2
      · exact LevCut.make (by assumption) (by assumption) (by k_updF) (by assumption) (by assumption) (by k_mem) (by refine neN ?_; omega) hne (by k_mem) hOp (fun p hp => by k_mem) hD (lev3_ok (by assumption) (by assumption)).1 lev_take_sub fun rest r2 => (lev_all (.cons (.tuple (no_tup (r2 _ (by k_mem))) (.cons (.int _ _) (.cons (.tuple (no_tup (r2 _ (by k_mem))) (.cons (.int _ _) (.cons (.str _ _) .nil))) .nil))) (.cons (.tuple (no_tup (r2 _ (by k_mem))) (.cons (.int _ _) (.cons (.tuple (no_tup (r2 _ (by k_mem))) (.cons (.int _ _) (.cons (.str _ _) .nil))) .nil))) (.cons (.tuple (no_tup (r2 _ (by k_mem))) (.cons (.int _ _) (.cons (.tuple (no_tup (r2 _ (by k_mem))) (.cons (.int _ _) (.cons (.str _ _) .nil))) .nil))) .nil))) _).1
    · intro s' hs
      obtain ⟨h, tk, lA, lvs, n3, lev, vs, ns, n, rest, rfl, F, N, hi, hl, hOp, hlA, hlD, lok, hsub, hRm, hRD, hcell⟩ := hs
      (k_steps; (repeat ((refine un_halt ?_); (first | (k_here; (with_reducible show wpAny _ _ (call (Value.ref 144) [Value.ref _, Value.int _ _]) _ _ _); k_dflt (refine take_u (by k_asm) (by k_asm) (by k_asm) (by k_asm) (by k_asm) (by first | exact rfl | assumption) (by k_updF) (by with_reducible assumption) (by first | with_reducible assumption | exact map_take24) (by decide) (by decide) (by ktr_room) (by ktr_units) ?_); intro d' t' vs' ns' n' h' tk' d0' d1' hI' hl' F' N'; (try dsimp only at N'); (try k_sweep)) | (k_here; (with_reducible show wpAny _ _ (call (Value.type _) [Value.ref _]) _ _ _); k_dflt (refine tupOf (by k_asm) (by k_asm) (by k_mem) (by omega) ?_); intro D' h' F' N' l1; (have l1r := l1); (try k_lt l1); (try k_sweep)) | (k_here; (with_reducible show wpAny _ _ (binaryOp _ (Value.ref _) (Value.ref _)) _ _ _); k_dflt (refine addL (by k_asm) (by k_asm) (by k_mem) (by k_mem) (by (simp only [List.length_append, List.length_take, List.length_drop, List.length_cons, List.length_nil]; omega)) ?_); intro D' h' F' N' l1; (have l1r := l1); (try k_lt l1); (try k_sweep)) | (k_here; k_dflt (refine kda_set (knd := PySem.strKind _ _) (by k_asm) (by k_asm) (by k_updF) (by with_reducible assumption) (strKind_is _ _ _ _) (by (rw [sizeLine_eq]; exact Nat.le_of_ble_eq_true (by with_unfolding_all rfl))) ?_); intro h' o' F' N' hd'; (try dsimp only at N'); (first | rw [stored_rules] at hd' | rw [stored_names] at hd' | rw [stored_levels] at hd' | rw [stored_expect] at hd' | rw [stored_start] at hd'); (try k_sweep))); k_steps)))
      (refine un_halt ?_; (k_here; k_dflt (refine' tupDat ?Nq16 ?Mq16 ?aq16 ?bq16 ?eq16 ?zq16 ?lq16 ?_ ?hsq16; (case Nq16 => k_asm); (case Mq16 => k_mem); (case aq16 => with_reducible assumption); (case bq16 => with_reducible assumption); (case eq16 => rfl); (case zq16 => exact Nat.le_of_ble_eq_true rfl); (case lq16 => exact exps3); (case hsq16 => with_unfolding_all rfl)); intro v' d' hv' hd' hh'))
      (k_steps; (repeat ((refine un_halt ?_); (first | (k_here; (with_reducible show wpAny _ _ (call (Value.ref 144) [Value.ref _, Value.int _ _]) _ _ _); k_dflt (refine take_u (by k_asm) (by k_asm) (by k_asm) (by k_asm) (by k_asm) (by first | exact rfl | assumption) (by k_updF) (by with_reducible assumption) (by first | with_reducible assumption | exact map_take24) (by decide) (by decide) (by ktr_room) (by ktr_units) ?_); intro d' t' vs' ns' n' h' tk' d0' d1' hI' hl' F' N'; (try dsimp only at N'); (try k_sweep)) | (k_here; (with_reducible show wpAny _ _ (call (Value.type _) [Value.ref _]) _ _ _); k_dflt (refine tupOf (by k_asm) (by k_asm) (by k_mem) (by omega) ?_); intro D' h' F' N' l1; (have l1r := l1); (try k_lt l1); (try k_sweep)) | (k_here; (with_reducible show wpAny _ _ (binaryOp _ (Value.ref _) (Value.ref _)) _ _ _); k_dflt (refine addL (by k_asm) (by k_asm) (by k_mem) (by k_mem) (by (simp only [List.length_append, List.length_take, List.length_drop, List.length_cons, List.length_nil]; omega)) ?_); intro D' h' F' N' l1; (have l1r := l1); (try k_lt l1); (try k_sweep)) | (k_here; k_dflt (refine kda_set (knd := PySem.strKind _ _) (by k_asm) (by k_asm) (by k_updF) (by with_reducible assumption) (strKind_is _ _ _ _) (by (rw [sizeLine_eq]; exact Nat.le_of_ble_eq_true (by with_unfolding_all rfl))) ?_); intro h' o' F' N' hd'; (try dsimp only at N'); (first | rw [stored_rules] at hd' | rw [stored_names] at hd' | rw [stored_levels] at hd' | rw [stored_expect] at hd' | rw [stored_start] at hd'); (try k_sweep))); k_steps)))
      rename ExpOk _ => hx
      rename (DatIn [] _ _) => hv
      rename (News _ _ _ ((_, _) :: (_, _) :: (_, _) :: (_, _) :: rest)) => N4
      have hP := plan_mk N4 (by assumption) hRm hRD hlA hlD hv
      obtain ⟨pok, pnice, prow, pne, pside⟩ := made_plan (st := _) hro hr4 lok hx hsub
      k_dflt (refine' laid_c ?zB ?zF ?zX N4 ?zT ?zk hP sub4 pok ?zd ?zu ?_)
      case zB => k_asm
      case zF => k_asm
      case zX => k_asm
      case zT => k_asm
      case zk => first | exact rfl | assumption
      case zd => ktr_room
      case zu => ktr_units
      intro g tl9 h' tk' F' N' hap hG
      (k_steps; (repeat ((refine un_halt ?_); (first | (k_here; (with_reducible show wpAny _ _ (call (Value.ref 144) [Value.ref _, Value.int _ _]) _ _ _); k_dflt (refine take_u (by k_asm) (by k_asm) (by k_asm) (by k_asm) (by k_asm) (by first | exact rfl | assumption) (by k_updF) (by with_reducible assumption) (by first | with_reducible assumption | exact map_take24) (by decide) (by decide) (by ktr_room) (by ktr_units) ?_); intro d' t' vs' ns' n' h' tk' d0' d1' hI' hl' F' N'; (try dsimp only at N'); (try k_sweep)) | (k_here; (with_reducible show wpAny _ _ (call (Value.type _) [Value.ref _]) _ _ _); k_dflt (refine tupOf (by k_asm) (by k_asm) (by k_mem) (by omega) ?_); intro D' h' F' N' l1; (have l1r := l1); (try k_lt l1); (try k_sweep)) | (k_here; (with_reducible show wpAny _ _ (binaryOp _ (Value.ref _) (Value.ref _)) _ _ _); k_dflt (refine addL (by k_asm) (by k_asm) (by k_mem) (by k_mem) (by (simp only [List.length_append, List.length_take, List.length_drop, List.length_cons, List.length_nil]; omega)) ?_); intro D' h' F' N' l1; (have l1r := l1); (try k_lt l1); (try k_sweep)) | (k_here; k_dflt (refine kda_set (knd := PySem.strKind _ _) (by k_asm) (by k_asm) (by k_updF) (by with_reducible assumption) (strKind_is _ _ _ _) (by (rw [sizeLine_eq]; exact Nat.le_of_ble_eq_true (by with_unfolding_all rfl))) ?_); intro h' o' F' N' hd'; (try dsimp only at N'); (first | rw [stored_rules] at hd' | rw [stored_names] at hd' | rw [stored_levels] at hd' | rw [stored_expect] at hd' | rw [stored_start] at hd'); (try k_sweep))); k_steps)))
      rename (News _ _ _ (tl9 ++ _)) => N5
      have N6 := front_tl4 N5
      have hO6 := offs_t4 hap (by refine neN ?_; dsimp only; omega) (by refine neN ?_; dsimp only; omega) (by refine neN ?_; dsimp only; omega) hOp
      have hP6 := hP.mono (fun p hp => List.mem_append_right tl9 hp)
      k_dflt (refine' turned_c ?zB ?zF ?zX N6 ?zT ?zk ?zi ?zl hO6 hP6 ?zo pok prow hr2 hx ?zv ?zw ?zd ?zu ?_)
      case zB => k_asm
      case zF => k_asm
      case zX => k_asm
      case zT => k_asm
      case zk => first | exact rfl | assumption
      case zi => assumption
      case zl => assumption
      case zo => assumption
      case zv => exact lev3_shape.sub hsub
      case zw => exact ⟨by assumption, by assumption⟩
      case zd => ktr_room
      case zu => ktr_units
      intro o2 vs2 n2 tl2 P2 h2 tk2 hT F2 N2 hap2 hP2
      obtain ⟨pok2, pnice2⟩ := turned_ok hT pok pnice hro
      have hlaw := plain_law hT ⟨by assumption, by assumption⟩ rfl rfl pne pside
      clear N5 N6 hP6 hO6
      (k_steps; (repeat ((refine un_halt ?_); (first | (k_here; (with_reducible show wpAny _ _ (call (Value.ref 144) [Value.ref _, Value.int _ _]) _ _ _); k_dflt (refine take_u (by k_asm) (by k_asm) (by k_asm) (by k_asm) (by k_asm) (by first | exact rfl | assumption) (by k_updF) (by with_reducible assumption) (by first | with_reducible assumption | exact map_take24) (by decide) (by decide) (by ktr_room) (by ktr_units) ?_); intro d' t' vs' ns' n' h' tk' d0' d1' hI' hl' F' N'; (try dsimp only at N'); (try k_sweep)) | (k_here; (with_reducible show wpAny _ _ (call (Value.type _) [Value.ref _]) _ _ _); k_dflt (refine tupOf (by k_asm) (by k_asm) (by k_mem) (by omega) ?_); intro D' h' F' N' l1; (have l1r := l1); (try k_lt l1); (try k_sweep)) | (k_here; (with_reducible show wpAny _ _ (binaryOp _ (Value.ref _) (Value.ref _)) _ _ _); k_dflt (refine addL (by k_asm) (by k_asm) (by k_mem) (by k_mem) (by (simp only [List.length_append, List.length_take, List.length_drop, List.length_cons, List.length_nil]; omega)) ?_); intro D' h' F' N' l1; (have l1r := l1); (try k_lt l1); (try k_sweep)) | (k_here; k_dflt (refine kda_set (knd := PySem.strKind _ _) (by k_asm) (by k_asm) (by k_updF) (by with_reducible assumption) (strKind_is _ _ _ _) (by (rw [sizeLine_eq]; exact Nat.le_of_ble_eq_true (by with_unfolding_all rfl))) ?_); intro h' o' F' N' hd'; (try dsimp only at N'); (first | rw [stored_rules] at hd' | rw [stored_names] at hd' | rw [stored_levels] at hd' | rw [stored_expect] at hd' | rw [stored_start] at hd'); (try k_sweep))); k_steps)))
      (refine un_halt ?_)
      (k_here; (with_reducible show wpAny _ _ (call (Value.ref 151) [Value.ref _]) _ _ _); k_dflt (refine' laid_c ?Bq21 ?Fq21 ?Xq21 ?Nq21 ?Tq21 ?hkq21 ?Pq21 ?subq21 ?okq21 ?dq21 ?uq21 ?_; (case Pq21 => with_reducible assumption); (case Bq21 => k_asm); (case Fq21 => k_asm); (case Xq21 => k_asm); (case Nq21 => k_asm); (case Tq21 => k_asm); (case hkq21 => first | exact rfl | assumption); (case subq21 => (intro p hp; k_mem)); (case okq21 => with_reducible assumption); (case dq21 => ktr_room); (case uq21 => ktr_units)); intro g' tl' h' tk' F' N' hap' hG')
      (k_steps; (repeat ((refine un_halt ?_); (first | (k_here; (with_reducible show wpAny _ _ (call (Value.ref 144) [Value.ref _, Value.int _ _]) _ _ _); k_dflt (refine take_u (by k_asm) (by k_asm) (by k_asm) (by k_asm) (by k_asm) (by first | exact rfl | assumption) (by k_updF) (by with_reducible assumption) (by first | with_reducible assumption | exact map_take24) (by decide) (by decide) (by ktr_room) (by ktr_units) ?_); intro d' t' vs' ns' n' h' tk' d0' d1' hI' hl' F' N'; (try dsimp only at N'); (try k_sweep)) | (k_here; (with_reducible show wpAny _ _ (call (Value.type _) [Value.ref _]) _ _ _); k_dflt (refine tupOf (by k_asm) (by k_asm) (by k_mem) (by omega) ?_); intro D' h' F' N' l1; (have l1r := l1); (try k_lt l1); (try k_sweep)) | (k_here; (with_reducible show wpAny _ _ (binaryOp _ (Value.ref _) (Value.ref _)) _ _ _); k_dflt (refine addL (by k_asm) (by k_asm) (by k_mem) (by k_mem) (by (simp only [List.length_append, List.length_take, List.length_drop, List.length_cons, List.length_nil]; omega)) ?_); intro D' h' F' N' l1; (have l1r := l1); (try k_lt l1); (try k_sweep)) | (k_here; k_dflt (refine kda_set (knd := PySem.strKind _ _) (by k_asm) (by k_asm) (by k_updF) (by with_reducible assumption) (strKind_is _ _ _ _) (by (rw [sizeLine_eq]; exact Nat.le_of_ble_eq_true (by with_unfolding_all rfl))) ?_); intro h' o' F' N' hd'; (try dsimp only at N'); (first | rw [stored_rules] at hd' | rw [stored_names] at hd' | rw [stored_levels] at hd' | rw [stored_expect] at hd' | rw [stored_start] at hd'); (try k_sweep))); k_steps)))
      rename (News _ _ _ (_ ++ (tl2 ++ _))) => N8
      rename (GramAt _ (_ ++ (tl2 ++ _)) _ P2) => hG2
      obtain ⟨cur, Nc, hG, hG2, hP, hP2, hRm, hRD⟩ := pack N8 (hG.mono fun p hp => by k_mem) hG2 (hP.mono fun p hp => by k_mem) (hP2.mono fun p hp => by k_mem) (List.mem_append_right _ (List.mem_append_right _ (.tail _ (List.mem_append_right _ (.tail _ (.tail _ (.tail _ hRm))))))) (hRD.mono fun p hp => by k_mem)
      clear N8
      refine wpAny_If ?_
      (k_steps; (repeat ((refine un_halt ?_); (first | (k_here; (with_reducible show wpAny _ _ (call (Value.ref 144) [Value.ref _, Value.int _ _]) _ _ _); k_dflt (refine take_u (by k_asm) (by k_asm) (by k_asm) (by k_asm) (by k_asm) (by first | exact rfl | assumption) (by k_updF) (by with_reducible assumption) (by first | with_reducible assumption | exact map_take24) (by decide) (by decide) (by ktr_room) (by ktr_units) ?_); intro d' t' vs' ns' n' h' tk' d0' d1' hI' hl' F' N'; (try dsimp only at N'); (try k_sweep)) | (k_here; (with_reducible show wpAny _ _ (call (Value.type _) [Value.ref _]) _ _ _); k_dflt (refine tupOf (by k_asm) (by k_asm) (by k_mem) (by omega) ?_); intro D' h' F' N' l1; (have l1r := l1); (try k_lt l1); (try k_sweep)) | (k_here; (with_reducible show wpAny _ _ (binaryOp _ (Value.ref _) (Value.ref _)) _ _ _); k_dflt (refine addL (by k_asm) (by k_asm) (by k_mem) (by k_mem) (by (simp only [List.length_append, List.length_take, List.length_drop, List.length_cons, List.length_nil]; omega)) ?_); intro D' h' F' N' l1; (have l1r := l1); (try k_lt l1); (try k_sweep)) | (k_here; k_dflt (refine kda_set (knd := PySem.strKind _ _) (by k_asm) (by k_asm) (by k_updF) (by with_reducible assumption) (strKind_is _ _ _ _) (by (rw [sizeLine_eq]; exact Nat.le_of_ble_eq_true (by with_unfolding_all rfl))) ?_); intro h' o' F' N' hd'; (try dsimp only at N'); (first | rw [stored_rules] at hd' | rw [stored_names] at hd' | rw [stored_levels] at hd' | rw [stored_expect] at hd' | rw [stored_start] at hd'); (try k_sweep))); k_steps)))
      (refine un_halt ?_)
      (k_here; (with_reducible show wpAny _ _ (call (Value.ref 137) [Value.ref _]) _ _ _); k_dflt (refine' told_c ?Bq25 ?Fq25 ?Xq25 ?Nq25 ?Tq25 ?hkq25 (GramAt.mono ?Pq25 ?subq25) ?okq25 ?dq25 ?uq25 ?_; (case Pq25 => with_reducible assumption); (case Bq25 => k_asm); (case Fq25 => k_asm); (case Xq25 => k_asm); (case Nq25 => k_asm); (case Tq25 => k_asm); (case hkq25 => first | exact rfl | assumption); (case subq25 => (intro p hp; k_mem)); (case okq25 => with_reducible assumption); (case dq25 => ktr_room); (case uq25 => ktr_units)); intro v' tl' h' tk' F' N' hap' hD')
      (k_steps; (repeat ((refine un_halt ?_); (first | (k_here; (with_reducible show wpAny _ _ (call (Value.ref 144) [Value.ref _, Value.int _ _]) _ _ _); k_dflt (refine take_u (by k_asm) (by k_asm) (by k_asm) (by k_asm) (by k_asm) (by first | exact rfl | assumption) (by k_updF) (by with_reducible assumption) (by first | with_reducible assumption | exact map_take24) (by decide) (by decide) (by ktr_room) (by ktr_units) ?_); intro d' t' vs' ns' n' h' tk' d0' d1' hI' hl' F' N'; (try dsimp only at N'); (try k_sweep)) | (k_here; (with_reducible show wpAny _ _ (call (Value.type _) [Value.ref _]) _ _ _); k_dflt (refine tupOf (by k_asm) (by k_asm) (by k_mem) (by omega) ?_); intro D' h' F' N' l1; (have l1r := l1); (try k_lt l1); (try k_sweep)) | (k_here; (with_reducible show wpAny _ _ (binaryOp _ (Value.ref _) (Value.ref _)) _ _ _); k_dflt (refine addL (by k_asm) (by k_asm) (by k_mem) (by k_mem) (by (simp only [List.length_append, List.length_take, List.length_drop, List.length_cons, List.length_nil]; omega)) ?_); intro D' h' F' N' l1; (have l1r := l1); (try k_lt l1); (try k_sweep)) | (k_here; k_dflt (refine kda_set (knd := PySem.strKind _ _) (by k_asm) (by k_asm) (by k_updF) (by with_reducible assumption) (strKind_is _ _ _ _) (by (rw [sizeLine_eq]; exact Nat.le_of_ble_eq_true (by with_unfolding_all rfl))) ?_); intro h' o' F' N' hd'; (try dsimp only at N'); (first | rw [stored_rules] at hd' | rw [stored_names] at hd' | rw [stored_levels] at hd' | rw [stored_expect] at hd' | rw [stored_start] at hd'); (try k_sweep))); k_steps)))
      (refine un_halt ?_)
      (k_here; (with_reducible show wpAny _ _ (call (Value.ref 156) [Value.ref _]) _ _ _); k_dflt (refine' due_c ?Bq28 ?Fq28 ?Xq28 ?Nq28 ?Tq28 ?hkq28 (PlanAt.mono ?Pq28 ?subq28) ?okq28 ?dq28 ?uq28 ?_; (case Pq28 => with_reducible assumption); (case Bq28 => k_asm); (case Fq28 => k_asm); (case Xq28 => k_asm); (case Nq28 => k_asm); (case Tq28 => k_asm); (case hkq28 => first | exact rfl | assumption); (case subq28 => (intro p hp; k_mem)); (case okq28 => with_reducible assumption); (case dq28 => ktr_room); (case uq28 => ktr_units)); intro v' tl' h' tk' F' N' hap' hD')
      (k_steps; (repeat ((refine un_halt ?_); (first | (k_here; (with_reducible show wpAny _ _ (call (Value.ref 144) [Value.ref _, Value.int _ _]) _ _ _); k_dflt (refine take_u (by k_asm) (by k_asm) (by k_asm) (by k_asm) (by k_asm) (by first | exact rfl | assumption) (by k_updF) (by with_reducible assumption) (by first | with_reducible assumption | exact map_take24) (by decide) (by decide) (by ktr_room) (by ktr_units) ?_); intro d' t' vs' ns' n' h' tk' d0' d1' hI' hl' F' N'; (try dsimp only at N'); (try k_sweep)) | (k_here; (with_reducible show wpAny _ _ (call (Value.type _) [Value.ref _]) _ _ _); k_dflt (refine tupOf (by k_asm) (by k_asm) (by k_mem) (by omega) ?_); intro D' h' F' N' l1; (have l1r := l1); (try k_lt l1); (try k_sweep)) | (k_here; (with_reducible show wpAny _ _ (binaryOp _ (Value.ref _) (Value.ref _)) _ _ _); k_dflt (refine addL (by k_asm) (by k_asm) (by k_mem) (by k_mem) (by (simp only [List.length_append, List.length_take, List.length_drop, List.length_cons, List.length_nil]; omega)) ?_); intro D' h' F' N' l1; (have l1r := l1); (try k_lt l1); (try k_sweep)) | (k_here; k_dflt (refine kda_set (knd := PySem.strKind _ _) (by k_asm) (by k_asm) (by k_updF) (by with_reducible assumption) (strKind_is _ _ _ _) (by (rw [sizeLine_eq]; exact Nat.le_of_ble_eq_true (by with_unfolding_all rfl))) ?_); intro h' o' F' N' hd'; (try dsimp only at N'); (first | rw [stored_rules] at hd' | rw [stored_names] at hd' | rw [stored_levels] at hd' | rw [stored_expect] at hd' | rw [stored_start] at hd'); (try k_sweep))); k_steps)))
      (k_here; k_dflt (refine' dat_ne_same ?Nq30 (DatIn.mono ?s1q30 ?vq30) (DatIn.mono ?s2q30 ?uq30) ?oq30 ?nq30 ?_; (case Nq30 => k_asm); (case vq30 => with_reducible assumption); (case uq30 => with_reducible assumption); (case s1q30 => (intro p hp; k_mem)); (case s2q30 => (intro p hp; k_mem)); (case oq30 => first | with_reducible assumption | exact told_ok (by assumption)); (case nq30 => first | ke_room | ktr_units)))
      (k_steps; (repeat ((refine un_halt ?_); (first | (k_here; (with_reducible show wpAny _ _ (call (Value.ref 144) [Value.ref _, Value.int _ _]) _ _ _); k_dflt (refine take_u (by k_asm) (by k_asm) (by k_asm) (by k_asm) (by k_asm) (by first | exact rfl | assumption) (by k_updF) (by with_reducible assumption) (by first | with_reducible assumption | exact map_take24) (by decide) (by decide) (by ktr_room) (by ktr_units) ?_); intro d' t' vs' ns' n' h' tk' d0' d1' hI' hl' F' N'; (try dsimp only at N'); (try k_sweep)) | (k_here; (with_reducible show wpAny _ _ (call (Value.type _) [Value.ref _]) _ _ _); k_dflt (refine tupOf (by k_asm) (by k_asm) (by k_mem) (by omega) ?_); intro D' h' F' N' l1; (have l1r := l1); (try k_lt l1); (try k_sweep)) | (k_here; (with_reducible show wpAny _ _ (binaryOp _ (Value.ref _) (Value.ref _)) _ _ _); k_dflt (refine addL (by k_asm) (by k_asm) (by k_mem) (by k_mem) (by (simp only [List.length_append, List.length_take, List.length_drop, List.length_cons, List.length_nil]; omega)) ?_); intro D' h' F' N' l1; (have l1r := l1); (try k_lt l1); (try k_sweep)) | (k_here; k_dflt (refine kda_set (knd := PySem.strKind _ _) (by k_asm) (by k_asm) (by k_updF) (by with_reducible assumption) (strKind_is _ _ _ _) (by (rw [sizeLine_eq]; exact Nat.le_of_ble_eq_true (by with_unfolding_all rfl))) ?_); intro h' o' F' N' hd'; (try dsimp only at N'); (first | rw [stored_rules] at hd' | rw [stored_names] at hd' | rw [stored_levels] at hd' | rw [stored_expect] at hd' | rw [stored_start] at hd'); (try k_sweep))); k_steps)))
      (refine un_halt ?_)
      (k_here; (with_reducible show wpAny _ _ (call (Value.ref 137) [Value.ref _]) _ _ _); k_dflt (refine' told_c ?Bq33 ?Fq33 ?Xq33 ?Nq33 ?Tq33 ?hkq33 (GramAt.mono ?Pq33 ?subq33) ?okq33 ?dq33 ?uq33 ?_; (case Pq33 => with_reducible assumption); (case Bq33 => k_asm); (case Fq33 => k_asm); (case Xq33 => k_asm); (case Nq33 => k_asm); (case Tq33 => k_asm); (case hkq33 => first | exact rfl | assumption); (case subq33 => (intro p hp; k_mem)); (case okq33 => with_reducible assumption); (case dq33 => ktr_room); (case uq33 => ktr_units)); intro v' tl' h' tk' F' N' hap' hD')
      (k_steps; (repeat ((refine un_halt ?_); (first | (k_here; (with_reducible show wpAny _ _ (call (Value.ref 144) [Value.ref _, Value.int _ _]) _ _ _); k_dflt (refine take_u (by k_asm) (by k_asm) (by k_asm) (by k_asm) (by k_asm) (by first | exact rfl | assumption) (by k_updF) (by with_reducible assumption) (by first | with_reducible assumption | exact map_take24) (by decide) (by decide) (by ktr_room) (by ktr_units) ?_); intro d' t' vs' ns' n' h' tk' d0' d1' hI' hl' F' N'; (try dsimp only at N'); (try k_sweep)) | (k_here; (with_reducible show wpAny _ _ (call (Value.type _) [Value.ref _]) _ _ _); k_dflt (refine tupOf (by k_asm) (by k_asm) (by k_mem) (by omega) ?_); intro D' h' F' N' l1; (have l1r := l1); (try k_lt l1); (try k_sweep)) | (k_here; (with_reducible show wpAny _ _ (binaryOp _ (Value.ref _) (Value.ref _)) _ _ _); k_dflt (refine addL (by k_asm) (by k_asm) (by k_mem) (by k_mem) (by (simp only [List.length_append, List.length_take, List.length_drop, List.length_cons, List.length_nil]; omega)) ?_); intro D' h' F' N' l1; (have l1r := l1); (try k_lt l1); (try k_sweep)) | (k_here; k_dflt (refine kda_set (knd := PySem.strKind _ _) (by k_asm) (by k_asm) (by k_updF) (by with_reducible assumption) (strKind_is _ _ _ _) (by (rw [sizeLine_eq]; exact Nat.le_of_ble_eq_true (by with_unfolding_all rfl))) ?_); intro h' o' F' N' hd'; (try dsimp only at N'); (first | rw [stored_rules] at hd' | rw [stored_names] at hd' | rw [stored_levels] at hd' | rw [stored_expect] at hd' | rw [stored_start] at hd'); (try k_sweep))); k_steps)))
      (refine un_halt ?_)
      (k_here; (with_reducible show wpAny _ _ (call (Value.ref 156) [Value.ref _]) _ _ _); k_dflt (refine' due_c ?Bq36 ?Fq36 ?Xq36 ?Nq36 ?Tq36 ?hkq36 (PlanAt.mono ?Pq36 ?subq36) ?okq36 ?dq36 ?uq36 ?_; (case Pq36 => with_reducible assumption); (case Bq36 => k_asm); (case Fq36 => k_asm); (case Xq36 => k_asm); (case Nq36 => k_asm); (case Tq36 => k_asm); (case hkq36 => first | exact rfl | assumption); (case subq36 => (intro p hp; k_mem)); (case okq36 => with_reducible assumption); (case dq36 => ktr_room); (case uq36 => ktr_units)); intro v' tl' h' tk' F' N' hap' hD')
      (k_steps; (repeat ((refine un_halt ?_); (first | (k_here; (with_reducible show wpAny _ _ (call (Value.ref 144) [Value.ref _, Value.int _ _]) _ _ _); k_dflt (refine take_u (by k_asm) (by k_asm) (by k_asm) (by k_asm) (by k_asm) (by first | exact rfl | assumption) (by k_updF) (by with_reducible assumption) (by first | with_reducible assumption | exact map_take24) (by decide) (by decide) (by ktr_room) (by ktr_units) ?_); intro d' t' vs' ns' n' h' tk' d0' d1' hI' hl' F' N'; (try dsimp only at N'); (try k_sweep)) | (k_here; (with_reducible show wpAny _ _ (call (Value.type _) [Value.ref _]) _ _ _); k_dflt (refine tupOf (by k_asm) (by k_asm) (by k_mem) (by omega) ?_); intro D' h' F' N' l1; (have l1r := l1); (try k_lt l1); (try k_sweep)) | (k_here; (with_reducible show wpAny _ _ (binaryOp _ (Value.ref _) (Value.ref _)) _ _ _); k_dflt (refine addL (by k_asm) (by k_asm) (by k_mem) (by k_mem) (by (simp only [List.length_append, List.length_take, List.length_drop, List.length_cons, List.length_nil]; omega)) ?_); intro D' h' F' N' l1; (have l1r := l1); (try k_lt l1); (try k_sweep)) | (k_here; k_dflt (refine kda_set (knd := PySem.strKind _ _) (by k_asm) (by k_asm) (by k_updF) (by with_reducible assumption) (strKind_is _ _ _ _) (by (rw [sizeLine_eq]; exact Nat.le_of_ble_eq_true (by with_unfolding_all rfl))) ?_); intro h' o' F' N' hd'; (try dsimp only at N'); (first | rw [stored_rules] at hd' | rw [stored_names] at hd' | rw [stored_levels] at hd' | rw [stored_expect] at hd' | rw [stored_start] at hd'); (try k_sweep))); k_steps)))
      (k_here; k_dflt (refine' dat_ne_same ?Nq38 (DatIn.mono ?s1q38 ?vq38) (DatIn.mono ?s2q38 ?uq38) ?oq38 ?nq38 ?_; (case Nq38 => k_asm); (case vq38 => with_reducible assumption); (case uq38 => with_reducible assumption); (case s1q38 => (intro p hp; k_mem)); (case s2q38 => (intro p hp; k_mem)); (case oq38 => first | with_reducible assumption | exact told_ok (by assumption)); (case nq38 => first | ke_room | ktr_units)))
      (k_steps; (repeat ((refine un_halt ?_); (first | (k_here; (with_reducible show wpAny _ _ (call (Value.ref 144) [Value.ref _, Value.int _ _]) _ _ _); k_dflt (refine take_u (by k_asm) (by k_asm) (by k_asm) (by k_asm) (by k_asm) (by first | exact rfl | assumption) (by k_updF) (by with_reducible assumption) (by first | with_reducible assumption | exact map_take24) (by decide) (by decide) (by ktr_room) (by ktr_units) ?_); intro d' t' vs' ns' n' h' tk' d0' d1' hI' hl' F' N'; (try dsimp only at N'); (try k_sweep)) | (k_here; (with_reducible show wpAny _ _ (call (Value.type _) [Value.ref _]) _ _ _); k_dflt (refine tupOf (by k_asm) (by k_asm) (by k_mem) (by omega) ?_); intro D' h' F' N' l1; (have l1r := l1); (try k_lt l1); (try k_sweep)) | (k_here; (with_reducible show wpAny _ _ (binaryOp _ (Value.ref _) (Value.ref _)) _ _ _); k_dflt (refine addL (by k_asm) (by k_asm) (by k_mem) (by k_mem) (by (simp only [List.length_append, List.length_take, List.length_drop, List.length_cons, List.length_nil]; omega)) ?_); intro D' h' F' N' l1; (have l1r := l1); (try k_lt l1); (try k_sweep)) | (k_here; k_dflt (refine kda_set (knd := PySem.strKind _ _) (by k_asm) (by k_asm) (by k_updF) (by with_reducible assumption) (strKind_is _ _ _ _) (by (rw [sizeLine_eq]; exact Nat.le_of_ble_eq_true (by with_unfolding_all rfl))) ?_); intro h' o' F' N' hd'; (try dsimp only at N'); (first | rw [stored_rules] at hd' | rw [stored_names] at hd' | rw [stored_levels] at hd' | rw [stored_expect] at hd' | rw [stored_start] at hd'); (try k_sweep))); k_steps)))
      rename (News _ _ _ (_ ++ (_ ++ (_ ++ (_ ++ cur))))) => N9
      obtain ⟨cur2, Nc2, hG, hG2, hP, hP2, hRm, hRD⟩ := pack N9 (hG.mono fun p hp => by k_mem) (hG2.mono fun p hp => by k_mem) (hP.mono fun p hp => by k_mem) (hP2.mono fun p hp => by k_mem) (List.mem_append_right _ (List.mem_append_right _ (List.mem_append_right _ (List.mem_append_right _ hRm)))) (hRD.mono fun p hp => by k_mem)
      clear N9
      have hGk := hG
      obtain ⟨gdA, gks, gnA, grA, glA, glo, gev, gb1, gb2, gb3, gb4, gnvs, grvs, gkvs, gn1, gn2, gc, gg, ggd, gn, gnD, gr, grD, gl, glo2, glD, glP, geD⟩ := hG
      have grl : grvs.length = rows.length := grD.length
      have hrvl : rvs.length = rows.length := by rw [hRD.length, List.length_map]
      have hlok := rows_list_ok pnice.acts
      refine wpAny_If ?_
      (k_steps; (repeat ((refine un_halt ?_); (first | (k_here; (with_reducible show wpAny _ _ (call (Value.ref 144) [Value.ref _, Value.int _ _]) _ _ _); k_dflt (refine take_u (by k_asm) (by k_asm) (by k_asm) (by k_asm) (by k_asm) (by first | exact rfl | assumption) (by k_updF) (by with_reducible assumption) (by first | with_reducible assumption | exact map_take24) (by decide) (by decide) (by ktr_room) (by ktr_units) ?_); intro d' t' vs' ns' n' h' tk' d0' d1' hI' hl' F' N'; (try dsimp only at N'); (try k_sweep)) | (k_here; (with_reducible show wpAny _ _ (call (Value.type _) [Value.ref _]) _ _ _); k_dflt (refine tupOf (by k_asm) (by k_asm) (by k_mem) (by omega) ?_); intro D' h' F' N' l1; (have l1r := l1); (try k_lt l1); (try k_sweep)) | (k_here; (with_reducible show wpAny _ _ (binaryOp _ (Value.ref _) (Value.ref _)) _ _ _); k_dflt (refine addL (by k_asm) (by k_asm) (by k_mem) (by k_mem) (by (simp only [List.length_append, List.length_take, List.length_drop, List.length_cons, List.length_nil]; omega)) ?_); intro D' h' F' N' l1; (have l1r := l1); (try k_lt l1); (try k_sweep)) | (k_here; k_dflt (refine kda_set (knd := PySem.strKind _ _) (by k_asm) (by k_asm) (by k_updF) (by with_reducible assumption) (strKind_is _ _ _ _) (by (rw [sizeLine_eq]; exact Nat.le_of_ble_eq_true (by with_unfolding_all rfl))) ?_); intro h' o' F' N' hd'; (try dsimp only at N'); (first | rw [stored_rules] at hd' | rw [stored_names] at hd' | rw [stored_levels] at hd' | rw [stored_expect] at hd' | rw [stored_start] at hd'); (try k_sweep))); k_steps)))
      refine comp_led (J := CJ _ (rows.map Row.told)) (by rfl) (by k_asm) (by k_asm) (by k_mem) (by omega) CJ.start ?_ ?_
      · intro i v ys nw I oI C oC D m₂ h tk E' hi hv hJ hC hx F N off ne
        obtain ⟨tl2, rfl, hab2, hyl2, hys2⟩ := hJ
        obtain ⟨r, hr, hR⟩ := grD.get hv
        (k_steps; (repeat ((refine un_halt ?_); (first | (k_here; (with_reducible show wpAny _ _ (call (Value.ref 144) [Value.ref _, Value.int _ _]) _ _ _); k_dflt (refine take_u (by k_asm) (by k_asm) (by k_asm) (by k_asm) (by k_asm) (by first | exact rfl | assumption) (by k_updF) (by with_reducible assumption) (by first | with_reducible assumption | exact map_take24) (by decide) (by decide) (by ktr_room) (by ktr_units) ?_); intro d' t' vs' ns' n' h' tk' d0' d1' hI' hl' F' N'; (try dsimp only at N'); (try k_sweep)) | (k_here; (with_reducible show wpAny _ _ (call (Value.type _) [Value.ref _]) _ _ _); k_dflt (refine tupOf (by k_asm) (by k_asm) (by k_mem) (by omega) ?_); intro D' h' F' N' l1; (have l1r := l1); (try k_lt l1); (try k_sweep)) | (k_here; (with_reducible show wpAny _ _ (binaryOp _ (Value.ref _) (Value.ref _)) _ _ _); k_dflt (refine addL (by k_asm) (by k_asm) (by k_mem) (by k_mem) (by (simp only [List.length_append, List.length_take, List.length_drop, List.length_cons, List.length_nil]; omega)) ?_); intro D' h' F' N' l1; (have l1r := l1); (try k_lt l1); (try k_sweep)) | (k_here; k_dflt (refine kda_set (knd := PySem.strKind _ _) (by k_asm) (by k_asm) (by k_updF) (by with_reducible assumption) (strKind_is _ _ _ _) (by (rw [sizeLine_eq]; exact Nat.le_of_ble_eq_true (by with_unfolding_all rfl))) ?_); intro h' o' F' N' hd'; (try dsimp only at N'); (first | rw [stored_rules] at hd' | rw [stored_names] at hd' | rw [stored_levels] at hd' | rw [stored_expect] at hd' | rw [stored_start] at hd'); (try k_sweep))); k_steps)))
        (refine un_halt ?_)
        (k_here; (with_reducible show wpAny _ _ (call (Value.ref 132) [_]) _ _ _); k_dflt (refine' rtold_c ?Bq43 ?Fq43 ?Xq43 ?Nq43 ?Tq43 ?hkq43 ?Rq43 ?subq43 ?dq43 ?uq43 ?_; (case Bq43 => k_asm); (case Fq43 => k_asm); (case Xq43 => k_asm); (case Nq43 => k_asm); (case Tq43 => k_asm); (case hkq43 => first | exact rfl | assumption); (case Rq43 => with_reducible assumption); (case subq43 => (intro p hp; k_mem)); (case dq43 => ktr_room); (case uq43 => ktr_units)); intro D' o' h' tk' F' N' l1 hD'; (have l1r := l1); (try k_lt l1); (try k_sweep))
        (k_steps; (repeat ((refine un_halt ?_); (first | (k_here; (with_reducible show wpAny _ _ (call (Value.ref 144) [Value.ref _, Value.int _ _]) _ _ _); k_dflt (refine take_u (by k_asm) (by k_asm) (by k_asm) (by k_asm) (by k_asm) (by first | exact rfl | assumption) (by k_updF) (by with_reducible assumption) (by first | with_reducible assumption | exact map_take24) (by decide) (by decide) (by ktr_room) (by ktr_units) ?_); intro d' t' vs' ns' n' h' tk' d0' d1' hI' hl' F' N'; (try dsimp only at N'); (try k_sweep)) | (k_here; (with_reducible show wpAny _ _ (call (Value.type _) [Value.ref _]) _ _ _); k_dflt (refine tupOf (by k_asm) (by k_asm) (by k_mem) (by omega) ?_); intro D' h' F' N' l1; (have l1r := l1); (try k_lt l1); (try k_sweep)) | (k_here; (with_reducible show wpAny _ _ (binaryOp _ (Value.ref _) (Value.ref _)) _ _ _); k_dflt (refine addL (by k_asm) (by k_asm) (by k_mem) (by k_mem) (by (simp only [List.length_append, List.length_take, List.length_drop, List.length_cons, List.length_nil]; omega)) ?_); intro D' h' F' N' l1; (have l1r := l1); (try k_lt l1); (try k_sweep)) | (k_here; k_dflt (refine kda_set (knd := PySem.strKind _ _) (by k_asm) (by k_asm) (by k_updF) (by with_reducible assumption) (strKind_is _ _ _ _) (by (rw [sizeLine_eq]; exact Nat.le_of_ble_eq_true (by with_unfolding_all rfl))) ?_); intro h' o' F' N' hd'; (try dsimp only at N'); (first | rw [stored_rules] at hd' | rw [stored_names] at hd' | rw [stored_levels] at hd' | rw [stored_expect] at hd' | rw [stored_start] at hd'); (try k_sweep))); k_steps)))
        rename (∀ p : Addr × Obj, p ∈ _ → p.1 < _) => l1r
        rename DatIn _ _ r.told => hDr
        refine comp_end1 (by k_asm) (by k_asm) l1r off (Or.inr ⟨_, by k_mem, rfl, _, rfl⟩) (CJ.snoc hyl2 hys2 (by rw [List.getElem?_map, hr]; rfl) (Apart.lt l1r (fun p hp => by k_mem) hab2) ?_)
        exact hDr.mono (List.forall_mem_cons.mpr ⟨.head _, fun p hp => by k_mem⟩)
      · intro g9 ys nw hJ
        obtain ⟨tl3, rfl, hab3, hyl3, hys3⟩ := hJ
        rw [List.take_of_length_le (by simp only [List.length_map]; omega)] at hys3
        unfold LCg.FinE
        intro D h tk F N o1
        (k_steps; (repeat ((refine un_halt ?_); (first | (k_here; (with_reducible show wpAny _ _ (call (Value.ref 144) [Value.ref _, Value.int _ _]) _ _ _); k_dflt (refine take_u (by k_asm) (by k_asm) (by k_asm) (by k_asm) (by k_asm) (by first | exact rfl | assumption) (by k_updF) (by with_reducible assumption) (by first | with_reducible assumption | exact map_take24) (by decide) (by decide) (by ktr_room) (by ktr_units) ?_); intro d' t' vs' ns' n' h' tk' d0' d1' hI' hl' F' N'; (try dsimp only at N'); (try k_sweep)) | (k_here; (with_reducible show wpAny _ _ (call (Value.type _) [Value.ref _]) _ _ _); k_dflt (refine tupOf (by k_asm) (by k_asm) (by k_mem) (by omega) ?_); intro D' h' F' N' l1; (have l1r := l1); (try k_lt l1); (try k_sweep)) | (k_here; (with_reducible show wpAny _ _ (binaryOp _ (Value.ref _) (Value.ref _)) _ _ _); k_dflt (refine addL (by k_asm) (by k_asm) (by k_mem) (by k_mem) (by (simp only [List.length_append, List.length_take, List.length_drop, List.length_cons, List.length_nil]; omega)) ?_); intro D' h' F' N' l1; (have l1r := l1); (try k_lt l1); (try k_sweep)) | (k_here; k_dflt (refine kda_set (knd := PySem.strKind _ _) (by k_asm) (by k_asm) (by k_updF) (by with_reducible assumption) (strKind_is _ _ _ _) (by (rw [sizeLine_eq]; exact Nat.le_of_ble_eq_true (by with_unfolding_all rfl))) ?_); intro h' o' F' N' hd'; (try dsimp only at N'); (first | rw [stored_rules] at hd' | rw [stored_names] at hd' | rw [stored_levels] at hd' | rw [stored_expect] at hd' | rw [stored_start] at hd'); (try k_sweep))); k_steps)))
        refine comp_led (J := CJ _ (rows.map Row.told)) (by rfl) (by k_asm) (by k_asm) (by k_mem) (by omega) CJ.start ?_ ?_
        · intro i v ys2 nw I oI C oC D2 m₂ h tk E' hi hv hJ hC hx F N off ne
          obtain ⟨tl, rfl, hab, hyl, hys⟩ := hJ
          obtain ⟨r, hr, hd⟩ := dats_get hRD hv
          obtain ⟨ra, rn, t1, v2, t3, v4, t5, t6, rfl, hrm, d2, d4⟩ := row_open hd
          (k_steps; (repeat ((refine un_halt ?_); (first | (k_here; (with_reducible show wpAny _ _ (call (Value.ref 144) [Value.ref _, Value.int _ _]) _ _ _); k_dflt (refine take_u (by k_asm) (by k_asm) (by k_asm) (by k_asm) (by k_asm) (by first | exact rfl | assumption) (by k_updF) (by with_reducible assumption) (by first | with_reducible assumption | exact map_take24) (by decide) (by decide) (by ktr_room) (by ktr_units) ?_); intro d' t' vs' ns' n' h' tk' d0' d1' hI' hl' F' N'; (try dsimp only at N'); (try k_sweep)) | (k_here; (with_reducible show wpAny _ _ (call (Value.type _) [Value.ref _]) _ _ _); k_dflt (refine tupOf (by k_asm) (by k_asm) (by k_mem) (by omega) ?_); intro D' h' F' N' l1; (have l1r := l1); (try k_lt l1); (try k_sweep)) | (k_here; (with_reducible show wpAny _ _ (binaryOp _ (Value.ref _) (Value.ref _)) _ _ _); k_dflt (refine addL (by k_asm) (by k_asm) (by k_mem) (by k_mem) (by (simp only [List.length_append, List.length_take, List.length_drop, List.length_cons, List.length_nil]; omega)) ?_); intro D' h' F' N' l1; (have l1r := l1); (try k_lt l1); (try k_sweep)) | (k_here; k_dflt (refine kda_set (knd := PySem.strKind _ _) (by k_asm) (by k_asm) (by k_updF) (by with_reducible assumption) (strKind_is _ _ _ _) (by (rw [sizeLine_eq]; exact Nat.le_of_ble_eq_true (by with_unfolding_all rfl))) ?_); intro h' o' F' N' hd'; (try dsimp only at N'); (first | rw [stored_rules] at hd' | rw [stored_names] at hd' | rw [stored_levels] at hd' | rw [stored_expect] at hd' | rw [stored_start] at hd'); (try k_sweep))); k_steps)))
          rename (∀ p : Addr × Obj, p ∈ _ → p.1 < _) => l1r
          refine comp_end1 (by k_asm) (by k_asm) l1r off (Or.inr ⟨_, by k_mem, rfl, _, rfl⟩) (CJ.snoc hyl hys (by rw [List.getElem?_map, hr]; rfl) (Apart.lt l1r (fun p hp => by k_mem) hab) ?_)
          exact .tuple (.head _) (.cons (.int _ _) (.cons (d2.mono fun p hp => by k_mem) (.cons (.int _ _) (.cons (d4.mono fun p hp => by k_mem) (.cons (.int _ _) .nil)))))
        · intro g10 ys2 nw hJ
          obtain ⟨tl4, rfl, hab4, hyl4, hys4⟩ := hJ
          rw [List.take_of_length_le (by simp only [List.length_map]; omega)] at hys4
          unfold LCg.FinE
          intro D2 h tk F N o2
          have hLa : DatIn _ (.ref D) (.list (rows.map Row.told)) := .list (news := (D2, LCg.lst ys2) :: (tl4 ++ (D, LCg.lst ys) :: (tl3 ++ cur2))) (.tail _ (List.mem_append_right _ (.head _))) (hys3.mono fun p hp => by k_mem)
          have hLb : DatIn _ (.ref D2) (.list (rows.map Row.told)) := .list (news := (D2, LCg.lst ys2) :: (tl4 ++ (D, LCg.lst ys) :: (tl3 ++ cur2))) (.head _) (hys4.mono fun p hp => by k_mem)
          (k_steps; (repeat ((refine un_halt ?_); (first | (k_here; (with_reducible show wpAny _ _ (call (Value.ref 144) [Value.ref _, Value.int _ _]) _ _ _); k_dflt (refine take_u (by k_asm) (by k_asm) (by k_asm) (by k_asm) (by k_asm) (by first | exact rfl | assumption) (by k_updF) (by with_reducible assumption) (by first | with_reducible assumption | exact map_take24) (by decide) (by decide) (by ktr_room) (by ktr_units) ?_); intro d' t' vs' ns' n' h' tk' d0' d1' hI' hl' F' N'; (try dsimp only at N'); (try k_sweep)) | (k_here; (with_reducible show wpAny _ _ (call (Value.type _) [Value.ref _]) _ _ _); k_dflt (refine tupOf (by k_asm) (by k_asm) (by k_mem) (by omega) ?_); intro D' h' F' N' l1; (have l1r := l1); (try k_lt l1); (try k_sweep)) | (k_here; (with_reducible show wpAny _ _ (binaryOp _ (Value.ref _) (Value.ref _)) _ _ _); k_dflt (refine addL (by k_asm) (by k_asm) (by k_mem) (by k_mem) (by (simp only [List.length_append, List.length_take, List.length_drop, List.length_cons, List.length_nil]; omega)) ?_); intro D' h' F' N' l1; (have l1r := l1); (try k_lt l1); (try k_sweep)) | (k_here; k_dflt (refine kda_set (knd := PySem.strKind _ _) (by k_asm) (by k_asm) (by k_updF) (by with_reducible assumption) (strKind_is _ _ _ _) (by (rw [sizeLine_eq]; exact Nat.le_of_ble_eq_true (by with_unfolding_all rfl))) ?_); intro h' o' F' N' hd'; (try dsimp only at N'); (first | rw [stored_rules] at hd' | rw [stored_names] at hd' | rw [stored_levels] at hd' | rw [stored_expect] at hd' | rw [stored_start] at hd'); (try k_sweep))); k_steps)))
          (refine un_halt ?_)
          (k_here; k_dflt (refine' dat_ne_same ?Nq49 (DatIn.mono ?s1q49 ?vq49) (DatIn.mono ?s2q49 ?uq49) ?oq49 ?nq49 ?_; (case Nq49 => k_asm); (case vq49 => with_reducible assumption); (case uq49 => with_reducible assumption); (case s1q49 => (intro p hp; k_mem)); (case s2q49 => (intro p hp; k_mem)); (case oq49 => first | with_reducible assumption | exact told_ok (by assumption)); (case nq49 => first | ke_room | ktr_units)))
          (k_steps; (repeat ((refine un_halt ?_); (first | (k_here; (with_reducible show wpAny _ _ (call (Value.ref 144) [Value.ref _, Value.int _ _]) _ _ _); k_dflt (refine take_u (by k_asm) (by k_asm) (by k_asm) (by k_asm) (by k_asm) (by first | exact rfl | assumption) (by k_updF) (by with_reducible assumption) (by first | with_reducible assumption | exact map_take24) (by decide) (by decide) (by ktr_room) (by ktr_units) ?_); intro d' t' vs' ns' n' h' tk' d0' d1' hI' hl' F' N'; (try dsimp only at N'); (try k_sweep)) | (k_here; (with_reducible show wpAny _ _ (call (Value.type _) [Value.ref _]) _ _ _); k_dflt (refine tupOf (by k_asm) (by k_asm) (by k_mem) (by omega) ?_); intro D' h' F' N' l1; (have l1r := l1); (try k_lt l1); (try k_sweep)) | (k_here; (with_reducible show wpAny _ _ (binaryOp _ (Value.ref _) (Value.ref _)) _ _ _); k_dflt (refine addL (by k_asm) (by k_asm) (by k_mem) (by k_mem) (by (simp only [List.length_append, List.length_take, List.length_drop, List.length_cons, List.length_nil]; omega)) ?_); intro D' h' F' N' l1; (have l1r := l1); (try k_lt l1); (try k_sweep)) | (k_here; k_dflt (refine kda_set (knd := PySem.strKind _ _) (by k_asm) (by k_asm) (by k_updF) (by with_reducible assumption) (strKind_is _ _ _ _) (by (rw [sizeLine_eq]; exact Nat.le_of_ble_eq_true (by with_unfolding_all rfl))) ?_); intro h' o' F' N' hd'; (try dsimp only at N'); (first | rw [stored_rules] at hd' | rw [stored_names] at hd' | rw [stored_levels] at hd' | rw [stored_expect] at hd' | rw [stored_start] at hd'); (try k_sweep))); k_steps)))
          (refine un_halt ?_)
          (k_here; (with_reducible show wpAny _ _ (call (Value.ref 137) [Value.ref _]) _ _ _); k_dflt (refine' told_c ?Bq52 ?Fq52 ?Xq52 ?Nq52 ?Tq52 ?hkq52 (GramAt.mono ?Pq52 ?subq52) ?okq52 ?dq52 ?uq52 ?_; (case Pq52 => with_reducible assumption); (case Bq52 => k_asm); (case Fq52 => k_asm); (case Xq52 => k_asm); (case Nq52 => k_asm); (case Tq52 => k_asm); (case hkq52 => first | exact rfl | assumption); (case subq52 => (intro p hp; k_mem)); (case okq52 => with_reducible assumption); (case dq52 => ktr_room); (case uq52 => ktr_units)); intro v' tl' h' tk' F' N' hap' hD')
          (k_steps; (repeat ((refine un_halt ?_); (first | (k_here; (with_reducible show wpAny _ _ (call (Value.ref 144) [Value.ref _, Value.int _ _]) _ _ _); k_dflt (refine take_u (by k_asm) (by k_asm) (by k_asm) (by k_asm) (by k_asm) (by first | exact rfl | assumption) (by k_updF) (by with_reducible assumption) (by first | with_reducible assumption | exact map_take24) (by decide) (by decide) (by ktr_room) (by ktr_units) ?_); intro d' t' vs' ns' n' h' tk' d0' d1' hI' hl' F' N'; (try dsimp only at N'); (try k_sweep)) | (k_here; (with_reducible show wpAny _ _ (call (Value.type _) [Value.ref _]) _ _ _); k_dflt (refine tupOf (by k_asm) (by k_asm) (by k_mem) (by omega) ?_); intro D' h' F' N' l1; (have l1r := l1); (try k_lt l1); (try k_sweep)) | (k_here; (with_reducible show wpAny _ _ (binaryOp _ (Value.ref _) (Value.ref _)) _ _ _); k_dflt (refine addL (by k_asm) (by k_asm) (by k_mem) (by k_mem) (by (simp only [List.length_append, List.length_take, List.length_drop, List.length_cons, List.length_nil]; omega)) ?_); intro D' h' F' N' l1; (have l1r := l1); (try k_lt l1); (try k_sweep)) | (k_here; k_dflt (refine kda_set (knd := PySem.strKind _ _) (by k_asm) (by k_asm) (by k_updF) (by with_reducible assumption) (strKind_is _ _ _ _) (by (rw [sizeLine_eq]; exact Nat.le_of_ble_eq_true (by with_unfolding_all rfl))) ?_); intro h' o' F' N' hd'; (try dsimp only at N'); (first | rw [stored_rules] at hd' | rw [stored_names] at hd' | rw [stored_levels] at hd' | rw [stored_expect] at hd' | rw [stored_start] at hd'); (try k_sweep))); k_steps)))
          (refine un_halt ?_)
          (k_here; (with_reducible show wpAny _ _ (call (Value.ref 137) [Value.ref _]) _ _ _); k_dflt (refine' told_c ?Bq55 ?Fq55 ?Xq55 ?Nq55 ?Tq55 ?hkq55 (GramAt.mono ?Pq55 ?subq55) ?okq55 ?dq55 ?uq55 ?_; (case Pq55 => with_reducible assumption); (case Bq55 => k_asm); (case Fq55 => k_asm); (case Xq55 => k_asm); (case Nq55 => k_asm); (case Tq55 => k_asm); (case hkq55 => first | exact rfl | assumption); (case subq55 => (intro p hp; k_mem)); (case okq55 => with_reducible assumption); (case dq55 => ktr_room); (case uq55 => ktr_units)); intro v' tl' h' tk' F' N' hap' hD')
          (k_steps; (repeat ((refine un_halt ?_); (first | (k_here; (with_reducible show wpAny _ _ (call (Value.ref 144) [Value.ref _, Value.int _ _]) _ _ _); k_dflt (refine take_u (by k_asm) (by k_asm) (by k_asm) (by k_asm) (by k_asm) (by first | exact rfl | assumption) (by k_updF) (by with_reducible assumption) (by first | with_reducible assumption | exact map_take24) (by decide) (by decide) (by ktr_room) (by ktr_units) ?_); intro d' t' vs' ns' n' h' tk' d0' d1' hI' hl' F' N'; (try dsimp only at N'); (try k_sweep)) | (k_here; (with_reducible show wpAny _ _ (call (Value.type _) [Value.ref _]) _ _ _); k_dflt (refine tupOf (by k_asm) (by k_asm) (by k_mem) (by omega) ?_); intro D' h' F' N' l1; (have l1r := l1); (try k_lt l1); (try k_sweep)) | (k_here; (with_reducible show wpAny _ _ (binaryOp _ (Value.ref _) (Value.ref _)) _ _ _); k_dflt (refine addL (by k_asm) (by k_asm) (by k_mem) (by k_mem) (by (simp only [List.length_append, List.length_take, List.length_drop, List.length_cons, List.length_nil]; omega)) ?_); intro D' h' F' N' l1; (have l1r := l1); (try k_lt l1); (try k_sweep)) | (k_here; k_dflt (refine kda_set (knd := PySem.strKind _ _) (by k_asm) (by k_asm) (by k_updF) (by with_reducible assumption) (strKind_is _ _ _ _) (by (rw [sizeLine_eq]; exact Nat.le_of_ble_eq_true (by with_unfolding_all rfl))) ?_); intro h' o' F' N' hd'; (try dsimp only at N'); (first | rw [stored_rules] at hd' | rw [stored_names] at hd' | rw [stored_levels] at hd' | rw [stored_expect] at hd' | rw [stored_start] at hd'); (try k_sweep))); k_steps)))
          (k_here; k_dflt (refine' dat_eq ?Nq57 (DatIn.mono ?s1q57 ?vq57) (DatIn.mono ?s2q57 ?uq57) ?o1q57 ?o2q57 ?nq57 ?_; (case Nq57 => k_asm); (case vq57 => with_reducible assumption); (case uq57 => with_reducible assumption); (case s1q57 => (intro p hp; k_mem)); (case s2q57 => (intro p hp; k_mem)); (case o1q57 => exact told_ok (by assumption)); (case o2q57 => exact told_ok (by assumption)); (case nq57 => first | ke_room | ktr_units)))
          (k_steps; (repeat ((refine un_halt ?_); (first | (k_here; (with_reducible show wpAny _ _ (call (Value.ref 144) [Value.ref _, Value.int _ _]) _ _ _); k_dflt (refine take_u (by k_asm) (by k_asm) (by k_asm) (by k_asm) (by k_asm) (by first | exact rfl | assumption) (by k_updF) (by with_reducible assumption) (by first | with_reducible assumption | exact map_take24) (by decide) (by decide) (by ktr_room) (by ktr_units) ?_); intro d' t' vs' ns' n' h' tk' d0' d1' hI' hl' F' N'; (try dsimp only at N'); (try k_sweep)) | (k_here; (with_reducible show wpAny _ _ (call (Value.type _) [Value.ref _]) _ _ _); k_dflt (refine tupOf (by k_asm) (by k_asm) (by k_mem) (by omega) ?_); intro D' h' F' N' l1; (have l1r := l1); (try k_lt l1); (try k_sweep)) | (k_here; (with_reducible show wpAny _ _ (binaryOp _ (Value.ref _) (Value.ref _)) _ _ _); k_dflt (refine addL (by k_asm) (by k_asm) (by k_mem) (by k_mem) (by (simp only [List.length_append, List.length_take, List.length_drop, List.length_cons, List.length_nil]; omega)) ?_); intro D' h' F' N' l1; (have l1r := l1); (try k_lt l1); (try k_sweep)) | (k_here; k_dflt (refine kda_set (knd := PySem.strKind _ _) (by k_asm) (by k_asm) (by k_updF) (by with_reducible assumption) (strKind_is _ _ _ _) (by (rw [sizeLine_eq]; exact Nat.le_of_ble_eq_true (by with_unfolding_all rfl))) ?_); intro h' o' F' N' hd'; (try dsimp only at N'); (first | rw [stored_rules] at hd' | rw [stored_names] at hd' | rw [stored_levels] at hd' | rw [stored_expect] at hd' | rw [stored_start] at hd'); (try k_sweep))); k_steps)))
          done
end
end Mine
set_option maxRecDepth 100000 in
theorem PySem.Challenge.cw_pq0569_01_holds : PySem.Challenge.rw_pq0569_01.Holds := by
  exact Mine.law_t
