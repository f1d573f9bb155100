import PyProof.Rows.All
import Wide.All
import OpenK.AllK
import Wide.FinOn
import PyProof.AttrMissHeap
import PyProof.EnumMake
import PyProof.Draws
import PyProof.Rows.LoopPairPat
import Lean
import PySem.Challenge.RW_no0347_01
set_option Elab.async false
-- T1
section
open PySem PySem.W PyProof.Rows
set_option Elab.async false
namespace Mine
set_option maxRecDepth 100000 in
set_option maxHeartbeats 8000000 in
open_top hd for PySem.Challenge.rw_no0347_01
end Mine
end

-- Base
section
open PySem PySem.W PyProof.Rows PySem.Calls
set_option Elab.async false
set_option maxRecDepth 100000
namespace Mine

abbrev A1 (dp un : Nat) (gd : Option (List Code)) (fr : List Env) : Around := { handled := none, depth := dp, frames := some fr, guards := gd, units := un }
abbrev TopH (mean : ExcName → Option Value) (mg mb : Str → Option Value) (h : Heap) : Prop := Top hd.view_39 (looseW hd.view_39 [Str.ofString "PostError"]) mean mg mb h

/-- the frames below a call, at a heap -/
def CallAt (w : World) (mean : ExcName → Option Value) (mg mb : Str → Option Value) (env : Env) (outer : List Env) (h : Heap) : Prop :=
  ∃ (A₀ : Around) (base h₀ : Heap) (L : Addr) (m : Str → Option Value),
    Below A₀ base outer h₀ ∧ Fr h₀ L h m ∧ env.frame = some L ∧ env.scope.kind = .function ∧ (hd.heap_39 w.params).In h₀ ∧ TopH mean mg mb h₀

abbrev Kept (h h' : Heap) : Prop := ∀ b o, h.get? b = some o → h'.get? b = some o

section
variable {prog : Program} {w : World} {mean : ExcName → Option Value} {mg mb : Str → Option Value} {dp un : Nat} {gd : Option (List Code)} {env : Env} {outer : List Env} {s : Shared} {h h' : Heap}

theorem CallAt.keeps (C : CallAt w mean mg mb env outer h) (k : Kept h h') : CallAt w mean mg mb env outer h' := by
  obtain ⟨A₀, base, h₀, L, m, B, F, hf, hk, X, T⟩ := C
  exact ⟨A₀, base, h₀, L, m, B, F.keeps k, hf, hk, X, T⟩

theorem CallAt.of {A₀ : Around} {base h₀ : Heap} {L : Addr} {m : Str → Option Value} (B : Below A₀ base outer h₀) (F : Fr h₀ L h m) (hf : env.frame = some L) (hk : env.scope.kind = .function)
    (X : (hd.heap_39 w.params).In h₀) (T : TopH mean mg mb h₀) : CallAt w mean mg mb env outer h := ⟨A₀, base, h₀, L, m, B, F, hf, hk, X, T⟩

/-- what holds at the heap of the call -/
theorem CallAt.ground (C : CallAt w mean mg mb env outer h) (A : Around) (hA : A.frames = some (env :: outer)) : ∃ base, Below A base (env :: outer) h ∧ (hd.heap_39 w.params).In h ∧ TopH mean mg mb h := by
  obtain ⟨A₀, base, h₀, L, m, B, F, hf, hk, X, T⟩ := C
  have P := pushX B F hf hk
  exact ⟨base, ⟨hA, P.stays, P.frames⟩, X.keeps F.keep, T.keeps F.keep⟩

section
variable {name qual : Str} {params : Arguments} {body : List Stmt} {scope : Scope} {dV kV doc pm cdv ct oc : Value} {an od : Option Addr} {osl : Array (Option Value)} {f : Addr} {args : List Value} {binds : List (Str × Value)}
  {E : Value → Shared → Prop} {Q : Value → Shared → Prop}

/-- a def without cells, no raise -/
theorem enter_plain {m : Str → Option Value} (C : CallAt w mean mg mb env outer s.heap)
    (ho : (hd.heap_39 w.params).lookup f = some ⟨oc, od, .func (fnOf name qual params body scope dV kV doc pm an cdv ct), osl⟩) (hcd : codeIn (hd.heap_39 w.params) cdv qual = true) (hroom : dp < recursionLimit)
    (hbind : BindsTo s (fnOf name qual params body scope dV kV doc pm an cdv ct) ⟨args, []⟩ binds) (hloc : ∀ y ∈ binds, scope.names.lookup y.1 = some .local)
    (hm : ∀ y, binds.reverse.lookup y = m y)
    (h : ∀ base L' h₁, Below (A1 dp un gd (env :: outer)) base (env :: outer) s.heap → Fr s.heap L' h₁ m → News s.heap L' h₁ [] → (hd.heap_39 w.params).In s.heap → TopH mean mg mb s.heap →
      wpAny (model prog w) ((A1 dp un gd (env :: outer)).deeper (envOf qual scope L' f cdv)) (execs body (envOf qual scope L' f cdv))
        (fun fl s' => Q (match fl with | .ret v => v | _ => .none) s') (fun _ _ => False) { s with heap := h₁, toks := s.toks + binds.length })
    (hco : scope.isCoroutine = false) (hgen : scope.isGenerator = false) (hk : scope.kind = .function)
    (hcell : ∀ x ∈ scope.names, x.2 ≠ .cell) : wpAny (model prog w) (A1 dp un gd (env :: outer)) (call (.ref f) args) Q E s := by
  obtain ⟨base, B, X, T⟩ := C.ground (A1 dp un gd (env :: outer)) rfl
  refine wpAny_call ?_
  refine codeAny_call_def (fd := fnOf name qual params body scope dV kV doc pm an cdv ct) (body := body) (binds := binds) hroom (X _ _ ho) rfl T.nolimit (codeRec_of X hcd) rfl hbind hcell hloc (fun h₁ hns hk₁ => ?_) hco hgen hk
  exact wpAny_mono (h base s.heap.objs.size h₁ B ((funext hm : (fun y => binds.reverse.lookup y) = m) ▸ ⟨hns, hk₁, Nat.le_refl _⟩) News.nil X T) (fun fl s' q => q) fun _ _ q => q.elim

/-- a def with cells, no raise -/
theorem enter_cells {m cm : Str → Option Value} (C : CallAt w mean mg mb env outer s.heap)
    (ho : (hd.heap_39 w.params).lookup f = some ⟨oc, od, .func (fnOf name qual params body scope dV kV doc pm an cdv ct), osl⟩) (hcd : codeIn (hd.heap_39 w.params) cdv qual = true) (hroom : dp < recursionLimit)
    (hbind : BindsTo s (fnOf name qual params body scope dV kV doc pm an cdv ct) ⟨args, []⟩ binds) (hkind : (binds.all fun y => scope.names.lookup y.1 == some .local || scope.names.lookup y.1 == some .cell) = true)
    (hnd : ((cellsFrom 0 scope.names []).map (·.1)).Nodup) (hm : ∀ L', bindL (envOfC qual scope L' f cdv).kindOf binds (fun _ => none) = m) (hcm : ∀ L', bindC (envOfC qual scope L' f cdv).kindOf binds (fun _ => none) = cm)
    (h : ∀ base L' h₁ tk cells, Below (A1 dp un gd (env :: outer)) base (env :: outer) s.heap → Fr s.heap L' h₁ m → News s.heap L' h₁ cells →
      CellsAre cm (cellsFrom (L' + 1) scope.names []) cells → (hd.heap_39 w.params).In s.heap → TopH mean mg mb s.heap →
      wpAny (model prog w) ((A1 dp un gd (env :: outer)).deeper (envOfC qual scope L' f cdv)) (execs body (envOfC qual scope L' f cdv))
        (fun fl s' => Q (match fl with | .ret v => v | _ => .none) s') (fun _ _ => False) { s with heap := h₁, toks := tk })
    (hco : scope.isCoroutine = false) (hgen : scope.isGenerator = false) (hk : scope.kind = .function) : wpAny (model prog w) (A1 dp un gd (env :: outer)) (call (.ref f) args) Q E s := by
  obtain ⟨base, B, X, T⟩ := C.ground (A1 dp un gd (env :: outer)) rfl
  refine wpAny_call ?_
  refine codeAny_call_function hroom (X _ _ ho) rfl hco hgen rfl (codeRec_of X hcd) (hbind _ _ _ _ ?_)
  refine wpAny_newFunctionEnv_cells hk (kindsX hkind _) fun env' he s' x => ?_
  subst he
  refine ⟨T.nolimit.keeps x.toInCall.keep, codeAny_func ?_⟩
  obtain ⟨h₁, tk, rfl, _⟩ := x.done
  have hk₁ := x.toInCall.keep
  obtain ⟨cells, NC, Y⟩ := Cl.news (h₀ := s.heap) (Nat.le_refl _) fun n c hm => ⟨x.cell n c (lookup_of_mem_nodup (cellsFrom_names scope.names 0 (s.heap.objs.size + 1) [] [] rfl ▸ hnd) hm), x.above n c hm⟩
  exact wpAny_mono (h base s.heap.objs.size h₁ tk cells B (hm s.heap.objs.size ▸ ⟨x.toInCall.ns, hk₁, Nat.le_refl _⟩) NC (hcm s.heap.objs.size ▸ Y) X T) (fun fl s' q => q) fun _ _ q => q.elim
end
end

section
variable {h₀ h : Heap} {L : Addr} {m m₀ : Str → Option Value} {x : Str}
theorem fr_in {v : Option Value} (e : ∀ y, y ≠ x → m y = m₀ y) (F : Fr h₀ L h (fun y => if y = x then v else m y)) : Fr h₀ L h (fun y => if y = x then v else m₀ y) := by
  have q : (fun y => if y = x then v else m y) = fun y => if y = x then v else m₀ y := by
    funext y
    by_cases hy : y = x
    · simp [hy]
    · simp [hy, e y hy]
  rw [← q]; exact F
theorem fr_out (e : ∀ y, y ≠ x → m y = m₀ y) (F : Fr h₀ L h m) : Fr h₀ L h (fun y => if y = x then m x else m₀ y) := by
  have q : m = fun y => if y = x then m x else m₀ y := by
    funext y
    by_cases hy : y = x
    · simp [hy]
    · simp [hy, e y hy]
  rw [← q]; exact F
theorem lk1 {x y : Str} {v : Value} : [(x, v)].lookup y = if y = x then some v else none := by
  rw [List.lookup_cons, List.lookup_nil]
  by_cases h : y = x
  · simp [h]
  · rw [beq_eq_false_iff_ne.mpr h, if_neg h]
theorem lk2 {x x' y : Str} {v v' : Value} : [(x, v), (x', v')].lookup y = if y = x then some v else if y = x' then some v' else none := by
  rw [List.lookup_cons, lk1]
  by_cases h : y = x
  · simp [h]
  · rw [beq_eq_false_iff_ne.mpr h, if_neg h]
end

theorem fill_it : PySem.Challenge.rw_no0347_01.prog = PySem.Challenge.rw_no0347_01.prog ∧ hd.heap_39 = hd.heap_39 := by
  k_fill
  exact ⟨rfl, rfl⟩
end Mine
end

-- Comp
section
open PySem PySem.W PyProof.Rows PySem.Calls
set_option Elab.async false
set_option maxRecDepth 100000
namespace Mine
open PyProof.Rows.LCg

section
variable {prog : Program} {w : World} {A : Around} {E : Value → Shared → Prop} {s s₁ : Shared} {h₀ : Heap} {L : Addr} {m : Str → Option Value} {env : Env}

def CompAt (prog : Program) (w : World) (A : Around) (h₀ : Heap) (L : Addr) (m : Str → Option Value) (env : Env) (elt : Expr) (x : Str) (scope : Scope) (cl : List (Str × Addr)) (Q : Value → Shared → Prop) (it : Value) (s₂ : Shared) : Prop :=
  ∃ (I : Addr) (fp : List Addr) (n : Nat) (P : Nat → Value → Prop) (St : Nat → Heap → Prop) (S : List (Addr × Obj) → Prop) (news : List (Addr × Obj)),
    it = .ref I ∧ Walks prog w A I fp [I] n P St ∧ n ≤ sizeLine ∧ (∀ i h, St i h → ∃ o, h.get? I = some o) ∧
    (∀ i h h' o nw, St i h → h.get? I = some o → h'.get? I = some o → (∀ b o, h₀.get? b = some o → h'.get? b = some o) → News h₀ L h' nw → S nw → St i h') ∧
    St 0 s₂.heap ∧ (∀ b ∈ fp, b < s₂.heap.objs.size) ∧ Fr h₀ L s₂.heap m ∧ News h₀ L s₂.heap news ∧ L ≠ I ∧ h₀.get? I = none ∧ (∀ p ∈ news, p.1 ≠ I) ∧ S news ∧
    CompRest prog w A h₀ L m env elt x scope cl s₂ S P (FinE h₀ L m s₂ Q) n 0 [] news

theorem ListComp_it {elt iter : Expr} {x : Str} {px : Pos} {scope : Scope} {cl : List (Str × Addr)} {pos : Pos} {Q : Value → Shared → Prop} (_F₀ : Fr h₀ L s.heap m)
    (hclos : closureFor scope env = pure cl) (hcell : ∀ y ∈ scope.names, y.2 ≠ .cell) (hkind : scope.kind = .function)
    (hnames : ∀ y ∈ scope.names, y.2 = .local → scope.names.lookup y.1 = some .local) (hx : scope.names.lookup x = some .local)
    (h : wpAny (model prog w) A (eval iter env) (fun xv s₁ => wpAny (model prog w) A (pyIter xv) (CompAt prog w A h₀ L m env elt x scope cl Q) E s₁) E s)
    (hs : ∀ x, foldedSetIterable iter env x = pure x := by intro _; rfl) :
    wpAny (model prog w) A (eval (.ListComp elt [⟨.Name x px, iter, [], 0⟩] scope pos) env) Q E s := by
  rw [eval_ListComp]
  refine wpAny_comprehension_free (use := none) rfl hs hclos hkind hnames (wpAny_mono h (fun xv s₁ h₁ => ?_) fun _ _ e => e)
  refine wpAny_mono h₁ (fun it s₂ h₂ => ?_) fun _ _ e => e
  obtain ⟨I, fp, n, P, St, S, news, rfl, W, hsz, hIo, hSt, hst, hfp, F, N, hIL, hI₀, off, hS, R⟩ := h₂
  refine block_U W hsz hIo hSt hcell hkind hx hst hfp F N hIL hI₀ off hS R ?_
  intro D C h tk m' ys news' F' N' o1 hn hC₀ hD₀ hCL hDL hCD offC fin
  refine ⟨m', hn, fun h'' hs'' => fin D h'' tk (F'.change hs'' hCL hC₀) (fun p hp => ?_) o1⟩
  refine ⟨hs''.extBut _ _ ?_ (N' p hp).1, (N' p hp).2⟩
  rcases List.mem_cons.mp hp with rfl | hp
  · exact Ne.symm hCD
  · exact offC p hp

theorem rangeIter_st {I : Addr} {a c : Int} {n : Nat} : ∀ i (h h' : Heap) (o : Obj) (nw : List (Addr × Obj)), IsRangeIter h I (a + (i : Nat) * c) ((n : Int) - (i : Nat)) c → h.get? I = some o → h'.get? I = some o → (∀ b o, h₀.get? b = some o → h'.get? b = some o) → News h₀ L h' nw → True → IsRangeIter h' I (a + (i : Nat) * c) ((n : Int) - (i : Nat)) c :=
  fun _ _ _ _ _ st e e' _ _ _ => e'.trans (e.symm.trans st)

theorem CompAt.range {elt : Expr} {x : Str} {scope : Scope} {cl : List (Str × Addr)} {Q : Value → Shared → Prop} {r : Addr} {a b c : Int} {t u v : Tok} {n : Nat} {news : List (Addr × Obj)}
    (hh : A.handled = none) (F : Fr h₀ L s₁.heap m) (N : News h₀ L s₁.heap news) (hr : IsRange s₁.heap r a b c t u v) (hsm : Builtin.Range.small a b c = true) (hn : Builtin.Range.rangeSize a b c = ((n : Nat) : Int)) (hsz : n ≤ sizeLine)
    (R : ∀ g, CompRest prog w A h₀ L m env elt x scope cl { s₁ with heap := g } (fun _ => True) (fun i v => ∃ t, v = .int (a + (i : Int) * c) t) (FinE h₀ L m { s₁ with heap := g } Q) n 0 [] news) :
    wpAny (model prog w) A (pyIter (.ref r)) (CompAt prog w A h₀ L m env elt x scope cl Q) E s₁ := by
  refine wpAny_pyIter_range hr hsm ?_
  have up : ∀ o : Obj, Kept s₁.heap (s₁.heap.push o) := fun o b o' e => Heap.get?_push_of_some _ e
  refine ⟨_, _, n, _, _, _, news, rfl, Walks.range hh s₁.heap.objs.size a c n, hsz, fun i h st => ⟨_, st⟩, rangeIter_st, (by show IsRangeIter _ _ _ _ _; rw [hn]; simpa using Heap.get?_push_size _ rfl), (fun b hb => ?_),
    F.keeps (up _), N.grown (up _), Nat.ne_of_lt F.ns.lt, next_is_new F, fun p hp => Nat.ne_of_lt (Heap.lt_size (N p hp).1), trivial, R _⟩
  rw [List.mem_singleton.mp hb]
  show s₁.heap.objs.size < (s₁.heap.push _).objs.size
  rw [Heap.size_push]; exact Nat.lt_succ_self _

theorem CompAt.bytes {elt : Expr} {x : Str} {scope : Scope} {cl : List (Str × Addr)} {Q : Value → Shared → Prop} {b : Array UInt8} {t : Tok} {news : List (Addr × Obj)}
    (hh : A.handled = none) (F : Fr h₀ L s₁.heap m) (N : News h₀ L s₁.heap news) (hsz : b.size ≤ sizeLine)
    (R : ∀ g, CompRest prog w A h₀ L m env elt x scope cl { s₁ with heap := g } (fun _ => True) (fun i v => ∃ c u, b[i]? = some c ∧ v = .int (c.toNat : Int) u) (FinE h₀ L m { s₁ with heap := g } Q) b.size 0 [] news) :
    wpAny (model prog w) A (pyIter (.bytes b t)) (CompAt prog w A h₀ L m env elt x scope cl Q) E s₁ := by
  refine KBw.pyIter_bytes ?_
  have up : ∀ o : Obj, Kept s₁.heap (s₁.heap.push o) := fun o b o' e => Heap.get?_push_of_some _ e
  refine ⟨_, _, b.size, _, _, fun _ => True, news, rfl, KBw.walks hh s₁.heap.objs.size b t, hsz, fun i h st => ?_, ?_, ⟨_, Heap.get?_push_size _ rfl, rfl, rfl⟩, (fun b hb => ?_),
    F.keeps (up _), N.grown (up _), Nat.ne_of_lt F.ns.lt, next_is_new F, fun p hp => Nat.ne_of_lt (Heap.lt_size (N p hp).1), trivial, R _⟩
  · obtain ⟨o, e, _⟩ := st; exact ⟨o, e⟩
  · rintro i h h' o nw ⟨o', e1, e2⟩ e e' _ _ _
    rw [e] at e1; cases e1
    exact ⟨o, e', e2⟩
  · rw [List.mem_singleton.mp hb]
    show s₁.heap.objs.size < (s₁.heap.push _).objs.size
    rw [Heap.size_push]; exact Nat.lt_succ_self _

theorem CompAt.list {elt : Expr} {x : Str} {scope : Scope} {cl : List (Str × Addr)} {Q : Value → Shared → Prop} {ax : Addr} {its : Array Value} {news : List (Addr × Obj)}
    (hh : A.handled = none) (F : Fr h₀ L s₁.heap m) (N : News h₀ L s₁.heap news) (S : SrcAt h₀ ax its news) (hsz : its.size ≤ sizeLine)
    (R : ∀ g, CompRest prog w A h₀ L m env elt x scope cl { s₁ with heap := g } (SrcAt h₀ ax its) (fun i v => its[i]? = some v) (FinE h₀ L m { s₁ with heap := g } Q) its.size 0 [] news) :
    wpAny (model prog w) A (pyIter (.ref ax)) (CompAt prog w A h₀ L m env elt x scope cl Q) E s₁ := by
  have hl := S.list F.keep N
  have hlt : ax < s₁.heap.objs.size := by obtain ⟨_, e, _⟩ := hl; exact Heap.lt_size e
  refine wpAny_pyIter_list hl ?_
  have up : ∀ o : Obj, Kept s₁.heap (s₁.heap.push o) := fun o b o' e => Heap.get?_push_of_some _ e
  refine ⟨_, _, its.size, _, _, _, news, rfl, Walks.list hh s₁.heap.objs.size ax (Nat.ne_of_lt hlt) its, hsz, (fun i h st => by obtain ⟨o, e, _⟩ := st.1; exact ⟨o, e⟩), list_st, ⟨⟨_, Heap.get?_push_size _ rfl, rfl, rfl⟩, hl.push _⟩, (fun b hb => ?_),
    F.keeps (up _), N.grown (up _), Nat.ne_of_lt F.ns.lt, next_is_new F, fun p hp => Nat.ne_of_lt (Heap.lt_size (N p hp).1), S, R _⟩
  show b < (s₁.heap.push _).objs.size
  rw [Heap.size_push]
  rcases List.mem_cons.mp hb with rfl | hb
  · exact Nat.lt_succ_self _
  · rw [List.mem_singleton.mp hb]; exact Nat.lt_succ_of_lt hlt
end

section
variable {prog : Program} {w : World} {A : Around} {h₀ : Heap} {L : Addr} {m : Str → Option Value} {env : Env} {elt : Expr} {x : Str} {scope : Scope} {cl : List (Str × Addr)} {s : Shared} {S : List (Addr × Obj) → Prop} {P : Nat → Value → Prop} {Fin : List Value → List (Addr × Obj) → Prop} {news : List (Addr × Obj)}

theorem comp_ints {n : Nat} {ks : List Int} (g : Int → Int) (hks : ks.length = n) (hP : ∀ i v, i < n → P i v → ∃ k t, ks[i]? = some k ∧ v = .int k t)
    (turn : ∀ k t I oI C oC D m₂ ys h tk (E' : Value → Shared → Prop), k ∈ ks → NsObj oC m₂ → m₂ x = some (.int k t) → Fr h₀ L h m → News h₀ L h ((I, oI) :: (C, oC) :: (D, lst ys) :: news) → Off3 I C D news → ((@Ne Nat I C) ∧ (@Ne Nat I D) ∧ (@Ne Nat C D)) →
      wpAny (model prog w) A (eval elt (compEnvC scope cl C env)) (CompEnd h₀ L m { s with heap := h, toks := tk } I oI C oC D (lst ys) S (KCfEl news (g k))) E' { s with heap := h, toks := tk })
    (fin : ∀ ys, IntsAre ys (ks.map g) → Fin ys news) : CompRest prog w A h₀ L m env elt x scope cl s S P Fin n 0 [] news := by
  have key : ∀ (j i : Nat) (ys : List Value), i + j = n → IntsAre ys ((ks.take i).map g) → CompRest prog w A h₀ L m env elt x scope cl s S P Fin j i ys news := by
    intro j
    induction j with
    | zero =>
      intro i ys hi hy
      have e : i = ks.length := by omega
      subst e
      rw [List.take_length] at hy
      exact CompRest.zero (fin ys hy)
    | succ j ih =>
      intro i ys hi hy
      refine CompRest.succ ?_
      intro v I oI C oC D m₂ h tk E' hv hC hx F N off ne
      obtain ⟨k, t, hk, hv'⟩ := hP i v (by omega) hv
      rw [hv'] at hx
      refine wpAny_mono (turn k t I oI C oC D m₂ ys h tk E' (List.mem_of_getElem? hk) hC hx F N off ne) (fun y s₂ hq => ?_) fun _ _ e => e
      obtain ⟨h', tk', nw, e, F', N', off', hS, hn, t', hy'⟩ := hq
      rw [hn] at N' off' hS
      refine ⟨h', tk', news, e, F', N', off', hS, ?_⟩
      rw [hy']
      refine ih (i + 1) _ (by omega) ?_
      rw [List.take_add_one, hk]
      simpa using IntsAre.append hy (.cons (g k) t' .nil)
  exact key n 0 [] (by omega) (by simp only [List.take_zero, List.map_nil]; exact .nil)
end
end Mine
end

-- Loop
section
open PySem PySem.W PyProof.Rows PySem.Calls
set_option Elab.async false
set_option maxRecDepth 100000
namespace Mine

section
variable {prog : Program} {w : World} {A : Around} {E : Value → Shared → Prop} {s : Shared} {env : Env} {h₀ : Heap} {x : Str} {body : List Stmt} {Q : Flow → Shared → Prop} {m₀ : Str → Option Value} {news : List (Addr × Obj)}

theorem iter_bytes {b : Array UInt8} {tb : Tok} {ks : List Int} (J : Nat → (Str → Option Value) → List (Addr × Obj) → Prop)
    (hk : KBw.bInts b = ks) (hh : A.handled = none) (F : Fr h₀ env.locals s.heap m₀) (N : News h₀ env.locals s.heap news) (hj : J 0 m₀ news)
    (turn : ∀ i k t m₁ nx h tk own, i < ks.length → ks[i]? = some k → 0 ≤ k → k < 256 → nx.map (·.1) = news.map (·.1) → OwnOff own (news.map (·.1)) → J i m₁ nx → Fr h₀ env.locals h (fun y => if y = x then some (.int k t) else m₁ y) → News h₀ env.locals h (nx ++ own) →
      wpAny (model prog w) A (execs body env) (InvPostN h₀ env.locals (J (i + 1)) own (news.map (·.1)) { s with heap := h, toks := tk } Q) E { s with heap := h, toks := tk })
    (done : ∀ m₁ nx h tk, J ks.length m₁ nx → Fr h₀ env.locals h m₁ → News h₀ env.locals h nx → Q .next { s with heap := h, toks := tk }) :
    wpAny (model prog w) A (pyIter (.bytes b tb)) (fun it s₂ => LoopAtV prog w A h₀ env x body Q E it s₂) E s := by
  subst hk
  refine KBw.pyIter_bytes ?_
  have W := KBw.walks (prog := prog) (w := w) hh s.heap.objs.size b tb
  refine loop_invN J W ?_ ?_ ?_ ?_ ⟨_, Heap.get?_push_size _ rfl, rfl, rfl⟩ (F.push _) (fun p hp => ⟨Heap.get?_push_of_some _ (N p hp).1, (N p hp).2⟩) hj ?_ ?_
  · intro hm
    exact absurd F.ns.lt ((List.mem_singleton.mp hm) ▸ Nat.lt_irrefl _)
  · intro b' hb
    rw [List.mem_singleton.mp hb]
    exact next_is_new F
  · intro p hp hI
    exact absurd (Heap.lt_size (N p hp).1) ((List.mem_singleton.mp hI) ▸ Nat.lt_irrefl _)
  · intro p hp hI
    exact absurd (Heap.lt_size (N p hp).1) ((List.mem_singleton.mp hI) ▸ Nat.lt_irrefl _)
  · rintro i v m₁ nx h tk own hi ⟨n, u, hn, rfl⟩ hadr hoff hJ F₁ N₁
    have hn' := KBw.ints_get hn
    have hb := KBw.ints_in (List.mem_of_getElem? hn')
    exact turn i _ u m₁ nx h tk own (by rw [KBw.ints_length]; exact hi) hn' hb.1 hb.2 hadr hoff hJ F₁ N₁
  · rintro m₁ nx h tk hJ F₁ N₁
    exact done m₁ nx h tk (by rw [KBw.ints_length]; exact hJ) F₁ N₁

theorem iter_range {r : Addr} {a b c : Int} {t u v : Tok} {n : Nat} (J : Nat → (Str → Option Value) → List (Addr × Obj) → Prop)
    (hr : IsRange s.heap r a b c t u v) (hsm : Builtin.Range.small a b c = true) (hn : Builtin.Range.rangeSize a b c = ((n : Nat) : Int))
    (hh : A.handled = none) (F : Fr h₀ env.locals s.heap m₀) (N : News h₀ env.locals s.heap news) (hj : J 0 m₀ news)
    (turn : ∀ i t m₁ nx h tk own, i < n → nx.map (·.1) = news.map (·.1) → OwnOff own (news.map (·.1)) → J i m₁ nx → Fr h₀ env.locals h (fun y => if y = x then some (.int (a + (i : Int) * c) t) else m₁ y) → News h₀ env.locals h (nx ++ own) →
      wpAny (model prog w) A (execs body env) (InvPostN h₀ env.locals (J (i + 1)) own (news.map (·.1)) { s with heap := h, toks := tk } Q) E { s with heap := h, toks := tk })
    (done : ∀ m₁ nx h tk, J n m₁ nx → Fr h₀ env.locals h m₁ → News h₀ env.locals h nx → Q .next { s with heap := h, toks := tk }) :
    wpAny (model prog w) A (pyIter (.ref r)) (fun it s₂ => LoopAtV prog w A h₀ env x body Q E it s₂) E s := by
  refine wpAny_pyIter_range hr hsm ?_
  have W := Walks.range (prog := prog) (w := w) hh s.heap.objs.size a c n
  refine loop_invN J W ?_ ?_ ?_ ?_ (by show IsRangeIter _ _ _ _ _; rw [hn]; simpa using Heap.get?_push_size _ rfl) (F.push _) (fun p hp => ⟨Heap.get?_push_of_some _ (N p hp).1, (N p hp).2⟩) hj ?_ ?_
  · intro hm
    exact absurd F.ns.lt ((List.mem_singleton.mp hm) ▸ Nat.lt_irrefl _)
  · intro b' hb
    rw [List.mem_singleton.mp hb]
    exact next_is_new F
  · intro p hp hI
    exact absurd (Heap.lt_size (N p hp).1) ((List.mem_singleton.mp hI) ▸ Nat.lt_irrefl _)
  · intro p hp hI
    exact absurd (Heap.lt_size (N p hp).1) ((List.mem_singleton.mp hI) ▸ Nat.lt_irrefl _)
  · rintro i v m₁ nx h tk own hi ⟨u, rfl⟩ hadr hoff hJ F₁ N₁
    exact turn i u m₁ nx h tk own hi hadr hoff hJ F₁ N₁
  · exact done

/-- a list that stands at the ground -/
theorem iter_list {l : Addr} {vs : List Value} {ns : List Int} (J : Nat → (Str → Option Value) → List (Addr × Obj) → Prop)
    (hh : A.handled = none) (hl : h₀.IsList l vs.toArray) (hi : IntsAre vs ns) (F : Fr h₀ env.locals s.heap m₀) (N : News h₀ env.locals s.heap news) (hj : J 0 m₀ news)
    (turn : ∀ i k t m₁ nx h tk own, i < ns.length → ns[i]? = some k → nx.map (·.1) = news.map (·.1) → OwnOff own (news.map (·.1)) → J i m₁ nx → Fr h₀ env.locals h (fun y => if y = x then some (.int k t) else m₁ y) → News h₀ env.locals h (nx ++ own) →
      wpAny (model prog w) A (execs body env) (InvPostN h₀ env.locals (J (i + 1)) own (news.map (·.1)) { s with heap := h, toks := tk } Q) E { s with heap := h, toks := tk })
    (done : ∀ m₁ nx h tk, J ns.length m₁ nx → Fr h₀ env.locals h m₁ → News h₀ env.locals h nx → Q .next { s with heap := h, toks := tk }) :
    wpAny (model prog w) A (pyIter (.ref l)) (fun it s₂ => LoopAtV prog w A h₀ env x body Q E it s₂) E s :=
  iter_invN J hh hl hi F N hj (fun i k t m₁ nx h tk own hk hadr hoff hJ F₁ N₁ => turn i k t m₁ nx h tk own (List.getElem?_eq_some_iff.mp hk).1 hk hadr hoff hJ F₁ N₁) done
end
end Mine
end

-- Plain
section
open PySem PySem.W PyProof.Rows PySem.Calls
set_option Elab.async false
namespace Mine
/-- the number that a row of digits spells -/
def tot (B : Int) (os : List Int) : Int := os.foldl (fun a k => B * a + k) 0
theorem tot_snoc (B : Int) (os : List Int) (k : Int) : tot B (os ++ [k]) = B * tot B os + k := by simp [tot, List.foldl_append]
theorem tot_bound {B : Int} (hB : 1 < B) : ∀ os : List Int, (∀ k ∈ os, 0 ≤ k ∧ k < B) → 0 ≤ tot B os ∧ tot B os < B ^ os.length := by
  have key : ∀ (n : Nat) (os : List Int), os.length = n → (∀ k ∈ os, 0 ≤ k ∧ k < B) → 0 ≤ tot B os ∧ tot B os < B ^ os.length := by
    intro n
    induction n with
    | zero =>
      intro os hn _
      rw [List.eq_nil_of_length_eq_zero hn]
      exact ⟨by simp [tot], by simp [tot]⟩
    | succ n ih =>
      intro os hn h
      obtain ⟨r, k, rfl⟩ : ∃ r k, os = r ++ [k] := ⟨os.dropLast, os.getLast (by intro e; rw [e] at hn; cases hn), (List.dropLast_concat_getLast _).symm⟩
      have h1 := ih r (by simpa using hn) fun j hj => h j (List.mem_append_left _ hj)
      have h2 := h k (by simp)
      rw [tot_snoc, List.length_append, List.length_singleton, Int.pow_succ]
      have h3 : 0 ≤ B * tot B r := Int.mul_nonneg (by omega) h1.1
      have h4 : B * tot B r ≤ B * (B ^ r.length - 1) := Int.mul_le_mul_of_nonneg_left (by omega) (by omega)
      rw [Int.mul_sub, Int.mul_one, Int.mul_comm B (B ^ r.length)] at h4
      omega
  exact fun os => key _ os rfl
theorem mul_ge {a b : Int} (ha : 0 < a) (hb : 1 ≤ b) : a ≤ a * b := by
  have := Int.mul_le_mul_of_nonneg_left hb (Int.le_of_lt ha)
  rwa [Int.mul_one] at this
theorem pow_le_pow' {B : Int} (hB : 1 < B) {i j : Nat} (h : i ≤ j) : B ^ i ≤ B ^ j := by
  obtain ⟨k, rfl⟩ := Nat.exists_eq_add_of_le h
  induction k with
  | zero => exact Int.le_refl _
  | succ k ih =>
    have hp : 0 < B ^ (i + k) := Int.pow_pos (by omega)
    rw [← Nat.add_assoc, Int.pow_succ]
    exact Int.le_trans (ih (Nat.le_add_right ..)) (mul_ge hp (by omega))
/-- what group_codes hands back -/
def groupCodes (os as : List Int) : List Int :=
  (downKs (os.length : Int) (os.length + 1)).map fun k => as.getD ((tot 256 os * 2 ^ (6 - 2 * os.length)).fdiv (2 ^ (6 * k).toNat) % 64).toNat 0
/-- what _law_bits hands back -/
def lawBits (sz : Nat) (ns : List Int) : List Int := ns.flatMap fun n => (List.range sz).map fun (i : Nat) => n / 2 ^ (sz - 1 - i) % 2
theorem lawBits_snoc {sz i : Nat} {ns : List Int} {k : Int} (h : ns[i]? = some k) : lawBits sz (ns.take (i + 1)) = lawBits sz (ns.take i) ++ (List.range sz).map fun (j : Nat) => k / 2 ^ (sz - 1 - j) % 2 := by
  rw [List.take_add_one, h]
  simp [lawBits]
theorem lawBits_length (sz : Nat) : ∀ ns : List Int, (lawBits sz ns).length = ns.length * sz
  | [] => by simp [lawBits]
  | n :: r => by
    have ih := lawBits_length sz r
    unfold lawBits at ih ⊢
    rw [List.flatMap_cons, List.length_append, ih, List.length_map, List.length_range, List.length_cons, Nat.succ_mul, Nat.add_comm]
/-- what _law_numbers hands back -/
def lawNum (sz : Nat) (bs : List Int) (a : Nat) : Int := ((List.range sz).map fun (i : Nat) => bs.getD (sz * a + i) 0 * 2 ^ (sz - 1 - i)).sum
def lawNumbers (sz : Nat) (bs : List Int) : List Int := (List.range (bs.length / sz)).map (lawNum sz bs)
/-- what group_octets hands back -/
def groupSpare (ws : List Int) : Int := tot 64 ws % 2 ^ (8 - 2 * ws.length)
def groupOctets (ws : List Int) : List Int := (downKs ((ws.length : Int) - 2) (ws.length - 1)).map fun k => ((tot 64 ws).fdiv (2 ^ (8 - 2 * ws.length))).fdiv (2 ^ (8 * k).toNat) % 256
end Mine
end

-- CompX
section
open PySem PySem.W PyProof.Rows PySem.Calls
set_option Elab.async false
set_option maxRecDepth 100000
namespace Mine
open PyProof.Rows.LCg

section
variable {prog : Program} {w : World} {A : Around} {E : Value → Shared → Prop} {R : Result → Shared → Prop} {s : Shared} {h₀ : Heap} {L : Addr} {m : Str → Option Value}

/-- the end of a turn of a block: the ledger beside the iterator -/
def TurnEnd (h₀ : Heap) (L : Addr) (m : Str → Option Value) (s : Shared) (I : Addr) (oI : Obj) (S J : List (Addr × Obj) → Prop) (s' : Shared) : Prop :=
  ∃ h' tk' rs', s' = { s with heap := h', toks := tk' } ∧ Fr h₀ L h' m ∧ News h₀ L h' ((I, oI) :: rs') ∧ (∀ p ∈ rs', p.1 ≠ I) ∧ S rs' ∧ J rs'

theorem compLoop_gen {elt : Expr} {gens : List Comprehension} {scope : Scope} {pos : Pos} {d : Nat} {target : Expr} {p : Pos} {bd : Sem Unit} {acc : Value} {cenv : Env}
    {I : Addr} {fp : List Addr} {n : Nat} {P : Nat → Value → Prop} {St : Nat → Heap → Prop} {S : List (Addr × Obj) → Prop} {rs₀ : List (Addr × Obj)} (J : Nat → List (Addr × Obj) → Prop)
    (hturn : compTurn (.ListComp elt gens scope pos) d (.ref I) acc cenv = (standAt p >>= fun _ => pyNext (.ref I) >>= fun r => match r with
      | none => pure (.done .next)
      | some v => letOwnedTupleGo target (.ref I) v >>= fun _ => assign target cenv v >>= fun _ => bd >>= fun _ => again (.compLoop (.ListComp elt gens scope pos) d (.ref I) acc cenv)))
    (hlet : ∀ v, letOwnedTupleGo target (.ref I) v = pure ())
    (W : Walks prog w A I fp [I] n P St) (hIo : ∀ i h, St i h → ∃ o, h.get? I = some o)
    (hSt : ∀ i h h' o nw, St i h → h.get? I = some o → h'.get? I = some o → (∀ b o, h₀.get? b = some o → h'.get? b = some o) → News h₀ L h' nw → S nw → St i h')
    (hst : St 0 s.heap) (F : Fr h₀ L s.heap m) (N : News h₀ L s.heap rs₀) (hIL : L ≠ I) (hI₀ : h₀.get? I = none) (off : ∀ p ∈ rs₀, p.1 ≠ I) (hS : S rs₀) (hJ : J 0 rs₀)
    (turn : ∀ i v oI rs h tk (E' : Value → Shared → Prop), i < n → P i v → J i rs → S rs → Fr h₀ L h m → News h₀ L h ((I, oI) :: rs) → (∀ p ∈ rs, p.1 ≠ I) →
      wpAny (model prog w) A (assign target cenv v >>= fun _ => bd) (fun _ s' => TurnEnd h₀ L m s I oI S (J (i + 1)) s') E' { s with heap := h, toks := tk })
    (done : ∀ h tk rs, J n rs → S rs → Fr h₀ L h m → News h₀ L h rs → R (.ok .next) { s with heap := h, toks := tk }) :
    codeAny (model prog w) A (.compLoop (.ListComp elt gens scope pos) d (.ref I) acc cenv) R s := by
  refine codeAny_loop rfl (fun k s' => ∃ h' tk i rs, s' = { s with heap := h', toks := tk } ∧ i ≤ n ∧ k = n + 1 - i ∧ St i h' ∧ Fr h₀ L h' m ∧ News h₀ L h' rs ∧ (∀ p ∈ rs, p.1 ≠ I) ∧ S rs ∧ J i rs) (fun k s' hI => ?_) (n + 1)
    ⟨s.heap, s.toks, 0, rs₀, rfl, Nat.zero_le _, rfl, hst, F, N, off, hS, hJ⟩
  show wpAny _ A ((compTurn (.ListComp elt gens scope pos) d (.ref I) acc cenv).onRaise (fun x => do noteFrame x cenv; theTreesLotGoes x)) _ _ s'
  refine wpAny_noted ?_
  rw [hturn]
  obtain ⟨h', tk, i, rs, rfl, hi, rfl, hst', F', N', off', hS', hJ'⟩ := hI
  refine wpAny_bind (wpAny_standAt (wpAny_bind ?_))
  by_cases hlt : i < n
  · refine W.item i _ _ _ hlt hst' fun v h₂ tk₂ hPv hst₂ hk₂ => ?_
    obtain ⟨oI, heI⟩ := hIo _ _ hst₂
    have F₂ : Fr h₀ L h₂ m := fr_but F' hk₂ hIL hI₀
    have N₂ : News h₀ L h₂ rs := news_but N' hk₂ off'
    have N₃ : News h₀ L h₂ ((I, oI) :: rs) := fun p hp => by
      rcases List.mem_cons.mp hp with rfl | hp
      · exact ⟨heI, Ne.symm hIL, hI₀⟩
      · exact N₂ p hp
    refine wpAny_bind (wpAny_of_eq (hlet v) ?_)
    have T := turn i v oI rs h₂ tk₂ (notedBy (model prog w) A cenv fun x s' => R (.error x) s') hlt hPv hJ' hS' F₂ N₃ off'
    have key : ∀ {t₁ : Sem Unit} {k : Unit → Sem Fin}, wpAny (model prog w) A (t₁ >>= fun _ => bd) (fun _ s' => wpAny (model prog w) A (k ()) (fun fin s' => match fin with | .done f => R (.ok f) s' | .again c' => c' = .compLoop (.ListComp elt gens scope pos) d (.ref I) acc cenv ∧ ∃ m_1, m_1 < n + 1 - i ∧ ∃ h' tk i rs, s' = { s with heap := h', toks := tk } ∧ i ≤ n ∧ m_1 = n + 1 - i ∧ St i h' ∧ Fr h₀ L h' m ∧ News h₀ L h' rs ∧ (∀ p ∈ rs, p.1 ≠ I) ∧ S rs ∧ J i rs) (notedBy (model prog w) A cenv fun x s' => R (.error x) s') s') (notedBy (model prog w) A cenv fun x s' => R (.error x) s') { s with heap := h₂, toks := tk₂ } →
        wpAny (model prog w) A (t₁ >>= fun _ => bd >>= k) (fun fin s' => match fin with | .done f => R (.ok f) s' | .again c' => c' = .compLoop (.ListComp elt gens scope pos) d (.ref I) acc cenv ∧ ∃ m_1, m_1 < n + 1 - i ∧ ∃ h' tk i rs, s' = { s with heap := h', toks := tk } ∧ i ≤ n ∧ m_1 = n + 1 - i ∧ St i h' ∧ Fr h₀ L h' m ∧ News h₀ L h' rs ∧ (∀ p ∈ rs, p.1 ≠ I) ∧ S rs ∧ J i rs) (notedBy (model prog w) A cenv fun x s' => R (.error x) s') { s with heap := h₂, toks := tk₂ } := by
      intro t₁ k h
      have e : (t₁ >>= fun _ => bd >>= k) = ((t₁ >>= fun _ => bd) >>= k) := by rw [bind_assoc]
      rw [e]
      exact wpAny_bind (wpAny_mono h (fun _ _ q => q) fun _ _ q => q)
    refine key (wpAny_mono T (fun _ s₄ h₄ => ?_) fun _ _ q => q)
    obtain ⟨h₄, tk₄, rs₄, rfl, F₄, N₄, off₄, hS₄, hJ₄⟩ := h₄
    have zI := (N₄ (I, oI) List.mem_cons_self).1
    have N₄' : News h₀ L h₄ rs₄ := fun p hp => N₄ p (List.mem_cons_of_mem _ hp)
    have hst₄ : St (i + 1) h₄ := hSt _ _ _ _ _ hst₂ heI zI F₄.keep N₄' hS₄
    exact wpAny_pure ⟨rfl, n + 1 - (i + 1), by omega, h₄, tk₄, i + 1, rs₄, rfl, hlt, rfl, hst₄, F₄, N₄', off₄, hS₄, hJ₄⟩
  · obtain rfl : i = n := Nat.le_antisymm hi (Nat.not_lt.mp hlt)
    refine W.done _ _ _ hst' fun h₂ tk₂ hk₂ => ?_
    exact wpAny_pure (done h₂ tk₂ rs hJ' hS' (fr_but F' hk₂ hIL hI₀) (news_but N' hk₂ off'))
end
end Mine
end

-- CompGo
section
open PySem PySem.W PyProof.Rows PySem.Calls
set_option Elab.async false
set_option maxRecDepth 100000
namespace Mine
open PyProof.Rows.LCg

section
variable {prog : Program} {w : World} {A : Around} {E : Value → Shared → Prop} {R : Result → Shared → Prop} {s : Shared} {h₀ : Heap} {L : Addr} {m : Str → Option Value} {env : Env}

def compEnvG (scope : Scope) (cl : List (Str × Addr)) (C : Addr) (env : Env) : Env :=
  { scope := relabel scope env, locals := C, globals := env.globals, cells := cellsFrom (C + 1) scope.names cl, qual := env.qual, func := none, code := env.code, frame := env.frame, builtins := env.builtins }

theorem newFunctionEnv_block {scope : Scope} {cl : List (Str × Addr)} {Q : Env → Shared → Prop}
    (h : Q { (compEnvG scope cl s.heap.objs.size env) with scope := scope } { s with heap := pushCells (s.heap.push { cls := .type "dict", data := .dict #[] }) scope.names }) :
    wpAny (model prog w) A (newFunctionEnv scope env.globals cl [] env.qual none .none (some env)) Q E s := by
  simp only [newFunctionEnv, Option.isSome_some, if_true]
  refine wpAny_bind (wpAny_alloc ?_)
  refine wpAny_bind (wpAny_layCells _ (fun name kind cells => by cases hkc : kind == NameKind.cell <;> simp) _ _ _ _ ?_)
  rw [show ({ s with heap := s.heap.push { cls := .type "dict", data := .dict #[] } } : Shared).heap.objs.size = s.heap.objs.size + 1 from Heap.size_push ..]
  simp only [List.forIn_nil]
  exact wpAny_bind (wpAny_pure (wpAny_pure h))

/-- the block's end: its names, its list, the ledger -/
def GoEnd (h₀ : Heap) (L : Addr) (m : Str → Option Value) (C D : Addr) (s₂ : Shared) (Q : Value → Shared → Prop) (r : Result) (s' : Shared) : Prop :=
  match r with
  | .ok _ => ∃ h' tk' oC mC ys news', s' = { s₂ with heap := h', toks := tk' } ∧ NsObj oC mC ∧ Fr h₀ L h' m ∧ News h₀ L h' ((C, oC) :: (D, lst ys) :: news') ∧ C ≠ D ∧ (∀ p ∈ news', p.1 ≠ C ∧ p.1 ≠ D) ∧
      (∀ h'' tk'', Fr h₀ L h'' m → News h₀ L h'' ((D, lst ys) :: news') → Q (.ref D) { s₂ with heap := h'', toks := tk'' })
  | .error _ => False

/-- what holds where the block's loop begins -/
structure GoAt (h₀ : Heap) (L : Addr) (m : Str → Option Value) (C D : Addr) (oC : Obj) (cs news : List (Addr × Obj)) (g h₁ : Heap) : Prop where
  keep : Kept g h₁
  ns : NsObj oC fun _ => none
  fr : Fr h₀ L h₁ m
  nw : News h₀ L h₁ ((C, oC) :: cs ++ (D, lst []) :: news)
  cd : C ≠ D
  szC : g.objs.size ≤ C
  szD : g.objs.size ≤ D
  off : ∀ p ∈ news, p.1 ≠ C ∧ p.1 ≠ D ∧ ∀ q ∈ cs, p.1 ≠ q.1
  offc : ∀ q ∈ cs, q.1 ≠ C ∧ q.1 ≠ D ∧ g.objs.size ≤ q.1

theorem ns_empty : NsObj { cls := .type "dict", data := .dict #[] } fun _ => none := ⟨#[], 0, rfl, by intro e he; simp at he, fun _ => rfl⟩

theorem fresh_at {g : Heap} (F : Fr h₀ L g m) (a : Addr) (ha : g.objs.size ≤ a) : a ≠ L ∧ h₀.get? a = none := by
  have hL := F.ns.lt
  refine ⟨fun e => ?_, ?_⟩
  · subst e; exact absurd hL (Nat.not_lt.mpr ha)
  · cases q : h₀.get? a with
    | none => rfl
    | some o => exact absurd (Heap.lt_size (F.keep a o q)) (Nat.not_lt.mpr ha)

theorem ListComp_go {elt iter : Expr} {t : Expr} {rest : List Comprehension} {scope : Scope} {cl : List (Str × Addr)} {pos : Pos} {Q : Value → Shared → Prop}
    (hclos : closureFor scope env = pure cl) (hcf : ∀ n, cellsFrom n scope.names cl = cl) (hpush : ∀ hh : Heap, pushCells hh scope.names = hh) (hkind : scope.kind = .function)
    (hnames : ∀ y ∈ scope.names, y.2 = .local → scope.names.lookup y.1 = some .local)
    (h : wpAny (model prog w) A (eval iter env) (fun xv s₁ => wpAny (model prog w) A (pyIter xv) (fun it s₂ => ∃ news, Fr h₀ L s₂.heap m ∧ News h₀ L s₂.heap news ∧
      ∀ C D oC h₁, GoAt h₀ L m C D oC [] news s₂.heap h₁ →
        codeAny (model prog w) A (.compStart (.ListComp elt (⟨t, iter, [], 0⟩ :: rest) scope pos) 0 it (.ref D) (compEnvC scope cl C env)) (GoEnd h₀ L m C D s₂ Q) { s₂ with heap := h₁ }) E s₁) E s)
    (hs : ∀ x, foldedSetIterable iter env x = pure x := by intro _; rfl) :
    wpAny (model prog w) A (eval (.ListComp elt (⟨t, iter, [], 0⟩ :: rest) scope pos) env) Q E s := by
  rw [eval_ListComp]
  refine wpAny_comprehension_free (use := none) rfl hs hclos hkind hnames (wpAny_mono h (fun xv s₁ h₁ => ?_) fun _ _ e => e)
  refine wpAny_mono h₁ (fun it s₂ h₂ => ?_) fun _ _ e => e
  obtain ⟨news, F, N, H⟩ := h₂
  refine wpAny_newObj_type (newFunctionEnv_block ?_)
  rw [hpush]
  unfold compEnvG
  rw [hcf]
  dsimp only
  generalize hG : s₂.heap.push { cls := .type "list", dict := none, data := .seq ([] : List Value).toArray } = G
  have hGs : G.objs.size = s₂.heap.objs.size + 1 := by rw [← hG, Heap.size_push]
  have up1 : Kept s₂.heap G := fun b o e => by rw [← hG]; exact Heap.get?_push_of_some _ e
  have hD : G.get? s₂.heap.objs.size = some (lst []) := by rw [← hG]; exact Heap.get?_push_size _ rfl
  have up2 : Kept G (G.push { cls := .type "dict", data := .dict #[] }) := fun b o e => Heap.get?_push_of_some _ e
  have up : Kept s₂.heap (G.push { cls := .type "dict", data := .dict #[] }) := fun b o e => up2 b o (up1 b o e)
  have fr := fresh_at F
  have hlt : ∀ p ∈ news, p.1 < s₂.heap.objs.size := fun p hp => Heap.lt_size (N p hp).1
  have GA : GoAt h₀ L m G.objs.size s₂.heap.objs.size { cls := .type "dict", data := .dict #[] } [] news s₂.heap (G.push { cls := .type "dict", data := .dict #[] }) := by
    refine ⟨up, ns_empty, F.keeps up, fun p hp => ?_, by rw [hGs]; exact Nat.succ_ne_self _, by rw [hGs]; exact Nat.le_succ _, Nat.le_refl _, fun p hp => ?_, fun q hq => nomatch hq⟩
    · rcases List.mem_cons.mp hp with rfl | hp
      · exact ⟨Heap.get?_push_size _ rfl, fr _ (by rw [hGs]; exact Nat.le_succ _)⟩
      · rcases List.mem_cons.mp hp with rfl | hp
        · exact ⟨up2 _ _ hD, fr _ (Nat.le_refl _)⟩
        · exact ⟨up _ _ (N p hp).1, (N p hp).2⟩
    · have := hlt p hp
      exact ⟨by rw [hGs]; exact Nat.ne_of_lt (Nat.lt_succ_of_lt this), Nat.ne_of_lt this, fun q hq => nomatch hq⟩
  refine codeAny_mono (H _ _ _ _ GA) fun r s' hr => ?_
  cases r with
  | error x => exact hr.elim
  | ok f =>
    obtain ⟨h', tk', oC, mC, ys, news', rfl, hns, F', N', hcd, off', fin⟩ := hr
    have NC := N' _ List.mem_cons_self
    refine ⟨mC, hns.ns NC.1, fun h'' hs'' => fin h'' tk' (F'.change hs'' NC.2.1 NC.2.2) fun p hp => ?_⟩
    have z := N' p (List.mem_cons_of_mem _ hp)
    refine ⟨hs''.extBut _ _ ?_ z.1, z.2⟩
    rcases List.mem_cons.mp hp with rfl | hp
    · exact Ne.symm hcd
    · exact (off' p hp).1

/-- one name of the block's is a cell -/
theorem ListComp_go1 {elt iter : Expr} {t : Expr} {rest : List Comprehension} {scope : Scope} {cl : List (Str × Addr)} {pos : Pos} {Q : Value → Shared → Prop}
    {y : Str} (hclos : closureFor scope env = pure cl) (hcf : ∀ n, cellsFrom n scope.names cl = (y, n) :: cl) (hpush : ∀ hh : Heap, pushCells hh scope.names = hh.push { cls := .type "cell", data := .cell none }) (hkind : scope.kind = .function)
    (hnames : ∀ y ∈ scope.names, y.2 = .local → scope.names.lookup y.1 = some .local)
    (h : wpAny (model prog w) A (eval iter env) (fun xv s₁ => wpAny (model prog w) A (pyIter xv) (fun it s₂ => ∃ news, Fr h₀ L s₂.heap m ∧ News h₀ L s₂.heap news ∧
      ∀ C D oC oc h₁, oc.data = .cell none → GoAt h₀ L m C D oC [(C + 1, oc)] news s₂.heap h₁ →
        codeAny (model prog w) A (.compStart (.ListComp elt (⟨t, iter, [], 0⟩ :: rest) scope pos) 0 it (.ref D) (compEnvC scope ((y, C + 1) :: cl) C env)) (GoEnd h₀ L m C D s₂ Q) { s₂ with heap := h₁ }) E s₁) E s)
    (hs : ∀ x, foldedSetIterable iter env x = pure x := by intro _; rfl) :
    wpAny (model prog w) A (eval (.ListComp elt (⟨t, iter, [], 0⟩ :: rest) scope pos) env) Q E s := by
  rw [eval_ListComp]
  refine wpAny_comprehension_free (use := none) rfl hs hclos hkind hnames (wpAny_mono h (fun xv s₁ h₁ => ?_) fun _ _ e => e)
  refine wpAny_mono h₁ (fun it s₂ h₂ => ?_) fun _ _ e => e
  obtain ⟨news, F, N, H⟩ := h₂
  refine wpAny_newObj_type (newFunctionEnv_block ?_)
  rw [hpush]
  unfold compEnvG
  rw [hcf]
  dsimp only
  generalize hG : s₂.heap.push { cls := .type "list", dict := none, data := .seq ([] : List Value).toArray } = G
  generalize hK : G.push { cls := .type "dict", data := .dict #[] } = K
  have hGs : G.objs.size = s₂.heap.objs.size + 1 := by rw [← hG, Heap.size_push]
  have hKs : K.objs.size = G.objs.size + 1 := by rw [← hK, Heap.size_push]
  have up1 : Kept s₂.heap G := fun b o e => by rw [← hG]; exact Heap.get?_push_of_some _ e
  have hD : G.get? s₂.heap.objs.size = some (lst []) := by rw [← hG]; exact Heap.get?_push_size _ rfl
  have up2 : Kept G K := fun b o e => by rw [← hK]; exact Heap.get?_push_of_some _ e
  have hC : K.get? G.objs.size = some { cls := .type "dict", data := .dict #[] } := by rw [← hK]; exact Heap.get?_push_size _ rfl
  have up3 : Kept K (K.push { cls := .type "cell", data := .cell none }) := fun b o e => Heap.get?_push_of_some _ e
  have up : Kept s₂.heap (K.push { cls := .type "cell", data := .cell none }) := fun b o e => up3 b o (up2 b o (up1 b o e))
  have fr := fresh_at F
  have hlt : ∀ p ∈ news, p.1 < s₂.heap.objs.size := fun p hp => Heap.lt_size (N p hp).1
  have GA : GoAt h₀ L m G.objs.size s₂.heap.objs.size { cls := .type "dict", data := .dict #[] } [(G.objs.size + 1, { cls := .type "cell", data := .cell none })] news s₂.heap (K.push { cls := .type "cell", data := .cell none }) := by
    refine ⟨up, ns_empty, F.keeps up, fun p hp => ?_, by rw [hGs]; exact Nat.succ_ne_self _, by rw [hGs]; exact Nat.le_succ _, Nat.le_refl _, fun p hp => ?_, fun q hq => ?_⟩
    · rcases List.mem_cons.mp hp with rfl | hp
      · exact ⟨up3 _ _ hC, fr _ (by rw [hGs]; exact Nat.le_succ _)⟩
      rcases List.mem_cons.mp hp with rfl | hp
      · refine ⟨?_, fr _ (by rw [hGs]; exact Nat.le_trans (Nat.le_succ _) (Nat.le_succ _))⟩
        have := Heap.get?_push_size K (o := { cls := .type "cell", data := .cell none }) rfl
        rwa [hKs] at this
      rcases List.mem_cons.mp hp with rfl | hp
      · exact ⟨up3 _ _ (up2 _ _ hD), fr _ (Nat.le_refl _)⟩
      · exact ⟨up _ _ (N p hp).1, (N p hp).2⟩
    · have := hlt p hp
      refine ⟨by rw [hGs]; exact Nat.ne_of_lt (Nat.lt_succ_of_lt this), Nat.ne_of_lt this, fun q hq => ?_⟩
      rw [List.mem_singleton.mp hq, hGs]
      exact Nat.ne_of_lt (Nat.lt_succ_of_lt (Nat.lt_succ_of_lt this))
    · rw [List.mem_singleton.mp hq]
      dsimp only
      refine ⟨Nat.succ_ne_self _, ?_, ?_⟩
      · rw [hGs]; exact Nat.ne_of_gt (Nat.lt_succ_of_lt (Nat.lt_succ_self _))
      · rw [hGs]; exact Nat.le_trans (Nat.le_succ _) (Nat.le_succ _)
  refine codeAny_mono (H _ _ _ _ _ rfl GA) fun r s' hr => ?_
  cases r with
  | error x => exact hr.elim
  | ok f =>
    obtain ⟨h', tk', oC, mC, ys, news', rfl, hns, F', N', hcd, off', fin⟩ := hr
    have NC := N' _ List.mem_cons_self
    refine ⟨mC, hns.ns NC.1, fun h'' hs'' => fin h'' tk' (F'.change hs'' NC.2.1 NC.2.2) fun p hp => ?_⟩
    have z := N' p (List.mem_cons_of_mem _ hp)
    refine ⟨hs''.extBut _ _ ?_ z.1, z.2⟩
    rcases List.mem_cons.mp hp with rfl | hp
    · exact Ne.symm hcd
    · exact (off' p hp).1

/-- a block's start goes on to its loop -/
theorem compStart_any {elt : Expr} {gens : List Comprehension} {scope : Scope} {pos : Pos} {d : Nat} {I : Addr} {acc : Value} {cenv : Env} {t i : Expr} {f : List Expr}
    (hcl : gens[d]? = some ⟨t, i, f, 0⟩) (h0 : codeAny (model prog w) A (.compLoop (.ListComp elt gens scope pos) d (.ref I) acc cenv) R s)
    (hit : ∀ (Q : Value → Shared → Prop) (E : Value → Shared → Prop), Q (.ref I) s → wpAny (model prog w) A (pyIter (.ref I)) Q E s) :
    codeAny (model prog w) A (.compStart (.ListComp elt gens scope pos) d (.ref I) acc cenv) R s := by
  refine codeAny_of_tree ?_
  show wpAny _ _ ((compStart (.ListComp elt gens scope pos) d (.ref I) acc cenv).onRaise (fun x => do noteFrame x cenv; standAt theWindowsPlace)) _ _ s
  refine wpAny_notedAt ?_
  unfold compStart
  have hc : (clausesOf (.ListComp elt gens scope pos))[d]? = some ⟨t, i, f, 0⟩ := hcl
  rw [hc]
  show wpAny _ _ (ask >>= _) _ _ s
  refine wpAny_bind (wpAny_askSetting (wpAny_ite ?_))
  split
  · first
      | exact wpAny_bind (wpAny_pure (wpAny_pure (And.intro rfl h0)))
      | exact wpAny_pure (And.intro rfl h0)
  · first
      | exact wpAny_bind (wpAny_rule (wpAny_bind (wpAny_standAt (wpAny_bind (hit _ _ (wpAny_pure (And.intro rfl h0)))))))
      | (refine wpAny_bind (wpAny_rule ?_); show wpAny _ _ (standAt i.pos >>= _) _ _ s; exact wpAny_bind (wpAny_standAt (wpAny_bind (hit _ _ (wpAny_pure (And.intro rfl h0))))))

theorem blk_store {pre post : List (Addr × Obj)} {C : Addr} {oC : Obj} {mC : Str → Option Value} {cenv : Env} {x : Str} {px : Pos} {v : Value} {Q : Unit → Shared → Prop}
    (F : Fr h₀ L s.heap m) (N : News h₀ L s.heap (pre ++ (C, oC) :: post)) (hns : NsObj oC mC) (h1 : ∀ p ∈ pre, p.1 ≠ C) (h2 : ∀ p ∈ post, p.1 ≠ C) (hC : cenv.locals = C)
    (hx : cenv.kindOf x = some .local) (hp : (cenv.scope.kind == .class || (cenv.scope.kind == .module && cenv.locals != cenv.globals)) = false)
    (h : ∀ h' oC' tk', NsObj oC' (fun y => if y = x then some v else mC y) → Fr h₀ L h' m → News h₀ L h' (pre ++ (C, oC') :: post) → Q () { s with heap := h', toks := tk' }) :
    wpAny (model prog w) A (assign (.Name x px) cenv v) Q E s := by
  subst hC
  have NC := N (cenv.locals, oC) (List.mem_append_right _ List.mem_cons_self)
  refine wpAny_assign_Name (wpAny_storeName_local hx (hns.ns NC.1) (fun h₃ hn₃ hs₃ => ?_) hp)
  obtain ⟨oC', heC, hoC⟩ := ns_obj hn₃
  exact h h₃ oC' _ hoC (F.change hs₃ NC.2.1 NC.2.2) (N.setAt h1 h2 hs₃ heC)

theorem blk_storeC {pre post : List (Addr × Obj)} {c : Addr} {oc : Obj} {v₀ : Option Value} {cenv : Env} {x : Str} {px : Pos} {v : Value} {Q : Unit → Shared → Prop}
    (F : Fr h₀ L s.heap m) (N : News h₀ L s.heap (pre ++ (c, oc) :: post)) (hd : oc.data = .cell v₀) (h1 : ∀ p ∈ pre, p.1 ≠ c) (h2 : ∀ p ∈ post, p.1 ≠ c)
    (hx : cenv.kindOf x = some .cell) (hk : cenv.scope.kind = .function) (hc : cenv.cells.lookup x = some c)
    (h : ∀ h' oc', oc'.data = .cell (some v) → Fr h₀ L h' m → News h₀ L h' (pre ++ (c, oc') :: post) → Q () { s with heap := h' }) :
    wpAny (model prog w) A (assign (.Name x px) cenv v) Q E s := by
  have NC := N (c, oc) (List.mem_append_right _ List.mem_cons_self)
  refine wpAny_assign_Name (wpAny_storeName_cell hk hx hc ⟨oc, NC.1, hd⟩ fun h₃ hv hs₃ => ?_)
  obtain ⟨oc', heC, hoc⟩ := hv
  exact h h₃ oc' hoc (F.change hs₃ NC.2.1 NC.2.2) (N.setAt h1 h2 hs₃ heC)

theorem blk_append {pre post : List (Addr × Obj)} {D : Addr} {ys : List Value} {y : Value} {Q : Value → Shared → Prop}
    (F : Fr h₀ L s.heap m) (N : News h₀ L s.heap (pre ++ (D, lst ys) :: post)) (h1 : ∀ p ∈ pre, p.1 ≠ D) (h2 : ∀ p ∈ post, p.1 ≠ D) (hsz : ys.length ≤ sizeLine)
    (h : ∀ h', Fr h₀ L h' m → News h₀ L h' (pre ++ (D, lst (ys ++ [y])) :: post) → Q .none { s with heap := h' }) :
    wpAny (model prog w) A (call (.builtin "list.append") [.ref D, y]) Q E s := by
  have ND := N (D, lst ys) (List.mem_append_right _ List.mem_cons_self)
  refine append_at (hsz := by show ys.toArray.size ≤ sizeLine; rw [List.size_toArray]; exact hsz) ND.1 fun h₅ hs₅ hD₅ => ?_
  exact h h₅ (F.change hs₅ ND.2.1 ND.2.2) (N.setAt h1 h2 hs₅ (hD₅.trans (congrArg some (lst_snoc ys y))))
end

theorem block2_turn0 (elt it0 it1 : Expr) (x0 x1 : Str) (p0 p1 : Pos) (scope : Scope) (pos : Pos) (it acc : Value) (cenv : Env) :
    compTurn (.ListComp elt [⟨.Name x0 p0, it0, [], 0⟩, ⟨.Name x1 p1, it1, [], 0⟩] scope pos) 0 it acc cenv = (standAt it0.pos >>= fun _ => pyNext it >>= fun r => match r with
      | none => pure (.done .next)
      | some v => letOwnedTupleGo (.Name x0 p0) it v >>= fun _ => assign (.Name x0 p0) cenv v >>= fun _ =>
        (eval it1 cenv >>= fun x => standAt it1.pos >>= fun _ => foldedSetIterable it1 cenv x >>= fun x => holding [x] (pyIter x) >>= fun jt => runOwn (.compStart (.ListComp elt [⟨.Name x0 p0, it0, [], 0⟩, ⟨.Name x1 p1, it1, [], 0⟩] scope pos) 1 jt acc cenv) cenv >>= fun _ => pure ()) >>= fun _ =>
          again (.compLoop (.ListComp elt [⟨.Name x0 p0, it0, [], 0⟩, ⟨.Name x1 p1, it1, [], 0⟩] scope pos) 0 it acc cenv)) := by
  have h : compTurn (.ListComp elt [⟨.Name x0 p0, it0, [], 0⟩, ⟨.Name x1 p1, it1, [], 0⟩] scope pos) 0 it acc cenv = (standAt it0.pos >>= fun _ => pyNext it >>= fun r => match r with
      | none => pure (.done .next)
      | some v => letOwnedTupleGo (.Name x0 p0) it v >>= fun _ => assign (.Name x0 p0) cenv v >>= fun _ =>
        eval it1 cenv >>= fun x => standAt it1.pos >>= fun _ => foldedSetIterable it1 cenv x >>= fun x => holding [x] (pyIter x) >>= fun jt => runOwn (.compStart (.ListComp elt [⟨.Name x0 p0, it0, [], 0⟩, ⟨.Name x1 p1, it1, [], 0⟩] scope pos) 1 jt acc cenv) cenv >>= fun _ =>
          again (.compLoop (.ListComp elt [⟨.Name x0 p0, it0, [], 0⟩, ⟨.Name x1 p1, it1, [], 0⟩] scope pos) 0 it acc cenv)) := by rfl
  rw [h]
  simp only [bind_assoc, pure_bind]
theorem block2_turn1 (elt it0 it1 : Expr) (x0 x1 : Str) (p0 p1 : Pos) (scope : Scope) (pos : Pos) (it acc : Value) (cenv : Env) :
    compTurn (.ListComp elt [⟨.Name x0 p0, it0, [], 0⟩, ⟨.Name x1 p1, it1, [], 0⟩] scope pos) 1 it acc cenv = (standAt it1.pos >>= fun _ => pyNext it >>= fun r => match r with
      | none => pure (.done .next)
      | some v => letOwnedTupleGo (.Name x1 p1) it v >>= fun _ => assign (.Name x1 p1) cenv v >>= fun _ =>
        (eval elt cenv >>= fun x => call (.builtin "list.append") [acc, x] >>= fun _ => pure ()) >>= fun _ =>
          again (.compLoop (.ListComp elt [⟨.Name x0 p0, it0, [], 0⟩, ⟨.Name x1 p1, it1, [], 0⟩] scope pos) 1 it acc cenv)) := by rfl
theorem block1_turn (elt it0 : Expr) (x0 : Str) (p0 : Pos) (scope : Scope) (pos : Pos) (it acc : Value) (cenv : Env) :
    compTurn (.ListComp elt [⟨.Name x0 p0, it0, [], 0⟩] scope pos) 0 it acc cenv = (standAt it0.pos >>= fun _ => pyNext it >>= fun r => match r with
      | none => pure (.done .next)
      | some v => letOwnedTupleGo (.Name x0 p0) it v >>= fun _ => assign (.Name x0 p0) cenv v >>= fun _ =>
        (eval elt cenv >>= fun x => call (.builtin "list.append") [acc, x] >>= fun _ => pure ()) >>= fun _ =>
          again (.compLoop (.ListComp elt [⟨.Name x0 p0, it0, [], 0⟩] scope pos) 0 it acc cenv)) := by rfl

/-- an iterator over ints, made at the end of the heap -/
structure ItOf (prog : Program) (w : World) (A : Around) (g : Heap) (I : Addr) (ns : List Int) (fp : List Addr) (P : Nat → Value → Prop) (St : Nat → Heap → Prop) (h : Heap) : Prop where
  walks : Walks prog w A I fp [I] ns.length P St
  item : ∀ i v, i < ns.length → P i v → ∃ k t, ns[i]? = some k ∧ v = .int k t
  obj : ∀ i h, St i h → ∃ o, h.get? I = some o
  stay : ∀ i h h' o, St i h → h.get? I = some o → h'.get? I = some o → Kept g h' → St i h'
  start : St 0 h
def IterInts (prog : Program) (w : World) (g : Heap) (wv : Value) (ns : List Int) : Prop :=
  ∀ (A : Around), A.handled = none → ∀ (s : Shared) (Q : Value → Shared → Prop) (E : Value → Shared → Prop), Kept g s.heap →
    (∀ o fp P St, ItOf prog w A g s.heap.objs.size ns fp P St (s.heap.push o) → o.isFreed = false → Q (.ref s.heap.objs.size) { s with heap := s.heap.push o }) → wpAny (model prog w) A (pyIter wv) Q E s

section
variable {prog : Program} {w : World} {g : Heap}
theorem IterInts.bytes {b : Array UInt8} {t : Tok} {ns : List Int} (hb : KBw.bInts b = ns) : IterInts prog w g (.bytes b t) ns := by
  intro A hh s Q E k h
  subst hb
  have It : ItOf prog w A g s.heap.objs.size (KBw.bInts b) [s.heap.objs.size] (fun i v => ∃ c u, b[i]? = some c ∧ v = .int (c.toNat : Int) u) (fun i h => KBw.IsBytesIter h s.heap.objs.size b t i)
      (s.heap.push { cls := .type "bytes_iterator", data := .fields #[.bytes b t, .int 0 0] }) := by
    refine ⟨by rw [KBw.ints_length]; exact KBw.walks hh s.heap.objs.size b t, ?_, ?_, ?_, ⟨_, Heap.get?_push_size _ rfl, rfl, rfl⟩⟩
    · rintro i v hi ⟨c, u, hc, rfl⟩
      exact ⟨_, u, KBw.ints_get hc, rfl⟩
    · rintro i h ⟨o, e, _⟩; exact ⟨o, e⟩
    · rintro i h h' o ⟨o', e1, e2⟩ e e' _
      rw [e] at e1; cases e1
      exact ⟨o, e', e2⟩
  exact KBw.pyIter_bytes (h _ _ _ _ It rfl)
theorem IterInts.list {l : Addr} {vs : List Value} {ns : List Int} (hl : g.IsList l vs.toArray) (hi : IntsAre vs ns) : IterInts prog w g (.ref l) ns := by
  intro A hh s Q E k h
  have hl' : s.heap.IsList l vs.toArray := hl.at fun o e => k l o e
  have hlt : l < s.heap.objs.size := by obtain ⟨_, e, _⟩ := hl'; exact Heap.lt_size e
  have It : ItOf prog w A g s.heap.objs.size ns [s.heap.objs.size, l] (fun i v => vs.toArray[i]? = some v) (fun i h => h.IsListIter s.heap.objs.size l i ∧ h.IsList l vs.toArray)
      (s.heap.push { cls := .type "list_iterator", data := .fields #[.ref l, .int 0 0] }) := by
    refine ⟨?_, ?_, ?_, ?_, ⟨⟨_, Heap.get?_push_size _ rfl, rfl, rfl⟩, hl'.push _⟩⟩
    · have W := Walks.list (prog := prog) (w := w) hh s.heap.objs.size l (Nat.ne_of_lt hlt) vs.toArray
      have hlen : vs.toArray.size = ns.length := by simp [hi.length]
      rw [hlen] at W
      exact W
    · intro i v _ hv
      obtain ⟨k, t, e, hk⟩ := IntsAre.at hi i v (by simpa using hv)
      exact ⟨k, t, hk, e⟩
    · rintro i h ⟨⟨o, e, _⟩, _⟩; exact ⟨o, e⟩
    · rintro i h h' o ⟨⟨o', e1, e2⟩, st⟩ e e' kk
      rw [e] at e1; cases e1
      exact ⟨⟨o, e', e2⟩, hl.at fun o e => kk l o e⟩
  exact wpAny_pyIter_list hl' (h _ _ _ _ It rfl)
theorem IterInts.mono {g' : Heap} {wv : Value} {ns : List Int} (h : IterInts prog w g wv ns) (k : Kept g g') : IterInts prog w g' wv ns := by
  intro A hh s Q E k' q
  refine h A hh s Q E (fun b o e => k' b o (k b o e)) fun o fp P St I hf => q o fp P St ⟨I.walks, I.item, I.obj, fun i h h' o a b c d => I.stay i h h' o a b c fun b' o' e => d b' o' (k b' o' e), I.start⟩ hf

/-- the ints a, a + c, .. -/
def stepKs (a c : Int) (n : Nat) : List Int := (List.range n).map fun (i : Nat) => a + (i : Int) * c
theorem stepKs_length (a c : Int) (n : Nat) : (stepKs a c n).length = n := by simp [stepKs]
theorem iter_range_go {A : Around} {s : Shared} {Q : Value → Shared → Prop} {E : Value → Shared → Prop} {r : Addr} {a b c : Int} {t u v : Tok} {n : Nat} (hh : A.handled = none) (hr : IsRange s.heap r a b c t u v) (hsm : Builtin.Range.small a b c = true) (hn : Builtin.Range.rangeSize a b c = ((n : Nat) : Int))
    (h : ∀ o fp P St, ItOf prog w A g s.heap.objs.size (stepKs a c n) fp P St (s.heap.push o) → o.isFreed = false → Q (.ref s.heap.objs.size) { s with heap := s.heap.push o }) : wpAny (model prog w) A (pyIter (.ref r)) Q E s := by
  have It : ItOf prog w A g s.heap.objs.size (stepKs a c n) [s.heap.objs.size] (fun i v => ∃ t, v = .int (a + i * c) t) (fun i h => IsRangeIter h s.heap.objs.size (a + (i : Nat) * c) ((n : Int) - (i : Nat)) c)
      (s.heap.push { cls := .type "range_iterator", data := .fields #[rawInt a, rawInt (Builtin.Range.rangeSize a b c), rawInt c] }) := by
    refine ⟨by rw [stepKs_length]; exact Walks.range hh s.heap.objs.size a c n, ?_, fun i h st => ⟨_, st⟩, ?_, ?_⟩
    · rintro i v hi ⟨t, rfl⟩
      rw [stepKs_length] at hi
      exact ⟨_, t, by simp [stepKs, hi], rfl⟩
    · intro i h h' o st e e' _
      have st' : h.get? s.heap.objs.size = some _ := st
      show h'.get? s.heap.objs.size = some _
      rw [e', ← e]; exact st'
    · show IsRangeIter _ _ _ _ _
      rw [hn]; simpa using Heap.get?_push_size _ rfl
  exact wpAny_pyIter_range hr hsm (h _ _ _ _ It rfl)
end

section
variable {prog : Program} {w : World} {A : Around} {R : Result → Shared → Prop} {s : Shared} {h₀ g : Heap} {L : Addr} {m : Str → Option Value}
/-- an element is an int, the ledger stands -/
def ElEnd (h₀ : Heap) (L : Addr) (m : Str → Option Value) (s : Shared) (led : List (Addr × Obj)) (r : Int) (y : Value) (s' : Shared) : Prop :=
  ∃ h' tk', s' = { s with heap := h', toks := tk' } ∧ Fr h₀ L h' m ∧ News h₀ L h' led ∧ ∃ t, y = .int r t

theorem blk_last {elt it0 : Expr} {gens : List Comprehension} {scope : Scope} {pos p0 : Pos} {d : Nat} {x : Str} {cenv : Env} {I C D : Addr} {ks ns₀ : List Int} {fp : List Addr} {P : Nat → Value → Prop} {St : Nat → Heap → Prop} {oC : Obj} {mC : Str → Option Value} {ys : List Value} {rest : List (Addr × Obj)} (f : Int → Int)
    (hturn : ∀ it acc, compTurn (.ListComp elt gens scope pos) d it acc cenv = (standAt it0.pos >>= fun _ => pyNext it >>= fun r => match r with
      | none => pure (.done .next)
      | some v => letOwnedTupleGo (.Name x p0) it v >>= fun _ => assign (.Name x p0) cenv v >>= fun _ =>
        (eval elt cenv >>= fun x => call (.builtin "list.append") [acc, x] >>= fun _ => pure ()) >>= fun _ => again (.compLoop (.ListComp elt gens scope pos) d it acc cenv)))
    (It : ItOf prog w A g I ks fp P St s.heap) (hg : Kept g h₀) (hns : NsObj oC mC) (F : Fr h₀ L s.heap m) (N : News h₀ L s.heap ((C, oC) :: (D, lst ys) :: rest)) (hI : I ≠ L ∧ h₀.get? I = none)
    (hIC : @Ne Nat I C) (hID : @Ne Nat I D) (hCD : @Ne Nat C D) (off : ∀ p ∈ rest, (@Ne Nat p.1 I) ∧ (@Ne Nat p.1 C) ∧ (@Ne Nat p.1 D)) (hC : cenv.locals = C)
    (hx : cenv.kindOf x = some .local) (hp : (cenv.scope.kind == .class || (cenv.scope.kind == .module && cenv.locals != cenv.globals)) = false) (hys : IntsAre ys ns₀) (hsz : ns₀.length + ks.length ≤ sizeLine)
    (el : ∀ k t oI oC' mC' ys' h tk (E' : Value → Shared → Prop), k ∈ ks → NsObj oC' mC' → mC' x = some (.int k t) → (∀ y, y ≠ x → mC' y = mC y) → Fr h₀ L h m → News h₀ L h ((I, oI) :: (C, oC') :: (D, lst ys') :: rest) →
      wpAny (model prog w) A (eval elt cenv) (ElEnd h₀ L m { s with heap := h, toks := tk } ((I, oI) :: (C, oC') :: (D, lst ys') :: rest) (f k)) E' { s with heap := h, toks := tk })
    (fin : ∀ h tk oC' mC' ys', NsObj oC' mC' → (∀ y, y ≠ x → mC' y = mC y) → IntsAre ys' (ns₀ ++ ks.map f) → Fr h₀ L h m → News h₀ L h ((C, oC') :: (D, lst ys') :: rest) → R (.ok .next) { s with heap := h, toks := tk }) :
    codeAny (model prog w) A (.compLoop (.ListComp elt gens scope pos) d (.ref I) (.ref D) cenv) R s := by
  refine compLoop_gen (S := fun _ => True) (rs₀ := (C, oC) :: (D, lst ys) :: rest) (fun i rs => ∃ oC' mC' ys', rs = (C, oC') :: (D, lst ys') :: rest ∧ NsObj oC' mC' ∧ (∀ y, y ≠ x → mC' y = mC y) ∧ IntsAre ys' (ns₀ ++ (ks.take i).map f))
    (hturn _ _) (fun _ => rfl) It.walks It.obj (fun i h h' o _ a b c d _ _ => It.stay i h h' o a b c fun b' o' e => d b' o' (hg b' o' e)) It.start F N (Ne.symm hI.1) hI.2 ?_ trivial ⟨oC, mC, ys, rfl, hns, fun _ _ => rfl, by simpa using hys⟩ ?_ ?_
  · simp only [List.forall_mem_cons]
    exact ⟨Ne.symm hIC, Ne.symm hID, fun p hp => (off p hp).1⟩
  · rintro i v oI rs h tk E' hi hP ⟨oC', mC', ys', rfl, hns', hm', hys'⟩ _ F' N' _
    obtain ⟨k, t, hk, rfl⟩ := It.item i v hi hP
    refine wpAny_bind (blk_store (pre := [(I, oI)]) (post := (D, lst ys') :: rest) F' N' hns' (by simp only [List.forall_mem_cons]; exact ⟨hIC, fun _ h => nomatch h⟩)
      (by simp only [List.forall_mem_cons]; exact ⟨Ne.symm hCD, fun p hp => (off p hp).2.1⟩) hC hx hp fun h3 oC3 tk3 hns3 F3 N3 => ?_)
    refine wpAny_bind (wpAny_mono (el k t oI oC3 _ ys' h3 tk3 E' (List.mem_of_getElem? hk) hns3 (by simp) (fun y hy => by simp only [if_neg hy]; exact hm' y hy) F3 N3) (fun y s4 h4 => ?_) fun _ _ q => q)
    obtain ⟨h4, tk4, rfl, F4, N4, t', rfl⟩ := h4
    have hlen : ys'.length = ns₀.length + i := by
      rw [hys'.length, List.length_append, List.length_map, List.length_take]
      omega
    refine wpAny_bind (blk_append (pre := [(I, oI), (C, oC3)]) (post := rest) F4 N4 (by simp only [List.forall_mem_cons]; exact ⟨hID, hCD, fun _ h => nomatch h⟩) (fun p hp => (off p hp).2.2) (by omega) fun h5 F5 N5 => ?_)
    refine wpAny_pure ⟨h5, tk4, (C, oC3) :: (D, lst (ys' ++ [Value.int (f k) t'])) :: rest, rfl, F5, N5, ?_, trivial, oC3, _, _, rfl, hns3, fun y hy => by simp only [if_neg hy]; exact hm' y hy, ?_⟩
    · simp only [List.forall_mem_cons]
      exact ⟨Ne.symm hIC, Ne.symm hID, fun p hp => (off p hp).1⟩
    · rw [List.take_add_one, hk]
      have := IntsAre.append hys' (.cons (f k) t' .nil)
      simpa using this
  · rintro h tk rs ⟨oC', mC', ys', rfl, hns', hm', hys'⟩ _ F' N'
    rw [List.take_length] at hys'
    exact fin h tk oC' mC' ys' hns' hm' hys' F' N'
end

/-- the item of a list at an int -/
def ItemIs (l : List Value) (k : Int) (x : Value) : Prop := 0 ≤ k ∧ k < 2 ^ 63 ∧ l[k.toNat]? = some x
theorem my_item {prog : Program} {w : World} {A : Around} {E : Value → Shared → Prop} {s : Shared} {h₀ : Heap} {L : Addr} {m : Str → Option Value} {value slice : Expr} {a : Addr} {l : List Value} {k : Int} {u : Tok} {x : Value} {Q : Value → Shared → Prop}
    (F : Fr h₀ L s.heap m) (hl : h₀.IsList a l.toArray) (hx : ItemIs l k x) (h : Q x s)
    (hs : subscripted slice false (.ref a) (.int k u) = operate [.ref a, .int k u] (getItem (.ref a) (.int k u)) := by with_unfolding_all rfl) (hg : ∀ r, letTemporaryGo value (.ref a) r = pure () := by intro _; with_unfolding_all rfl) :
    wpAny (model prog w) A (subscriptTail value slice (.ref a) (.int k u)) Q E s :=
  PyProof.Rows.item_listL (hl.at fun o e => F.keep _ o e) hx.1 hx.2.1 hx.2.2 h hs hg

/-- a place where the walk waits -/
def Stop (P : Prop) : Prop := P
theorem Stop.out {P : Prop} (h : Stop P) : P := h
end Mine
end

-- DictA
section
open PySem PySem.W PyProof.Rows PySem.Calls
set_option Elab.async false
set_option maxRecDepth 100000
namespace Mine

section
variable {prog : Program} {w : World} {A : Around} {E : Value → Shared → Prop} {s : Shared}
theorem miss_list_keys : typeLookup (.type "list") "keys" = pure none := am_miss_of_fast (by kernel_rfl)

theorem getAttrQ_miss_list {a : Addr} {xs : Array Value} {k : Nat} {sl : Array (Option Value)} {name : Str} {Q : Option Value → Shared → Prop}
    (hx : s.heap.get? a = some { cls := .type "list", dict := none, data := .seq xs k, slots := sl }) (hmiss : typeLookup (.type "list") name = pure none) (hname : (["__module__", "__name__", "__qualname__", "__doc__", "__annotations__"] : List Str).contains name = false) (hA : A.handled = none)
    (h : ∀ h' tk, Kept s.heap h' → Q none { s with heap := h', toks := tk }) (hsz : name.length + 100 ≤ sizeLine) :
    wpAny (model prog w) A (getAttr? (.ref a) name) Q E s := by
  obtain ⟨hp, g, d, tk, os⟩ := s
  have hT : ∀ tk', (⟨hp, g, d, tk', os⟩ : Shared).TypeIs (.ref a) "list" := fun _ => ⟨_, hx, rfl⟩
  have f1 := sub_AttributeError
  have f3 := F.slot_list_getattribute.lookup
  have f4 := F.slot_list_getattribute.bind (.ref a)
  have f5 := am_list_getattr_none
  unfold getAttr? getAttrBy? getAttrBy
  repeat (any_goals (first | assumption | exact hT _ | ((with_reducible show wpAny _ _ (call (Value.builtin "list.__getattribute__") _ _) _ _ _); refine call_meets F.slot_list_getattribute (hT _) am_entry_list_getattribute (F.args_list_getattribute_2 _ _) (meets_getattribute_miss_list a xs k sl name _ hmiss hname hsz) ⟨hx, hA, fun h' tk' e hx' => ?_⟩) | wp_step))
  obtain ⟨t', u', he⟩ := hx'.there
  show wpAny _ _ (getattributeRaised _ _ _ _ _ _ _) _ _ _
  unfold getattributeRaised
  repeat (any_goals (first | assumption | wp_step))
  all_goals exact h _ _ hx'.keeps

end
end Mine
end

-- DictPairs
section
open PySem PySem.W PyProof.Rows PySem.Calls
set_option Elab.async false
set_option maxRecDepth 100000
namespace Mine
section
variable {prog : Program} {w : World} {A : Around} {E : Value → Shared → Prop} {s : Shared}
/-- a tuple of an int and a value -/
def PairAt (h : Heap) (v : Value) (p : Int × Value) : Prop := ∃ a ob t n, v = .ref a ∧ h.get? a = some ob ∧ ob.cls = .type "tuple" ∧ ob.data = .seq #[.int p.1 t, p.2] n
/-- the table of a row of pairs -/
def tableOf (ps : List (Int × Value)) : Int → Option Value := ps.foldl (fun f p x => if x = p.1 then some p.2 else f x) fun _ => none
theorem tableOf_snoc (ps : List (Int × Value)) (p : Int × Value) : tableOf (ps ++ [p]) = fun x => if x = p.1 then some p.2 else tableOf ps x := by simp [tableOf, List.foldl_append]

theorem plain_upd : plainId "dict.update.loop" = true := by decide +kernel
theorem entry_upd : entryFor table "dict.update.loop" = some Builtin.«dict.update.loop» := by first | exact entryFor_of_fast (by kernel_rfl) | exact entryFor_of_tree (by kernel_rfl)

theorem upd_loop {R : Result → Shared → Prop} {l I d : Addr} {its : Array Value} {ps : List (Int × Value)} (hh : A.handled = none) (hn : its.size = ps.length) (hz : ps.length ≤ 1000) (hId : I ≠ d) (hlI : l ≠ I) (hld : l ≠ d) :
    ∀ (k i : Nat) (ti : Tok) (s : Shared), ps.length - i = k → i ≤ ps.length → s.heap.IsList l its → s.heap.IsListIter I l i → s.heap.IntMap d (tableOf (ps.take i)) → s.heap.DictLe d i →
      (∀ (j : Nat) v p, its[j]? = some v → ps[j]? = some p → PairAt s.heap v p ∧ v ≠ .ref I ∧ v ≠ .ref d) →
      (∀ h' k', (∀ b o, b ≠ I → b ≠ d → s.heap.get? b = some o → h'.get? b = some o) → h'.IntMap d (tableOf ps) → R (.ok (.ret .none)) { s with heap := h', toks := k' }) →
      codeAny (model prog w) A (.builtin "dict.update.loop" ⟨[.ref d, .ref I, .int (i : Int) ti, .none], []⟩) R s := by
  intro k
  induction k with
  | zero =>
    intro i ti s hk hle hl hit hm hle' hp hR
    have hin : i = ps.length := by omega
    subst hin
    refine codeAny_builtin entry_upd ?_
    rw [Around.under_plainId plain_upd _]
    show wpAny _ A.in1 (pyNext (.ref I) >>= _) _ _ s
    refine wpAny_bind (wpAny_pyNext_list_end hh hit hl (by simp [hn]) fun h' he => ?_)
    show wpAny _ _ (Builtin.Dict.addKeywords d [] >>= fun _ => ret .none) _ _ _
    refine wpAny_bind ?_
    show wpAny _ _ (pure ()) _ _ _
    refine wpAny_pure (wpAny_pure ?_)
    have hm' := hm.extBut he (Ne.symm hId)
    rw [List.take_length] at hm'
    exact hR h' s.toks (fun b o hb _ e => he b o hb e) hm'
  | succ k ih =>
    intro i ti s hk hle hl hit hm hle' hp hR
    have hlt : i < ps.length := by omega
    obtain ⟨v, hv⟩ : ∃ v, its[i]? = some v := ⟨its[i]'(by omega), Array.getElem?_eq_getElem (by omega)⟩
    obtain ⟨p, hpi⟩ : ∃ p, ps[i]? = some p := ⟨ps[i], List.getElem?_eq_getElem hlt⟩
    obtain ⟨⟨a, ob, t, n, rfl, hob, hcls, hdat⟩, haI, had⟩ := hp i v p hv hpi
    refine codeAny_builtin entry_upd ?_
    rw [Around.under_plainId plain_upd _]
    show wpAny _ A.in1 (pyNext (.ref I) >>= _) _ _ s
    refine wpAny_bind (wpAny_pyNext_list_item hit hl hv fun h' hit' hs => ?_)
    have haI' : a ≠ I := fun e => haI (by rw [e])
    have had' : a ≠ d := fun e => had (by rw [e])
    have hob' : h'.get? a = some ob := (hs.2 a haI').trans hob
    refine wpAny_bind (wpAny_holding ?_)
    refine wpAny_bind (wpAny_tryCatch ?_)
    unfold Builtin.Dict.pairItems
    refine wpAny_bind (wpAny_typeOf (T := "tuple") ⟨ob, hob', hcls⟩ ?_)
    refine wpAny_ite ?_
    rw [if_pos (by decide)]
    refine wpAny_bind (wpAny_seqItems hob' hdat ?_)
    refine wpAny_pure ?_
    show wpAny _ _ (holding [.int p.1 t, p.2] (dictSet d (.int p.1 t) p.2)) _ _ _
    refine wpAny_holding (wpAny_dictSet_int_le (n := i) (hm.sameBut hs (Ne.symm hId)) (Heap.DictLe.sameBut hle' hs (Ne.symm hId)) (by rw [PySem.sizeLine_eq]; omega) fun h₂ hm₂ hle₂ hs₂ => ?_)
    refine wpAny_pure ⟨plainId_quiet plain_upd _, ?_⟩
    refine ih (i + 1) _ _ (by omega) hlt ?_ ?_ ?_ hle₂ ?_ ?_
    · exact (hl.extBut hs.extBut hlI).extBut hs₂.extBut hld
    · exact hit'.extBut hs₂.extBut hId
    · rw [List.take_add_one, hpi]
      show h₂.IntMap d (tableOf (ps.take i ++ [p]))
      rw [tableOf_snoc]; exact hm₂
    · intro j v' p' hj hj'
      obtain ⟨⟨a', ob', t', n', rfl, q1, q2⟩, q3, q4⟩ := hp j v' p' hj hj'
      refine ⟨⟨a', ob', t', n', rfl, ?_, q2⟩, q3, q4⟩
      exact hs₂.extBut a' ob' (fun e => q4 (by rw [e])) (hs.extBut a' ob' (fun e => q3 (by rw [e])) q1)
    · intro h3 k' hk3 hm3
      exact hR h3 k' (fun b o hbI hbd e => hk3 b o hbI hbd (hs₂.extBut b o hbd (hs.extBut b o hbI e))) hm3

theorem call_dict_pairs {l : Addr} {its : Array Value} {k : Nat} {sl : Array (Option Value)} {ps : List (Int × Value)} {Q : Value → Shared → Prop} (hh : A.handled = none)
    (hl : s.heap.get? l = some { cls := .type "list", dict := none, data := .seq its k, slots := sl }) (hn : its.size = ps.length) (hz : ps.length ≤ 1000)
    (hp : ∀ (j : Nat) v p, its[j]? = some v → ps[j]? = some p → PairAt s.heap v p)
    (hQ : ∀ d h' k', Kept s.heap h' → s.heap.get? d = none → h'.IntMap d (tableOf ps) → Q (.ref d) { s with heap := h', toks := k' }) :
    wpAny (model prog w) A (call (.type "dict") [.ref l]) Q E s := by
  refine callType_codes (Q₁ := fun obj s₁ => obj = .ref s.heap.objs.size ∧ s₁ = { s with heap := s.heap.push { cls := .type "dict", data := .dict #[] } }) F.kt_called_dict (F.kt_typeCall_dict_1 _) F.entry_dict_init (kt_code_dict_new _ ⟨rfl, rfl⟩) ?_
  rintro obj s₁ ⟨rfl, rfl⟩
  generalize hd0 : s.heap.objs.size = d at *
  have hnew : (s.heap.push { cls := .type "dict", data := .dict #[] }).IntMap d (fun _ => none) := by rw [← hd0]; exact Heap.IntMap.new s.heap
  have hle0 : (s.heap.push { cls := .type "dict", data := .dict #[] }).DictLe d 0 := by rw [← hd0]; exact Heap.DictLe.new s.heap
  have up1 : Kept s.heap (s.heap.push { cls := .type "dict", data := .dict #[] }) := fun b o e => Heap.get?_push_of_some _ e
  generalize s.heap.push { cls := .type "dict", data := .dict #[] } = g1 at *
  have hdn : s.heap.get? d = none := by rw [← hd0]; exact Heap.get?_none_of_le (Nat.le_refl _)
  refine ⟨hnew.typeIs, F.args_dict_init_2 _ _, ?_⟩
  unfold Builtin.«dict.__init__»
  refine wpAny_bind ?_
  unfold Builtin.Dict.selfAndRest
  refine wpAny_bind (wpAny_notOrdered_dict hnew.typeIs ?_)
  show wpAny _ _ (pure (d, [Value.ref l])) _ _ _
  refine wpAny_pure ?_
  show wpAny _ _ (Builtin.Dict.updateFrom "dict.__init__" d (.ref l) [] .none) _ _ _
  unfold Builtin.Dict.updateFrom
  have hl1 := up1 _ _ hl
  refine wpAny_bind (wpAny_typeOf (T := "list") ⟨_, hl1, rfl⟩ ?_)
  refine wpAny_ite ?_
  rw [if_pos (by decide)]
  refine wpAny_bind (getAttrQ_miss_list hl1 miss_list_keys (by decide) hh (fun g2 t2 up2 => ?_) (by rw [PySem.sizeLine_eq]; decide))
  refine wpAny_ite ?_
  rw [if_pos (by decide)]
  have hl2 := up2 _ _ hl1
  have up3 : Kept g2 (g2.push { cls := .type "list_iterator", data := .fields #[.ref l, .int 0 0] }) := fun b o e => Heap.get?_push_of_some _ e
  have hI : (g2.push { cls := .type "list_iterator", data := .fields #[.ref l, .int 0 0] }).IsListIter g2.objs.size l 0 := ⟨_, Heap.get?_push_size _ rfl, rfl, rfl⟩
  have hlL : g2.IsList l its := ⟨_, hl2, rfl, _, rfl⟩
  obtain ⟨od, esd, epd, hod, hnew'⟩ := id hnew
  have hdlt : d < g2.objs.size := Heap.lt_size (up2 _ _ hod)
  have hllt : l < g2.objs.size := Heap.lt_size hl2
  have hld : l ≠ d := by intro e; rw [e, hdn] at hl; cases hl
  refine wpAny_bind (wpAny_rule (wpAny_bind (wpAny_pyIter_list hlL ?_)))
  have base := fun b o e => up3 b o (up2 b o (up1 b o e))
  have main := upd_loop (prog := prog) (w := w) (A := A.in1) (R := wants (fun r s₂ => r = .none ∧ Q (.ref d) s₂) E) (l := l) (I := g2.objs.size) (d := d) (its := its) (ps := ps) hh hn hz (Nat.ne_of_gt hdlt) (Nat.ne_of_lt hllt) hld
    ps.length 0 0 { s with heap := g2.push { cls := .type "list_iterator", data := .fields #[.ref l, .int 0 0] }, toks := t2 } (Nat.sub_zero _) (Nat.zero_le _) (hlL.push _) hI ?_ ?_ ?_ ?_
  · exact wpAny_pure ⟨plainId_quiet plain_upd _, main⟩
  · exact ⟨od, esd, epd, up3 _ _ (up2 _ _ hod), hnew'⟩
  · exact Heap.DictLe.of_same hle0 hod (up3 _ _ (up2 _ _ hod))
  · intro j v p hj hj'
    obtain ⟨a, ob, t, n, rfl, q1, q2⟩ := hp j v p hj hj'
    refine ⟨⟨a, ob, t, n, rfl, base _ _ q1, q2⟩, ?_, ?_⟩
    · intro e
      cases e
      exact absurd (Heap.lt_size (up2 _ _ (up1 _ _ q1))) (Nat.lt_irrefl _)
    · intro e
      cases e
      rw [hdn] at q1; cases q1
  · intro h' k' hk' hm'
    refine ⟨rfl, hQ d h' k' (fun b o e => hk' b o ?_ ?_ (base b o e)) hdn hm'⟩
    · intro q
      subst q
      exact absurd (Heap.lt_size (up2 _ _ (up1 _ _ e))) (Nat.lt_irrefl _)
    · intro q
      subst q
      rw [hdn] at e; cases e
end
end Mine
end

-- Use
section
open PySem PySem.W PyProof.Rows PySem.Calls
set_option Elab.async false
set_option maxRecDepth 100000
namespace Mine
open PyProof.Rows.LCg
section
variable {h₀ h h' : Heap} {L D : Addr} {m : Str → Option Value} {news : List (Addr × Obj)} {o : Obj}
theorem fr_ne (F : Fr h₀ L h m) (hD : h.get? D = none) : D ≠ L ∧ h₀.get? D = none := by
  constructor
  · intro e
    subst e
    obtain ⟨o, _, _, e, _⟩ := F.ns
    rw [hD] at e; cases e
  · cases q : h₀.get? D with
    | none => rfl
    | some o => have := F.keep D o q; rw [hD] at this; cases this
theorem news_fresh (F : Fr h₀ L h m) (N : News h₀ L h news) (k : Kept h h') (hD : h.get? D = none) (ho : h'.get? D = some o) : News h₀ L h' ((D, o) :: news) := by
  intro p hp
  rcases List.mem_cons.mp hp with rfl | hp
  · exact ⟨ho, fr_ne F hD⟩
  · exact ⟨k _ _ (N p hp).1, (N p hp).2⟩
theorem news_ne (N : News h₀ L h news) (hD : h.get? D = none) : ∀ p ∈ news, @Ne Nat p.1 D := by
  intro p hp e
  have := (N p hp).1
  rw [show p.1 = D from e, hD] at this; cases this
theorem news_kept (N : News h₀ L h news) (k : Kept h h') : News h₀ L h' news := fun p hp => ⟨k _ _ (N p hp).1, (N p hp).2⟩
end
end Mine
end

-- Plain2
section
open PySem PySem.W PyProof.Rows PySem.Calls
set_option Elab.async false
set_option maxRecDepth 100000
namespace Mine
/-- what part_encoded hands back -/
def partEnc (os as : List Int) : List Int := (List.range ((os.length + 2) / 3)).flatMap fun i => groupCodes ((os.drop (3 * i)).take 3) as
def partEncTo (os as : List Int) (n : Nat) : List Int := (List.range n).flatMap fun i => groupCodes ((os.drop (3 * i)).take 3) as
theorem partEncTo_succ (os as : List Int) (n : Nat) : partEncTo os as (n + 1) = partEncTo os as n ++ groupCodes ((os.drop (3 * n)).take 3) as := by
  unfold partEncTo
  rw [List.range_succ, List.flatMap_append]; simp
theorem groupCodes_length (os as : List Int) : (groupCodes os as).length = os.length + 1 := by
  unfold groupCodes
  rw [List.length_map, downKs_length]
theorem partEncTo_length (os as : List Int) (n : Nat) : (partEncTo os as n).length ≤ 4 * n := by
  induction n with
  | zero => simp [partEncTo]
  | succ n ih =>
    rw [partEncTo_succ, List.length_append, groupCodes_length]
    have := List.length_take_le 3 (os.drop (3 * n))
    omega
theorem chunk3 (os : List Int) (i : Nat) : (os.drop (clipAt os.length (0 + (i : Int) * 3))).take (clipAt os.length (0 + (i : Int) * 3 + 3) - clipAt os.length (0 + (i : Int) * 3)) = (os.drop (3 * i)).take 3 := by
  rw [show (0 : Int) + (i : Int) * 3 = ((3 * i : Nat) : Int) from by omega, show ((3 * i : Nat) : Int) + 3 = ((3 * i + 3 : Nat) : Int) from by omega, clipAt_nat, clipAt_nat]
  by_cases h : 3 * i ≤ os.length
  · rw [Nat.min_eq_left h]
    by_cases h2 : 3 * i + 3 ≤ os.length
    · rw [Nat.min_eq_left h2, Nat.add_sub_cancel_left]
    · rw [Nat.min_eq_right (by omega), List.take_of_length_le (by rw [List.length_drop]; exact Nat.le_refl _), List.take_of_length_le (by rw [List.length_drop]; omega)]
  · rw [List.drop_of_length_le (Nat.le_min.mpr ⟨by omega, Nat.le_refl _⟩), List.drop_of_length_le (by omega), List.take_nil, List.take_nil]
theorem chunk4 (os : List Int) (i : Nat) : (os.drop (clipAt os.length (0 + (i : Int) * 4))).take (clipAt os.length (0 + (i : Int) * 4 + 4) - clipAt os.length (0 + (i : Int) * 4)) = (os.drop (4 * i)).take 4 := by
  rw [show (0 : Int) + (i : Int) * 4 = ((4 * i : Nat) : Int) from by omega, show ((4 * i : Nat) : Int) + 4 = ((4 * i + 4 : Nat) : Int) from by omega, clipAt_nat, clipAt_nat]
  by_cases h : 4 * i ≤ os.length
  · rw [Nat.min_eq_left h]
    by_cases h2 : 4 * i + 4 ≤ os.length
    · rw [Nat.min_eq_left h2, Nat.add_sub_cancel_left]
    · rw [Nat.min_eq_right (by omega), List.take_of_length_le (by rw [List.length_drop]; exact Nat.le_refl _), List.take_of_length_le (by rw [List.length_drop]; omega)]
  · rw [List.drop_of_length_le (Nat.le_min.mpr ⟨by omega, Nat.le_refl _⟩), List.drop_of_length_le (by omega), List.take_nil, List.take_nil]
theorem partEnc_to (os as : List Int) : partEnc os as = partEncTo os as ((os.length + 2) / 3) := rfl
theorem groupCodes_byte {os as : List Int} (h : ∀ a ∈ as, 0 ≤ a ∧ a < 256) : ∀ k ∈ groupCodes os as, 0 ≤ k ∧ k < 256 := by
  intro k hk
  obtain ⟨j, _, rfl⟩ := List.mem_map.mp hk
  rw [List.getD_eq_getElem?_getD]
  generalize ((tot 256 os * 2 ^ (6 - 2 * os.length)).fdiv (2 ^ (6 * j).toNat) % 64).toNat = x
  cases e : as[x]? with
  | none => exact ⟨by simp, by simp⟩
  | some v => exact h v (List.mem_of_getElem? e)
theorem partEnc_byte {os as : List Int} (h : ∀ a ∈ as, 0 ≤ a ∧ a < 256) : ∀ k ∈ partEnc os as, 0 ≤ k ∧ k < 256 := by
  intro k hk
  obtain ⟨j, _, hj⟩ := List.mem_flatMap.mp hk
  exact groupCodes_byte h k hj
/-- the worths of a row -/
def worthsOf (ss as : List Int) : List Int := ss.map fun x => ((as.idxOf x : Nat) : Int)
/-- the j-th group of four -/
def groupAt (ws : List Int) (j : Nat) : List Int := (ws.drop (4 * j)).take 4
def GoodAt (ws : List Int) (j : Nat) : Prop := (groupAt ws j).length ≠ 1 ∧ groupSpare (groupAt ws j) ≤ 0
def partDecTo (ws : List Int) (n : Nat) : List (List Int) := (List.range n).map fun j => groupOctets (groupAt ws j)
def partDec (ws : List Int) : List Int := (partDecTo ws ((ws.length + 3) / 4)).flatten
/-- where part_decoded's fault stands -/
def DecFault (ss as : List Int) (k : Int) : Prop :=
  (∃ i x, k = ((i : Nat) : Int) ∧ ss[i]? = some x ∧ x ∉ as ∧ ∀ y ∈ ss.take i, y ∈ as) ∨
  ((∀ x ∈ ss, x ∈ as) ∧ ∃ j, j < (ss.length + 3) / 4 ∧ (∀ i < j, GoodAt (worthsOf ss as) i) ∧ (groupAt (worthsOf ss as) j).length = 1 ∧ k = 4 * (j : Int)) ∨
  ((∀ x ∈ ss, x ∈ as) ∧ ∃ j, j < (ss.length + 3) / 4 ∧ (∀ i < j, GoodAt (worthsOf ss as) i) ∧ (groupAt (worthsOf ss as) j).length ≠ 1 ∧ groupSpare (groupAt (worthsOf ss as) j) > 0 ∧ k = 4 * (j : Int) + ((groupAt (worthsOf ss as) j).length : Int) - 1)
theorem worthsOf_length (ss as : List Int) : (worthsOf ss as).length = ss.length := by simp [worthsOf]
theorem worthsOf_in {ss as : List Int} (hal : as.length = 64) (hin : ∀ x ∈ ss, x ∈ as) : ∀ b ∈ worthsOf ss as, 0 ≤ b ∧ b < 64 := by
  intro b hb
  obtain ⟨x, hx, rfl⟩ := List.mem_map.mp hb
  have := List.idxOf_lt_length_of_mem (hin x hx)
  omega
theorem chunkK (ws : List Int) (i : Nat) : List.take (min (0 + (i : Int) * 4 + 4).toNat ws.length - (0 + (i : Int) * 4).toNat) (List.drop (0 + (i : Int) * 4).toNat ws) = groupAt ws i := by
  unfold groupAt
  rw [show (0 + (i : Int) * 4 + 4).toNat = 4 * i + 4 from by omega, show (0 + (i : Int) * 4).toNat = 4 * i from by omega]
  by_cases h : 4 * i + 4 ≤ ws.length
  · rw [Nat.min_eq_left h, Nat.add_sub_cancel_left]
  · rw [Nat.min_eq_right (by omega), List.take_of_length_le (by rw [List.length_drop]; exact Nat.le_refl _), List.take_of_length_le (by rw [List.length_drop]; omega)]
theorem groupAt_length (ws : List Int) (i : Nat) : (groupAt ws i).length = min 4 (ws.length - 4 * i) := by
  unfold groupAt
  rw [List.length_take, List.length_drop]
theorem groupAt_mem {ws : List Int} {i : Nat} {P : Int → Prop} (h : ∀ b ∈ ws, P b) : ∀ b ∈ groupAt ws i, P b := fun b hb => h b (List.mem_of_mem_drop (List.mem_of_mem_take hb))
theorem partDecTo_length (ws : List Int) (n : Nat) : (partDecTo ws n).flatten.length ≤ 3 * n := by
  induction n with
  | zero => simp [partDecTo]
  | succ n ih =>
    unfold partDecTo at ih ⊢
    rw [List.range_succ, List.map_append, List.flatten_append, List.length_append]
    have h1 : (groupOctets (groupAt ws n)).length = (groupAt ws n).length - 1 := by unfold groupOctets; rw [List.length_map, downKs_length]
    have h2 := groupAt_length ws n
    simp only [List.map_cons, List.map_nil, List.flatten_cons, List.flatten_nil, List.append_nil]
    omega
theorem small_step {a b : Int} {c : Int} (hc : 1 ≤ c) (hc' : c ≤ 100) (ha : 0 ≤ a) (ha' : a ≤ 1000) (hb : 0 ≤ b) (hb' : b ≤ 1000) : Builtin.Range.small a b c = true := by
  have h : 0 ≤ Builtin.Range.rangeSize a b c ∧ Builtin.Range.rangeSize a b c ≤ 1001 := by
    unfold Builtin.Range.rangeSize
    rw [if_pos (by omega)]
    split
    · have h1 : 0 ≤ (b - a - 1) / c := Int.ediv_nonneg (by omega) (by omega)
      have h2 : (b - a - 1) / c ≤ b - a - 1 := Int.ediv_le_self _ (by omega)
      omega
    · omega
  unfold Builtin.Range.small
  generalize Builtin.Range.rangeSize a b c = z at *
  simp only [Builtin.Range.rangeFitsLong, Bool.and_eq_true, Bool.or_eq_true, decide_eq_true_eq, beq_iff_eq, show (c : Int) > 0 from by omega, if_true]
  omega
theorem rangeSize_nat3 (n : Nat) : Builtin.Range.rangeSize 0 (n : Int) 3 = (((n + 2) / 3 : Nat) : Int) := by
  rw [rangeSize_pos (by omega) (by omega)]; omega
theorem rangeSize_nat4 (n : Nat) : Builtin.Range.rangeSize 0 (n : Int) 4 = (((n + 3) / 4 : Nat) : Int) := by
  rw [rangeSize_pos (by omega) (by omega)]; omega
end Mine
end

-- EnterE
section
open PySem PySem.W PyProof.Rows PySem.Calls
set_option Elab.async false
set_option maxRecDepth 100000
namespace Mine
section
variable {prog : Program} {w : World} {mean : ExcName → Option Value} {mg mb : Str → Option Value} {dp un : Nat} {gd : Option (List Code)} {env : Env} {outer : List Env} {s : Shared}
variable {name qual : Str} {params : Arguments} {body : List Stmt} {scope : Scope} {dV kV doc pm cdv ct oc : Value} {an od : Option Addr} {osl : Array (Option Value)} {f : Addr} {args : List Value} {binds : List (Str × Value)}
  {E : Value → Shared → Prop} {Q : Value → Shared → Prop}

/-- what a raise in a called def owes -/
def OutE (prog : Program) (w : World) (A : Around) (env : Env) (E : Value → Shared → Prop) (e : Value) (s' : Shared) : Prop :=
  wpAny (model prog w) A (leaving env e) (fun _ s'' => E e s'') E s'

/-- a def without cells, over a heap that has more than the ground -/
theorem enter_over {m : Str → Option Value} {g : Heap} {led : List (Addr × Obj)} (C : CallAt w mean mg mb env outer g) (kg : Kept g s.heap) (hsz : g.objs.size ≤ s.heap.objs.size) (hled : ∀ p ∈ led, s.heap.get? p.1 = some p.2 ∧ g.get? p.1 = none)
    (ho : (hd.heap_39 w.params).lookup f = some ⟨oc, od, .func (fnOf name qual params body scope dV kV doc pm an cdv ct), osl⟩) (hcd : codeIn (hd.heap_39 w.params) cdv qual = true) (hroom : dp < recursionLimit)
    (hbind : BindsTo s (fnOf name qual params body scope dV kV doc pm an cdv ct) ⟨args, []⟩ binds) (hloc : ∀ y ∈ binds, scope.names.lookup y.1 = some .local)
    (hm : ∀ y, binds.reverse.lookup y = m y)
    (h : ∀ base L' h₁, Below (A1 dp un gd (env :: outer)) base (env :: outer) g → Fr g L' h₁ m → News g L' h₁ led → (hd.heap_39 w.params).In g → TopH mean mg mb g → L' = s.heap.objs.size → Kept s.heap h₁ →
      wpAny (model prog w) ((A1 dp un gd (env :: outer)).deeper (envOf qual scope L' f cdv)) (execs body (envOf qual scope L' f cdv))
        (fun fl s' => Q (match fl with | .ret v => v | _ => .none) s') (OutE prog w ((A1 dp un gd (env :: outer)).deeper (envOf qual scope L' f cdv)) (envOf qual scope L' f cdv) E) { s with heap := h₁, toks := s.toks + binds.length })
    (hco : scope.isCoroutine = false) (hgen : scope.isGenerator = false) (hk : scope.kind = .function)
    (hcell : ∀ x ∈ scope.names, x.2 ≠ .cell) : wpAny (model prog w) (A1 dp un gd (env :: outer)) (call (.ref f) args) Q E s := by
  obtain ⟨base, B, X, T⟩ := C.ground (A1 dp un gd (env :: outer)) rfl
  have X' := X.keeps kg
  refine wpAny_call ?_
  refine codeAny_call_def (fd := fnOf name qual params body scope dV kV doc pm an cdv ct) (body := body) (binds := binds) hroom (X' _ _ ho) rfl (T.keeps kg).nolimit (codeRec_of X' hcd) rfl hbind hcell hloc (fun h₁ hns hk₁ => ?_) hco hgen hk
  exact wpAny_mono (h base s.heap.objs.size h₁ B ((funext hm : (fun y => binds.reverse.lookup y) = m) ▸ ⟨hns, fun b o e => hk₁ b o (kg b o e), hsz⟩)
    (fun p hp => ⟨hk₁ _ _ (hled p hp).1, Nat.ne_of_lt (Heap.lt_size (hled p hp).1), (hled p hp).2⟩) X T rfl hk₁) (fun fl s' q => q) fun _ _ q => q
/-- a def without cells that may raise -/
theorem enter_plainE {m : Str → Option Value} (C : CallAt w mean mg mb env outer s.heap)
    (ho : (hd.heap_39 w.params).lookup f = some ⟨oc, od, .func (fnOf name qual params body scope dV kV doc pm an cdv ct), osl⟩) (hcd : codeIn (hd.heap_39 w.params) cdv qual = true) (hroom : dp < recursionLimit)
    (hbind : BindsTo s (fnOf name qual params body scope dV kV doc pm an cdv ct) ⟨args, []⟩ binds) (hloc : ∀ y ∈ binds, scope.names.lookup y.1 = some .local)
    (hm : ∀ y, binds.reverse.lookup y = m y)
    (h : ∀ base L' h₁, Below (A1 dp un gd (env :: outer)) base (env :: outer) s.heap → Fr s.heap L' h₁ m → News s.heap L' h₁ [] → (hd.heap_39 w.params).In s.heap → TopH mean mg mb s.heap →
      wpAny (model prog w) ((A1 dp un gd (env :: outer)).deeper (envOf qual scope L' f cdv)) (execs body (envOf qual scope L' f cdv))
        (fun fl s' => Q (match fl with | .ret v => v | _ => .none) s') (OutE prog w ((A1 dp un gd (env :: outer)).deeper (envOf qual scope L' f cdv)) (envOf qual scope L' f cdv) E) { s with heap := h₁, toks := s.toks + binds.length })
    (hco : scope.isCoroutine = false) (hgen : scope.isGenerator = false) (hk : scope.kind = .function)
    (hcell : ∀ x ∈ scope.names, x.2 ≠ .cell) : wpAny (model prog w) (A1 dp un gd (env :: outer)) (call (.ref f) args) Q E s := by
  obtain ⟨base, B, X, T⟩ := C.ground (A1 dp un gd (env :: outer)) rfl
  refine wpAny_call ?_
  refine codeAny_call_def (fd := fnOf name qual params body scope dV kV doc pm an cdv ct) (body := body) (binds := binds) hroom (X _ _ ho) rfl T.nolimit (codeRec_of X hcd) rfl hbind hcell hloc (fun h₁ hns hk₁ => ?_) hco hgen hk
  exact wpAny_mono (h base s.heap.objs.size h₁ B ((funext hm : (fun y => binds.reverse.lookup y) = m) ▸ ⟨hns, hk₁, Nat.le_refl _⟩) News.nil X T) (fun fl s' q => q) fun _ _ q => q
end

section
variable {prog : Program} {w : World} {A : Around} {E : Value → Shared → Prop} {s : Shared} {d : Addr} {f : Int → Option Value} {k : Int} {t : Tok}
theorem notin_intMap {Q : Value → Shared → Prop} (hm : s.heap.IntMap d f) (h : Q (.bool (!(f k).isSome)) { s with toks := s.toks + 1 }) : wpAny (model prog w) A (compareOp .NotIn (.int k t) (.ref d)) Q E s := by
  intro Γ p hΓ
  have key := wpAny_in_intMap (prog := prog) (w := w) (A := A) (E := E) (t := t) (Q := fun v s' => ∀ c, v = .bool c → Q (.bool (!c)) s') hm (fun c e => by cases e; exact h) Γ p hΓ
  show Sem.wp _ _ (contains (.ref d) (.int k t) >>= fun c => pure (Value.bool (!c)) : Sem Value) _ _ p s
  replace key : Sem.wp _ _ (contains (.ref d) (.int k t) >>= fun c => pure (Value.bool c) : Sem Value) _ _ p s := key
  rw [Sem.wp_bind'] at key ⊢
  refine Sem.wp_mono _ _ _ (fun c p' s' h' => ?_) (fun _ _ _ h' => h') p s key
  rw [Sem.wp_pure'] at h' ⊢
  exact h' c rfl
theorem item_intMap {value slice : Expr} {v : Value} {Q : Value → Shared → Prop} (hm : s.heap.IntMap d f) (hv : f k = some v) (h : Q v { s with toks := s.toks + 1 })
    (hs : subscripted slice false (.ref d) (.int k t) = operate [.ref d, .int k t] (getItem (.ref d) (.int k t)) := by with_unfolding_all rfl) (hg : ∀ r, letTemporaryGo value (.ref d) r = pure () := by intro _; with_unfolding_all rfl) :
    wpAny (model prog w) A (subscriptTail value slice (.ref d) (.int k t)) Q E s :=
  tail_of_ItemOn ⟨"dict", _, PySem.slot_dict_getitem.lookup, hm.typeIs, wpAny_getItem_intMap hm hv h⟩ hs hg
theorem intMap_kept {h h' : Heap} (hm : h.IntMap d f) (k : Kept h h') : h'.IntMap d f := by
  obtain ⟨o, es, ep, e, r⟩ := hm
  exact ⟨o, es, ep, k _ _ e, r⟩
theorem worth_some {as : List Int} {x : Int} {f : Int → Option Value} (hw : ∀ (j : Nat) k, as[j]? = some k → ∃ t, f k = some (.int (j : Int) t)) (hx : x ∈ as) : ∃ t, f x = some (.int ((as.idxOf x : Nat) : Int) t) :=
  hw (as.idxOf x) x (by rw [List.getElem?_eq_getElem (List.idxOf_lt_length_of_mem hx), List.getElem_idxOf])
end
/-- a row of bytes -/
inductive BytesAre : List Value → List (List Int) → Prop
  | nil : BytesAre [] []
  | snoc {vs : List Value} {bss : List (List Int)} (bo : Array UInt8) (t : Tok) (bs : List Int) : BytesAre vs bss → KBw.bInts bo = bs → BytesAre (vs ++ [.bytes bo t]) (bss ++ [bs])
theorem BytesAre.length {vs : List Value} {bss : List (List Int)} (h : BytesAre vs bss) : vs.length = bss.length := by
  induction h with
  | nil => rfl
  | snoc _ _ _ _ _ ih => simp [ih]
/-- what _law_due hands back -/
def DueIs (v : Value) (ss as : List Int) : Prop :=
  (∃ (i : Nat) (x : Int) (t : Tok), v = .int (i : Int) t ∧ ss[i]? = some x ∧ x ∉ as ∧ ∀ y ∈ ss.take i, y ∈ as) ∨
  ((∀ y ∈ ss, y ∈ as) ∧ ((∃ t, v = .int ((ss.length : Int) - 1) t ∧ (ss.length % 4 = 1 ∨ (1 : Int) ∈ (lawBits 6 (worthsOf ss as)).drop ((lawBits 6 (worthsOf ss as)).length / 8 * 8))) ∨
    (∃ bo t, v = .bytes bo t ∧ KBw.bInts bo = lawNumbers 8 (lawBits 6 (worthsOf ss as)) ∧ ss.length % 4 ≠ 1 ∧ (1 : Int) ∉ (lawBits 6 (worthsOf ss as)).drop ((lawBits 6 (worthsOf ss as)).length / 8 * 8))))
end Mine
end

-- G1
section
open PySem PySem.W PyProof.Rows PySem.Calls
set_option Elab.async false
set_option maxRecDepth 100000
namespace Mine
local macro_rules | `(tactic| k_all) => `(tactic| assumption)

local macro_rules | `(tactic| walk_at "eval ListComp") => `(tactic| (k_here; k_dflt (refine ListComp_it (by k_asm) (by with_unfolding_all rfl) (by decide) (by rfl) (by decide) (by rfl) ?_)))

section
variable {prog : Program} {w : World} {mean : ExcName → Option Value} {mg mb : Str → Option Value} {dp un : Nat} {gd : Option (List Code)} {env : Env} {outer : List Env} {s : Shared}
  {E : Value → Shared → Prop} {Q : Value → Shared → Prop}
set_option maxHeartbeats 4000000 in
theorem group_codes_call {b al : Array UInt8} {tb ta : Tok} {os as : List Int} (C : CallAt w mean mg mb env outer s.heap) (hd : dp + 3 ≤ 900) (hu : un + 60 ≤ 5000)
    (hb : KBw.bInts b = os) (hl : os.length ≤ 3) (ha : KBw.bInts al = as) (hal : as.length = 64)
    (hQ : ∀ D vs h' tk, Kept s.heap h' → s.heap.get? D = none → h'.get? D = some (LCg.lst vs) → IntsAre vs (groupCodes os as) → Q (.ref D) { s with heap := h', toks := tk }) :
    wpAny (model prog w) (A1 dp un gd (env :: outer)) (call (.ref 71) [.bytes b tb, .bytes al ta]) Q E s := by
  refine' enter_cells (binds := [(Str.ofString "octets", .bytes b tb), (Str.ofString "alphabet", .bytes al ta)]) (m := fun y => if y = Str.ofString "octets" then some (.bytes b tb) else none) (cm := fun y => if y = Str.ofString "alphabet" then some (.bytes al ta) else none)
    C ?ko ?kcd (by simp only [recursionLimit]; omega) ?kbind ?kkind ?knd ?km ?kcm ?_ ?c1 ?c2 ?c3
  case ko => k_is
  case kcd => k_is
  case kbind => exact BindsTo.of_eq rfl
  case kkind => rfl
  case knd => decide +kernel
  case km => intro _; rfl
  case kcm => intro _; rfl
  case c1 => rfl
  case c2 => rfl
  case c3 => rfl
  intro base L' h1 tk' cells B F N Y X T
  k_cells Y
  (try dsimp only)
  (try k_fold)
  have hin : ∀ k ∈ os, 0 ≤ k ∧ k < 256 := fun k hk => KBw.ints_in (hb ▸ hk)
  k_steps
  rename_i o' o2' d1 d2 h2 o1 F N d3
  dsimp only at d3
  replace d2 : o2'.data = .cell (some (.bytes al ta)) := d2
  clear d1
  refine iter_bytes (fun i m nx => (∀ y, y ≠ Str.ofString "code" → m y = (fun y => if y = Str.ofString "octets" then some (.bytes b tb) else none) y) ∧ ∃ t o, nx = [(L' + 1 + 1, o), (L' + 1, o2')] ∧ o.data = .cell (some (.int (tot 256 (os.take i)) t))) hb (by rfl) F N ⟨fun _ _ => rfl, _, _, rfl, d3⟩ ?_ ?_
  · rintro i k t m₁ nx h3 tk own hi hk h0 h256 hadr hoff ⟨hm, ta', o3, rfl, d4⟩ F1 N1
    replace F1 := fr_in hm F1
    have hown : ∀ p ∈ own, p.1 ≠ L' + 1 + 1 := OwnOff.ne hoff (by simp)
    simp only [List.cons_append, List.nil_append] at N1
    have hb1 := tot_bound (B := 256) (by decide) (os.take i) fun k hk => hin k (List.mem_of_mem_take hk)
    have hb2 : tot 256 (os.take i) < 256 ^ 3 := Int.lt_of_lt_of_le hb1.2 (pow_le_pow' (by decide) (by rw [List.length_take]; omega))
    have e1 : tot 256 (os.take (i + 1)) = 256 * tot 256 (os.take i) + k := by rw [List.take_add_one, hk]; exact tot_snoc _ _ _
    rw [e1]
    clear hm hoff F N d3 e1
    generalize tot 256 (os.take i) = a at *
    have hb1 := hb1.1
    show wpAny _ _ _ _ _ _
    k_fold
    k_steps
    rename_i h4 o4 F4 N4 d5
    exact ⟨_, _, _, _, [(L' + 1 + 1, o4), (L' + 1, o2')], rfl, F4, N4, fun p hp => List.mem_append_left own hp, fun p hp => List.mem_append_right [_, _] hp, rfl, fun y hy => if_neg hy, _, _, rfl, d5⟩
  · rintro m₁ nx h3 tk ⟨hm, ta', o3, rfl, d4⟩ F1 N1
    replace F1 := fr_out hm F1
    rw [List.take_length] at d4
    clear hm F N d3
    have hb1 := tot_bound (B := 256) (by decide) os hin
    have hb2 : tot 256 os < 256 ^ 3 := Int.lt_of_lt_of_le hb1.2 (pow_le_pow' (by decide) hl)
    have hb1 := hb1.1
    show wpAny _ _ _ _ _ _
    k_fold
    k_steps
    rename IsRange _ _ _ _ _ _ _ _ => hr
    rename Fr _ _ _ _ => F5
    rename News _ _ _ _ => N5
    rename Obj.data _ = Data.cell (some (Value.int _ _)) => d5
    dsimp only at hr F5 N5 d5 ⊢
    have e1 : (6 * ((os.length : Int) + 1) - 8 * (os.length : Int)).toNat = 6 - 2 * os.length := by omega
    rw [e1] at d5
    refine CompAt.range (n := os.length + 1) (by rfl) F5 N5 hr (small_down (by omega) (by omega) (by omega) (by omega)) (by rw [rangeSize_downNat]; omega) (by rw [PySem.sizeLine_eq]; omega) ?_
    intro g
    refine comp_ints (ks := downKs (os.length : Int) (os.length + 1)) (fun k => as.getD ((tot 256 os * 2 ^ (6 - 2 * os.length)).fdiv (2 ^ (6 * k).toNat) % 64).toNat 0) (downKs_length _ _) ?_ ?_ ?_
    · rintro i v hi ⟨t, rfl⟩
      refine ⟨(os.length : Int) - (i : Int), t, by simp [downKs, hi], ?_⟩
      rw [show (os.length : Int) + 1 - 1 + (i : Int) * -1 = (os.length : Int) - (i : Int) from by omega]
    · intro k t I oI C oC D m₂ ys h6 tk7 E' hk hC hx F6 N6 off ne
      have hk0 := mem_downKs hk
      have hk1 : 0 ≤ k := by omega
      have hk2 : k ≤ 3 := by omega
      generalize tot 256 os * 2 ^ (6 - 2 * os.length) = T at *
      clear hr F5 N5 e1 F1 N1 d4 hb2 hk0
      dsimp only at F6 N6 ⊢
      show wpAny _ _ _ _ _ _
      k_fold
      k_steps
      rw [bitAnd_m6]
      have hW0 := Int.emod_nonneg (T.fdiv (2 ^ (6 * k).toNat)) (show (64 : Int) ≠ 0 by decide)
      have hW1 := Int.emod_lt_of_pos (T.fdiv (2 ^ (6 * k).toNat)) (show (0 : Int) < 64 by decide)
      refine KBw.item_K ha (by omega) hW0 (by rw [hal]; exact hW1) fun t' k' _ _ => ?_
      exact ⟨_, _, _, rfl, F6, N6, off, trivial, rfl, _, rfl⟩
    · intro ys hy D h8 tk8 F8 N8 o8
      exact hQ D ys h8 tk8 F8.keep (N8 _ (.head _)).2.2 (N8 _ (.head _)).1 hy
end
end Mine
end

-- G2
section
open PySem PySem.W PyProof.Rows PySem.Calls
set_option Elab.async false
set_option maxRecDepth 100000
namespace Mine
open PyProof.Rows.LCg
local macro_rules | `(tactic| k_all) => `(tactic| assumption)

section
variable {prog : Program} {w : World} {mean : ExcName → Option Value} {mg mb : Str → Option Value} {dp un : Nat} {gd : Option (List Code)} {env : Env} {outer : List Env} {s : Shared}
  {E : Value → Shared → Prop} {Q : Value → Shared → Prop}
set_option maxHeartbeats 4000000 in
theorem law_bits_call {wv : Value} {ns : List Int} {sz : Nat} {tz : Tok} (C : CallAt w mean mg mb env outer s.heap) (hd : dp + 3 ≤ 900)
    (hw : IterInts prog w s.heap wv ns) (hn : ∀ n ∈ ns, 0 ≤ n ∧ n < 256) (hl : ns.length ≤ 100) (hz : sz ≤ 8)
    (hQ : ∀ D vs h' tk, Kept s.heap h' → s.heap.get? D = none → h'.get? D = some (lst vs) → IntsAre vs (lawBits sz ns) → Q (.ref D) { s with heap := h', toks := tk }) :
    wpAny (model prog w) (A1 dp un gd (env :: outer)) (call (.ref 114) [wv, .int (sz : Int) tz]) Q E s := by
  refine' enter_cells (binds := [(Str.ofString "worths", wv), (Str.ofString "size", .int (sz : Int) tz)]) (m := (fun y => if y = Str.ofString "worths" then some (wv) else none)) (cm := (fun y => if y = Str.ofString "size" then some (.int (sz : Int) tz) else none))
    C ?ko ?kcd (by simp only [recursionLimit]; omega) ?kbind ?kkind ?knd ?km ?kcm ?_ ?c1 ?c2 ?c3
  case ko => k_is
  case kcd => k_is
  case kbind => exact BindsTo.of_eq rfl
  case kkind => rfl
  case knd => decide +kernel
  case km => intro _; rfl
  case kcm => intro _; rfl
  case c1 => rfl
  case c2 => rfl
  case c3 => rfl
  intro base L' h1 tk' cells B F N Y X T
  k_cells Y
  (try dsimp only)
  (try k_fold)
  rename_i o' d1
  replace d1 : o'.data = .cell (some (.int (sz : Int) tz)) := d1
  k_steps
  refine ListComp_go (h₀ := s.heap) (L := L') (m := fun y => if y = Str.ofString "worths" then some wv else none) (by with_unfolding_all rfl) (fun _ => rfl) (fun _ => rfl) rfl (by decide) ?_
  k_steps
  refine hw _ rfl _ _ _ F.keep fun o fp P St It hof => ?_
  have up : ∀ o : Obj, Kept h1 (h1.push o) := fun o b o' e => Heap.get?_push_of_some _ e
  refine ⟨[(L' + 1, o')], F.keeps (up _), N.grown (up _), fun C D oC h2 GA => ?_⟩
  generalize hI : (({ heap := h1, gens := s.gens, drawn := s.drawn, toks := tk', os := s.os } : Shared).heap.objs.size) = I at *
  dsimp only at hI It GA ⊢
  have hIs : (h1.push o).objs.size = I + 1 := by rw [Heap.size_push, hI]
  have hf1 := fresh_at F
  have hLL : @LT.lt Nat _ (@HAdd.hAdd Nat Nat Nat _ L' 1) I := by rw [← hI]; exact Heap.lt_size (N (L' + 1, o') (by simp)).1
  have hIC : I < C := by have := GA.szC; rw [hIs] at this; exact this
  have hID : I < D := by have := GA.szD; rw [hIs] at this; exact this
  have hCD : @Ne Nat C D := GA.cd
  have st0 : St 0 h2 := It.walks.frame _ _ _ It.start fun b _ o e => GA.keep b o e
  refine compStart_any rfl ?_ (fun Q E h => It.walks.self 0 _ _ _ st0 h)
  refine compLoop_gen (S := fun _ => True) (rs₀ := [(C, oC), (D, lst []), (L' + 1, o')]) (fun i rs => ∃ oC mC ys, rs = [(C, oC), (D, lst ys), (L' + 1, o')] ∧ NsObj oC mC ∧ IntsAre ys (lawBits sz (ns.take i)))
    (block2_turn0 _ _ _ _ _ _ _ _ _ _ _ _) (fun _ => rfl) It.walks It.obj (fun i h h' o _ a b c d _ _ => It.stay i h h' o a b c d) st0 GA.fr GA.nw (neN (by omega)) (hf1 I (by omega)).2
    (by simp only [List.forall_mem_cons]; exact ⟨neN (by omega), neN (by omega), neN (by omega), fun _ h => nomatch h⟩) trivial ⟨oC, _, [], rfl, GA.ns, .nil⟩ ?_ ?_
  · rintro i v oI rs h3 tk3 E' hi hP ⟨oC3, mC, ys, rfl, hns, hys⟩ _ F3 N3 off3
    obtain ⟨k, t, hk, rfl⟩ := It.item i v hi hP
    refine wpAny_bind (blk_store (pre := [(I, oI)]) (post := [(D, lst ys), (L' + 1, o')]) F3 N3 hns (by simp only [List.forall_mem_cons]; exact ⟨neN (by omega), fun _ h => nomatch h⟩)
      (by simp only [List.forall_mem_cons]; exact ⟨neN (by omega), neN (by omega), fun _ h => nomatch h⟩) rfl rfl rfl fun h4 oC4 tk4 hns4 F4 N4 => ?_)
    simp only [List.cons_append, List.nil_append] at N4
    refine wpAny_bind ?_
    k_fold
    k_steps
    rename IsRange _ _ _ _ _ _ _ _ => hr
    rename Fr _ _ _ _ => F5
    rename News _ _ _ _ => N5
    rename Heap => h5
    dsimp only at hr F5 N5 ⊢
    refine wpAny_bind (wpAny_standAt (wpAny_bind (wpAny_of_eq (a := Value.ref h4.objs.size) rfl (wpAny_bind (wpAny_holding (iter_range_go (g := s.heap) (n := sz) rfl hr (small_one (by omega) (by omega) (by omega) (by omega)) (by rw [rangeSize_one]; split <;> omega) fun o2 fp2 P2 St2 It2 hof2 => ?_))))))
    refine wpAny_bind (wpAny_runOwn ?_)
    dsimp only at It2 ⊢
    have hLI := hf1 I (by omega)
    have hJL : @LT.lt Nat _ I h5.objs.size := Heap.lt_size (N5 (I, oI) (by simp)).1
    have hJC : @LT.lt Nat _ C h5.objs.size := Heap.lt_size (N5 (C, oC4) (by simp)).1
    have hJD : @LT.lt Nat _ D h5.objs.size := Heap.lt_size (N5 (D, lst ys) (by simp)).1
    have up2 : ∀ o : Obj, Kept h5 (h5.push o) := fun o b o' e => Heap.get?_push_of_some _ e
    have F5' := F5.keeps (up2 o2)
    have N5' : News s.heap L' (h5.push o2) [(C, oC4), (D, lst ys), (I, oI), (L' + 1, o')] := KStt.news_of (N5.grown (up2 o2)) (by simp)
    refine compStart_any rfl ?_ (fun Q E h => It2.walks.self 0 _ _ _ It2.start h)
    refine blk_last (it0 := _) (ns₀ := lawBits sz (ns.take i)) (rest := [(I, oI), (L' + 1, o')]) (fun a => k / 2 ^ (sz - 1 - a.toNat) % 2) (fun it acc => block2_turn1 _ _ _ _ _ _ _ _ _ it acc _)
      It2 (fun _ _ e => e) hns4 F5' N5' (fresh_at F5 _ (Nat.le_refl _)) (by omega) (by omega) hCD
      (by simp only [List.forall_mem_cons]; exact ⟨⟨by omega, by omega, by omega⟩, ⟨by omega, by omega, by omega⟩, fun _ h => nomatch h⟩) rfl rfl rfl hys ?_ ?_ ?_
    · rw [lawBits_length, stepKs_length, List.length_take, PySem.sizeLine_eq]
      have : min i ns.length * sz ≤ 100 * 8 := Nat.mul_le_mul (Nat.le_trans (Nat.min_le_right _ _) hl) hz
      omega
    · intro a ta oJ oC6 mC6 ys6 h6 tk6 E6 ha hns6 hx6 hm6 F6 N6
      have hn6 : mC6 (Str.ofString "number") = some (.int k t) := by rw [hm6 _ (by decide)]; simp
      have hk0 := hn k (List.mem_of_getElem? hk)
      have ha0 : 0 ≤ a ∧ a < sz := by
        obtain ⟨j, hj, rfl⟩ := List.mem_map.mp ha
        have := List.mem_range.mp hj
        omega
      clear F N F3 N3 F5 N5 F5' N5' hr hm6 ha off3 hys hns
      show wpAny _ _ _ _ _ _
      k_fold
      k_steps
      have e1 : ((sz : Int) - 1 - a).toNat = sz - 1 - a.toNat := by omega
      have e2 : (k.fdiv (2 ^ ((sz : Int) - 1 - a).toNat)).fmod 2 = k / 2 ^ (sz - 1 - a.toNat) % 2 := by
        rw [e1, Int.fdiv_eq_ediv_of_nonneg _ (Int.le_of_lt (Int.pow_pos (by decide))), Int.fmod_eq_emod_of_nonneg _ (by decide)]
      rw [e2]
      exact ⟨h6, _, rfl, F6, N6, _, rfl⟩
    · intro h6 tk6 oC6 mC6 ys6 hns6 hm6 hys6 F6 N6
      refine wpAny_pure ⟨h6, tk6, [(C, oC6), (D, lst ys6), (L' + 1, o')], rfl, F6, KStt.news_of N6 (by simp), ?_, trivial, oC6, mC6, ys6, rfl, hns6, ?_⟩
      · simp only [List.forall_mem_cons]
        exact ⟨neN (by omega), neN (by omega), neN (by omega), fun _ h => nomatch h⟩
      · rw [lawBits_snoc hk]
        have e : (stepKs 0 1 sz).map (fun a => k / 2 ^ (sz - 1 - a.toNat) % 2) = (List.range sz).map fun (i : Nat) => k / 2 ^ (sz - 1 - i) % 2 := by
          simp [stepKs]
        rw [← e]; exact hys6
  · rintro h3 tk3 rs ⟨oC3, mC, ys, rfl, hns, hys⟩ _ F3 N3
    rw [List.take_length] at hys
    refine ⟨h3, tk3, oC3, mC, ys, [(L' + 1, o')], rfl, hns, F3, N3, hCD, ?_, ?_⟩
    · intro p hp
      rw [List.mem_singleton.mp hp]
      exact ⟨neN (by omega), neN (by omega)⟩
    · intro h9 tk9 F9 N9
      exact hQ D ys h9 tk9 F9.keep (N9 _ (.head _)).2.2 (N9 _ (.head _)).1 hys
end
end Mine
end

-- G3
section
open PySem PySem.W PyProof.Rows PySem.Calls
set_option Elab.async false
set_option maxRecDepth 100000
namespace Mine
open PyProof.Rows.LCg
local macro_rules | `(tactic| k_all) => `(tactic| assumption)
local macro_rules | `(tactic| walk_at "eval ListComp") => `(tactic| (k_here; k_dflt (refine ListComp_it (by k_asm) (by with_unfolding_all rfl) (by decide) (by rfl) (by decide) (by rfl) ?_)))
local macro_rules | `(tactic| walk_at "subscriptTail") => `(tactic| (k_here; (with_reducible show wpAny _ _ (subscriptTail _ _ (Value.ref _) (Value.int _ _)) _ _ _); (refine my_item (by assumption) (by assumption) (by assumption) ?_)))

section
variable {prog : Program} {w : World} {mean : ExcName → Option Value} {mg mb : Str → Option Value} {dp un : Nat} {gd : Option (List Code)} {env : Env} {outer : List Env} {s : Shared}
  {E : Value → Shared → Prop} {Q : Value → Shared → Prop}

set_option maxHeartbeats 4000000 in
theorem law_numbers_call {lb : Addr} {vs : List Value} {bs : List Int} {sz : Nat} {tz : Tok} (C : CallAt w mean mg mb env outer s.heap) (hd : dp + 3 ≤ 900)
    (hl : s.heap.IsList lb vs.toArray) (hv : IntsAre vs bs) (hb : ∀ b ∈ bs, 0 ≤ b ∧ b < 2) (hn : bs.length ≤ 128) (hz0 : 0 < sz) (hz : sz ≤ 8)
    (hQ : ∀ D vs h' tk, Kept s.heap h' → s.heap.get? D = none → h'.get? D = some (lst vs) → IntsAre vs (lawNumbers sz bs) → Q (.ref D) { s with heap := h', toks := tk }) :
    wpAny (model prog w) (A1 dp un gd (env :: outer)) (call (.ref 119) [.ref lb, .int (sz : Int) tz]) Q E s := by
  refine' enter_cells (binds := [(Str.ofString "bits", .ref lb), (Str.ofString "size", .int (sz : Int) tz)]) (m := (fun y => none)) (cm := (fun y => if y = Str.ofString "size" then some (.int (sz : Int) tz) else if y = Str.ofString "bits" then some (.ref lb) else none))
    C ?ko ?kcd (by simp only [recursionLimit]; omega) ?kbind ?kkind ?knd ?km ?kcm ?_ ?c1 ?c2 ?c3
  case ko => k_is
  case kcd => k_is
  case kbind => exact BindsTo.of_eq rfl
  case kkind => rfl
  case knd => decide +kernel
  case km => intro _; rfl
  case kcm => intro _; rfl
  case c1 => rfl
  case c2 => rfl
  case c3 => rfl
  intro base L' h1 tk' cells B F N Y X T
  k_cells Y
  (try dsimp only)
  (try k_fold)
  rename_i o1 o2 d1 d2
  replace d1 : o1.data = .cell (some (.int (sz : Int) tz)) := d1
  replace d2 : o2.data = .cell (some (.ref lb)) := d2
  k_steps
  refine ListComp_go1 (y := Str.ofString "at") (h₀ := s.heap) (L := L') (m := fun y => none) (by with_unfolding_all rfl) (fun _ => rfl) (fun _ => rfl) rfl (by decide) ?_
  k_steps
  rename IsRange _ _ _ _ _ _ _ _ => hr
  rename Fr _ _ _ _ => F2
  rename News _ _ _ _ => N2
  rename Heap => h2
  dsimp only at hr F2 N2 ⊢
  have hfd : ((bs.length : Int)).fdiv (sz : Int) = ((bs.length / sz : Nat) : Int) := by rw [Int.fdiv_eq_ediv_of_nonneg _ (by omega)]; rfl
  rw [hfd] at hr
  have hn1 : bs.length / sz ≤ 128 := Nat.le_trans (Nat.div_le_self _ _) hn
  generalize hnn : bs.length / sz = nn at *
  refine iter_range_go (g := s.heap) (n := nn) rfl hr (small_one (by omega) (by omega) (by omega) (by omega)) (by rw [rangeSize_one]; split <;> omega) fun o fp P St It hof => ?_
  have up : ∀ o : Obj, Kept h2 (h2.push o) := fun o b o' e => Heap.get?_push_of_some _ e
  refine ⟨[(L' + 1 + 1, o1), (L' + 1, o2)], F2.keeps (up _), N2.grown (up _), fun C D oC oc h3 hoc GA => ?_⟩
  dsimp only at It GA ⊢
  generalize hI : h2.objs.size = I at *
  have hIs : (h2.push o).objs.size = I + 1 := by rw [Heap.size_push, hI]
  have hf1 := fresh_at F2
  have hLL : @LT.lt Nat _ (@HAdd.hAdd Nat Nat Nat _ (@HAdd.hAdd Nat Nat Nat _ L' 1) 1) I := by rw [← hI]; exact Heap.lt_size (N2 (L' + 1 + 1, o1) (by simp)).1
  have hIC : I < C := by have := GA.szC; rw [hIs] at this; exact this
  have hID : I < D := by have := GA.szD; rw [hIs] at this; exact this
  have hCD : @Ne Nat C D := GA.cd
  have hcD : @Ne Nat (C + 1) D := (GA.offc _ (List.mem_singleton.mpr rfl)).2.1
  have st0 : St 0 h3 := It.walks.frame _ _ _ It.start fun b _ o e => GA.keep b o e
  refine compStart_any rfl ?_ (fun Q E h => It.walks.self 0 _ _ _ st0 h)
  refine compLoop_gen (S := fun _ => True) (rs₀ := [(C, oC), (C + 1, oc), (D, lst []), (L' + 1 + 1, o1), (L' + 1, o2)]) (fun i rs => ∃ oC mC oc v0 ys, rs = [(C, oC), (C + 1, oc), (D, lst ys), (L' + 1 + 1, o1), (L' + 1, o2)] ∧ NsObj oC mC ∧ oc.data = .cell v0 ∧ IntsAre ys ((List.range i).map (lawNum sz bs)))
    (block1_turn _ _ _ _ _ _ _ _ _) (fun _ => rfl) It.walks It.obj (fun i h h' o _ a b c d _ _ => It.stay i h h' o a b c d) st0 GA.fr GA.nw (neN (by omega)) (hf1 I (by omega)).2
    (by simp only [List.forall_mem_cons]; exact ⟨neN (by omega), neN (by omega), neN (by omega), neN (by omega), neN (by omega), fun _ h => nomatch h⟩) trivial ⟨oC, _, oc, _, [], rfl, GA.ns, hoc, .nil⟩ ?_ ?_
  · rintro i v oI rs h4 tk4 E' hi hP ⟨oC3, mC, oc3, v0, ys, rfl, hns, hoc3, hys⟩ _ F3 N3 off3
    rw [stepKs_length] at hi
    obtain ⟨k, t, hk, rfl⟩ := It.item i v (by rw [stepKs_length]; exact hi) hP
    have hk' : k = (i : Int) := by
      have : (stepKs 0 1 nn)[i]? = some (i : Int) := by simp [stepKs, hi]
      rw [this] at hk; exact (Option.some.inj hk).symm
    subst hk'
    refine wpAny_bind (blk_storeC (pre := [(I, oI), (C, oC3)]) (post := [(D, lst ys), (L' + 1 + 1, o1), (L' + 1, o2)]) F3 N3 hoc3 (by simp only [List.forall_mem_cons]; exact ⟨neN (by omega), neN (by omega), fun _ h => nomatch h⟩)
      (by simp only [List.forall_mem_cons]; exact ⟨Ne.symm hcD, neN (by omega), neN (by omega), fun _ h => nomatch h⟩) rfl rfl rfl fun h5 oc5 hoc5 F5 N5 => ?_)
    simp only [List.cons_append, List.nil_append] at N5
    refine wpAny_bind ?_
    k_fold
    k_steps
    rename IsRange _ _ _ _ _ _ _ _ => hr2
    rename Fr _ _ _ _ => F7
    rename News _ _ _ _ => N7
    dsimp only at hr2 F7 N7 ⊢
    refine CompAt.range (n := sz) (by rfl) F7 N7 hr2 (small_one (by omega) (by omega) (by omega) (by omega)) (by rw [rangeSize_one]; split <;> omega) (by rw [PySem.sizeLine_eq]; omega) ?_
    intro g2
    refine comp_ints (ks := stepKs 0 1 sz) (fun a => bs.getD (sz * i + a.toNat) 0 * 2 ^ (sz - 1 - a.toNat)) (stepKs_length _ _ _) ?_ ?_ ?_
    · rintro j v hj ⟨t, rfl⟩
      exact ⟨_, t, by simp [stepKs, hj], rfl⟩
    · intro k t2 I2 oI2 C2 oC2 D2 m₂ ys2 h6 tk7 E2 hk2 hC2 hx2 F6 N6 off2 ne2
      have hk0 : 0 ≤ k ∧ k < sz := by
        obtain ⟨j, hj, rfl⟩ := List.mem_map.mp hk2
        have := List.mem_range.mp hj
        omega
      clear hr2 F7 N7 F3 N3 hr F2 N2 hns hys hP hk off3 hk2
      dsimp only at F6 N6 ⊢
      show wpAny _ _ _ _ _ _
      have hidx : sz * i + k.toNat < bs.length := by
        have h1 : sz * (i + 1) ≤ sz * nn := Nat.mul_le_mul_left sz hi
        have h2 : sz * nn ≤ bs.length := by rw [← hnn]; exact Nat.mul_div_le _ _
        rw [Nat.mul_succ] at h1
        omega
      have hmul : ((sz * i : Nat) : Int) = (sz : Int) * (i : Int) := Int.natCast_mul _ _
      have hix : ((sz : Int) * (i : Int) + k).toNat = sz * i + k.toNat := by omega
      have hb01 : 0 ≤ bs.getD (sz * i + k.toNat) 0 ∧ bs.getD (sz * i + k.toNat) 0 < 2 := by
        rw [List.getD_eq_getElem?_getD, List.getElem?_eq_getElem hidx]
        exact hb _ (List.getElem_mem hidx)
      have hx0 : 0 ≤ (sz : Int) * (i : Int) + k := by omega
      have hx1 : (sz : Int) * (i : Int) + k < bs.length := by omega
      rw [← hix] at hb01 ⊢
      obtain ⟨hb0, hb1⟩ := hb01
      have e1 : ((sz : Int) - 1 - k).toNat = sz - 1 - k.toNat := by omega
      show wpAny _ _ _ _ _ _
      k_fold
      k_steps
      rw [e1]
      exact ⟨_, _, _, rfl, F6, N6, off2, trivial, rfl, _, rfl⟩
    · intro ys2 hy2 D2 h8 tk8 F8 N8 o8
      show wpAny _ _ _ _ _ _
      k_steps
      rename Fr _ _ _ _ => F9
      rename News _ _ _ _ => N9
      have N9' := KStt.news_of (b := [(I, oI), (C, oC3), (C + 1, oc5), (D, lst ys), (L' + 1 + 1, o1), (L' + 1, o2)]) N9 (by simp)
      have hsum : (List.map (fun a => bs.getD (sz * i + a.toNat) 0 * 2 ^ (sz - 1 - a.toNat)) (stepKs 0 1 sz)).sum = lawNum sz bs i := by
        unfold lawNum stepKs
        rw [List.map_map]
        exact congrArg List.sum (List.map_congr_left fun j _ => by simp)
      rw [hsum]
      refine wpAny_bind (blk_append (pre := [(I, oI), (C, oC3), (C + 1, oc5)]) (post := [(L' + 1 + 1, o1), (L' + 1, o2)]) F9 N9' (by simp only [List.forall_mem_cons]; exact ⟨neN (by omega), neN (by omega), hcD, fun _ h => nomatch h⟩)
        (by simp only [List.forall_mem_cons]; exact ⟨neN (by omega), neN (by omega), fun _ h => nomatch h⟩) (by rw [hys.length, List.length_map, List.length_range, PySem.sizeLine_eq]; omega) fun h10 F10 N10 => ?_)
      refine wpAny_pure ⟨h10, _, _, rfl, F10, N10, ?_, trivial, oC3, mC, oc5, _, _, rfl, hns, hoc5, ?_⟩
      · show ∀ p ∈ ((C, oC3) :: (C + 1, oc5) :: (D, lst (ys ++ [_])) :: (L' + 1 + 1, o1) :: (L' + 1, o2) :: []), p.1 ≠ I
        simp only [List.forall_mem_cons]
        exact ⟨neN (by omega), neN (by omega), neN (by omega), neN (by omega), neN (by omega), fun _ h => nomatch h⟩
      · rw [List.range_succ, List.map_append]
        exact IntsAre.append hys (.cons _ _ .nil)
  · rintro h3 tk3 rs ⟨oC3, mC, oc3, v0, ys, rfl, hns, _, hys⟩ _ F3 N3
    rw [stepKs_length] at hys
    refine ⟨h3, tk3, oC3, mC, ys, [(C + 1, oc3), (L' + 1 + 1, o1), (L' + 1, o2)], rfl, hns, F3, KStt.news_of N3 (by simp), hCD, ?_, ?_⟩
    · simp only [List.forall_mem_cons]
      exact ⟨⟨neN (by omega), hcD⟩, ⟨neN (by omega), neN (by omega)⟩, ⟨neN (by omega), neN (by omega)⟩, fun _ h => nomatch h⟩
    · intro h9 tk9 F9 N9
      refine hQ D ys h9 tk9 F9.keep (N9 _ (.head _)).2.2 (N9 _ (.head _)).1 ?_
      unfold lawNumbers
      rw [hnn]; exact hys
end
end Mine
end

-- G4
section
open PySem PySem.W PyProof.Rows PySem.Calls
set_option Elab.async false
set_option maxRecDepth 100000
namespace Mine
open PyProof.Rows.LCg
local macro_rules | `(tactic| k_all) => `(tactic| assumption)
local macro_rules | `(tactic| walk_at "eval ListComp") => `(tactic| (k_here; k_dflt (refine ListComp_it (by k_asm) (by with_unfolding_all rfl) (by decide) (by rfl) (by decide) (by rfl) ?_)))
local macro_rules | `(tactic| walk_at "exec For Name Name cons nil") => `(tactic| refine Stop.out ?_)
local macro_rules | `(tactic| walk_at "pyIter ref") => `(tactic| ((with_reducible show wpAny _ _ (pyIter (Value.ref _)) (fun it s₂ => LoopAtV _ _ _ _ _ _ _ _ _ it s₂) _ _); refine Stop.out ?_))

section
variable {prog : Program} {w : World} {mean : ExcName → Option Value} {mg mb : Str → Option Value} {dp un : Nat} {gd : Option (List Code)} {env : Env} {outer : List Env} {s : Shared}
  {E : Value → Shared → Prop} {Q : Value → Shared → Prop}

set_option maxHeartbeats 4000000 in
theorem group_octets_call {lb : Addr} {vs : List Value} {ws : List Int} (C : CallAt w mean mg mb env outer s.heap) (hd : dp + 3 ≤ 900)
    (hl : s.heap.IsList lb vs.toArray) (hv : IntsAre vs ws) (hb : ∀ b ∈ ws, 0 ≤ b ∧ b < 64) (hn : 2 ≤ ws.length ∧ ws.length ≤ 4)
    (hQ : ∀ D bo t1 t2 h' tk, Kept s.heap h' → s.heap.get? D = none → h'.get? D = some { cls := .type "tuple", data := .seq #[.bytes bo t1, .int (groupSpare ws) t2] } → KBw.bInts bo = groupOctets ws → Q (.ref D) { s with heap := h', toks := tk }) :
    wpAny (model prog w) (A1 dp un gd (env :: outer)) (call (.ref 76) [.ref lb]) Q E s := by
  refine' enter_cells (binds := [(Str.ofString "worth_row", .ref lb)]) (m := (fun y => if y = Str.ofString "worth_row" then some (.ref lb) else none)) (cm := (fun y => none))
    C ?ko ?kcd (by simp only [recursionLimit]; omega) ?kbind ?kkind ?knd ?km ?kcm ?_ ?c1 ?c2 ?c3
  case ko => k_is
  case kcd => k_is
  case kbind => exact BindsTo.of_eq rfl
  case kkind => rfl
  case knd => decide +kernel
  case km => intro _; rfl
  case kcm => intro _; rfl
  case c1 => rfl
  case c2 => rfl
  case c3 => rfl
  intro base L' h1 tk' cells B F N Y X T
  k_cells Y
  (try dsimp only)
  (try k_fold)
  rename_i o1 d1
  replace d1 : o1.data = .cell none := d1
  k_steps
  rename Fr _ _ _ _ => F2
  rename News _ _ _ _ => N2
  dsimp only at F2 N2
  refine For_invVF F2 rfl rfl ?_
  k_steps
  refine iter_list (fun i m nx => (∃ t u, m = fun y => if y = Str.ofString "number" then u else if y = Str.ofString "total" then some (.int (tot 64 (ws.take i)) t) else if y = Str.ofString "worth_row" then some (.ref lb) else none) ∧ nx = [(L' + 1, o1)]) (by rfl) hl hv F2 N2 ⟨⟨tk', none, ?_⟩, rfl⟩ ?_ ?_
  · funext y
    by_cases h1 : y = Str.ofString "number"
    · subst h1; rfl
    · simp only [if_neg h1]; rfl
  · rintro i k t m₁ nx h3 tk own hi hk hadr hoff ⟨⟨ta, u, rfl⟩, rfl⟩ F1 N1
    have hown : ∀ p ∈ own, p.1 ≠ L' + 1 := OwnOff.ne hoff (by simp)
    simp only [List.cons_append, List.nil_append] at N1
    have hk2 := hb k (List.mem_of_getElem? hk)
    have hb1 := tot_bound (B := 64) (by decide) (ws.take i) fun k hk => hb k (List.mem_of_mem_take hk)
    have hb2 : tot 64 (ws.take i) < 64 ^ 4 := Int.lt_of_lt_of_le hb1.2 (pow_le_pow' (by decide) (by rw [List.length_take]; omega))
    have e1 : tot 64 (ws.take (i + 1)) = 64 * tot 64 (ws.take i) + k := by rw [List.take_add_one, hk]; exact tot_snoc _ _ _
    rw [e1]
    clear hoff F2 N2 e1
    generalize tot 64 (ws.take i) = a at *
    have hb1 := hb1.1
    show wpAny _ _ _ _ _ _
    k_fold
    k_steps
    rename Fr _ _ _ _ => F4
    rename News _ _ _ _ => N4
    obtain ⟨tq, F4⟩ : ∃ tq, Fr s.heap L' _ (fun y => if y = Str.ofString "total" then some (.int (64 * a + k) tq) else if y = Str.ofString "number" then some (.int k t) else if y = Str.ofString "number" then u else if y = Str.ofString "total" then some (.int a ta) else if y = Str.ofString "worth_row" then some (.ref lb) else none) := ⟨_, F4⟩
    refine ⟨_, _, _, _, [(L' + 1, o1)], rfl, F4, N4, fun p hp => List.mem_append_left own hp, fun p hp => List.mem_append_right [_] hp, rfl, ⟨tq, some (.int k t), ?_⟩, rfl⟩
    funext y
    by_cases h1 : y = Str.ofString "total"
    · rw [if_pos h1, if_neg (by rw [h1]; decide), if_pos h1]
    · rw [if_neg h1]
      by_cases h2 : y = Str.ofString "number"
      · rw [if_pos h2, if_pos h2]
      · simp only [if_neg h1, if_neg h2]
  · rintro m₁ nx h3 tk ⟨⟨ta, u, rfl⟩, rfl⟩ F1 N1
    rw [List.take_length] at F1
    clear F2 N2
    have hb1 := tot_bound (B := 64) (by decide) ws hb
    have hb2 : tot 64 ws < 64 ^ 4 := Int.lt_of_lt_of_le hb1.2 (pow_le_pow' (by decide) hn.2)
    have hb1 := hb1.1
    have hsp : groupSpare ws = tot 64 ws % 2 ^ (8 - 2 * ws.length) := rfl
    have hgo : groupOctets ws = (downKs ((ws.length : Int) - 2) (ws.length - 1)).map fun k => ((tot 64 ws).fdiv (2 ^ (8 - 2 * ws.length))).fdiv (2 ^ (8 * k).toNat) % 256 := rfl
    generalize tot 64 ws = T at *
    show wpAny _ _ _ _ _ _
    k_fold
    k_steps
    rename IsRange _ _ _ _ _ _ _ _ => hr
    rename Fr _ _ _ _ => F5
    rename News _ _ _ _ => N5
    rename Obj.data _ = Data.cell (some (Value.int _ _)) => d5
    dsimp only at hr F5 N5 d5 ⊢
    have e1 : (6 * (ws.length : Int) - 8 * ((ws.length : Int) - 1)).toNat = 8 - 2 * ws.length := by omega
    rw [e1] at d5
    refine CompAt.range (n := ws.length - 1) (by rfl) F5 N5 hr (small_down (by omega) (by omega) (by omega) (by omega)) (by rw [rangeSize_downNat]; omega) (by rw [PySem.sizeLine_eq]; omega) ?_
    intro g
    refine comp_ints (ks := downKs ((ws.length : Int) - 2) (ws.length - 1)) (fun k => (T.fdiv (2 ^ (8 - 2 * ws.length))).fdiv (2 ^ (8 * k).toNat) % 256) (downKs_length _ _) ?_ ?_ ?_
    · rintro i v hi ⟨t, rfl⟩
      refine ⟨(ws.length : Int) - 2 - (i : Int), t, by simp [downKs, hi], ?_⟩
      rw [show (ws.length : Int) - 1 - 1 + (i : Int) * -1 = (ws.length : Int) - 2 - (i : Int) from by omega]
    · intro k t I oI C oC D m₂ ys h6 tk7 E' hk hC hx F6 N6 off ne
      have hk0 := mem_downKs hk
      have hk1 : 0 ≤ k := by omega
      have hk2 : k ≤ 3 := by omega
      clear hr F5 N5 hk0
      dsimp only at F6 N6 ⊢
      show wpAny _ _ _ _ _ _
      k_fold
      k_steps
      rw [bitAnd_m8]
      exact ⟨_, _, _, rfl, F6, N6, off, trivial, rfl, _, rfl⟩
    · intro ys hy D h8 tk8 F8 N8 o8
      have hin : ∀ k ∈ (downKs ((ws.length : Int) - 2) (ws.length - 1)).map (fun k => (T.fdiv (2 ^ (8 - 2 * ws.length))).fdiv (2 ^ (8 * k).toNat) % 256), 0 ≤ k ∧ k < 256 := by
        intro k hk
        obtain ⟨j, _, rfl⟩ := List.mem_map.mp hk
        exact ⟨Int.emod_nonneg _ (by decide), Int.emod_lt_of_pos _ (by decide)⟩
      show wpAny _ _ _ _ _ _
      k_steps
      refine KBa.make_K F8 N8 rfl (News.isList N8 (List.mem_cons_self ..)) hy hin (by rw [List.length_map, downKs_length]; omega) fun h9 tb k9 F9 N9 _ => ?_
      k_steps
      rename Fr _ _ _ _ => F10
      rename News _ _ _ _ => N10
      have hN := N10 _ (List.mem_cons_self ..)
      obtain ⟨hN1, _, hN2⟩ := hN
      dsimp only at hN1
      rw [e1, Int.one_mul, kbt_mask, ← hsp] at hN1
      exact hQ _ _ _ _ _ _ F10.keep hN2 hN1 (by rw [hgo]; exact KBa.ints_make hin)
end
end Mine
end

-- G5
section
open PySem PySem.W PyProof.Rows PySem.Calls
set_option Elab.async false
set_option maxRecDepth 100000
namespace Mine
open PyProof.Rows.LCg
local macro_rules | `(tactic| k_all) => `(tactic| assumption)
local macro_rules | `(tactic| walk_at "eval ListComp") => `(tactic| (k_here; k_dflt (refine ListComp_it (by k_asm) (by with_unfolding_all rfl) (by decide) (by rfl) (by decide) (by rfl) ?_)))


section
variable {prog : Program} {w : World} {A : Around} {h₀ : Heap} {L : Addr} {m : Str → Option Value} {env : Env} {elt : Expr} {x : Str} {scope : Scope} {cl : List (Str × Addr)} {s : Shared} {S : List (Addr × Obj) → Prop} {P : Nat → Value → Prop} {Fin : List Value → List (Addr × Obj) → Prop} {news : List (Addr × Obj)}
theorem comp_inv {n : Nat} (J : Nat → List Value → List (Addr × Obj) → Prop) (h0 : J 0 [] news)
    (turn : ∀ i v I oI C oC D m₂ ys news' h tk (E' : Value → Shared → Prop), i < n → P i v → J i ys news' → NsObj oC m₂ → m₂ x = some v → Fr h₀ L h m → News h₀ L h ((I, oI) :: (C, oC) :: (D, lst ys) :: news') → Off3 I C D news' → ((@Ne Nat I C) ∧ (@Ne Nat I D) ∧ (@Ne Nat C D)) →
      wpAny (model prog w) A (eval elt (compEnvC scope cl C env)) (CompEnd h₀ L m { s with heap := h, toks := tk } I oI C oC D (lst ys) S (fun y news'' => J (i + 1) (ys ++ [y]) news'')) E' { s with heap := h, toks := tk })
    (fin : ∀ ys news', J n ys news' → Fin ys news') : CompRest prog w A h₀ L m env elt x scope cl s S P Fin n 0 [] news := by
  have key : ∀ (j i : Nat) (ys : List Value) (news' : List (Addr × Obj)), i + j = n → J i ys news' → CompRest prog w A h₀ L m env elt x scope cl s S P Fin j i ys news' := by
    intro j
    induction j with
    | zero =>
      intro i ys news' hi hj
      have : i = n := by omega
      subst this
      exact CompRest.zero (fin ys news' hj)
    | succ j ih =>
      intro i ys news' hi hj
      refine CompRest.succ ?_
      intro v I oI C oC D m₂ h tk E' hv hC hx F N off ne
      refine wpAny_mono (turn i v I oI C oC D m₂ ys news' h tk E' (by omega) hv hj hC hx F N off ne) (fun y s₂ hq => ?_) fun _ _ e => e
      obtain ⟨h', tk', nw, e, F', N', off', hS, hJ⟩ := hq
      exact ⟨h', tk', nw, e, F', N', off', hS, ih (i + 1) _ nw (by omega) hJ⟩
  exact key n 0 [] news (by omega) h0
end

/-- the table of an alphabet's worths -/
def WorthTab (f : Int → Option Value) (as : List Int) : Prop := (∀ k, k ∉ as → f k = none) ∧ ∀ (j : Nat) k, as[j]? = some k → ∃ t, f k = some (.int (j : Int) t)
theorem worthTab_of : ∀ (n : Nat) (ps : List (Int × Value)), ps.length = n → (ps.map (·.1)).Nodup → (∀ (j : Nat) p, ps[j]? = some p → ∃ t, p.2 = .int (j : Int) t) → WorthTab (tableOf ps) (ps.map (·.1)) := by
  intro n
  induction n with
  | zero =>
    intro ps hn _ _
    rw [List.eq_nil_of_length_eq_zero hn]
    exact ⟨fun _ _ => rfl, fun j k h => by simp at h⟩
  | succ n ih =>
    intro ps hn hd hp
    obtain ⟨r, p, rfl⟩ : ∃ r p, ps = r ++ [p] := ⟨ps.dropLast, ps.getLast (by intro e; rw [e] at hn; cases hn), (List.dropLast_concat_getLast _).symm⟩
    rw [List.length_append, List.length_singleton] at hn
    rw [List.map_append, List.map_singleton] at hd ⊢
    rw [List.nodup_append] at hd
    have hr : r.length = n := by omega
    obtain ⟨i1, i2⟩ := ih r hr hd.1 fun j q hq => hp j q (by rw [List.getElem?_append_left (List.getElem?_eq_some_iff.mp hq).1]; exact hq)
    rw [tableOf_snoc]
    refine ⟨fun k hk => ?_, fun j k hk => ?_⟩
    · have h1 : k ≠ p.1 := fun e => hk (by rw [e]; simp)
      simp only [if_neg h1]
      exact i1 k fun h => hk (List.mem_append_left _ h)
    · by_cases hj : j < r.length
      · rw [List.getElem?_append_left (by simpa using hj)] at hk
        have h1 : k ≠ p.1 := hd.2.2 k (List.mem_of_getElem? hk) p.1 (by simp)
        simp only [if_neg h1]
        exact i2 j k hk
      · have hj2 : j = r.length := by
          have := (List.getElem?_eq_some_iff.mp hk).1
          rw [List.length_append, List.length_map, List.length_singleton] at this
          omega
        subst hj2
        have hk2 : k = p.1 := by simpa using hk.symm
        subst hk2
        obtain ⟨t, ht⟩ := hp r.length p (by simp)
        exact ⟨t, by simp [ht]⟩

section
variable {prog : Program} {w : World} {mean : ExcName → Option Value} {mg mb : Str → Option Value} {dp un : Nat} {gd : Option (List Code)} {env : Env} {outer : List Env} {s : Shared}
  {E : Value → Shared → Prop} {Q : Value → Shared → Prop}

set_option maxHeartbeats 4000000 in
theorem worth_table_call {al : Array UInt8} {ta : Tok} {as : List Int} (C : CallAt w mean mg mb env outer s.heap) (hd : dp + 3 ≤ 900)
    (ha : KBw.bInts al = as) (hal : as.length = 64) (hnd : as.Nodup)
    (hQ : ∀ d f h' tk, Kept s.heap h' → s.heap.get? d = none → h'.IntMap d f → WorthTab f as → Q (.ref d) { s with heap := h', toks := tk }) :
    wpAny (model prog w) (A1 dp un gd (env :: outer)) (call (.ref 66) [.bytes al ta]) Q E s := by
  refine' enter_cells (binds := [(Str.ofString "alphabet", .bytes al ta)]) (m := (fun y => none)) (cm := (fun y => if y = Str.ofString "alphabet" then some (.bytes al ta) else none))
    C ?ko ?kcd (by simp only [recursionLimit]; omega) ?kbind ?kkind ?knd ?km ?kcm ?_ ?c1 ?c2 ?c3
  case ko => k_is
  case kcd => k_is
  case kbind => exact BindsTo.of_eq rfl
  case kkind => rfl
  case knd => decide +kernel
  case km => intro _; rfl
  case kcm => intro _; rfl
  case c1 => rfl
  case c2 => rfl
  case c3 => rfl
  intro base L' h1 tk' cells B F N Y X T
  k_cells Y
  (try dsimp only)
  (try k_fold)
  rename_i o1 d1
  replace d1 : o1.data = .cell (some (.bytes al ta)) := d1
  k_steps
  rename IsRange _ _ _ _ _ _ _ _ => hr
  rename Fr _ _ _ _ => F5
  rename News _ _ _ _ => N5
  dsimp only at hr F5 N5 ⊢
  refine CompAt.range (n := as.length) (by rfl) F5 N5 hr (by rw [hal]; decide) (by rw [hal]; decide) (by rw [PySem.sizeLine_eq]; omega) ?_
  intro g
  refine comp_inv (fun i ys news' => ∃ (tups : List (Addr × Obj)) (ps : List (Int × Value)), news' = (L' + 1, o1) :: tups ∧ ys.length = i ∧ ps.length = i ∧ ps.map (·.1) = as.take i ∧ (∀ (j : Nat) p, ps[j]? = some p → ∃ t, p.2 = .int (j : Int) t) ∧
    ∀ (j : Nat) v p, ys[j]? = some v → ps[j]? = some p → ∃ a ob t n, v = .ref a ∧ (a, ob) ∈ tups ∧ ob.cls = .type "tuple" ∧ ob.data = .seq #[.int p.1 t, p.2] n)
    ⟨[], [], rfl, rfl, rfl, by simp, by simp, by simp⟩ ?_ ?_
  · rintro i v I oI C oC D m₂ ys news' h6 tk7 E' hi ⟨t, rfl⟩ ⟨tups, ps, rfl, hyl, hpl, hpm, hpw, hpt⟩ hC hx F6 N6 off ne
    rw [show (0 : Int) + (i : Int) * 1 = (i : Int) from by omega] at hx
    clear hr F5 N5
    dsimp only at F6 N6 ⊢
    show wpAny _ _ _ _ _ _
    k_fold
    k_steps
    rename Fr _ _ _ _ => F7
    rename News _ _ _ _ => N7
    rename _ ∧ _ => l1
    rename_i D2 _
    rw [Int.toNat_natCast] at N7
    obtain ⟨ot, t2, n2, ho1, ho2, N7⟩ : ∃ (ot : Obj) (t2 : Tok) (n2 : Nat), ot.cls = .type "tuple" ∧ ot.data = .seq #[.int (as.getD i 0) t2, .int (i : Int) t] n2 ∧ News s.heap L' _ ((D2, ot) :: (I, oI) :: (C, oC) :: (D, lst ys) :: (L' + 1, o1) :: tups) := ⟨_, _, _, rfl, rfl, N7⟩
    have hai : as[i]? = some (as.getD i 0) := by rw [List.getD_eq_getElem?_getD, List.getElem?_eq_getElem hi]; rfl
    refine ⟨_, _, _, rfl, F7, KStt.news_of N7 (b := (I, oI) :: (C, oC) :: (D, lst ys) :: (L' + 1, o1) :: (D2, ot) :: tups) ?_, ⟨off.1, ⟨⟨neN (by omega), neN (by omega), neN (by omega)⟩, off.2⟩⟩, trivial, (D2, ot) :: tups, ps ++ [(as.getD i 0, .int (i : Int) t)], rfl, by simp [hyl], by simp [hpl], ?_, ?_, ?_⟩
    · intro p; simp only [List.mem_cons]; intro h; rcases h with h | h | h | h | h | h <;> simp [h]
    · rw [List.map_append, hpm, List.take_add_one, hai]; rfl
    · intro j p hp
      by_cases hj : j < ps.length
      · rw [List.getElem?_append_left hj] at hp; exact hpw j p hp
      · have hj2 : j = ps.length := by
          have := (List.getElem?_eq_some_iff.mp hp).1
          rw [List.length_append, List.length_singleton] at this
          omega
        subst hj2
        have : p = (as.getD i 0, .int (i : Int) t) := by simpa using hp.symm
        subst this
        exact ⟨t, by rw [hpl]⟩
    · intro j v p hv hp
      by_cases hj : j < ps.length
      · rw [List.getElem?_append_left hj] at hp
        rw [List.getElem?_append_left (by omega)] at hv
        obtain ⟨a, ob, t2, n2, q1, q2, q3, q4⟩ := hpt j v p hv hp
        exact ⟨a, ob, t2, n2, q1, List.mem_cons_of_mem _ q2, q3, q4⟩
      · have hj2 : j = ps.length := by
          have := (List.getElem?_eq_some_iff.mp hp).1
          rw [List.length_append, List.length_singleton] at this
          omega
        subst hj2
        have : p = (as.getD i 0, .int (i : Int) t) := by simpa using hp.symm
        subst this
        have hvv : v = .ref D2 := by rw [hpl, ← hyl] at hv; simpa using hv.symm
        subst hvv
        exact ⟨D2, ot, t2, n2, rfl, List.mem_cons_self, ho1, ho2⟩
  · rintro ys news' ⟨tups, ps, rfl, hyl, hpl, hpm, hpw, hpt⟩ D h8 tk8 F8 N8 o8
    rw [List.take_length] at hpm
    subst hpm
    show wpAny _ _ _ _ _ _
    rw [List.length_map] at hyl
    k_steps
    have hD8 : h8.get? D = some (lst ys) := (N8 _ List.mem_cons_self).1
    refine call_dict_pairs (s := { s with heap := h8, toks := tk8 }) (ps := ps) (its := ys.toArray) ?_ hD8 ?_ ?_ ?_ ?_
    · rfl
    · rw [List.size_toArray]; exact hyl
    · rw [List.length_map] at hal; omega
    · intro j v p hv hp
      obtain ⟨a, ob, t, n, q1, q2, q3, q4⟩ := hpt j v p (by simpa using hv) hp
      exact ⟨a, ob, t, n, q1, (N8 _ (List.mem_cons_of_mem _ (List.mem_cons_of_mem _ q2))).1, q3, q4⟩
    · intro d h9 tk9 k9 hd9 hm9
      refine hQ d _ h9 tk9 (fun b o e => k9 b o (F8.keep b o e)) ?_ hm9 (worthTab_of _ ps rfl hnd hpw)
      cases q : s.heap.get? d with
      | none => rfl
      | some o => have := F8.keep d o q; rw [hd9] at this; cases this
end
end Mine
end

-- G6
section
open PySem PySem.W PyProof.Rows PySem.Calls
set_option Elab.async false
set_option maxRecDepth 100000
namespace Mine
open PyProof.Rows.LCg
local macro_rules | `(tactic| k_all) => `(tactic| assumption)

local macro_rules | `(tactic| walk_at "pyIter ref") => `(tactic| ((with_reducible show wpAny _ _ (pyIter (Value.ref _)) (fun it s₂ => LoopAtV _ _ _ _ _ _ _ _ _ it s₂) _ _); refine Stop.out ?_))
local macro_rules | `(tactic| walk_at "call ref") => `(tactic| refine Stop.out ?_)
local macro_rules | `(tactic| walk_at "call builtin:list.extend") => `(tactic| refine Stop.out ?_)

section
variable {prog : Program} {w : World} {mean : ExcName → Option Value} {mg mb : Str → Option Value} {dp un : Nat} {gd : Option (List Code)} {env : Env} {outer : List Env} {s : Shared}
  {E : Value → Shared → Prop} {Q : Value → Shared → Prop}

set_option maxHeartbeats 4000000 in
theorem part_encoded_call {b al : Array UInt8} {tb ta : Tok} {os as : List Int} (C : CallAt w mean mg mb env outer s.heap) (hd : dp + 5 ≤ 900) (hu : un + 100 ≤ 5000)
    (hb : KBw.bInts b = os) (hl : os.length ≤ 100) (ha : KBw.bInts al = as) (hal : as.length = 64)
    (hQ : ∀ bo t h' tk, Kept s.heap h' → KBw.bInts bo = partEnc os as → Q (.bytes bo t) { s with heap := h', toks := tk }) :
    wpAny (model prog w) (A1 dp un gd (env :: outer)) (call (.ref 83) [.bytes b tb, .bytes al ta]) Q E s := by
  refine' enter_plain (binds := [(Str.ofString "octets", .bytes b tb), (Str.ofString "alphabet", .bytes al ta)]) (m := (fun y => if y = Str.ofString "alphabet" then some (.bytes al ta) else if y = Str.ofString "octets" then some (.bytes b tb) else none))
    C ?ko ?kcd (by simp only [recursionLimit]; omega) ?kbind ?kloc ?km ?_ ?c1 ?c2 ?c3 ?c4
  case ko => k_is
  case kcd => k_is
  case kbind => exact BindsTo.of_eq rfl
  case kloc => exact locs rfl
  case km => exact fun _ => lk2
  case c1 => rfl
  case c2 => rfl
  case c3 => rfl
  case c4 => decide
  intro base L' h1 B F N X T
  (try dsimp only)
  (try k_fold)
  k_steps
  rename IsRange _ _ _ _ _ _ _ _ => hr
  rename Fr _ _ _ _ => F2
  rename News _ _ _ _ => N2
  dsimp only at hr F2 N2 ⊢
  rename_i lc _ _ _ _ _ _ _ _ _ _ _
  have hsum := partEncTo_length os as
  refine iter_range (n := (os.length + 2) / 3) (fun i m nx => ∃ u vs n, m = (fun y => if y = Str.ofString "begin" then u else if y = Str.ofString "codes" then some (.ref lc) else if y = Str.ofString "alphabet" then some (.bytes al ta) else if y = Str.ofString "octets" then some (.bytes b tb) else none) ∧ nx = [(lc, { cls := .type "list", data := .seq vs.toArray n })] ∧ IntsAre vs (partEncTo os as i))
    hr (small_step (by omega) (by omega) (by omega) (by omega) (by omega) (by omega)) (rangeSize_nat3 _) (by rfl) F2 N2 ⟨none, [], 0, ?_, rfl, .nil⟩ ?_ ?_
  · funext y
    by_cases h1 : y = Str.ofString "begin"
    · subst h1; rfl
    · simp only [if_neg h1]
  · rintro i t m₁ nx h3 tk own hi hadr hoff ⟨u, vs, n, rfl, rfl, hvs⟩ F1 N1
    have hown : ∀ p ∈ own, p.1 ≠ lc := OwnOff.ne hoff (by simp)
    simp only [List.cons_append, List.nil_append] at N1
    clear hoff F2 N2 hr
    show wpAny _ _ _ _ _ _
    k_fold
    k_steps
    rename Fr _ _ _ _ => F3
    rename News _ _ _ _ => N3
    rename KBw.bInts (KBy.picked _ _ _) = _ => hp
    (try dsimp only at hp)
    generalize KBy.picked b (some (0 + (i : Int) * 3)) (some (0 + (i : Int) * 3 + 3)) = pb at *
    replace hp := hp.trans (chunk3 os i)
    have hpl : ((os.drop (3 * i)).take 3).length ≤ 3 := List.length_take_le _ _
    refine group_codes_call (dp := dp + 1) (un := un + 3) (CallAt.of B F3 rfl rfl X T) (by omega) (by omega) hp hpl ha hal ?_
    intro D ws h4 tk4 k4 hD0 hD hws
    have N4 := news_fresh F3 N3 k4 hD0 hD
    have ne4 := news_ne N3 hD0
    have F4 := F3.keeps k4
    clear F3 N3
    show wpAny _ _ _ _ _ _
    (try k_fold)
    k_steps
    refine extend_in_ints (own := [(D, lst ws)]) (rest := own) F4 N4 (by simp only [List.forall_mem_cons]; exact ⟨Ne.symm (ne4 (lc, _) List.mem_cons_self), fun _ h => nomatch h⟩) hown hD hvs (by rw [List.toList_toArray]; exact hws) ?_ ?_
    · intro h5 n5 F5 N5 hv5
      rw [← partEncTo_succ] at hv5
      show wpAny _ _ _ _ _ _
      (try k_fold)
      k_steps
      refine ⟨_, _, _, _, [(lc, { cls := .type "list", data := .seq (vs ++ ws.toArray.toList).toArray n5 })], rfl, F5, N5, fun p hp => ?_, fun p hp => List.mem_cons_of_mem _ (List.mem_cons_of_mem _ hp), rfl, some (.int (0 + (i : Int) * 3) t), _, _, ?_, rfl, hv5⟩
      · rw [List.mem_singleton.mp hp]; exact List.mem_cons_of_mem _ List.mem_cons_self
      · funext y
        by_cases h1 : y = Str.ofString "begin"
        · rw [if_pos h1, if_pos h1]
        · simp only [if_neg h1]
    · rw [hvs.length, List.size_toArray, hws.length, groupCodes_length, PySem.sizeLine_eq]
      have := hsum i
      omega
  · rintro m₁ nx h3 tk ⟨u, vs, n, rfl, rfl, hvs⟩ F1 N1
    clear F2 N2 hr
    rw [← partEnc_to] at hvs
    show wpAny _ _ _ _ _ _
    (try k_fold)
    k_steps
    have hin := partEnc_byte (os := os) (as := as) (fun a h => by rw [← ha] at h; exact KBw.ints_in h)
    have hlen : (partEnc os as).length ≤ 1000 := by have := hsum ((os.length + 2) / 3); rw [partEnc_to]; omega
    refine KBa.make_K F1 N1 rfl (News.isList N1 (List.mem_cons_self ..)) hvs hin (by omega) fun h9 tb k9 F9 N9 _ => ?_
    exact hQ _ _ _ _ F9.keep (KBa.ints_make hin)
end
end Mine
end

-- Fault
section
open PySem PySem.W PyProof.Rows PySem.Calls
set_option Elab.async false
set_option maxRecDepth 100000
namespace Mine
open PyProof.Rows.LCg
local macro_rules | `(tactic| k_all) => `(tactic| assumption)
local macro_rules | `(tactic| walk_at "call ref") => `(tactic| refine Stop.out ?_)

section
variable {prog : Program} {w : World} {mean : ExcName → Option Value} {mg mb : Str → Option Value} {dp un : Nat} {gd : Option (List Code)} {env : Env} {outer : List Env} {s : Shared}
  {E : Value → Shared → Prop} {Q : Value → Shared → Prop}

abbrev bm59 : List Value := [.ref 46, .type "Exception", .type "BaseException", .type "object"]
def Cls59 (K : Frag) : Prop := ∃ nm q N bs hdct sn sub ab col dd k0 k1 k2 k3 k5, K.lookup 59 = some (excClassObj nm q 59 N bs bm59 hdct sn sub ab col dd k0 k1 k2 k3 k5 "Exception.__new__")
theorem x59 {K : Frag} {nm q : Str} {N : Addr} {bs : List Value} {hdct : Bool} {sn : List Str} {sub : List Value} {ab : Bool} {col : Option Bool} {dd : Option Addr} {k0 k1 k2 k3 k5 : Option Value}
    (h : K.lookup 59 = some (excClassObj nm q 59 N bs bm59 hdct sn sub ab col dd k0 k1 k2 k3 k5 "Exception.__new__")) : Cls59 K := ⟨_, _, _, _, _, _, _, _, _, _, _, _, _, _, _, h⟩
theorem cls59 : Cls59 (hd.heap_39 w.params) := by
  refine' x59 ?h
  case h => k_is
theorem typeIn36 (w : World) : typeIn (hd.heap_39 w.params) (.ref 36) = some (.type "function") := by with_unfolding_all rfl
theorem init59 (h : Heap) (X : (hd.heap_39 w.params).In h) : Looks (model prog w) h (typeLookup (.ref 59) "__init__") (some (.ref 36)) := Looks.of_peek X (by with_unfolding_all rfl)

end
section
variable {prog : Program} {w : World} {A : Around} {E : Value → Shared → Prop} {R : Result → Shared → Prop} {h : Heap} {g : Array GenState} {d : Drawn} {t : Nat} {os : OsState}
variable {nm q : Str} {N : Addr} {bs : List Value} {hdct : Bool} {sn : List Str} {sub : List Value} {ab : Bool} {col : Option Bool} {dd : Option Addr} {k0 k1 k2 k3 k5 : Option Value}
theorem fault_new {rest : List Value} (hC : h.get? 59 = some (excClassObj nm q 59 N bs bm59 hdct sn sub ab col dd k0 k1 k2 k3 k5 "Exception.__new__"))
    (hq : R (.ok (.ret (.ref (h.objs.size + 1)))) ⟨(h.push { cls := .type "tuple", data := .seq rest.toArray }).push
      { cls := .ref 59, data := .fields #[.ref h.objs.size, .none, .none, .none, .bool false, .none] }, g, d, t, os⟩) (hrest : rest.length ≤ sizeLine) :
    codeAny (model prog w) A (.builtin "Exception.__new__" ⟨.ref 59 :: rest, []⟩) R ⟨h, g, d, t, os⟩ := by
  have F := PySem.F.excBase_Exception
  have hends := F.ends
  have hcB : (Value.ref 59 :: bm59).contains (.type "Exception") = true := by decide
  have hcA : (Value.ref 59 :: bm59).contains (.type "AttributeError") = false := by decide
  have hcN : (Value.ref 59 :: bm59).contains (.type "NameError") = false := by decide
  refine codeAny_builtinAt F.entry ?_
  unfold Builtin.«BaseException.__new__»
  refine PySem.wpAt_bind ?_
  show PySem.wpAt _ _ _ (stack >>= _) _ _ _
  refine PySem.wpAt_bind (PySem.wpAt_stack fun p below => PySem.wpAt_of_wpAny ?_)
  wp_walk
  refine PySem.wpAt_of_wpAny ?_
  rw [F.owner]
  repeat (first | with_reducible refine wpAny_madeHere_exc F.canon hC ?_ | with_reducible refine wpAny_loadPart_at hC ?_ | (with_reducible refine wpAny_isSubtype_exc hC ?_; first | rw [hcB] | rw [hcA] | rw [hcN]) | wp_step)
  show R _ _
  rw [Heap.size_push]
  exact hq
theorem fault_check {M : Model} {rest : List Value} {Q : Unit → Shared → Prop} (hC : h.get? 59 = some (excClassObj nm q 59 N bs bm59 hdct sn sub ab col dd k0 k1 k2 k3 k5 "Exception.__new__"))
    (hq : Q () ⟨h, g, d, t, os⟩) : wpAny M A (checkBuiltinCall "Exception.__new__" ⟨.ref 59 :: rest, []⟩) Q E ⟨h, g, d, t, os⟩ := by
  have F := PySem.F.excBase_Exception
  have hcont : (Value.ref 59 :: bm59).contains (.type "Exception") = true := by decide
  have hstar := F.noStar
  simp only [checkBuiltinCall, F.newKind, F.newSplit, F.newRow]
  repeat (first | refine wpAny_loadPart_at hC ?_ | (refine wpAny_isSubtype_exc hC ?_; rw [hcont]) | refine wpAny_staticBase_exc hC ?_ | refine wpAny_madeBy_exc hC ?_ | simp only [bne_self_eq_false, Bool.false_eq_true, if_false] | wp_step)
  exact hq
theorem fault_type_call (X : (hd.heap_39 w.params).In h) {rest : List Value} {Q : Fin → Shared → Prop} (hrest : rest.length ≤ sizeLine)
    (hq : ∀ h' e, Heap.MadeExcOf h h' e (.ref 59) rest → h.objs.size ≤ h'.objs.size → wpAny (model prog w) A (call (.ref 36) (.ref e :: rest)) (fun r s' => r = .none ∧ Q (.done (.ret (.ref e))) s') E ⟨h', g, d, t, os⟩) :
    wpAny (model prog w) A (Builtin.«type.__call__» ⟨.ref 59 :: rest, []⟩) Q E ⟨h, g, d, t, os⟩ := by
  obtain ⟨nm, q, N, bs, hdct, sn, sub, ab, col, dd, k0, k1, k2, k3, k5, hC⟩ := cls59 (w := w)
  replace hC := X _ _ hC
  repeat (first | with_reducible refine wpAny_loadPart_at hC ?_ | with_reducible refine wpAny_madeBy_exc hC ?_ | wp_step)
  refine codeAny_call_builtin_code (Code.quiet_builtin _ PySem.F.excBase_Exception.quiet) (fault_check hC ?_)
  refine fault_new hC ?_ hrest
  show wpAny _ _ _ _ _ _
  have up : Kept h ((h.push { cls := .type "tuple", data := .seq rest.toArray }).push { cls := .ref 59, data := .fields #[.ref h.objs.size, .none, .none, .none, .bool false, .none] }) :=
    fun b o e => Heap.get?_push_of_some _ (Heap.get?_push_of_some _ e)
  have hC₁ := up _ _ hC
  have hget : ((h.push { cls := .type "tuple", data := .seq rest.toArray }).push { cls := .ref 59, data := .fields #[.ref h.objs.size, .none, .none, .none, .bool false, .none] }).get? (h.objs.size + 1) =
      some { cls := .ref 59, data := .fields #[.ref h.objs.size, .none, .none, .none, .bool false, .none] } := by heap_get
  have hcC : (Value.ref 59 :: bm59).contains (.ref 59) = true := by decide
  unfold isInstance
  repeat (first | with_reducible refine wpAny_loadPart_at hget ?_ | (with_reducible refine wpAny_isSubtype_exc hC₁ ?_; rw [hcC]) | wp_step)
  show wpAny _ _ (typeLookup (.ref 59) _) _ _ _
  refine (init59 _ (X.keeps up)).here ?_
  refine wpAny_holding (wpAny_bind ((bind_fn (X.keeps up) (.ref (h.objs.size + 1)) (typeIn36 w)).here ?_))
  refine wpAny_bind (wpAny_mono (hq _ (h.objs.size + 1) ⟨up, Heap.get?_none_of_le (Nat.le_succ _), h.objs.size, hget, Heap.get?_none_of_le (Nat.le_refl _), ?_⟩ (by rw [Heap.size_push, Heap.size_push]; omega)) (fun r s' hr => ?_) fun _ _ x => x)
  · exact Heap.get?_push_of_some _ (Heap.get?_push_at rfl rfl)
  · obtain ⟨rfl, hQ⟩ := hr
    wp_walk
    exact hQ
theorem tc_weight (a : Addr) (l : List Value) (k : List (Str × Value)) : Code.weight (.builtin "type.__call__" ⟨.ref a :: l, k⟩) = 1 := by with_unfolding_all kernel_rfl
theorem tc_units (a : Args) : Code.cUnits (.builtin "type.__call__" a) = 1 := by with_unfolding_all kernel_rfl
theorem tc_envs (a : Args) : Code.envs (.builtin "type.__call__" a) = [] := by rfl
theorem tc_guards (a : Args) : Code.guards (.builtin "type.__call__" a) = [] := by with_unfolding_all kernel_rfl
theorem under_tc (dp un : Nat) (gd : Option (List Code)) (fr : List Env) (a : Addr) (l : List Value) (k : List (Str × Value)) : (A1 dp un gd fr).under (.builtin "type.__call__" ⟨.ref a :: l, k⟩) = A1 (dp + 1) (un + 1) gd fr := by
  simp only [Around.under, tc_weight, tc_units, tc_envs, tc_guards]
  rfl
theorem fault_call {dp un : Nat} {gd : Option (List Code)} {fr : List Env} (X : (hd.heap_39 w.params).In h) {rest : List Value} {Q : Value → Shared → Prop} (hrest : rest.length ≤ sizeLine)
    (hq : ∀ h' e, Heap.MadeExcOf h h' e (.ref 59) rest → h.objs.size ≤ h'.objs.size → wpAny (model prog w) (A1 (dp + 1) (un + 1) gd fr) (call (.ref 36) (.ref e :: rest)) (fun r s' => r = .none ∧ Q (.ref e) s') E ⟨h', g, d, t, os⟩) :
    wpAny (model prog w) (A1 dp un gd fr) (call (.ref 59) rest) Q E ⟨h, g, d, t, os⟩ := by
  obtain ⟨nm, q, N, bs, hdct, sn, sub, ab, col, dd, k0, k1, k2, k3, k5, hC⟩ := cls59 (w := w)
  replace hC := X _ _ hC
  have f1 := tc_lookup
  have f2 := tc_bind (.ref 59)
  have hT : (⟨h, g, d, t, os⟩ : Shared).TypeIs (.ref 59) "type" := ⟨_, hC, rfl⟩
  refine wpAny_call (codeAny_of_tree ?_)
  show wpAny _ _ (callAny (.ref 59) _) _ _ _
  repeat (any_goals (first | assumption | with_reducible refine wpAny_loadPart_at hC ?_ | wp_step))
  refine ⟨rfl, ?_⟩
  refine codeAny_call_builtin_at (Code.quiet_builtin _ (by decide +kernel)) entry_typeCall (wpAny_check_type_call_sub hC ?_)
  have hu := under_tc dp un gd fr 59 rest []
  show wpAny _ ((A1 dp un gd fr).under (.builtin "type.__call__" ⟨.ref 59 :: rest, []⟩)) _ _ _ _
  rw [hu]
  exact fault_type_call X hrest hq
end
end Mine
end

-- ExcObj
section
open PySem PySem.W PyProof.Rows PySem.Calls Builtin Builtin.ObjectAttr
set_option Elab.async false
set_option maxRecDepth 100000
namespace Mine
abbrev excObj (t : Addr) (dct : Option Addr) : Obj := { cls := .ref 59, dict := dct, data := .fields #[.ref t, .none, .none, .none, .bool false, .none] }
theorem sa59 (w : World) : findIn (hd.heap_39 w.params) (.ref 59) "__setattr__" = some (some (.builtin "object.__setattr__")) := by with_unfolding_all rfl
theorem ga59 (w : World) : findIn (hd.heap_39 w.params) (.ref 59) "__getattribute__" = some (some (.builtin "BaseException.__getattribute__")) := by with_unfolding_all rfl
theorem at59 (w : World) : findIn (hd.heap_39 w.params) (.ref 59) "at" = some none := by with_unfolding_all rfl
theorem what59 (w : World) : findIn (hd.heap_39 w.params) (.ref 59) "what" = some none := by with_unfolding_all rfl
theorem hasDict59 (w : World) : (clsIn (hd.heap_39 w.params) 59).any (·.hasDict) = true := by with_unfolding_all rfl
theorem mroObj59 (w : World) : mroIn (hd.heap_39 w.params) 59 (.type "object") = some true := by with_unfolding_all rfl
theorem mroExc59 (w : World) : mroIn (hd.heap_39 w.params) 59 (.type "Exception") = some true := by with_unfolding_all rfl
section
variable {prog : Program} {w : World} {A : Around} {E : Value → Shared → Prop} {R : Result → Shared → Prop} {s : Shared} {e t : Addr} {dct : Option Addr} {name : Str} {v : Value} {mA : Str → Option Value} {ns : List Str}
theorem mro59 {M : Model} {h : Heap} (X : (hd.heap_39 w.params).In h) : Looks M h (mroOf (.ref 59)) (.ref 59 :: bm59) := by
  obtain ⟨nm, q, N, bs, hdct, sn, sub, ab, col, dd, k0, k1, k2, k3, k5, hC⟩ := cls59 (w := w)
  exact ((Looks.ld (part := none) (X _ _ hC)).andThen .now).andThen .now
theorem type59 {M : Model} {h : Heap} {o : Obj} (he : h.get? e = some o) (hc : o.cls = .ref 59) : Looks M h (typeOf (.ref e)) (.ref 59) := by
  rw [← hc]
  exact (Looks.ld he).andThen .now
theorem store59_code {tk : Tok} (X : (hd.heap_39 w.params).In s.heap) (he : s.heap.get? e = some (excObj t dct)) (hf : findIn (hd.heap_39 w.params) (.ref 59) name = some none)
    (hdc : (dct = none ∧ mA = fun _ => none) ∨ ∃ d, dct = some d ∧ d ≠ e ∧ s.heap.Ns1 d mA) (hw : Within mA ns) (hn : ns.length ≤ 100)
    (hq : ∀ h' D tk', h'.get? e = some (excObj t (some D)) → D ≠ e → h'.Ns1 D (fun y => if y = name then some v else mA y) → (∀ b o, b ≠ e → dct ≠ some b → s.heap.get? b = some o → h'.get? b = some o) →
      (dct = none → s.heap.get? D = none) → (∀ d, dct = some d → D = d) → R (.ok (.ret .none)) { s with heap := h', toks := tk' }) :
    codeAny (model prog w) A (.call (.builtin "object.__setattr__") ⟨[.ref e, .str name tk, v], []⟩) R s := by
  have SF := PySem.F.store_Exception
  have SO := PySem.F.store_object
  have T59 : Looks (model prog w) s.heap (typeOf (.ref e)) (.ref 59) := type59 he rfl
  have sub : Looks (model prog w) s.heap (isInstance (.ref e) (.type "object")) true := T59.andThen (looks_mroIn X (mroObj59 w))
  refine codeAny_call_builtin SO.slot.plain SO.entry (@check_slot (model prog w) _ _ s "object.__setattr__" "object" "__setattr__" (.ref e) [.str name tk, v] [] _ SO.kind SO.split sub (SO.args (.ref e) (.str name tk) v) ?_)
  rw [osa_eq, refuse_eq]
  refine wpAny_bind (wpAny_bind (T59.here (wpAny_bind ((mro59 X).here ?_))))
  rw [refuseLoop_ref, refuseLoop_ref, SF.passes]
  refine wpAny_pure (wpAny_bind (T59.here (wpAny_bind ((looks_findIn X hf).here (wpAny_bind (wpAny_pure ?_))))))
  show wpAny _ _ (storeInOwnDict (.ref e) (.ref 59) (.str name tk) name v false) _ _ _
  obtain ⟨cd, hc, hd'⟩ := any_some (hasDict59 w)
  have hin : ∀ (h : Heap) (tk' : Nat) (D : Addr) (m₁ : Str → Option Value), h.Ns1 D m₁ → Within m₁ ns → (∀ h', h'.Ns1 D (fun y => if y = name then some v else m₁ y) → Heap.SameBut D h h' → R (.ok (.ret .none)) { s with heap := h', toks := tk' + 1 }) →
      wpAny (model prog w) A.in1 (storeInDict D (.str name tk) name v) (fun fin s' => match fin with | .done f => R (.ok f) s' | .again c' => c'.quiet = true ∧ codeAny (model prog w) A c' R s') (fun e s' => R (.error e) s') { s with heap := h, toks := tk' } := by
    intro h tk D m₁ hns hw₁ hk
    unfold storeInDict newKeyGuard
    refine wpAny_bind (wpAny_pure (wpAny_bind (wpAny_nsSet1 hns fun h' hn' hs => ?_)))
    obtain ⟨oD, esD, epD, hoD, hdD, hcD⟩ := hn'.count (Within.cons name v hw₁)
    refine wpAny_bind (wpAny_lookBehind hoD (by rw [hdD]; exact pastItsLine_dict (Nat.le_trans hcD (by rw [List.length_cons, PySem.sizeLine_eq]; omega))) ?_)
    exact wpAny_pure (hk h' hn' hs)
  refine wpAny_bind (wpAny_pure (wpAny_bind (wpAny_bind (wpAny_loadPart he (wpAny_bind ((looks_clsIn X hc).here ?_))))))
  rw [hd']
  rcases hdc with ⟨rfl, rfl⟩ | ⟨d, rfl, hde, hns⟩
  · have hx₁ : (s.heap.push { cls := .type "dict", data := .dict #[] }).get? e = some (excObj t none) := Heap.get?_push_of_some _ he
    have hxs : e ≠ s.heap.objs.size := Nat.ne_of_lt (Heap.lt_size he)
    have hgd : ((s.heap.push { cls := .type "dict", data := .dict #[] }).update e fun o => { o with dict := some s.heap.objs.size }).get? s.heap.objs.size = some { cls := .type "dict", data := .dict #[] } :=
      (Heap.get?_update_ne _ _ _ _ hxs.symm).trans (Heap.get?_push_at rfl rfl)
    have hge : ((s.heap.push { cls := .type "dict", data := .dict #[] }).update e fun o => { o with dict := some s.heap.objs.size }).get? e = some (excObj t (some s.heap.objs.size)) := Heap.get?_update_self _ hx₁ rfl
    have hnd : ((s.heap.push { cls := .type "dict", data := .dict #[] }).update e fun o => { o with dict := some s.heap.objs.size }).Ns s.heap.objs.size (fun _ => none) :=
      ⟨_, #[], _, hgd, rfl, fun e he => absurd he (by simp), fun _ => rfl⟩
    refine wpAny_bind (wpAny_alloc' (wpAny_bind (wpAny_update' hx₁ ?_)))
    refine wpAny_pure (a := some s.heap.objs.size) ?_
    refine hin _ _ s.heap.objs.size (fun _ => none) (Heap.Ns1.of_empty hnd) hw fun h' hn' hs => ?_
    refine hq h' s.heap.objs.size _ ((hs.2 e hxs).trans hge) hxs.symm hn' (fun b o hb _ ho => ?_) (fun _ => Heap.get?_none_of_le (Nat.le_refl _)) (fun d h => nomatch h)
    exact (hs.2 b (Nat.ne_of_lt (Heap.lt_size ho))).trans ((Heap.get?_update_ne _ _ _ _ hb).trans (Heap.get?_push_of_some _ ho))
  · refine wpAny_pure (a := some d) ?_
    refine hin _ _ d mA hns hw fun h' hn' hs => ?_
    exact hq h' d _ ((hs.2 e (Ne.symm hde)).trans he) hde hn' (fun b o hb hbd ho => (hs.2 b fun q => hbd (by rw [q])).trans ho) (fun h => nomatch h) fun d' h => by cases h; rfl
theorem store59 {Q : Unit → Shared → Prop} (X : (hd.heap_39 w.params).In s.heap) (he : s.heap.get? e = some (excObj t dct)) (hf : findIn (hd.heap_39 w.params) (.ref 59) name = some none)
    (hdc : (dct = none ∧ mA = fun _ => none) ∨ ∃ d, dct = some d ∧ d ≠ e ∧ s.heap.Ns1 d mA) (hw : Within mA ns) (hn : ns.length ≤ 100)
    (hq : ∀ h' D tk', h'.get? e = some (excObj t (some D)) → D ≠ e → h'.Ns1 D (fun y => if y = name then some v else mA y) → (∀ b o, b ≠ e → dct ≠ some b → s.heap.get? b = some o → h'.get? b = some o) →
      (dct = none → s.heap.get? D = none) → (∀ d, dct = some d → D = d) → Q () { s with heap := h', toks := tk' }) :
    wpAny (model prog w) A (setAttr (.ref e) name v) Q E s := by
  have I : InstAt s.heap e (excObj t dct) 59 (dct.bind s.heap.get?) := by
    refine ⟨he, rfl, rfl, ?_⟩
    rcases hdc with ⟨rfl, _⟩ | ⟨d, rfl, _, o, es, ep, ho, _⟩
    · trivial
    · have q : (some d).bind s.heap.get? = some o := ho
      rw [q]; exact ho
  exact set_plain X I (sa59 w) (store59_code (s := { s with toks := s.toks + 1 }) X he hf hdc hw hn hq)
end
end Mine
end

-- ExcLoad
section
open PySem PySem.W PyProof.Rows PySem.Calls Builtin Builtin.ObjectAttr
set_option Elab.async false
set_option maxRecDepth 100000
namespace Mine
theorem gt59 (w : World) : findIn (hd.heap_39 w.params) (.ref 59) "__getattr__" = some none := by with_unfolding_all rfl
theorem mroBase59 (w : World) : mroIn (hd.heap_39 w.params) 59 (.type "BaseException") = some true := by with_unfolding_all rfl
theorem findAt59 (w : World) (o : Obj) (v : Value) (h : lookIn "at" o = some (some v)) : findObj (hd.heap_39 w.params) 59 (some o) "at" = some (.value v) := by
  have e : findObj (hd.heap_39 w.params) 59 (some o) "at" = ((lookIn "at" o).bind fun own => match own with
      | some v => some (.value v)
      | none => some .missing) := by with_unfolding_all rfl
  rw [e, h]; rfl
theorem lookIn_of {h : Heap} {D : Addr} {m : Str → Option Value} {name : Str} {v : Value} (hn : h.Ns1 D m) (hv : m name = some v) : ∃ o, h.get? D = some o ∧ lookIn name o = some (some v) := by
  obtain ⟨o, es, ep, ho, hd, hk, _, hf⟩ := hn
  refine ⟨o, ho, ?_⟩
  have q := hf name
  rw [hv] at q
  unfold nsFind findBy at q
  rw [← Array.find?_toList] at q
  unfold lookIn
  rw [hd]
  dsimp only
  cases z : es.toList.find? (fun x => x.key.isStr name) with
  | none => rw [z] at q; cases q
  | some en => rw [z] at q; cases q; rfl
section
variable {prog : Program} {w : World} {A : Around} {E : Value → Shared → Prop} {R : Result → Shared → Prop} {s : Shared} {e D : Addr} {o : Obj} {vs : Array Value} {v : Value} {m : Str → Option Value}
theorem load59 {expr : Bool} {Q : Value → Shared → Prop} (X : (hd.heap_39 w.params).In s.heap) (he : s.heap.get? e = some o) (hoc : o.cls = .ref 59) (hdt : o.data = .fields vs) (hdc : o.dict = some D) (hD : s.heap.Ns1 D m) (hm : m "at" = some v) (hh : handedIn v = true)
    (hq : ∀ tk, Q v { s with toks := tk }) : wpAny (model prog w) A (getAttr (.ref e) "at" expr) Q E s := by
  obtain ⟨hp, g, d, t, os⟩ := s
  obtain ⟨oD, hoD, hlk⟩ := lookIn_of hD hm
  have I : InstAt hp e o 59 (some oD) := ⟨he, hoc, by unfold notCls; rw [hdt], by rw [hdc]; exact hoD⟩
  have L0 := I.type (M := model prog w)
  have L1 := looks_findIn (M := model prog w) X (ga59 w)
  have L2 := looks_findIn (M := model prog w) X (gt59 w)
  have LF := looks_find (M := model prog w) X I (findAt59 w oD v hlk)
  have f3 := PySem.F.attrBase_Exception.ga.bind (.ref e)
  have hx0 : (expr && onTheHeap (Value.builtin "BaseException.__getattribute__")) = false := by cases expr <;> rfl
  have hx2 : (Value.builtin "BaseException.__getattribute__" == Value.builtin "object.__getattribute__") = false := by decide +kernel
  have hx1 : (onTheHeap (Value.ref 59) && Value.builtin "BaseException.__getattribute__" == Value.builtin "object.__getattribute__") = false := by rw [hx2]; rfl
  have hent : ∀ (tk : Tok) (R : Result → Shared → Prop) (A : Around), R (.ok (.ret v)) ⟨hp, g, d, t + 1, os⟩ → codeAny (model prog w) A (.call (.builtin "BaseException.__getattribute__") ⟨[.ref e, .str "at" tk], []⟩) R ⟨hp, g, d, t + 1, os⟩ := by
    intro tk R A hR
    have hk : builtinKind "BaseException.__getattribute__" = some .slot := by decide +kernel
    have hsplit : splitId "BaseException.__getattribute__" = some ("BaseException", "__getattribute__") := by decide +kernel
    have sub : Looks (model prog w) hp (isInstance (.ref e) (.type "BaseException")) true := L0.andThen (looks_mroIn X (mroBase59 w))
    refine codeAny_call_builtin PySem.F.attrBase_Exception.ga.plain PySem.F.entry_bexc_ga (@check_slot (model prog w) _ _ ⟨hp, g, d, t + 1, os⟩ "BaseException.__getattribute__" "BaseException" "__getattribute__" (.ref e) [.str "at" tk] [] _ hk hsplit sub (PySem.F.args_bexc_ga _ _) ?_)
    refine wpAny_bind (wpAny_pure (wpAny_bind (wpAny_pure (wpAny_bind (L0.at (wpAny_bind (LF.at ?_)))))))
    exact wpAny_pure hR
  unfold getAttr getAttrBy
  refine wpAny_bind (wpAny_mkText (wpAny_holding (wpAny_bind (L0.at (wpAny_bind (L1.at ?_))))))
  dsimp only
  rw [hx1, if_neg Bool.false_ne_true]
  unfold getAttrByItsOwn hookBefore
  refine wpAny_bind (L2.at ?_)
  unfold callGetattribute
  rw [hx0, if_neg Bool.false_ne_true]
  unfold boundAndCalled
  rw [f3]
  refine wpAny_bind (wpAny_attempt (wpAny_holding (wpAny_bind (wpAny_pure ?_))))
  refine wpAny_call (hent t _ _ ?_)
  show wpAny _ _ (handedOut v) _ _ _
  rw [handedOut_of hh]
  exact wpAny_pure (hq _)
end
end Mine
end

-- ExcInitB
section
open PySem PySem.W PyProof.Rows PySem.Calls Builtin
set_option Elab.async false
set_option maxRecDepth 100000
namespace Mine
section
variable {prog : Program} {w : World} {A : Around} {E : Value → Shared → Prop} {s : Shared} {e t : Addr} {dct : Option Addr}
theorem init_builtin {rest : List Value} {Q : Value → Shared → Prop} (X : (hd.heap_39 w.params).In s.heap) (he : s.heap.get? e = some (excObj t dct)) (hrest : rest.length ≤ 100)
    (hq : ∀ h' t2, (∀ b o, b ≠ e → s.heap.get? b = some o → h'.get? b = some o) → h'.get? e = some (excObj t2 dct) → Q .none { s with heap := h' }) :
    wpAny (model prog w) A (call (.builtin "Exception.__init__") (.ref e :: rest)) Q E s := by
  obtain ⟨h, g, d, tk, os⟩ := s
  have FB := PySem.F.excBase_Exception
  obtain ⟨nm, q, N, bs, hdct, sn, sub, ab, col, dd, k0, k1, k2, k3, k5, hC⟩ := cls59 (w := w)
  replace hC := X _ _ hC
  have hcB : (Value.ref 59 :: bm59).contains (.type "Exception") = true := by decide
  have hshort := FB.noStar
  have hz : rest.length ≤ sizeLine := by rw [PySem.sizeLine_eq]; omega
  have chk : ∀ (Q' : Unit → Shared → Prop) (A' : Around) (E' : Value → Shared → Prop), Q' () ⟨h, g, d, tk, os⟩ → wpAny (model prog w) A' (checkBuiltinCall "Exception.__init__" ⟨.ref e :: rest, []⟩) Q' E' ⟨h, g, d, tk, os⟩ := by
    intro Q' A' E' hq'
    simp only [checkBuiltinCall, FB.initKind, FB.initSplit, FB.initRow]
    repeat (first | with_reducible refine wpAny_loadPart_at he ?_ | with_reducible refine wpAny_loadPart_at hC ?_ | (with_reducible refine wpAny_isSubtype_exc hC ?_; rw [hcB]) | wp_step)
    refine wpAny_onRaise ?_
    rw [show ∀ (a b : String) (n : Nat), Bind.check ⟨.positional, "*", "Exception", .self, [⟨"args", .varPos, false⟩]⟩ a b n (List.map (fun x => x.fst) ({ pos := Value.ref e :: rest } : Args).kw) = pure () from
      fun a b n => check_star_args _ _ _ _ _ _]
    exact wpAny_pure hq'
  refine wpAny_call (codeAny_call_builtin FB.init.plain FB.initEntry (chk _ _ _ ?_))
  wp_walk
  refine hq _ h.objs.size (fun b o hb ho => ?_) ?_
  · rw [Heap.get?_update_other _ _ (Ne.symm hb)]
    exact Heap.get?_push_of_some _ ho
  · rw [Heap.get?_update_self _ (Heap.get?_push_of_some _ he) rfl]
    rfl
end
end Mine
end

-- InitF
section
open PySem PySem.W PyProof.Rows PySem.Calls
set_option Elab.async false
set_option maxRecDepth 100000
namespace Mine
open PyProof.Rows.LCg
local macro_rules | `(tactic| k_all) => `(tactic| assumption)
local macro_rules | `(tactic| walk_at "call ref") => `(tactic| refine Stop.out ?_)

section
variable {prog : Program} {w : World} {mean : ExcName → Option Value} {mg mb : Str → Option Value} {dp un : Nat} {gd : Option (List Code)} {env : Env} {outer : List Env} {s : Shared}
  {E : Value → Shared → Prop} {Q : Value → Shared → Prop}

theorem lk3 {x x' x'' y : Str} {v v' v'' : Value} : [(x, v), (x', v'), (x'', v'')].lookup y = if y = x then some v else if y = x' then some v' else if y = x'' then some v'' else none := by
  rw [List.lookup_cons, lk2]
  by_cases h : y = x
  · simp [h]
  · rw [beq_eq_false_iff_ne.mpr h, if_neg h]
theorem bind_d {K : Frag} {h : Heap} {fd : FuncData} {args : Args} {binds : List (Str × Value)} {T : Addr} {c : Value} {dd : Option Addr} {sl : Array (Option Value)} {items : Array Value} {n : Nat} {k : Option (Array Value) → Sem (List (Str × Value))}
    (X : K.In h) (kg : Kept h s.heap) (ho : K.lookup T = some ⟨c, dd, .seq items n, sl⟩) (hd : fd.defaults = .ref T) (h₁ : bindArgs fd args = seqItems? fd.defaults >>= k) (h₂ : k (some items) = pure binds) : BindsTo s fd args binds :=
  BindsTo.of_defaults hd (kg _ _ (X _ _ ho)) rfl h₁ h₂
theorem kbut_fr {g h h' : Heap} {L e : Addr} {m : Str → Option Value} (F : Fr g L h m) (hk : ∀ b o, b ≠ e → h.get? b = some o → h'.get? b = some o) (hL : L ≠ e) (he : g.get? e = none) : Fr g L h' m :=
  fr_but F (fun b o hb ho => hk b o (fun q => hb (by rw [q]; exact List.mem_cons_self)) ho) hL he
set_option maxHeartbeats 4000000 in
theorem init_call {g : Heap} {e t : Addr} {what : Str} {tw ti : Tok} {k : Int} (C : CallAt w mean mg mb env outer g) (hd : dp + 5 ≤ 900) (hu : un + 100 ≤ 5000)
    (kg : Kept g s.heap) (hsz : g.objs.size ≤ s.heap.objs.size) (hen : g.get? e = none) (he : s.heap.get? e = some (excObj t none))
    (hQ : ∀ h' t2 D m tk, (∀ b o, b ≠ e → s.heap.get? b = some o → h'.get? b = some o) → h'.get? e = some (excObj t2 (some D)) → h'.Ns1 D m → m "at" = some (.int k ti) → D ≠ e → s.heap.get? D = none → Q .none { s with heap := h', toks := tk }) :
    wpAny (model prog w) (A1 dp un gd (env :: outer)) (call (.ref 36) [.ref e, .str what tw, .int k ti]) Q E s := by
  refine' enter_over (led := [(e, excObj t none)]) (binds := [(Str.ofString "self", .ref e), (Str.ofString "what", .str what tw), (Str.ofString "at", .int k ti)]) (m := (fun y => if y = Str.ofString "at" then some (.int k ti) else if y = Str.ofString "what" then some (.str what tw) else if y = Str.ofString "self" then some (.ref e) else none))
    C kg hsz (by intro p hp; rw [List.mem_singleton.mp hp]; exact ⟨he, hen⟩) ?ko ?kcd (by simp only [recursionLimit]; omega) ?kbind ?kloc ?km ?_ ?c1 ?c2 ?c3 ?c4
  case ko => k_is
  case kcd => k_is
  case kbind =>
    obtain ⟨base, B, X, T⟩ := C.ground (A1 dp un gd (env :: outer)) rfl
    refine' bind_d (T := 29) X kg ?ho1 ?hd1 ?h11 ?h12
    case ho1 => k_is
    case hd1 => rfl
    case h11 => rfl
    case h12 => rfl
  case kloc => exact locs rfl
  case km => exact fun _ => lk3
  case c1 => rfl
  case c2 => rfl
  case c3 => rfl
  case c4 => decide
  intro base L' h1 B F N X T hL kk
  (try dsimp only)
  (try k_fold)
  k_steps
  refine method_type (K := Mine.hd.heap_39 w.params) F X (by rfl) (by rfl) (v := .builtin "Exception.__init__") (by with_unfolding_all rfl) (by rfl) ?_
  k_steps
  have hLe : L' ≠ e := by
    intro q
    have := Heap.lt_size he
    rw [hL] at q
    exact absurd q (Nat.ne_of_gt this)
  refine init_builtin (rest := [.str what tw]) (X.keeps F.keep) (N _ List.mem_cons_self).1 (by simp) fun h2 t2 k2 he2 => ?_
  have F2 := kbut_fr F k2 hLe hen
  have N2 : News g L' h2 [(e, excObj t2 none)] := by
    intro p hp
    rw [List.mem_singleton.mp hp]
    exact ⟨he2, (N _ List.mem_cons_self).2⟩
  clear N
  have F0 := F
  clear F
  show wpAny _ _ _ _ _ _
  (try k_fold)
  k_steps
  refine store59 (mA := fun _ => none) (ns := []) (X.keeps F2.keep) he2 (what59 w) (.inl ⟨rfl, rfl⟩) Within.nil (by simp) ?_
  intro h3 D tk3 he3 hDe hn3 k3 hD0 _
  have hDn := hD0 rfl
  have F3 := kbut_fr F2 (fun b o hb ho => k3 b o hb (fun q => nomatch q) ho) hLe hen
  have N3 : News g L' h3 [(e, excObj t2 (some D))] := by
    intro p hp
    rw [List.mem_singleton.mp hp]
    exact ⟨he3, (N2 _ List.mem_cons_self).2⟩
  clear N2 F2
  show wpAny _ _ _ _ _ _
  (try k_fold)
  k_steps
  have hDL : L' ≠ D := by
    intro q
    obtain ⟨o, es, ep, ho, _⟩ := F0.ns
    have := k2 L' o hLe ho
    rw [q, hDn] at this; cases this
  have hDg : ∀ b o, g.get? b = some o → b ≠ D := by
    intro b o ho q
    subst q
    have := k2 _ o (fun q => by rw [q, hen] at ho; cases ho) (F0.keep _ o ho)
    rw [hDn] at this; cases this
  refine store59 (ns := [Str.ofString "what"]) (X.keeps F3.keep) he3 (at59 w) (.inr ⟨D, rfl, hDe, hn3⟩) (Within.cons _ _ Within.nil) (by simp) ?_
  intro h4 D4 tk4 he4 hDe4 hn4 k4 _ hD4
  obtain rfl := hD4 D rfl
  have kall : ∀ b o, b ≠ e → s.heap.get? b = some o → h4.get? b = some o := by
    intro b o hb ho
    have o1 := k2 b o hb (kk b o ho)
    have o2 := k3 b o hb (fun q => nomatch q) o1
    refine k4 b o hb (fun q => ?_) o2
    cases q
    rw [hDn] at o1; cases o1
  have hDs : s.heap.get? D4 = none := by
    cases q : s.heap.get? D4 with
    | none => rfl
    | some o => have := k2 D4 o hDe4 (kk _ o q); rw [hDn] at this; cases this
  have F4 : Fr g L' h4 _ := ⟨F3.ns.at' fun o ho => k4 L' o hLe (fun q => hDL (by cases q; rfl)) ho, fun b o ho => kall b o (fun q => by rw [q, hen] at ho; cases ho) (kg b o ho), F3.above⟩
  clear F3 N3 F0
  show wpAny _ _ _ _ _ _
  (try k_fold)
  k_steps
  exact hQ h4 t2 D4 _ _ kall he4 hn4 (by rfl) hDe4 hDs
end
end Mine
end

-- FlyF
section
open PySem PySem.W PyProof.Rows PySem.Calls
set_option Elab.async false
set_option maxRecDepth 100000
namespace Mine
/-- the raised one, its dict kept in sight -/
def TracedF (h base : Heap) (e D : Addr) (fl : Value) : Prop :=
  ∃ oe vs T oT ts, h.get? e = some oe ∧ (oe.cls = .ref 59 ∧ oe.dict = some D) ∧ oe.data = .fields vs ∧ vs[1]? = some (.ref T) ∧ base.get? T = none ∧ T ≠ e ∧ h.get? T = some oT ∧ oT.data = .fields ts ∧ ts[3]? = some fl
def FlyF (base : Heap) (l : List Env) (e D : Addr) (fl : Value) (h : Heap) : Prop := base.StaysIn h ∧ base.get? e = none ∧ h.FunFrames base l ∧ TracedF h base e D fl
theorem dict_mapFields (o : Obj) (f : Array Value → Array Value) : (Obj.mapFields f o).dict = o.dict := by
  unfold Obj.mapFields
  split <;> rfl
section
variable {M : Model} {A : Around} {E : Value → Shared → Prop} {s : Shared} {base : Heap} {env : Env} {outer : List Env} {L e D : Addr}
theorem fly_note {oe : Obj} {vs : Array Value} {head : Value} {hadNext : Bool} {Q : Unit → Shared → Prop}
    (hfr : A.frames = some (env :: outer)) (hl : s.heap.FunFrames base (env :: outer)) (hf : env.frame = some L) (he : s.heap.get? e = some oe) (hc : oe.cls = .ref 59) (hdc : oe.dict = some D) (hkb : base.StaysIn s.heap) (hen : base.get? e = none) (hd : oe.data = .fields vs) (hsz : 1 < vs.size)
    (h : ∀ h', FlyF base (env :: outer) e D (rawInt L) h' → s.heap.UpToSlots h' → Q () { s with heap := h' }) :
    wpAny M A (do let a ← frameOf env; let pl ← entryPlaceOf L hadNext; let b ← EntryCells.newEntry head a .none (rawInt L) .none pl; setField (.ref e) 1 b) Q E s := by
  have hene : e ∉ (env :: outer).filterMap (·.frame) := fun hm => by
    obtain ⟨_, o, ho, hnf⟩ := hl.mem hm
    rw [he] at ho; injection ho with ho; subst ho; exact hnf vs hd
  refine wpAny_bind (wpAny_frameOf_fun hfr hl hf fun h₁ hs₁ => ?_)
  refine wpAny_bind (wpAny_entryPlaceOf fun pl hpl => ?_)
  unfold EntryCells.newEntry newFields
  refine wpAny_bind (wpAny_newObj_type ?_ (hpl.sizeOk5 _ _ _ _ _))
  have he₁ : h₁.get? e = some oe := (hs₁.2.1 e hene).trans he
  have kb₁ : base.StaysIn h₁ := fun b o hbo => (hs₁.2.1 b fun hm => by rw [(hl.mem hm).1] at hbo; cases hbo).trans (hkb b o hbo)
  have he₂ : (h₁.push { cls := .type "traceback", dict := none, data := .fields ([head, .ref L, .none, rawInt L, .none] ++ (if pl.isEmpty then List.replicate 6 Value.none else pl)).toArray }).get? e = some oe := Heap.get?_push_of_some _ he₁
  have hTe : h₁.objs.size ≠ e := Nat.ne_of_gt (Heap.lt_size he₁)
  have hdu := Obj.data_mapFields hd (·.setIfInBounds 1 (Value.ref h₁.objs.size))
  have heu := Heap.get?_update_self (Obj.mapFields (·.setIfInBounds 1 (Value.ref h₁.objs.size))) he₂ (Obj.isFreed_of_fields hdu)
  have kp : ∀ b o, b ≠ e → h₁.get? b = some o → ((h₁.push { cls := .type "traceback", dict := none, data := .fields ([head, .ref L, .none, rawInt L, .none] ++ (if pl.isEmpty then List.replicate 6 Value.none else pl)).toArray }).update e (Obj.mapFields (·.setIfInBounds 1 (Value.ref h₁.objs.size)))).get? b = some o := fun b o hbe hb =>
    (Heap.get?_update_other _ _ (Ne.symm hbe)).trans (Heap.get?_push_of_some _ hb)
  have nf : ∀ b o, s.heap.get? b = some o → (∀ vs, o.data ≠ .fields vs) → b ≠ e := fun b o hb hnf q => by
    rw [q, he] at hb; injection hb with hb; subst hb; exact hnf vs hd
  refine wpAny_setField he₂ hd hsz (h _ ⟨?_, hen, ?_, ?_⟩ ?_)
  · exact fun b o hbo => kp b o (fun q => by rw [q, hen] at hbo; cases hbo) (kb₁ b o hbo)
  · exact hl.of_keeps fun b o hb hnf => by
      obtain ⟨sl, hs⟩ := hs₁.2.2 b o hb
      exact ⟨_, kp b _ (nf b o hb hnf) hs, rfl⟩
  · refine ⟨_, _, h₁.objs.size, { cls := .type "traceback", dict := none, data := .fields ([head, .ref L, .none, rawInt L, .none] ++ (if pl.isEmpty then List.replicate 6 Value.none else pl)).toArray }, ([head, .ref L, .none, rawInt L, .none] ++ (if pl.isEmpty then List.replicate 6 Value.none else pl)).toArray, heu, ⟨(Obj.cls_mapFields _ _).trans hc, (dict_mapFields _ _).trans hdc⟩, hdu, by simp [hsz], kb₁.fresh, hTe, ?_, rfl, by simp⟩
    exact (Heap.get?_update_other _ _ (Ne.symm hTe)).trans (Heap.get?_push_size h₁ rfl)
  · intro b o hb hnf
    obtain ⟨sl, hs⟩ := hs₁.2.2 b o hb
    exact ⟨sl, kp b _ (nf b o hb hnf) hs⟩
theorem fly_land {l : List Env} {fl : Value} {Q : Unit → Shared → Prop} (hh : FlyF base l e D fl s.heap) (hQ : ∀ h', FlyF base l e D .none h' → s.heap.UpToSlots h' → Q () { s with heap := h' }) : wpAny M A (setFlight (.ref e) none) Q E s := by
  obtain ⟨hkb, hen, hl, oe, vs, T, oT, ts, he, hcd, hd, h1, hnT, hTe, hT, hdT, h3⟩ := hh
  have hsz3 : 3 < ts.size := (Array.getElem?_eq_some_iff.mp h3).1
  have other : ∀ b, b ≠ T → (s.heap.update T (Obj.mapFields (·.setIfInBounds 3 ((none : Option Addr).elim Value.none fun f => rawInt f)))).get? b = s.heap.get? b := fun b hb => Heap.get?_update_other _ _ (Ne.symm hb)
  have nf : ∀ b o, s.heap.get? b = some o → (∀ vs, o.data ≠ .fields vs) → b ≠ T := fun b o hb hnf q => by
    rw [q, hT] at hb; injection hb with hb; subst hb; exact hnf ts hdT
  unfold setFlight
  refine wpAny_bind (wpAny_field he hd h1 ?_)
  rw [if_pos (show (Value.ref T != Value.none) = true from by simp)]
  refine wpAny_setField hT hdT hsz3 (hQ _ ⟨fun b o hbo => (other b fun q => by rw [q, hnT] at hbo; cases hbo).trans (hkb b o hbo), hen, ?_, ?_⟩ fun b o hb hnf => ⟨o.slots, (other b (nf b o hb hnf)).trans hb⟩)
  · exact hl.of_keeps fun b o hb hnf => ⟨o, (other b (nf b o hb hnf)).trans hb, rfl⟩
  · exact ⟨oe, vs, T, _, _, (other e (Ne.symm hTe)).trans he, hcd, hd, h1, hnT, hTe, Heap.get?_update_self _ hT (Obj.isFreed_of_fields (Obj.data_mapFields hdT _)), Obj.data_mapFields hdT _, by simp [hsz3]⟩
/-- a frame notes a raised one that has a trace -/
theorem fly_looks {Q : Unit → Shared → Prop} (hfr : A.frames = some (env :: outer)) (hf : env.frame = some L) (hh : FlyF base (env :: outer) e D .none s.heap)
    (hQ : ∀ h', FlyF base (env :: outer) e D (rawInt L) h' → s.heap.UpToSlots h' → Q () { s with heap := h' }) : wpAny M A (noteFrame (.ref e) env) Q E s := by
  obtain ⟨hkb, hen, hl, oe, vs, T, oT, ts, he, ⟨hc, hdc⟩, hd, h1, hnT, hTe, hT, hdT, h3⟩ := hh
  unfold noteFrame
  simp only [hf]
  refine wpAny_bind (wpAny_field he hd h1 ?_)
  rw [if_pos (show (Value.ref T != Value.none) = true from by simp)]
  refine wpAny_bind (wpAny_field hT hdT h3 ?_)
  rw [if_neg (show ¬ ((Value.none == rawInt L) = true) from by simp [rawInt])]
  refine wpAny_bind (wpAny_setField hT hdT (Array.getElem?_eq_some_iff.mp h3).1 ?_)
  have other : ∀ b, b ≠ T → (s.heap.update T (Obj.mapFields (·.setIfInBounds 3 Value.none))).get? b = s.heap.get? b := fun b hb => Heap.get?_update_other _ _ (Ne.symm hb)
  have nf : ∀ b o, s.heap.get? b = some o → (∀ vs, o.data ≠ .fields vs) → b ≠ T := fun b o hb hnf q => by
    rw [q, hT] at hb; injection hb with hb; subst hb; exact hnf ts hdT
  refine fly_note hfr (hl.of_keeps fun b o hb hnf => ⟨o, (other b (nf b o hb hnf)).trans hb, rfl⟩) hf ((other e (Ne.symm hTe)).trans he) hc hdc
    (fun b o hbo => (other b fun q => by rw [q, hnT] at hbo; cases hbo).trans (hkb b o hbo)) hen hd (Array.getElem?_eq_some_iff.mp h1).1 fun h' F' k => hQ h' F' fun b o hb hnf => k b o ((other b (nf b o hb hnf)).trans hb) hnf
/-- a raise leaves its first frame -/
theorem fly_first {oe : Obj} {vs : Array Value} {Q : Unit → Shared → Prop}
    (hfr : A.frames = some (env :: outer)) (hl : s.heap.FunFrames base (env :: outer)) (hf : env.frame = some L) (he : s.heap.get? e = some oe) (hc : oe.cls = .ref 59) (hdc : oe.dict = some D) (hkb : base.StaysIn s.heap) (hen : base.get? e = none) (hd : oe.data = .fields vs) (h1 : vs[1]? = some .none)
    (h : ∀ h', FlyF base outer e D .none h' → s.heap.UpToSlots h' → Q () { s with heap := h' }) : wpAny M A (leaving env (.ref e)) Q E s := by
  unfold leaving noteFrame
  simp only [hf]
  refine wpAny_bind (wpAny_bind (wpAny_field he hd h1 ?_))
  rw [if_neg (by decide)]
  refine fly_note hfr hl hf he hc hdc hkb hen hd (Array.getElem?_eq_some_iff.mp h1).1 fun h' F' k => fly_land F' fun h'' F'' k' => ?_
  obtain ⟨f1, f2, ⟨_, _, f3⟩, f4⟩ := F''
  exact h h'' ⟨f1, f2, f3, f4⟩ (k.trans k')
/-- a raise leaves a further frame -/
theorem fly_next {Q : Unit → Shared → Prop} (hfr : A.frames = some (env :: outer)) (hf : env.frame = some L) (hh : FlyF base (env :: outer) e D .none s.heap)
    (h : ∀ h', FlyF base outer e D .none h' → s.heap.UpToSlots h' → Q () { s with heap := h' }) : wpAny M A (leaving env (.ref e)) Q E s := by
  unfold leaving
  refine wpAny_bind (fly_looks hfr hf hh fun h' F' k => fly_land F' fun h'' F'' k' => ?_)
  obtain ⟨f1, f2, ⟨_, _, f3⟩, f4⟩ := F''
  exact h h'' ⟨f1, f2, f3, f4⟩ (k.trans k')
end
end Mine
end

-- Flies
section
open PySem PySem.W PyProof.Rows PySem.Calls
set_option Elab.async false
set_option maxRecDepth 100000
namespace Mine
def framesOf (l : List Env) : List Addr := l.filterMap (·.frame)
/-- a fault with its place flies past the frames of l; what stood at g stands, but for the frames' slots -/
def Flies (g : Heap) (l : List Env) (e : Addr) (k : Int) (h' : Heap) : Prop :=
  ∃ (B : Heap) (D : Addr) (m : Str → Option Value) (t : Tok), FlyF B l e D .none h' ∧ B.Ns1 D m ∧ m "at" = some (.int k t) ∧ (∀ b o, g.get? b = some o → b ∉ framesOf l → B.get? b = some o) ∧ g.UpToSlots h'
section
variable {prog : Program} {w : World} {mean : ExcName → Option Value} {mg mb : Str → Option Value} {dp un : Nat} {gd : Option (List Code)} {env : Env} {outer : List Env} {s : Shared} {E : Value → Shared → Prop}

/-- what a made fault has -/
def Made (g h' : Heap) (e : Addr) (k : Int) : Prop := Kept g h' ∧ g.get? e = none ∧ ∃ t2 D m t, h'.get? e = some (excObj t2 (some D)) ∧ h'.Ns1 D m ∧ m "at" = some (.int k t) ∧ D ≠ e ∧ g.get? D = none
theorem fault_made {what : Str} {tw ti : Tok} {k : Int} {Q : Value → Shared → Prop} (C : CallAt w mean mg mb env outer s.heap) (hdp : dp + 6 ≤ 900) (hu : un + 101 ≤ 5000)
    (hQ : ∀ h' e tk, Made s.heap h' e k → Q (.ref e) { s with heap := h', toks := tk }) : wpAny (model prog w) (A1 dp un gd (env :: outer)) (call (.ref 59) [.str what tw, .int k ti]) Q E s := by
  obtain ⟨base, B, X, T⟩ := C.ground (A1 dp un gd (env :: outer)) rfl
  obtain ⟨hp, g, d, tk, os⟩ := s
  refine fault_call X (rest := [.str what tw, .int k ti]) (by rw [PySem.sizeLine_eq]; simp) fun h' e M hsz => ?_
  obtain ⟨t, het, htn, htt⟩ := M.there
  refine init_call (s := ⟨h', g, d, tk, os⟩) (g := hp) (dp := dp + 1) C (by omega) (by omega) M.keeps hsz M.new het fun h2 t2 D m tk2 k2 he2 hn2 hm2 hDe hD => ⟨rfl, ?_⟩
  refine hQ h2 e tk2 ⟨fun b o ho => k2 b o (fun q => by rw [q, M.new] at ho; cases ho) (M.keeps b o ho), M.new, t2, D, m, ti, he2, hn2, hm2, hDe, ?_⟩
  cases q : hp.get? D with
  | none => rfl
  | some o => have := M.keeps D o q; rw [hD] at this; cases this

/-- it leaves the frame that raised it -/
theorem flies_first {A : Around} {base g h : Heap} {L a : Addr} {m : Str → Option Value} {name : Str} {scope : Scope} {cd : Value} {s' : Shared} {e : Addr} {k : Int} (K : Below A base outer g) (F : Fr g L h m) (M : Made h s'.heap e k) (hk : scope.kind = .function)
    (hE : ∀ h', Flies g outer e k h' → E (.ref e) { s' with heap := h' }) : OutE prog w (A.deeper (envOf name scope L a cd)) (envOf name scope L a cd) E (.ref e) s' := by
  obtain ⟨kp, hen, t2, D, md, t, he, hn, hm, hDe, hD⟩ := M
  have K' := K.push (name := name) (a := a) (cd := cd) (F.keeps kp) hk
  have K0 := K.push (name := name) (a := a) (cd := cd) F hk
  have hin : ∀ env ∈ (envOf name scope L a cd :: outer), ∀ b, env.frame = some b → b ∈ e :: framesOf (envOf name scope L a cd :: outer) := fun env he b hb => List.mem_cons_of_mem _ (List.mem_filterMap.mpr ⟨env, he, hb⟩)
  have hDf : D ∉ e :: framesOf (envOf name scope L a cd :: outer) := by
    intro q
    rcases List.mem_cons.mp q with q | q
    · exact hDe q
    · obtain ⟨_, o, ho, _⟩ := K0.frames.mem q
      rw [hD] at ho; cases ho
  refine fly_first (base := hideAll s'.heap (e :: framesOf (envOf name scope L a cd :: outer))) (Around.frames_deeper K.stack) (funFrames_hide K'.frames hin) rfl he rfl rfl (fun b o q => of_hideAll _ q) (hideAll_none _ List.mem_cons_self) rfl rfl fun h' FF up => ?_
  refine hE h' ⟨_, D, md, t, FF, hn.at fun o ho => hideAll_get _ ho hDf, hm, fun b o ho hb => ?_, ((Heap.UpToSlots.of_keeps fun b o ho => kp b o (F.keep b o ho)).trans up)⟩
  refine hideAll_get _ (kp b o (F.keep b o ho)) fun q => ?_
  rcases List.mem_cons.mp q with q | q
  · rw [q] at ho
    have := F.keep _ _ ho
    rw [hen] at this; cases this
  · obtain ⟨env', he', hb'⟩ := List.mem_filterMap.mp q
    rcases List.mem_cons.mp he' with rfl | he'
    · cases hb'
      rw [kts_self F] at ho; cases ho
    · exact hb (List.mem_filterMap.mpr ⟨env', he', hb'⟩)

/-- it leaves a frame that called -/
theorem flies_next {A : Around} {base g h : Heap} {L a : Addr} {m : Str → Option Value} {name : Str} {scope : Scope} {cd : Value} {s' : Shared} {e : Addr} {k : Int} (K : Below A base outer g) (F : Fr g L h m) (M : Flies h (envOf name scope L a cd :: outer) e k s'.heap) 
    (hE : ∀ h', Flies g outer e k h' → E (.ref e) { s' with heap := h' }) : OutE prog w (A.deeper (envOf name scope L a cd)) (envOf name scope L a cd) E (.ref e) s' := by
  obtain ⟨B, D, md, t, FF, hn, hm, hk, up⟩ := M
  refine fly_next (Around.frames_deeper K.stack) rfl FF fun h' FF' up' => ?_
  refine hE h' ⟨B, D, md, t, FF', hn, hm, fun b o ho hb => hk b o (F.keep b o ho) fun q => ?_, ((Heap.UpToSlots.of_keeps F.keep).trans up).trans up'⟩
  obtain ⟨env', he', hb'⟩ := List.mem_filterMap.mp q
  rcases List.mem_cons.mp he' with rfl | he'
  · cases hb'
    rw [kts_self F] at ho; cases ho
  · exact hb (List.mem_filterMap.mpr ⟨env', he', hb'⟩)

theorem sub59 (w : World) : mroIn (hd.heap_39 w.params) 59 (.type "BaseException") = some true := by with_unfolding_all rfl
/-- raise of a made fault -/
theorem Raise_mine {A : Around} {x : Expr} {pos : Pos} {Q : Flow → Shared → Prop} (hh : A.handled = none)
    (h : wpAny (model prog w) A (eval x env) (fun v s₁ => ∃ e t D, v = .ref e ∧ (hd.heap_39 w.params).In s₁.heap ∧ s₁.heap.get? e = some (excObj t D) ∧ E (.ref e) s₁) E s) : wpAny (model prog w) A (exec (.Raise (some x) none pos) env) Q E s := by
  show wpAny (model prog w) A (do standAt pos; raiseStmt env (some (do let v ← eval x env; standAt pos; pure v)) none) Q E s
  refine wpAny_bind (wpAny_standAt ?_)
  unfold raiseStmt
  dsimp only
  refine wpAny_bind (wpAny_bind (wpAny_mono h (fun v s₁ h₁ => wpAny_bind (wpAny_standAt (wpAny_pure ?_))) fun _ _ x => x))
  obtain ⟨e, t, D, rfl, X, he, hE⟩ := h₁
  obtain ⟨hp, g, d, tk, os⟩ := s₁
  have hT : Looks (model prog w) hp (isType (.ref e)) false := ((Looks.ld he).andThen .now)
  have L0 : Looks (model prog w) hp (typeOf (.ref e)) (.ref 59) := type59 he rfl
  have L1 : Looks (model prog w) hp (typeOf (.ref 59)) (.type "type") := Looks.of_peek X (by with_unfolding_all rfl)
  have LI : Looks (model prog w) hp (isInstance (.ref e) (.type "BaseException")) true := L0.andThen (looks_mroIn X (sub59 w))
  refine wpAny_bind (wpAny_pure ?_)
  dsimp only
  refine wpAny_bind (wpAny_holding ?_)
  unfold excFromValue isExcClass
  refine wpAny_bind (wpAny_bind (hT.at ?_))
  simp only [Bool.false_eq_true, if_false]
  refine wpAny_pure ?_
  simp only [Bool.false_eq_true, if_false]
  refine wpAny_bind (LI.at ?_)
  simp only [if_true]
  refine wpAny_pure ?_
  refine wpAny_bind (hT.at ?_)
  simp only [Bool.false_eq_true, if_false]
  unfold raisedInstance
  refine wpAny_bind (wpAny_bind (L0.at (wpAny_bind (L1.at ?_))))
  rw [if_pos (by decide)]
  refine wpAny_pure ?_
  unfold setFlight
  refine wpAny_bind (wpAny_bind (wpAny_field (x := .none) he rfl rfl ?_))
  rw [if_neg (by decide)]
  exact wpAny_pure (wpAny_raiseNew_none hh hE)
end
section
variable {prog : Program} {w : World} {A : Around} {E : Value → Shared → Prop} {s : Shared} {h₀ : Heap} {L : Addr} {m : Str → Option Value}
theorem app_led {pre post : List (Addr × Obj)} {D : Addr} {ys : List Value} {n : Nat} {y : Value} {Q : Value → Shared → Prop}
    (F : Fr h₀ L s.heap m) (N : News h₀ L s.heap (pre ++ (D, { cls := .type "list", data := .seq ys.toArray n }) :: post)) (h1 : ∀ p ∈ pre, p.1 ≠ D) (h2 : ∀ p ∈ post, p.1 ≠ D) (hsz : ys.length ≤ sizeLine)
    (h : ∀ h', Fr h₀ L h' m → News h₀ L h' (pre ++ (D, { cls := .type "list", data := .seq (ys ++ [y]).toArray (n + 1) }) :: post) → Q .none { s with heap := h' }) :
    wpAny (model prog w) A (call (.builtin "list.append") [.ref D, y]) Q E s := by
  have ND := N (D, { cls := .type "list", data := .seq ys.toArray n }) (List.mem_append_right _ List.mem_cons_self)
  refine append_at (hsz := by show ys.toArray.size ≤ sizeLine; rw [List.size_toArray]; exact hsz) ND.1 fun h₅ hs₅ hD₅ => ?_
  rw [List.push_toArray] at hD₅
  exact h h₅ (F.change hs₅ ND.2.1 ND.2.2) (N.setAt h1 h2 hs₅ hD₅)
end
end Mine
end

-- G7
section
open PySem PySem.W PyProof.Rows PySem.Calls
set_option Elab.async false
set_option maxRecDepth 100000
namespace Mine
open PyProof.Rows.LCg
local macro_rules | `(tactic| k_all) => `(tactic| assumption)
local macro_rules | `(tactic| walk_at "exec Raise some none") => `(tactic| refine Stop.out ?_)
local macro_rules | `(tactic| walk_at "call ref") => `(tactic| refine Stop.out ?_)
local macro_rules | `(tactic| walk_at "pyIter ref") => `(tactic| ((with_reducible show wpAny _ _ (pyIter (Value.ref _)) (fun it s₂ => LoopAtV _ _ _ _ _ _ _ _ _ it s₂) _ _); refine Stop.out ?_))

section
variable {prog : Program} {w : World} {mean : ExcName → Option Value} {mg mb : Str → Option Value} {dp un : Nat} {gd : Option (List Code)} {env : Env} {outer : List Env} {s : Shared}
  {E : Value → Shared → Prop} {Q : Value → Shared → Prop}

set_option maxHeartbeats 4000000 in
theorem part_numbers_call {b : Array UInt8} {tb : Tok} {ss as : List Int} {d : Addr} {f : Int → Option Value} (C : CallAt w mean mg mb env outer s.heap) (hd : dp + 8 ≤ 900) (hu : un + 110 ≤ 5000)
    (hb : KBw.bInts b = ss) (hl : ss.length ≤ 100) (hm : s.heap.IntMap d f) (hw : WorthTab f as)
    (hQ : ∀ D vs n h' tk, (∀ x ∈ ss, x ∈ as) → Kept s.heap h' → s.heap.get? D = none → h'.get? D = some { cls := .type "list", data := .seq vs.toArray n } → IntsAre vs (ss.map fun x => ((as.idxOf x : Nat) : Int)) → Q (.ref D) { s with heap := h', toks := tk })
    (hE : ∀ (i : Nat) x e h' tk, ss[i]? = some x → x ∉ as → (∀ y ∈ ss.take i, y ∈ as) → Flies s.heap (env :: outer) e (i : Int) h' → E (.ref e) { s with heap := h', toks := tk }) :
    wpAny (model prog w) (A1 dp un gd (env :: outer)) (call (.ref 90) [.bytes b tb, .ref d]) Q E s := by
  refine' enter_plainE (binds := [(Str.ofString "signs", .bytes b tb), (Str.ofString "worths", .ref d)]) (m := (fun y => if y = Str.ofString "worths" then some (.ref d) else if y = Str.ofString "signs" then some (.bytes b tb) else none))
    C ?ko ?kcd (by simp only [recursionLimit]; omega) ?kbind ?kloc ?km ?_ ?c1 ?c2 ?c3 ?c4
  case ko => k_is
  case kcd => k_is
  case kbind => exact BindsTo.of_eq rfl
  case kloc => exact locs rfl
  case km => exact fun _ => lk2
  case c1 => rfl
  case c2 => rfl
  case c3 => rfl
  case c4 => decide
  intro base L' h1 B F N X T
  (try dsimp only)
  (try k_fold)
  k_steps
  rename IsRange _ _ _ _ _ _ _ _ => hr
  rename Fr _ _ _ _ => F2
  rename News _ _ _ _ => N2
  dsimp only at hr F2 N2 ⊢
  rename_i lc _ _ _ _ _ _ _ _ _ _ _
  refine iter_range (n := ss.length) (fun i m nx => ∃ u vs n, m = (fun y => if y = Str.ofString "at" then u else if y = Str.ofString "worth_row" then some (.ref lc) else if y = Str.ofString "worths" then some (.ref d) else if y = Str.ofString "signs" then some (.bytes b tb) else none) ∧ nx = [(lc, { cls := .type "list", data := .seq vs.toArray n })] ∧ (∀ x ∈ ss.take i, x ∈ as) ∧ IntsAre vs ((ss.take i).map fun x => ((as.idxOf x : Nat) : Int)))
    hr (small_step (by omega) (by omega) (by omega) (by omega) (by omega) (by omega)) (by rw [rangeSize_nat]; omega) (by rfl) F2 N2 ⟨none, [], 0, ?_, rfl, by simp, by simpa using .nil⟩ ?_ ?_
  · funext y
    by_cases h1 : y = Str.ofString "at"
    · subst h1; rfl
    · simp only [if_neg h1]
  · rintro i t m₁ nx h3 tk own hi hadr hoff ⟨u, vs, n, rfl, rfl, hin, hvs⟩ F1 N1
    have hown : ∀ p ∈ own, p.1 ≠ lc := OwnOff.ne hoff (by simp)
    simp only [List.cons_append, List.nil_append] at N1
    clear hoff F2 N2 hr
    rw [show (0 : Int) + (i : Int) * 1 = (i : Int) from by omega] at F1
    show wpAny _ _ _ _ _ _
    k_fold
    k_steps
    rw [Int.toNat_natCast]
    have hxi : ss[i]? = some (ss.getD i 0) := by rw [List.getD_eq_getElem?_getD, List.getElem?_eq_getElem hi]; rfl
    generalize ss.getD i 0 = x at *
    refine notin_intMap (intMap_kept hm F1.keep) ?_
    by_cases hx : x ∈ as
    · obtain ⟨tx, hfx⟩ := worth_some hw.2 hx
      rw [hfx, Option.isSome_some, Bool.not_true]
      show wpAny _ _ _ _ _ _
      (try k_fold)
      k_steps
      rw [Int.toNat_natCast]
      have hxe : ss.getD i 0 = x := by rw [List.getD_eq_getElem?_getD, hxi]; rfl
      rw [hxe]
      refine item_intMap (intMap_kept hm F1.keep) hfx ?_
      show wpAny _ _ _ _ _ _
      (try k_fold)
      k_steps
      refine app_led (pre := []) (post := own) F1 N1 (fun _ h => nomatch h) hown (by rw [hvs.length, List.length_map, List.length_take, PySem.sizeLine_eq]; omega) fun h5 F5 N5 => ?_
      clear F1 N1
      show wpAny _ _ _ _ _ _
      (try k_fold)
      k_steps
      refine ⟨_, _, _, _, [(lc, { cls := .type "list", data := .seq (vs ++ [Value.int ((as.idxOf x : Nat) : Int) tx]).toArray (n + 1) })], rfl, F5, N5, fun p hp => by rw [List.mem_singleton.mp hp]; exact List.mem_cons_self, fun p hp => List.mem_cons_of_mem _ hp, rfl, some (.int (i : Int) t), _, _, ?_, rfl, ?_, ?_⟩
      · funext y
        by_cases h1 : y = Str.ofString "at"
        · rw [if_pos h1, if_pos h1]
        · simp only [if_neg h1]
      · intro y hy
        rw [List.take_add_one, hxi] at hy
        rcases List.mem_append.mp hy with hy | hy
        · exact hin y hy
        · have : y = x := by simpa using hy
          rw [this]; exact hx
      · rw [List.take_add_one, hxi]
        have := IntsAre.append hvs (.cons ((as.idxOf x : Nat) : Int) tx .nil)
        simpa using this
    · rw [hw.1 x hx]
      show wpAny _ _ _ _ _ _
      (try k_fold)
      k_steps
      refine Raise_mine (w := w) (by rfl) ?_
      k_steps
      refine fault_made (dp := dp + 1) (un := un + 3) (CallAt.of B F1 rfl rfl X T) (by omega) (by omega) fun h5 e5 tk5 M => ?_
      have M' := M
      obtain ⟨kM, _, t2, D5, _, _, he5, _⟩ := M'
      refine ⟨e5, t2, some D5, rfl, X.keeps (fun b o ho => kM b o (F1.keep b o ho)), he5, ?_⟩
      exact flies_first B F1 M rfl fun h' FF => hE i x e5 h' tk5 hxi hx hin FF
  · rintro m₁ nx h3 tk ⟨u, vs, n, rfl, rfl, hin, hvs⟩ F1 N1
    clear F2 N2 hr
    rw [List.take_length] at hin hvs
    show wpAny _ _ _ _ _ _
    (try k_fold)
    k_steps
    have hN := N1 _ List.mem_cons_self
    exact hQ lc vs n h3 tk hin F1.keep hN.2.2 hN.1 hvs
end
end Mine
end

-- Join
section
open PySem PySem.W PyProof.Rows PySem.Calls Builtin Builtin.Bytes
set_option Elab.async false
set_option maxRecDepth 100000
namespace Mine
theorem tbq (b : Array UInt8) (t : Tok) : takeBufferQuiet? "bytes.join" (.bytes b t) 0 = pure (some (b, none)) := by kernel_rfl
theorem slot_join : Slot "bytes" "join" "bytes.join" :=
  .of (owner := "bytes") (n := "join") (by rw [typeLookup_type, builtinLookup_eq_fast]; kernel_rfl) (by decide +kernel) (by decide +kernel) (by decide +kernel)
    (by first | exact .inl (by decide +kernel) | exact .inr (by decide +kernel)) (by rw [isSubtype_type]; kernel_rfl)
theorem type_join : typeOf (.builtin "bytes.join") = pure (.type "method_descriptor") := by show builtinType _ = _; rw [builtinType_eq_fast]; kernel_rfl
theorem entry_join : entryFor table "bytes.join" = some Builtin.«bytes.join» := entryFor_of_tree (by kernel_rfl)
theorem args_join (a b : Value) : argsOk "bytes.join" ⟨[a, b], []⟩ := by unfold argsOk; kernel_rfl
end Mine
namespace Mine
def LooseTaken (taken : List (Value × Option Value)) : Prop := ∀ p ∈ taken, p.1.onHeap = false ∧ p.2 = none
section
variable {M : Model} {A : Around} {E : Value → Shared → Prop} {s : Shared}
theorem letGo_run {keep : List Value} {Q : Unit → Shared → Prop} (hq : Q () s) : ∀ removed : List Value, wpAny M A (PySem.letGo removed keep) Q E s
  | [] => wpAny_pure hq
  | _ :: rest => by
    unfold PySem.letGo
    exact wpAny_bind (wpAny_holding (wpAny_point (letGo_run hq rest)))
theorem joinLetGo_run {keep : List Value} {Q : Unit → Shared → Prop} (hq : Q () s) : ∀ taken : List (Value × Option Value), LooseTaken taken → wpAny M A (joinLetGo taken keep) Q E s
  | [], _ => wpAny_pure hq
  | (x, w) :: rest, h => by
    have hw : w = none := (h (x, w) List.mem_cons_self).2
    subst hw
    unfold joinLetGo
    exact wpAny_bind (letGo_run (joinLetGo_run hq rest fun p hp => h p (List.mem_cons_of_mem _ hp)) _)
theorem any_loose {taken : List (Value × Option Value)} (h : LooseTaken taken) : (taken.any fun p => p.1.onHeap) = false := by
  rw [List.any_eq_false]
  intro p hp
  rw [(h p hp).1]; exact Bool.false_ne_true
end
theorem BytesAre.get {vs : List Value} {bss : List (List Int)} (h : BytesAre vs bss) : ∀ i, i < vs.length → ∃ bo t bs, vs[i]? = some (.bytes bo t) ∧ bss[i]? = some bs ∧ KBw.bInts bo = bs := by
  induction h with
  | nil => intro i hi; cases hi
  | snoc bo t bs hv hb ih =>
    rename_i vs bss
    intro i hi
    have hlen := hv.length
    by_cases h : i < vs.length
    · obtain ⟨bo', t', bs', h1, h2, h3⟩ := ih i h
      exact ⟨bo', t', bs', by rw [List.getElem?_append_left h]; exact h1, by rw [List.getElem?_append_left (by omega)]; exact h2, h3⟩
    · have : i = vs.length := by rw [List.length_append, List.length_singleton] at hi; omega
      subst this
      exact ⟨bo, t, bs, by simp, by rw [hlen]; simp, hb⟩
theorem joined_nil (parts : List (Array UInt8)) : (joined #[] parts).toList = (parts.map (·.toList)).flatten := by
  unfold joined
  have key : ∀ (l : List (Array UInt8 × Nat)) (acc : Array UInt8), (l.foldl (fun out (x : Array UInt8 × Nat) => (if x.2 > 0 then out ++ #[] else out) ++ x.1) acc).toList = acc.toList ++ (l.map fun x => x.1.toList).flatten := by
    intro l
    induction l with
    | nil => intro acc; simp
    | cons x l ih =>
      intro acc
      rw [List.foldl_cons, ih]
      simp
  have := key parts.zipIdx #[]
  rw [show (fun x : Array UInt8 × Nat => x.1.toList) = (fun a : Array UInt8 => a.toList) ∘ Prod.fst from rfl, ← List.map_map] at this
  simpa using this
theorem size_sum (l : List (Array UInt8)) (n : Nat) : l.foldl (fun (x1 : Nat) (x2 : Array UInt8) => x1 + x2.size) n = n + ((l.map KBw.bInts).flatten).length := by
  induction l generalizing n with
  | nil => simp
  | cons x l ih =>
    rw [List.foldl_cons, ih, List.map_cons, List.flatten_cons, List.length_append, KBw.ints_length]
    omega
section
variable {prog : Program} {w : World} {A : Around} {E : Value → Shared → Prop} {s : Shared}
theorem join_run {l : Addr} {vs : List Value} {n : Nat} {t : Tok} {Q : Value → Shared → Prop} {bss : List (List Int)} (hl : s.heap.get? l = some { cls := .type "list", data := .seq vs.toArray n }) (hv : BytesAre vs bss) (hz : bss.flatten.length ≤ 100000)
    (hq : ∀ bo tk tk', KBw.bInts bo = bss.flatten → Q (.bytes bo tk) { s with toks := tk' }) :
    wpAny (model prog w) A (call (.builtin "bytes.join") [.bytes #[] t, .ref l]) Q E s := by
  refine wpAny_call (codeAny_call_builtin slot_join.plain entry_join (slot_join.check _ _ _ _ _ _ _ _ (typeIs_bytes _ _ _) (args_join _ _) ?_))
  unfold Builtin.«bytes.join» joinM
  have LT : ∀ {Q' : Value → Shared → Prop} {E' : Value → Shared → Prop} {s' : Shared} {A' : Around}, s'.heap = s.heap → Q' (.type "list") s' → wpAny (model prog w) A' (typeOf (.ref l)) Q' E' s' := fun hs hq' => wpAny_typeOf (T := "list") ⟨_, by rw [hs]; exact hl, rfl⟩ hq'
  have LS : ∀ {Q' : Option (Array Value) → Shared → Prop} {E' : Value → Shared → Prop} {s' : Shared} {A' : Around}, s'.heap = s.heap → Q' (some vs.toArray) s' → wpAny (model prog w) A' (seqItems? (.ref l)) Q' E' s' := fun hs hq' => wpAny_seqItems (by rw [hs]; exact hl) rfl hq'
  refine wpAny_bind (wpAny_pure ?_)
  dsimp only
  refine wpAny_bind ?_
  show wpAny _ _ (joinItems (.ref l)) _ _ _
  unfold joinItems
  refine wpAny_bind (LT rfl ?_)
  refine wpAny_pure ?_
  refine wpAny_bind (LS rfl ?_)
  have hlen := hv.length
  dsimp only
  rw [if_pos (by decide)]
  generalize har : vs.toArray = ar at LS ⊢
  rcases ar with ⟨_ | ⟨x, _ | ⟨y, r⟩⟩⟩
  rotate_left 1
  · have hvs : vs = [x] := by simpa using congrArg Array.toList har
    obtain ⟨bo, t', bs, h1, h2, h3⟩ := hv.get 0 (by rw [hvs]; simp)
    rw [hvs] at h1
    obtain rfl : x = .bytes bo t' := by simpa using h1
    refine wpAny_bind (wpAny_pure ?_)
    rw [if_pos (by decide)]
    refine wpAny_bind (wpAny_rule (wpAny_pure ?_))
    refine hq bo t' s.toks ?_
    have : bss = [bs] := by
      have hl1 : bss.length = 1 := by rw [← hlen, hvs]; rfl
      obtain ⟨a, rfl⟩ := List.length_eq_one_iff.mp hl1
      simpa using h2
    rw [this, h3]; simp
  all_goals
    show wpAny _ _ (forIn _ _ _ >>= _) _ _ _
    generalize hb : (Array.mk _ : Array Value) = ar at *
    subst har
    clear hb
    refine wpAny_bind ?_
    rw [Std.Legacy.Range.forIn_eq_forIn_range']
    have hsz : ([:vs.toArray.size] : Std.Legacy.Range).size = vs.length := by simp [Std.Legacy.Range.size]
    show wpAny _ _ (forIn (List.range' 0 ([:vs.toArray.size] : Std.Legacy.Range).size 1) _ _) _ _ _
    rw [hsz]
    refine wpAny_forIn_list _ (fun l c s' => ∃ i, i ≤ vs.length ∧ l = List.range' i (vs.length - i) 1 ∧ (c.1.toList.map KBw.bInts) = bss.take i ∧ LooseTaken c.2 ∧ s' = s) _ ?_ ?_ _ _ ⟨0, Nat.zero_le _, by simp, by simp, (fun _ h => nomatch h), rfl⟩
    · rintro x rest ⟨parts, taken⟩ s' ⟨i, hi, hl', hp, ht, rfl⟩
      have hlt : i < vs.length := by
        rcases Nat.lt_or_ge i vs.length with h | h
        · exact h
        · rw [show vs.length - i = 0 by omega] at hl'; cases hl'
      obtain ⟨k, hk⟩ : ∃ k, vs.length - i = k + 1 := ⟨vs.length - i - 1, by omega⟩
      rw [hk, List.range'_succ] at hl'
      obtain ⟨rfl, rfl⟩ := List.cons.inj hl'
      obtain ⟨bo, t', bs, h1, h2, h3⟩ := hv.get x hlt
      have hx : vs.toArray.getD x .none = .bytes bo t' := by simp [h1]
      dsimp only at hp ht ⊢
      refine wpAny_bind (LS rfl ?_)
      dsimp only
      rw [hx, any_loose ht, if_neg (by decide)]
      rw [show (toString Kind.bytes.name ++ toString ".join" : String) = "bytes.join" from by decide +kernel, tbq]
      refine wpAny_bind (wpAny_holding (wpAny_pure ?_))
      dsimp only
      refine wpAny_bind (LS rfl ?_)
      dsimp only
      rw [if_neg (by simp)]
      refine wpAny_pure ⟨x + 1, hlt, by rw [show vs.length - (x + 1) = k from by omega], ?_, ?_, rfl⟩
      · rw [Array.toList_push, List.map_append, hp, List.take_add_one, h2, ← h3]; rfl
      · intro p hp'
        rcases List.mem_append.mp hp' with h | h
        · exact ht p h
        · rw [List.mem_singleton.mp h]; exact ⟨rfl, rfl⟩
    · rintro ⟨parts, taken⟩ s' ⟨i, hi, hl', hp, ht, rfl⟩
      have hi2 : i = bss.length := by
        have := congrArg List.length hl'
        rw [List.length_range', List.length_nil] at this
        omega
      rw [hi2, List.take_length] at hp
      dsimp only at hp ht ⊢
      have hjo : KBw.bInts (joined #[] parts.toList) = bss.flatten := by
        unfold KBw.bInts
        rw [joined_nil, List.map_flatten, ← hp, List.map_map]
        rfl
      refine wpAny_bind (wpAny_bind (wpAny_pure (wpAny_pure ?_)))
      have hsum : Array.foldl (fun (x1 : Nat) (x2 : Array UInt8) => x1 + x2.size) ((#[] : Array UInt8).size * (parts.size - 1)) parts = bss.flatten.length := by
        rw [← Array.foldl_toList, size_sum, ← hp]
        simp [KBw.bInts]
      have hjs : (joined #[] parts.toList).size ≤ sizeLine := by
        rw [← KBw.ints_length, hjo, PySem.sizeLine_eq]; omega
      rw [hsum, if_neg (by unfold tooLong; rw [PySem.sizeLine_eq]; simp only [decide_eq_true_eq]; omega)]
      refine wpAny_bind ?_
      show wpAny _ _ (mkBytes _) _ _ _
      unfold mkBytes
      rw [if_neg (by omega)]
      refine wpAny_bind (wpAny_fresh (wpAny_pure ?_))
      refine wpAny_bind (wpAny_holding (wpAny_point ?_))
      refine wpAny_bind (joinLetGo_run ?_ _ ht)
      exact wpAny_pure (hq _ _ _ hjo)
end
end Mine
end

-- G8
section
open PySem PySem.W PyProof.Rows PySem.Calls
set_option Elab.async false
set_option maxRecDepth 100000
namespace Mine
open PyProof.Rows.LCg
local macro_rules | `(tactic| k_all) => `(tactic| assumption)
local macro_rules | `(tactic| walk_at "call ref") => `(tactic| refine Stop.out ?_)
local macro_rules | `(tactic| walk_at "exec Raise some none") => `(tactic| refine Stop.out ?_)
local macro_rules | `(tactic| walk_at "pyIter ref") => `(tactic| ((with_reducible show wpAny _ _ (pyIter (Value.ref _)) (fun it s₂ => LoopAtV _ _ _ _ _ _ _ _ _ it s₂) _ _); refine Stop.out ?_))

section
variable {prog : Program} {w : World} {mean : ExcName → Option Value} {mg mb : Str → Option Value} {dp un : Nat} {gd : Option (List Code)} {env : Env} {outer : List Env} {s : Shared}
  {E : Value → Shared → Prop} {Q : Value → Shared → Prop}

set_option maxHeartbeats 4000000 in
theorem part_decoded_call {b al : Array UInt8} {tb ta : Tok} {ss as : List Int} (C : CallAt w mean mg mb env outer s.heap) (hd : dp + 12 ≤ 900) (hu : un + 130 ≤ 5000)
    (hb : KBw.bInts b = ss) (hl : ss.length ≤ 100) (ha : KBw.bInts al = as) (hal : as.length = 64) (hnd : as.Nodup)
    (hQ : ∀ bo t h' tk, (∀ x ∈ ss, x ∈ as) → (∀ j, j < (ss.length + 3) / 4 → GoodAt (worthsOf ss as) j) → Kept s.heap h' → KBw.bInts bo = partDec (worthsOf ss as) → Q (.bytes bo t) { s with heap := h', toks := tk })
    (hE : ∀ e (k : Int) h' tk, DecFault ss as k → Flies s.heap (env :: outer) e k h' → E (.ref e) { s with heap := h', toks := tk }) :
    wpAny (model prog w) (A1 dp un gd (env :: outer)) (call (.ref 97) [.bytes b tb, .bytes al ta]) Q E s := by
  refine' enter_plainE (binds := [(Str.ofString "signs", .bytes b tb), (Str.ofString "alphabet", .bytes al ta)]) (m := (fun y => if y = Str.ofString "alphabet" then some (.bytes al ta) else if y = Str.ofString "signs" then some (.bytes b tb) else none))
    C ?ko ?kcd (by simp only [recursionLimit]; omega) ?kbind ?kloc ?km ?_ ?c1 ?c2 ?c3 ?c4
  case ko => k_is
  case kcd => k_is
  case kbind => exact BindsTo.of_eq rfl
  case kloc => exact locs rfl
  case km => exact fun _ => lk2
  case c1 => rfl
  case c2 => rfl
  case c3 => rfl
  case c4 => decide
  intro base L' h1 B F N X T
  (try dsimp only)
  (try k_fold)
  k_steps
  refine worth_table_call (dp := dp + 1) (un := un + 3) (CallAt.of B F rfl rfl X T) (by omega) ha hal hnd fun d f h2 tk2 k2 hd0 hm hw => ?_
  have F2 := F.keeps k2
  have N2 := news_kept N k2
  clear N
  show wpAny _ _ _ _ _ _
  (try k_fold)
  k_steps
  refine part_numbers_call (dp := dp + 1) (un := un + 3) (as := as) (f := f) (CallAt.of B F2 rfl rfl X T) (by omega) (by omega) hb hl hm hw ?_ ?_
  case refine_2 => exact fun i x e h' tk hix hx hin FF => flies_next B F2 FF fun h'' FF'' => hE e _ h'' tk (.inl ⟨i, x, rfl, hix, hx, hin⟩) FF''
  intro lw vw nw h3 tk3 hin k3 hw0 hlw hvw
  have N3 := news_fresh F2 N2 k3 hw0 hlw
  have F3 := F2.keeps k3
  clear F2 N2 F
  change IntsAre vw (worthsOf ss as) at hvw
  have hwl := worthsOf_length ss as
  have hwb := worthsOf_in hal hin
  generalize hws : worthsOf ss as = ws at *
  show wpAny _ _ _ _ _ _
  (try k_fold)
  k_steps
  rename IsRange _ _ _ _ _ _ _ _ => hr
  rename Fr _ _ _ _ => F5
  rename News _ _ _ _ => N5
  rename lw < _ => llt
  dsimp only at hr F5 N5 ⊢
  rename_i lf _ _ _ _ _ _ _ _ _ _
  refine iter_range (n := (ws.length + 3) / 4) (fun i m nx => ∃ u1 u2 u3 u4 vs n, m = (fun y => if y = Str.ofString "begin" then u1 else if y = Str.ofString "group" then u2 else if y = Str.ofString "octets" then u3 else if y = Str.ofString "spare" then u4 else if y = Str.ofString "found" then some (.ref lf) else if y = Str.ofString "worth_row" then some (.ref lw) else if y = Str.ofString "alphabet" then some (.bytes al ta) else if y = Str.ofString "signs" then some (.bytes b tb) else none) ∧ nx = [(lf, { cls := .type "list", data := .seq vs.toArray n }), (lw, { cls := .type "list", data := .seq vw.toArray nw })] ∧ BytesAre vs (partDecTo ws i) ∧ ∀ j < i, GoodAt ws j)
    hr (small_step (by omega) (by omega) (by omega) (by omega) (by omega) (by omega)) (rangeSize_nat4 _) (by rfl) F5 N5 ⟨none, none, none, none, [], 0, ?_, rfl, .nil, fun j hj => absurd hj (Nat.not_lt_zero j)⟩ ?_ ?_
  · funext y
    by_cases h1 : y = Str.ofString "begin"
    · subst h1; rfl
    · simp only [if_neg h1]
      by_cases h2 : y = Str.ofString "group"
      · subst h2; rfl
      · simp only [if_neg h2]
        by_cases h3 : y = Str.ofString "octets"
        · subst h3; rfl
        · simp only [if_neg h3]
          by_cases h4 : y = Str.ofString "spare"
          · subst h4; rfl
          · simp only [if_neg h4]
  · rintro i t m₁ nx h6 tk own hi hadr hoff ⟨u1, u2, u3, u4, vs, n, rfl, rfl, hvs, hgood⟩ F1 N1
    have hown : ∀ p ∈ own, p.1 ≠ lf := OwnOff.ne hoff (by simp)
    have hown2 : ∀ p ∈ own, p.1 ≠ lw := OwnOff.ne hoff (by simp)
    simp only [List.cons_append, List.nil_append] at N1
    clear hoff F5 N5 hr
    show wpAny _ _ _ _ _ _
    (try k_fold)
    k_steps
    · rename Fr _ _ _ _ => F7
      rw [chunkK] at *
      rename _ = 1 => hlen1
      refine Raise_mine (w := w) (by rfl) ?_
      k_steps
      refine fault_made (dp := dp + 1) (un := un + 3) (CallAt.of B F7 rfl rfl X T) (by omega) (by omega) fun h5 e5 tk5 M => ?_
      have M' := M
      obtain ⟨kM, _, t2, D5, _, _, he5, _⟩ := M'
      refine ⟨e5, t2, some D5, rfl, X.keeps (fun b o ho => kM b o (F7.keep b o ho)), he5, ?_⟩
      exact flies_first B F7 M rfl fun h' FF => hE e5 _ h' tk5 (.inr (.inl ⟨hin, i, by omega, by rw [hws]; exact hgood, by rw [hws]; exact Int.ofNat_inj.mp hlen1, by omega⟩)) FF
    · rename Fr _ _ _ _ => F7
      rename News _ _ _ _ => N7
      rename IntsAre _ _ => hI7
      rw [chunkK] at *
      rename ¬ _ = 1 => hlen1
      rename _ ∧ _ ∧ _ => l7
      have hlen2 := groupAt_length ws i
      have hlen3 : (groupAt ws i).length ≠ 1 := fun q => hlen1 (by rw [q]; rfl)
      refine group_octets_call (dp := dp + 1) (un := un + 3) (CallAt.of B F7 rfl rfl X T) (by omega) (News.isList N7 (List.mem_cons_self ..)) hI7 (groupAt_mem hwb) ⟨by omega, by omega⟩ ?_
      intro D8 bo t8 t9 h8 tk8 k8 hD80 hD8 hbo
      have N8 := news_fresh F7 N7 k8 hD80 hD8
      have ne8 := news_ne N7 hD80
      have F8 := F7.keeps k8
      clear F7 N7
      show wpAny _ _ _ _ _ _
      (try k_fold)
      k_steps
      · rename Fr _ _ _ _ => F9
        rename 0 < _ => hsp
        refine Raise_mine (w := w) (by rfl) ?_
        k_steps
        refine fault_made (dp := dp + 1) (un := un + 3) (CallAt.of B F9 rfl rfl X T) (by omega) (by omega) fun h5 e5 tk5 M => ?_
        have M' := M
        obtain ⟨kM, _, t2, D5, _, _, he5, _⟩ := M'
        refine ⟨e5, t2, some D5, rfl, X.keeps (fun b o ho => kM b o (F9.keep b o ho)), he5, ?_⟩
        exact flies_first B F9 M rfl fun h' FF => hE e5 _ h' tk5 (.inr (.inr ⟨hin, i, by omega, by rw [hws]; exact hgood, by rw [hws]; exact hlen3, by rw [hws]; exact hsp, by rw [hws]; omega⟩)) FF
      · rename Fr _ _ _ _ => F9
        rename News _ _ _ _ => N9
        rename ¬ 0 < _ => hsp
        refine app_led (pre := [(D8, _), _]) (post := (lw, _) :: own) F9 N9 ?_ ?_ (by rw [hvs.length]; unfold partDecTo; rw [List.length_map, List.length_range, PySem.sizeLine_eq]; omega) fun h10 F10 N10 => ?_
        · simp only [List.forall_mem_cons]
          exact ⟨Ne.symm (ne8 (lf, _) (List.mem_cons_of_mem _ List.mem_cons_self)), neN (by omega), fun _ h => nomatch h⟩
        · simp only [List.forall_mem_cons]
          exact ⟨neN (by omega), hown⟩
        clear F9 N9
        show wpAny _ _ _ _ _ _
        (try k_fold)
        k_steps
        obtain ⟨mm, F11, hm1⟩ : ∃ mm : Str → Option Value, Fr s.heap L' h10 mm ∧ ∀ y, y ≠ Str.ofString "begin" → y ≠ Str.ofString "group" → y ≠ Str.ofString "octets" → y ≠ Str.ofString "spare" →
            mm y = (if y = Str.ofString "found" then some (.ref lf) else if y = Str.ofString "worth_row" then some (.ref lw) else if y = Str.ofString "alphabet" then some (.bytes al ta) else if y = Str.ofString "signs" then some (.bytes b tb) else none) :=
          ⟨_, F10, fun y h1 h2 h3 h4 => by simp only [if_neg h1, if_neg h2, if_neg h3, if_neg h4]⟩
        refine ⟨_, _, _, _, [(lf, { cls := .type "list", data := .seq (vs ++ [Value.bytes bo t8]).toArray (n + 1) }), (lw, { cls := .type "list", data := .seq vw.toArray nw })], rfl, F11, N10, fun p hp => ?_, fun p hp => ?_, rfl, mm (Str.ofString "begin"), mm (Str.ofString "group"), mm (Str.ofString "octets"), mm (Str.ofString "spare"), _, _, ?_, rfl, ?_, ?_⟩
        · exact List.mem_append_right _ (by rcases List.mem_cons.mp hp with rfl | hp; exact List.mem_cons_self; rw [List.mem_singleton.mp hp]; exact List.mem_cons_of_mem _ List.mem_cons_self)
        · exact List.mem_append_right _ (List.mem_cons_of_mem _ (List.mem_cons_of_mem _ hp))
        · funext y
          by_cases h1 : y = Str.ofString "begin"
          · subst h1; rfl
          · by_cases h2 : y = Str.ofString "group"
            · subst h2; rfl
            · by_cases h3 : y = Str.ofString "octets"
              · subst h3; rfl
              · by_cases h4 : y = Str.ofString "spare"
                · subst h4; rfl
                · rw [hm1 y h1 h2 h3 h4]
                  simp only [if_neg h1, if_neg h2, if_neg h3, if_neg h4]
        · have := BytesAre.snoc bo t8 _ hvs hbo
          unfold partDecTo at this ⊢
          rw [List.range_succ, List.map_append]
          exact this
        · intro j hj
          rcases Nat.lt_succ_iff_lt_or_eq.mp hj with hj | rfl
          · exact hgood j hj
          · exact ⟨hlen3, by omega⟩
  · rintro m₁ nx h6 tk ⟨u1, u2, u3, u4, vs, n, rfl, rfl, hvs, hgood⟩ F1 N1
    clear F5 N5 hr
    show wpAny _ _ _ _ _ _
    (try k_fold)
    k_steps
    refine KBd.method_of (.bytes #[] _) (typeIs_bytes _ _ _) slot_join type_join KBd.noRef ?_
    k_steps
    have hz := partDecTo_length ws ((ws.length + 3) / 4)
    refine join_run (N1 _ List.mem_cons_self).1 hvs (by omega) fun bo tq tk' hbo => ?_
    exact hQ bo tq h6 _ hin (by rw [← hwl]; exact hgood) F1.keep (by rw [hbo]; rfl)
end
end Mine
end

-- G9
section
open PySem PySem.W PyProof.Rows PySem.Calls
set_option Elab.async false
set_option maxRecDepth 100000
namespace Mine
open PyProof.Rows.LCg
local macro_rules | `(tactic| k_all) => `(tactic| assumption)
local macro_rules | `(tactic| walk_at "call ref") => `(tactic| refine Stop.out ?_)
local macro_rules | `(tactic| walk_at "noteFrame ref") => `(tactic| refine Stop.out ?_)

section
variable {prog : Program} {w : World} {mean : ExcName → Option Value} {mg mb : Str → Option Value} {dp un : Nat} {gd : Option (List Code)} {env : Env} {outer : List Env} {s : Shared}
  {E : Value → Shared → Prop} {Q : Value → Shared → Prop}

/-- what stood stands, the frame's slots apart -/
def Back (L : Addr) (h h' : Heap) : Prop := (∀ b o, h.get? b = some o → b ≠ L → h'.get? b = some o) ∧ h.UpToSlots h'
set_option maxHeartbeats 4000000 in
theorem law_heard_call {A₀ : Around} {g0 : Heap} {L : Addr} {m0 : Str → Option Value} {b al : Array UInt8} {tb ta : Tok} {ss as : List Int}
    (B0 : Below A₀ g0 [] g0) (F0 : Fr g0 L s.heap m0) (hf : env.frame = some L) (hkf : env.scope.kind = .function) (X0 : (hd.heap_39 w.params).In g0) (T0 : TopH mean mg mb g0) (hd : dp + 20 ≤ 900) (hu : un + 150 ≤ 5000)
    (hb : KBw.bInts b = ss) (hl : ss.length ≤ 100) (ha : KBw.bInts al = as) (hal : as.length = 64) (hnd : as.Nodup)
    (hQ : ∀ bo t h' tk, (∀ x ∈ ss, x ∈ as) → (∀ j, j < (ss.length + 3) / 4 → GoodAt (worthsOf ss as) j) → Back L s.heap h' → KBw.bInts bo = partDec (worthsOf ss as) → Q (.bytes bo t) { s with heap := h', toks := tk })
    (hE : ∀ (k : Int) t h' tk, DecFault ss as k → Back L s.heap h' → Q (.int k t) { s with heap := h', toks := tk }) :
    wpAny (model prog w) (A1 dp un gd [env]) (call (.ref 131) [.bytes b tb, .bytes al ta]) Q E s := by
  have C : CallAt w mean mg mb env [] s.heap := ⟨A₀, g0, g0, L, m0, B0, F0, hf, hkf, X0, T0⟩
  refine' enter_plainE (binds := [(Str.ofString "row", .bytes b tb), (Str.ofString "alphabet", .bytes al ta)]) (m := (fun y => if y = Str.ofString "alphabet" then some (.bytes al ta) else if y = Str.ofString "row" then some (.bytes b tb) else none))
    C ?ko ?kcd (by simp only [recursionLimit]; omega) ?kbind ?kloc ?km ?_ ?c1 ?c2 ?c3 ?c4
  case ko => k_is
  case kcd => k_is
  case kbind => exact BindsTo.of_eq rfl
  case kloc => exact locs rfl
  case km => exact fun _ => lk2
  case c1 => rfl
  case c2 => rfl
  case c3 => rfl
  case c4 => decide
  intro base L' h1 B F N X T
  (try dsimp only)
  (try k_fold)
  k_steps
  refine part_decoded_call (dp := dp + 1) (un := un + 3) (CallAt.of B F rfl rfl X T) (by omega) (by omega) hb hl ha hal hnd ?_ ?_
  · intro bo t h2 tk2 hin hgood k2 hbo
    exact hQ bo t h2 tk2 hin hgood ⟨fun b o ho _ => k2 b o (F.keep b o ho), Heap.UpToSlots.of_keeps fun b o ho => k2 b o (F.keep b o ho)⟩ hbo
  · intro e k h2 tk2 hk FF
    obtain ⟨Bs, D, md, t, FF2, hnD, hmd, kB, up2⟩ := FF
    dsimp only at kB up2
    have hLg0 : g0.get? L = none := kts_self F0
    have hLsz : g0.objs.size ≤ L' := Nat.le_trans (Nat.le_of_lt (Nat.lt_of_le_of_lt F0.above F0.ns.lt)) F.above
    have hL'g : s.heap.get? L' = none := kts_self F
    have kBs : ∀ b o, s.heap.get? b = some o → b ≠ L → Bs.get? b = some o := by
      intro b o ho hbL
      refine kB b o (F.keep b o ho) fun q => ?_
      obtain ⟨env', he', hb'⟩ := List.mem_filterMap.mp q
      rcases List.mem_cons.mp he' with rfl | he'
      · cases hb'
        rw [hL'g] at ho; cases ho
      · rw [List.mem_singleton.mp he', hf] at hb'
        cases hb'; exact hbL rfl
    have kg0 : ∀ b o, g0.get? b = some o → Bs.get? b = some o := fun b o ho => kBs b o (F0.keep b o ho) fun q => by rw [q, hLg0] at ho; cases ho
    have upS : s.heap.UpToSlots h2 := (Heap.UpToSlots.of_keeps F.keep).trans up2
    clear kB
    refine fly_looks (by rfl) rfl FF2 fun h4 FF4 up4 => ?_
    refine fly_land FF4 fun h5 FF5 up5 => ?_
    have F5 : Fr g0 L' h5 _ := ⟨((up2.trans up4).trans up5).ns F.ns, fun b o ho => FF5.1 b o (kg0 b o ho), hLsz⟩
    have hB59 := FF5.2.2.2
    obtain ⟨oe, vse, T5, oT, ts, hoe, ⟨hoc, hodc⟩, hod, _⟩ := hB59
    refine wpAny_handleBy_cons (codeAny_handlers_test (name_K F5 X0 (topRead_of T0) (v := .ref 59) (by with_unfolding_all rfl) ?_ (by rfl) (by rfl) (by decide))) (by intro q; cases q)
    obtain ⟨nm, q, N9, bs9, hdct, sn, sub, ab, col, dd, k0, k1, k2, k3, k5, hC⟩ := cls59 (w := w)
    refine wpAny_excMatches_sub_self (F5.keep _ _ (X0 _ _ hC)) hoe hoc (by decide) (codeAny_handlers_suite_as ?_)
    refine fly_land FF5 fun h6 FF6 up6 => ?_
    have F6 : Fr g0 L' h6 _ := ⟨(((up2.trans up4).trans up5).trans up6).ns F.ns, fun b o ho => FF6.1 b o (kg0 b o ho), hLsz⟩
    have upT := ((upS.trans up4).trans up5).trans up6
    clear up2 up4 up5 up6 F5 hoe hoc hodc hod FF4 FF5 FF2
    obtain ⟨sB, heB, hfr6, oe, vse, T5, oT, ts, hoe, ⟨hoc, hodc⟩, hod, _⟩ := FF6
    refine stNK (news := []) F6 News.nil (fun h7 F7 N7 hs7 _ => ?_) (by rfl) (by rfl)
    have hLB : Bs.get? L' = none := by
      obtain ⟨_, ⟨L2, _, hf2, hn2, _⟩, _⟩ := hfr6
      obtain rfl : L' = L2 := Option.some.inj hf2
      exact hn2
    have heL : e ≠ L' := by
      intro q
      obtain ⟨o, es, ep, ho, hdt, _⟩ := F6.ns
      rw [← q, hoe] at ho
      cases ho
      rw [hod] at hdt; cases hdt
    have he7 : h7.get? e = some oe := (hs7.2 e heL).trans hoe
    have hDL : D ≠ L' := by
      intro q
      obtain ⟨o, es, ep, ho, _⟩ := hnD
      rw [q, hLB] at ho; cases ho
    have hD7 : h7.Ns1 D md := hnD.at fun o ho => (hs7.2 D hDL).trans (sB D o ho)
    have up7 : Back L s.heap h7 := by
      refine ⟨fun b o ho hbL => ?_, fun b o ho hnf => ?_⟩
      · exact (hs7.2 b fun q => by rw [q, hL'g] at ho; cases ho).trans (sB b o (kBs b o ho hbL))
      · obtain ⟨sl, hsl⟩ := upT b o ho hnf
        exact ⟨sl, (hs7.2 b fun q => by rw [q, hL'g] at ho; cases ho).trans hsl⟩
    clear sB heB hfr6 hoe F6 hnD upT upS kBs kg0
    show wpAny _ _ _ _ _ _
    (try k_fold)
    k_steps
    refine load59 (X0.keeps F7.keep) he7 hoc hod hodc hD7 hmd rfl fun tk8 => ?_
    show wpAny _ _ _ _ _ _
    (try k_fold)
    k_steps
    refine wpAny_nameGoes (by rfl) F7.ns (by rfl) fun h8 m8 hn8 hs8 => ?_
    have up8 : Back L s.heap h8 := by
      refine ⟨fun b o ho hbL => ?_, fun b o ho hnf => ?_⟩
      · exact (hs8.2 b fun q => by rw [q] at ho; exact absurd (ho.symm.trans hL'g) (by simp)).trans (up7.1 b o ho hbL)
      · obtain ⟨sl, hsl⟩ := up7.2 b o ho hnf
        exact ⟨sl, (hs8.2 b fun q => by rw [q] at ho; exact absurd (ho.symm.trans hL'g) (by simp)).trans hsl⟩
    exact hE k t h8 _ hk up8
end
end Mine
end

-- EnumB
section
open PySem PySem.W PyProof.Rows PySem.Calls
set_option Elab.async false
set_option maxRecDepth 100000
namespace Mine
section
variable {prog : Program} {w : World} {A : Around} {E : Value → Shared → Prop} {s : Shared} {b : Array UInt8} {t : Tok} {it : Addr} {i : Nat}
theorem nextB_item {c : UInt8} {Q : Value → Shared → Prop} (hit : KBw.IsBytesIter s.heap it b t i) (hx : b[i]? = some c)
    (hQ : ∀ h', KBw.IsBytesIter h' it b t (i + 1) → Heap.SameBut it s.heap h' → Q (.int (c.toNat : Int) s.toks) { s with heap := h', toks := s.toks + 1 }) : wpAny (model prog w) A (Builtin.SmallTypes.nextOf (.ref it)) Q E s := by
  obtain ⟨o, ho, hc, hd⟩ := id hit
  unfold Builtin.SmallTypes.nextOf
  refine wpAny_bind (wpAny_callSpecial?_slot (name := PySem.Str.ofString "__next__") (KBw.iter_typeIs hit) KBw.slot_next
    (wpAny_call_entry KBw.slot_next (KBw.iter_typeIs hit) KBw.entry_next ?_ (KBw.args_next _)))
  show wpAny _ _ (field (.ref it) 0 >>= _) _ _ s
  refine wpAny_bind (wpAny_field ho hd (x := .bytes b t) rfl ?_)
  show wpAny _ _ (if (Value.bytes b t == Value.none) = true then _ else _) _ _ s
  rw [if_neg (show ¬ ((Value.bytes b t == Value.none) = true) from Bool.false_ne_true)]
  show wpAny _ _ (field (.ref it) 1 >>= _) _ _ s
  refine wpAny_bind (wpAny_field ho hd (x := .int i 0) rfl ?_)
  refine wpAny_bind (wpAny_of_eq (a := b) rfl ?_)
  simp only [Int.toNat_natCast, hx]
  refine wpAny_bind (wpAny_setField ho hd (by simp) (wpAny_bind (wpAny_mkInt (wpAny_pure ⟨_, rfl, wpAny_pure (hQ _ ?_ (Heap.SameBut.update ..))⟩))))
  exact ⟨_, Heap.get?_update_self _ ho (Obj.isFreed_of_fields (Obj.data_mapFields hd _)), (Obj.cls_mapFields ..).trans hc, by
    rw [Obj.data_mapFields hd]; simp [rawInt]⟩
theorem nextB_end {Q : Value → Shared → Prop} (hh : A.handled = none) (hit : KBw.IsBytesIter s.heap it b t i) (hx : b[i]? = none)
    (hE : ∀ h' e, Heap.ExtBut it s.heap h' → (∃ o, h'.get? e = some o ∧ o.cls = .type "StopIteration") → E (.ref e) { s with heap := h' }) : wpAny (model prog w) A (Builtin.SmallTypes.nextOf (.ref it)) Q E s := by
  obtain ⟨o, ho, hc, hd⟩ := id hit
  unfold Builtin.SmallTypes.nextOf
  refine wpAny_bind (wpAny_callSpecial?_slot (name := PySem.Str.ofString "__next__") (KBw.iter_typeIs hit) KBw.slot_next
    (wpAny_call_entry KBw.slot_next (KBw.iter_typeIs hit) KBw.entry_next ?_ (KBw.args_next _)))
  show wpAny _ _ (field (.ref it) 0 >>= _) _ _ s
  refine wpAny_bind (wpAny_field ho hd (x := .bytes b t) rfl ?_)
  show wpAny _ _ (if (Value.bytes b t == Value.none) = true then _ else _) _ _ s
  rw [if_neg (show ¬ ((Value.bytes b t == Value.none) = true) from Bool.false_ne_true)]
  show wpAny _ _ (field (.ref it) 1 >>= _) _ _ s
  refine wpAny_bind (wpAny_field ho hd (x := .int i 0) rfl ?_)
  refine wpAny_bind (wpAny_of_eq (a := b) rfl ?_)
  simp only [Int.toNat_natCast, hx]
  refine wpAny_bind (wpAny_rule (wpAny_bind (wpAny_setField ho hd (by simp) ?_)))
  show wpAny _ _ (newExc (.type "StopIteration") [] >>= _) _ _ _
  refine wpAny_bind ?_
  simp only [newExc, newTuple]
  refine wpAny_bind (wpAny_newObj_type ?_ (by size_fits))
  refine wpAny_bind (m := firstArgMember _ _) (wpAny_of_eq (a := Value.none) (by first | rfl | (simp only [firstArgMember]; rfl)) ?_)
  refine wpAny_newObj_type ?_ (by size_fits)
  simp only [raiseNew]
  refine wpAny_bind (wpAny_handled ?_)
  first | rw [show A.in1.handled = none from hh] | rw [hh]
  refine wpAny_bind (wpAny_pure (wpAny_throw ?_))
  exact hE _ _ (((Heap.SameBut.update ..).extBut.push _).push _) ⟨_, Heap.get?_push_size _ rfl, rfl⟩
theorem draws_bytes (hh : A.handled = none) (it : Addr) (b : Array UInt8) (t : Tok) :
    Draws prog w A it [it] b.size (fun i v => ∃ c u, b[i]? = some c ∧ v = .int (c.toNat : Int) u) (fun i h => KBw.IsBytesIter h it b t i) where
  live := fun _ _ st => let ⟨o, ho, _⟩ := st; ⟨o, ho⟩
  frame := fun _ _ _ st hk => let ⟨o, ho, r⟩ := st; ⟨o, hk it (by simp) o ho, r⟩
  item := fun i s Q E hi st hQ => nextB_item st (c := b[i]) (by simp [hi]) fun h' hit' hs' => hQ _ h' _ ⟨_, _, by simp [hi], rfl⟩ hit' hs'
  done := fun s Q E st hE => nextB_end hh st (by simp) hE
set_option maxHeartbeats 1000000 in
theorem meets_enumB (x : Array UInt8) (t : Tok) :
    Meets (Builtin.«enumerate.__new__» ⟨[.type "enumerate", .bytes x t], []⟩) (fun _ R s =>
      R (.ok (.ret (.ref (s.heap.push { cls := .type "bytes_iterator", data := .fields #[.bytes x t, .int 0 0] }).objs.size)))
        { s with heap := (s.heap.push { cls := .type "bytes_iterator", data := .fields #[.bytes x t, .int 0 0] }).push { cls := .type "enumerate", data := .fields #[.none, .bool false, .ref s.heap.objs.size, rawInt 0, .none, .none] } }) :=
  .of_wp fun prog w A R s h => by
    obtain ⟨hp, g, d, tk, os⟩ := s
    have hsub := sub_enumerate
    wp_walk
    refine wpAny_stack_any fun st => wpAny_pure ?_
    split
    · rename_i c _ _ _ _ _
      cases (c == Value.type "enumerate")
      · wp_walk using KBw.pyIter_bytes
        exact ⟨_, rfl, h⟩
      · wp_walk using KBw.pyIter_bytes
        exact ⟨_, rfl, h⟩
    · wp_walk using KBw.pyIter_bytes
      exact ⟨_, rfl, h⟩
theorem call_enumB {x : Array UInt8} {t : Tok} {Q : Value → Shared → Prop}
    (h : ∀ h', IsEnum h' (s.heap.objs.size + 1) s.heap.objs.size 0 .none → KBw.IsBytesIter h' s.heap.objs.size x t 0 → Kept s.heap h' → Q (.ref (s.heap.objs.size + 1)) { s with heap := h' }) :
    wpAny (model prog w) A (call (.type "enumerate") [.bytes x t]) Q E s := by
  refine callType_new PySem.F.called_enumerate (by decide) (PySem.F.typeCall_enumerate_1 _) (PySem.F.newCall_enumerate_1 _) (fun obj => PySem.F.args_object_init_2 obj _) PySem.F.entry_enumerate_new
    (meets_enumB x t) ?_
  have hz : (s.heap.push { cls := .type "bytes_iterator", data := .fields #[.bytes x t, .int 0 0] }).objs.size = s.heap.objs.size + 1 := Heap.size_push ..
  show _ ∧ _
  rw [hz]
  have he : IsEnum ((s.heap.push { cls := .type "bytes_iterator", data := .fields #[.bytes x t, .int 0 0] }).push
      { cls := .type "enumerate", data := .fields #[.none, .bool false, .ref s.heap.objs.size, rawInt 0, .none, .none] }) (s.heap.objs.size + 1) s.heap.objs.size 0 .none := by
    have := Heap.get?_push_size (s.heap.push { cls := .type "bytes_iterator", data := .fields #[.bytes x t, .int 0 0] })
      (o := { cls := .type "enumerate", data := .fields #[.none, .bool false, .ref s.heap.objs.size, rawInt 0, .none, .none] }) rfl
    rw [hz] at this; exact this
  refine ⟨⟨_, he, rfl⟩, h _ he ⟨_, Heap.get?_push_of_some _ (Heap.get?_push_size _ rfl), rfl, rfl⟩ fun b o y => Heap.get?_push_of_some _ (Heap.get?_push_of_some _ y)⟩
/-- the pairs of an enumerate over bytes -/
theorem enumB_src {env : Env} {h₀ : Heap} {m : Str → Option Value} {news : List (Addr × Obj)} {e : Addr} {ks : List Int} (hh : A.handled = none) (hk : KBw.bInts b = ks)
    (he : IsEnum s.heap e it 0 .none) (hst : KBw.IsBytesIter s.heap it b t 0) (hei : e ≠ it) (hL : env.locals ≠ e ∧ env.locals ≠ it) (hne : h₀.get? e = none) (hni : h₀.get? it = none)
    (hfn : ∀ q ∈ news, e ≠ q.1 ∧ it ≠ q.1) (F : Fr h₀ env.locals s.heap m) (N : News h₀ env.locals s.heap news) : PairSrc prog w A E h₀ env ItemKind.int ks (.ref e) s m news := by
  refine enumSrc (draws_bytes (A := A.in1) hh it b t) he hst hei (by simpa using hei) (by simp) (by simpa using hL) hne hni ?_ (by rw [← hk, KBw.ints_length]) ?_ F N
  · intro x hx q hq
    rcases List.mem_cons.mp hx with rfl | hx
    · exact (hfn q hq).1
    · rw [List.mem_singleton.mp hx]; exact (hfn q hq).2
  · rintro i v ⟨c, u, hc, rfl⟩
    exact ⟨(c.toNat : Int), by rw [← hk]; exact KBw.ints_get hc, u, rfl⟩
end
end Mine
end

-- BytesIn
section
open PySem PySem.W PyProof.Rows PySem.Calls Builtin Builtin.Bytes
set_option Elab.async false
set_option maxRecDepth 100000
namespace Mine
theorem buf_in (b : Array UInt8) (t : Tok) : buffer? "bytes.__contains__" (.bytes b t) = pure (some b) := by kernel_rfl
theorem asIdx (i : Int) (t : Tok) : asIndex (.int i t) = pure i := by kernel_rfl
theorem slot_index : Slot "bytes" "index" "bytes.index" :=
  .of (owner := "bytes") (n := "index") (by rw [typeLookup_type, builtinLookup_eq_fast]; kernel_rfl) (by decide +kernel) (by decide +kernel) (by decide +kernel)
    (by first | exact .inl (by decide +kernel) | exact .inr (by decide +kernel)) (by rw [isSubtype_type]; kernel_rfl)
theorem type_index : typeOf (.builtin "bytes.index") = pure (.type "method_descriptor") := by show builtinType _ = _; rw [builtinType_eq_fast]; kernel_rfl
theorem entry_index : entryFor table "bytes.index" = some Builtin.«bytes.index» := entryFor_of_tree (by kernel_rfl)
theorem args_index (a b : Value) : argsOk "bytes.index" ⟨[a, b], []⟩ := by unfold argsOk; kernel_rfl
end Mine
namespace Mine
theorem contains_ints {b : Array UInt8} {i : Int} (h0 : 0 ≤ i) (h1 : i < 256) : b.contains i.toNat.toUInt8 = decide (i ∈ KBw.bInts b) := by
  rw [Bool.eq_iff_iff, Array.contains_iff_mem, decide_eq_true_eq]
  unfold KBw.bInts
  rw [List.mem_map]
  constructor
  · intro h
    refine ⟨i.toNat.toUInt8, Array.mem_toList_iff.mpr h, ?_⟩
    show ((UInt8.ofNat i.toNat).toNat : Int) = i
    rw [UInt8.toNat_ofNat']
    omega
  · rintro ⟨c, hc, rfl⟩
    simpa using hc
theorem buf_ix (b : Int) (t : Tok) : buffer? "bytes.index" (.int b t) = pure none := by kernel_rfl
theorem sp_ix (b : Int) (t : Tok) : specialOf (.int b t) "__index__" = pure (some (.builtin "int.__index__")) := by kernel_rfl
theorem extract_one (b : Array UInt8) (j : Nat) (c : UInt8) : (b.extract j (j + 1) == #[c]) = decide (b[j]? = some c) := by
  rw [Bool.eq_iff_iff, beq_iff_eq, decide_eq_true_eq]
  by_cases hj : j < b.size
  · rw [Array.getElem?_eq_getElem hj]
    have : b.extract j (j + 1) = #[b[j]] := by
      apply Array.ext
      · simp; omega
      · intro k h1 h2
        have : k = 0 := by simpa using h2
        subst this
        simp
    rw [this]
    simp
  · rw [Array.getElem?_eq_none (by omega)]
    have : b.extract j (j + 1) = #[] := by
      apply Array.eq_empty_of_size_eq_zero
      simp; omega
    rw [this]
    simp
theorem find_one {b : Array UInt8} {i : Int} {ks : List Int} (hk : KBw.bInts b = ks) (h0 : 0 ≤ i) (h1 : i < 256) (hin : i ∈ ks) : Bytes.find? b #[i.toNat.toUInt8] 0 b.size = some (ks.idxOf i) := by
  subst hk
  have hlt := List.idxOf_lt_length_of_mem hin
  have hget : ∀ j : Nat, (b[j]? = some i.toNat.toUInt8) ↔ (KBw.bInts b)[j]? = some i := by
    intro j
    unfold KBw.bInts
    rw [List.getElem?_map, Array.getElem?_toList]
    cases b[j]? with
    | none => simp
    | some c =>
      simp only [Option.some.injEq, Option.map_some]
      constructor
      · rintro rfl
        show ((UInt8.ofNat i.toNat).toNat : Int) = i
        rw [UInt8.toNat_ofNat']; omega
      · rintro rfl
        simp
  unfold Bytes.find?
  have hsz : b.size + 1 - (0 + (#[i.toNat.toUInt8] : Array UInt8).size) = b.size := by simp
  rw [hsz]
  have hm : ((List.range b.size).map fun x => x + 0) = List.range b.size := by simp
  rw [hm, List.find?_range_eq_some]
  simp only [List.size_toArray, List.length_cons, List.length_nil, Nat.zero_add, extract_one, decide_eq_true_eq, Bool.not_eq_eq_eq_not, Bool.not_true, decide_eq_false_iff_not, List.mem_range]
  refine ⟨(hget _).mpr ?_, by rw [← KBw.ints_length]; exact hlt, fun j hj => ?_⟩
  · rw [List.getElem?_eq_getElem hlt, List.getElem_idxOf]
  · rw [hget]
    intro q
    obtain ⟨hj', e⟩ := List.getElem?_eq_some_iff.mp q
    have := List.not_of_lt_findIdx (p := (· == i)) (xs := KBw.bInts b) (i := j) hj
    simp at this
    exact this e
section
variable {prog : Program} {w : World} {A : Around} {E : Value → Shared → Prop} {s : Shared} {b : Array UInt8} {t u : Tok} {i : Int} {ks : List Int}
theorem containsIn_run {M : Model} {Q : Bool → Shared → Prop} (hk : KBw.bInts b = ks) (h0 : 0 ≤ i) (h1 : i < 256) (h : Q (decide (i ∈ ks)) s) : wpAny M A (containsIn "bytes.__contains__" (.bytes b t) (.int i u)) Q E s := by
  unfold containsIn
  rw [asIdx, buf_in]
  refine wpAny_bind (wpAny_attempt (wpAny_pure (wpAny_bind (wpAny_pure ?_))))
  dsimp only
  rw [if_neg (by simp only [Bool.or_eq_true, decide_eq_true_eq]; omega), contains_ints h0 h1, hk]
  exact wpAny_pure h
theorem notin_bytes {Q : Value → Shared → Prop} (hk : KBw.bInts b = ks) (h0 : 0 ≤ i) (h1 : i < 256) (h : Q (.bool (!decide (i ∈ ks))) s) : wpAny (model prog w) A (compareOp .NotIn (.int i u) (.bytes b t)) Q E s := by
  refine NotIn_slot (typeIs_bytes _ _ _) FB.slot_bytes_contains (wpAny_call_entry FB.slot_bytes_contains (typeIs_bytes _ _ _) FB.entry_bytes_contains ?_ (FB.args_bytes_contains_2 _ _))
  unfold Builtin.«bytes.__contains__»
  refine wpAny_bind (wpAny_pure ?_)
  dsimp only
  refine wpAny_bind (containsIn_run hk h0 h1 ?_)
  refine wpAny_pure ⟨_, rfl, ?_⟩
  exact wpAny_truthy_bool h
theorem index_bytes {Q : Value → Shared → Prop} (hk : KBw.bInts b = ks) (hz : ks.length ≤ 1000) (h0 : 0 ≤ i) (h1 : i < 256) (hin : i ∈ ks) (h : ∀ t' tk, Q (.int ((ks.idxOf i : Nat) : Int) t') { s with toks := tk }) :
    wpAny (model prog w) A (call (.builtin "bytes.index") [.bytes b t, .int i u]) Q E s := by
  refine wpAny_call (codeAny_call_builtin slot_index.plain entry_index (slot_index.check _ _ _ _ _ _ _ _ (typeIs_bytes _ _ _) (args_index _ _) ?_))
  unfold Builtin.«bytes.index» searchM searchArgs
  rw [show (toString Kind.bytes.name ++ toString "." ++ toString "index" : String) = "bytes.index" from by decide +kernel]
  refine wpAny_bind (wpAny_bind (wpAny_pure (wpAny_bind (wpAny_pure (wpAny_bind (wpAny_pure ?_))))))
  dsimp only
  show wpAny _ _ (buffer? "bytes.index" (.int i u) >>= _) _ _ _
  rw [buf_ix]
  refine wpAny_bind (wpAny_pure ?_)
  dsimp only
  show wpAny _ _ (specialOf (.int i u) "__index__" >>= _) _ _ _
  rw [sp_ix]
  refine wpAny_bind (wpAny_pure ?_)
  rw [if_neg (by decide)]
  refine wpAny_bind ?_
  show wpAny _ _ (indexHeld _ (.int i u)) _ _ _
  unfold indexHeld
  refine wpAny_bind (wpAny_of_eq (a := some i) rfl ?_)
  show wpAny _ _ (asIndex (.int i u)) _ _ _
  rw [asIdx]
  refine wpAny_pure ?_
  rw [if_neg (by simp only [Bool.or_eq_true, decide_eq_true_eq]; omega)]
  refine wpAny_bind (wpAny_pure (wpAny_bind (wpAny_pure (wpAny_pure ?_))))
  have hlen : b.size = ks.length := by rw [← hk, KBw.ints_length]
  have hpos : 0 < ks.length := List.length_pos_of_mem hin
  have hwin : (if (window b.size none none).snd - (window b.size none none).fst < ((#[i.toNat.toUInt8] : Array UInt8).size : Int) then none else some ((window b.size none none).fst.toNat, (window b.size none none).snd.toNat)) = some (0, b.size) := by
    have h1 : (window b.size none none).1 = 0 := by unfold window; simp
    have h2 : (window b.size none none).2 = (b.size : Int) := by
      unfold window
      simp only [Option.getD_none]
      rw [if_neg (by omega)]; omega
    rw [h1, h2, if_neg (by simp; omega)]
    simp
  dsimp only
  rw [hwin]
  dsimp only [Option.bind_some]
  rw [if_neg Bool.false_ne_true, find_one hk h0 h1 hin]
  exact wpAny_bind (wpAny_mkInt (wpAny_pure (h _ _)))
end
end Mine
end

-- Plain3
section
open PySem PySem.W PyProof.Rows PySem.Calls
set_option Elab.async false
namespace Mine
/-- the digits of a number, the highest first -/
def digs (B : Int) (cnt : Nat) (T : Int) : List Int := (List.range cnt).map fun (i : Nat) => T / B ^ (cnt - 1 - i) % B
theorem digs_length (B : Int) (cnt : Nat) (T : Int) : (digs B cnt T).length = cnt := by simp [digs]
theorem digs_snoc {B : Int} (hB : 1 < B) (cnt : Nat) (T : Int) : digs B (cnt + 1) T = digs B cnt (T / B) ++ [T % B] := by
  unfold digs
  rw [List.range_succ, List.map_append]
  congr 1
  · refine List.map_congr_left fun i hi => ?_
    have hi := List.mem_range.mp hi
    rw [Int.ediv_ediv_of_nonneg (by omega), show cnt + 1 - 1 - i = cnt - 1 - i + 1 from by omega, Int.pow_succ, Int.mul_comm]
  · simp
theorem digs_in {B : Int} (hB : 1 < B) {cnt : Nat} {T : Int} : ∀ b ∈ digs B cnt T, 0 ≤ b ∧ b < B := by
  intro b hb
  obtain ⟨i, _, rfl⟩ := List.mem_map.mp hb
  exact ⟨Int.emod_nonneg _ (by omega), Int.emod_lt_of_pos _ (by omega)⟩
theorem tot_digs {B : Int} (hB : 1 < B) : ∀ (cnt : Nat) (T : Int), 0 ≤ T → T < B ^ cnt → tot B (digs B cnt T) = T := by
  intro cnt
  induction cnt with
  | zero =>
    intro T h0 h1
    have h1 : T < 1 := by simpa using h1
    have : T = 0 := by omega
    subst this
    rfl
  | succ n ih =>
    intro T h0 h1
    rw [digs_snoc hB, tot_snoc, ih (T / B) (Int.ediv_nonneg h0 (by omega))]
    · exact Int.mul_ediv_add_emod T B
    · rw [Int.pow_succ] at h1
      exact Int.ediv_lt_of_lt_mul (by omega) h1
theorem snoc_of {α : Type} {os : List α} {n : Nat} (hn : os.length = n + 1) : ∃ r k, os = r ++ [k] ∧ r.length = n := by
  have hne : os ≠ [] := by intro e; rw [e] at hn; cases hn
  exact ⟨os.dropLast, os.getLast hne, (List.dropLast_concat_getLast _).symm, by rw [List.length_dropLast]; omega⟩
theorem digs_tot {B : Int} (hB : 1 < B) : ∀ (n : Nat) (ds : List Int), ds.length = n → (∀ d ∈ ds, 0 ≤ d ∧ d < B) → digs B n (tot B ds) = ds := by
  intro n
  induction n with
  | zero => intro ds hl _; rw [List.eq_nil_of_length_eq_zero hl]; rfl
  | succ n ih =>
    intro ds hl h
    obtain ⟨r, k, rfl, hr⟩ := snoc_of hl
    have hk := h k (by simp)
    rw [digs_snoc hB, tot_snoc]
    have e1 : (B * tot B r + k) / B = tot B r := by
      rw [Int.add_comm, Int.add_mul_ediv_left _ _ (by omega), Int.ediv_eq_zero_of_lt hk.1 hk.2, Int.zero_add]
    have e2 : (B * tot B r + k) % B = k := by
      rw [Int.add_comm, Int.add_mul_emod_self_left, Int.emod_eq_of_lt hk.1 hk.2]
    rw [e1, e2, ih r hr fun d hd => h d (List.mem_append_left _ hd)]
theorem sum_mul (B : Int) : ∀ l : List Int, (l.map fun x => B * x).sum = B * l.sum
  | [] => by simp
  | a :: r => by simp [sum_mul B r, Int.mul_add]
theorem weigh_tot (B : Int) : ∀ (n : Nat) (c : List Int), c.length = n → ((List.range n).map fun (i : Nat) => c.getD i 0 * B ^ (n - 1 - i)).sum = tot B c := by
  intro n
  induction n with
  | zero => intro c hl; rw [List.eq_nil_of_length_eq_zero hl]; rfl
  | succ n ih =>
    intro c hl
    obtain ⟨r, k, rfl, hr⟩ := snoc_of hl
    rw [tot_snoc, ← ih r hr, ← sum_mul, List.map_map, List.range_succ, List.map_append, List.sum_append]
    congr 1
    · congr 1
      refine List.map_congr_left fun i hi => ?_
      have hi := List.mem_range.mp hi
      show (r ++ [k]).getD i 0 * B ^ (n + 1 - 1 - i) = B * (r.getD i 0 * B ^ (n - 1 - i))
      rw [show n + 1 - 1 - i = n - 1 - i + 1 from by omega, Int.pow_succ, List.getD_eq_getElem?_getD, List.getElem?_append_left (by omega), ← List.getD_eq_getElem?_getD]
      generalize B ^ (n - 1 - i) = z
      rw [← Int.mul_assoc, Int.mul_comm]
    · simp [List.getD_eq_getElem?_getD, ← hr]
theorem lawNum_tot {sz : Nat} {bs : List Int} {a : Nat} (h : sz * (a + 1) ≤ bs.length) : lawNum sz bs a = tot 2 ((bs.drop (sz * a)).take sz) := by
  have hlen : ((bs.drop (sz * a)).take sz).length = sz := by
    rw [List.length_take, List.length_drop]
    rw [Nat.mul_succ] at h
    omega
  rw [← weigh_tot 2 sz _ hlen]
  unfold lawNum
  congr 1
  refine List.map_congr_left fun i hi => ?_
  have hi := List.mem_range.mp hi
  rw [List.getD_eq_getElem?_getD, List.getD_eq_getElem?_getD, List.getElem?_take_of_lt hi, List.getElem?_drop]
theorem lawNumbers_length (sz : Nat) (bs : List Int) : (lawNumbers sz bs).length = bs.length / sz := by simp [lawNumbers]
theorem lawBits_bit {sz : Nat} {ns : List Int} : ∀ b ∈ lawBits sz ns, 0 ≤ b ∧ b < 2 := by
  intro b hb
  obtain ⟨n, _, hb⟩ := List.mem_flatMap.mp hb
  obtain ⟨i, _, rfl⟩ := List.mem_map.mp hb
  exact ⟨Int.emod_nonneg _ (by omega), Int.emod_lt_of_pos _ (by omega)⟩
theorem lawNumbers_in {sz : Nat} {bs : List Int} (hb : ∀ b ∈ bs, 0 ≤ b ∧ b < 2) : ∀ n ∈ lawNumbers sz bs, 0 ≤ n ∧ n < 2 ^ sz := by
  intro n hn
  obtain ⟨a, ha, rfl⟩ := List.mem_map.mp hn
  have ha := List.mem_range.mp ha
  have h1 : sz * (a + 1) ≤ bs.length := Nat.le_trans (Nat.mul_le_mul_left sz ha) (Nat.mul_div_le _ _)
  rw [lawNum_tot h1]
  have hlen : ((bs.drop (sz * a)).take sz).length = sz := by
    rw [List.length_take, List.length_drop]
    rw [Nat.mul_succ] at h1
    omega
  have := tot_bound (B := 2) (by decide) ((bs.drop (sz * a)).take sz) fun k hk => hb k (List.mem_of_mem_drop (List.mem_of_mem_take hk))
  rwa [hlen] at this
end Mine
end

-- G10
section
open PySem PySem.W PyProof.Rows PySem.Calls
set_option Elab.async false
set_option maxRecDepth 100000
namespace Mine
open PyProof.Rows.LCg
local macro_rules | `(tactic| k_all) => `(tactic| assumption)
local macro_rules | `(tactic| walk_at "eval ListComp") => `(tactic| (k_here; k_dflt (refine ListComp_it (by k_asm) (by with_unfolding_all rfl) (by decide) (by rfl) (by decide) (by rfl) ?_)))
local macro_rules | `(tactic| walk_at "call ref") => `(tactic| refine Stop.out ?_)
local macro_rules | `(tactic| walk_at "compareOp In int ref") => `(tactic| refine Stop.out ?_)
local macro_rules | `(tactic| walk_at "call type:bytes") => `(tactic| refine Stop.out ?_)

section
variable {prog : Program} {w : World} {mean : ExcName → Option Value} {mg mb : Str → Option Value} {dp un : Nat} {gd : Option (List Code)} {env : Env} {outer : List Env} {s : Shared}
  {E : Value → Shared → Prop} {Q : Value → Shared → Prop}

theorem in_ints {A : Around} {D : Addr} {ys : List Value} {ns : List Int} {x : Int} {u : Tok} (hl : s.heap.IsList D ys.toArray) (hi : IntsAre ys ns) (h : Q (.bool (decide (x ∈ ns))) s) :
    wpAny (model prog w) A (compareOp .In (.int x u) (.ref D)) Q E s := by
  refine SeqAt.in_listAt (fun y => match y with | .int i _ => i == x | _ => false) hl ?_ ?_
  · intro y hy
    replace hy : y ∈ ys := by simpa using hy
    clear hl h
    induction hi with
    | nil => cases hy
    | cons n t hi ih =>
      rcases List.mem_cons.mp hy with rfl | hy
      · exact SeqAt.EqAt.int_int _ _ _ _
      · exact ih (by simpa using hy)
  · have e : (ys.toArray.any fun y => match y with | .int i _ => i == x | _ => false) = decide (x ∈ ns) := by
      rw [List.any_toArray]
      clear hl h
      induction hi with
      | nil => rfl
      | cons n t hi ih =>
        rw [List.any_cons, ih]
        by_cases hx : n = x
        · subst hx; simp
        · have hx' : ¬ x = n := fun e => hx e.symm
          simp [hx, hx']
    rw [e]; exact h
def DueJ (b : Array UInt8) (tb : Tok) (L' : Addr) (o1 : Obj) (ss as : List Int) (i : Nat) (m : Str → Option Value) (nx : List (Addr × Obj)) : Prop :=
  ∃ u1 u2, m = (fun y => if y = Str.ofString "at" then u1 else if y = Str.ofString "code" then u2 else if y = Str.ofString "row" then some (.bytes b tb) else none) ∧ nx = [(L' + 1, o1)] ∧ ∀ x ∈ ss.take i, x ∈ as
set_option maxHeartbeats 4000000 in
theorem law_due_call {b al : Array UInt8} {tb ta : Tok} {ss as : List Int} (C : CallAt w mean mg mb env outer s.heap) (hd : dp + 12 ≤ 900)
    (hb : KBw.bInts b = ss) (hl : ss.length ≤ 20) (ha : KBw.bInts al = as) (hal : as.length = 64)
    (hQ : ∀ v h' tk, Kept s.heap h' → DueIs v ss as → Q v { s with heap := h', toks := tk }) :
    wpAny (model prog w) (A1 dp un gd (env :: outer)) (call (.ref 124) [.bytes b tb, .bytes al ta]) Q E s := by
  refine' enter_cells (binds := [(Str.ofString "row", .bytes b tb), (Str.ofString "alphabet", .bytes al ta)]) (m := (fun y => if y = Str.ofString "row" then some (.bytes b tb) else none)) (cm := (fun y => if y = Str.ofString "alphabet" then some (.bytes al ta) else none))
    C ?ko ?kcd (by simp only [recursionLimit]; omega) ?kbind ?kkind ?knd ?km ?kcm ?_ ?c1 ?c2 ?c3
  case ko => k_is
  case kcd => k_is
  case kbind => exact BindsTo.of_eq rfl
  case kkind => rfl
  case knd => decide +kernel
  case km => intro _; rfl
  case kcm => intro _; rfl
  case c1 => rfl
  case c2 => rfl
  case c3 => rfl
  intro base L' h1 tk' cells B F N Y X T
  k_cells Y
  (try dsimp only)
  (try k_fold)
  rename_i o1 d1
  replace d1 : o1.data = .cell (some (.bytes al ta)) := d1
  k_steps
  rename Fr _ _ _ _ => F2
  rename News _ _ _ _ => N2
  (try dsimp only at F2 N2)
  refine call_enumB fun h2 he2 hit2 k2 => ?_
  have hf2 := fresh_at F2
  have F3 := F2.keeps k2
  have N3 := news_kept N2 k2
  have hI1 := hf2 h1.objs.size (Nat.le_refl _)
  have hI2 := hf2 (h1.objs.size + 1) (Nat.le_succ _)
  have hlt1 : @LT.lt Nat _ (L' + 1) h1.objs.size := Heap.lt_size (N2 _ List.mem_cons_self).1
  refine enumB_src (ks := ss) (by rfl) hb he2 hit2 (Nat.succ_ne_self _) ⟨Ne.symm hI2.1, Ne.symm hI1.1⟩ hI2.2 hI1.2 (by intro q hq; rw [List.mem_singleton.mp hq]; exact ⟨neN (by omega), neN (by omega)⟩) F3 N3
    _ _ _ _ (DueJ b tb L' o1 ss as) ⟨none, none, ?_, rfl, by simp⟩ ?_ ?_
  · funext y
    by_cases h1 : y = Str.ofString "at"
    · subst h1; rfl
    · by_cases h2 : y = Str.ofString "code"
      · subst h2; rfl
      · simp only [if_neg h1, if_neg h2]
  · rintro i x t v m₁ nx s₁ own ⟨h4, tk4, rfl⟩ hx ⟨tv, rfl⟩ ⟨u1, u2, rfl, rfl, hin⟩ _ hown F4 N4
    have hown2 : ∀ p ∈ own, p.1 ≠ L' + 1 := fun p hp => hown p hp _ List.mem_cons_self
    clear hown F2 N2 F3 N3 he2 hit2 hf2
    show wpAny _ _ _ _ _ _
    (try k_fold)
    k_steps
    have hx256 := KBw.ints_in (hb ▸ List.mem_of_getElem? hx)
    have hi20 : i < ss.length := (List.getElem?_eq_some_iff.mp hx).1
    refine notin_bytes ha hx256.1 hx256.2 ?_
    by_cases hxa : x ∈ as
    · rw [decide_eq_true hxa]
      have hin' : ∀ y ∈ ss.take (i + 1), y ∈ as := by
        intro y hy
        rw [List.take_add_one, hx] at hy
        rcases List.mem_append.mp hy with hy | hy
        · exact hin y hy
        · simp at hy; rw [hy]; exact hxa
      show wpAny _ _ _ _ _ _
      (try k_fold)
      k_steps
      refine ⟨some (.int i t), some (.int x tv), ?_, rfl, hin'⟩
      funext y
      by_cases h1 : y = Str.ofString "at"
      · subst h1; rfl
      · by_cases h2 : y = Str.ofString "code"
        · subst h2; rfl
        · simp only [if_neg h1, if_neg h2]
    · rw [decide_eq_false hxa]
      show wpAny _ _ _ _ _ _
      (try k_fold)
      k_steps
      exact hQ _ _ _ F4.keep (Or.inl ⟨i, x, t, rfl, hx, hxa, hin⟩)
  · intro h4 tk4 m' nx F4 N4 _ ⟨u1, u2, hm', hnx, hin⟩
    subst hm'
    subst hnx
    rw [List.take_length] at hin
    clear F2 N2 F3 N3 he2 hit2 hf2
    show wpAny _ _ _ _ _ _
    (try k_fold)
    k_steps
    · rename Int.fmod _ _ = _ => hmod
      rw [Int.fmod_eq_emod_of_nonneg _ (by decide)] at hmod
      exact hQ _ _ _ F4.keep (Or.inr ⟨hin, Or.inl ⟨_, rfl, Or.inl (by omega)⟩⟩)
    · rename Int.fmod _ _ ≠ _ => hmod
      rw [Int.fmod_eq_emod_of_nonneg _ (by decide)] at hmod
      replace hmod : ss.length % 4 ≠ 1 := by omega
      have hbl : b.size = ss.length := by rw [← hb, KBw.ints_length]
      refine CompAt.bytes (by rfl) F4 N4 (by rw [hbl, PySem.sizeLine_eq]; omega) ?_
      intro g
      refine comp_ints (ks := ss) (fun x => ((as.idxOf x : Nat) : Int)) hbl.symm ?_ ?_ ?_
      · rintro j v hj ⟨c, u, hc, rfl⟩
        exact ⟨_, u, by rw [← hb]; exact KBw.ints_get hc, rfl⟩
      · intro k t2 I2 oI2 C2 oC2 D2 m₂ ys2 h6 tk7 E2 hk2 hC2 hx2 F6 N6 off2 ne2
        have hk256 := KBw.ints_in (hb ▸ hk2)
        clear F4 N4
        dsimp only at F6 N6 ⊢
        show wpAny _ _ _ _ _ _
        (try k_fold)
        k_steps
        refine KBd.method_of (.bytes al _) (typeIs_bytes _ _ _) slot_index type_index KBd.noRef ?_
        k_steps
        refine index_bytes ha (by omega) hk256.1 hk256.2 (hin _ hk2) fun t' tk' => ?_
        exact ⟨_, _, _, rfl, F6, N6, off2, trivial, rfl, _, rfl⟩
      · intro ys2 hy2 D2 h8 tk8 F8 N8 o8
        replace hy2 : IntsAre ys2 (worthsOf ss as) := hy2
        have hwin := worthsOf_in hal hin
        have hwl := worthsOf_length ss as
        generalize hws : worthsOf ss as = ws at *
        clear F4 N4
        show wpAny _ _ _ _ _ _
        (try k_fold)
        k_steps
        refine law_bits_call (dp := dp + 1) (un := un + 3) (sz := 6) (CallAt.of B F8 rfl rfl X T) (by omega) (IterInts.list (News.isList N8 (List.mem_cons_self ..)) hy2) (fun n hn => ⟨(hwin n hn).1, Int.lt_trans (hwin n hn).2 (by decide)⟩) (by omega) (by decide) ?_
        intro D9 vs9 h9 tk9 k9 hD90 hD9 hv9
        have N9 := news_fresh F8 N8 k9 hD90 hD9
        have F9 := F8.keeps k9
        have hbl9 := lawBits_length 6 ws
        clear F8 N8
        show wpAny _ _ _ _ _ _
        (try k_fold)
        have hfd : ((lawBits 6 ws).length : Int).fdiv 8 * 8 = (((lawBits 6 ws).length / 8 * 8 : Nat) : Int) := by rw [Int.fdiv_eq_ediv_of_nonneg _ (by omega)]; omega
        have hpos : 0 ≤ ((lawBits 6 ws).length : Int).fdiv 8 * 8 := by omega
        have hle : (lawBits 6 ws).length / 8 * 8 ≤ (lawBits 6 ws).length := by omega
        have hlen9 : (lawBits 6 ws).length ≤ 120 := by omega
        k_steps
        rename IntsAre _ (List.drop _ _) => hi10
        rename Fr _ _ _ _ => F10
        rename News _ _ _ _ => N10
        (try dsimp only at F10 N10 hi10 ⊢)
        rw [hfd, Int.toNat_natCast] at hi10
        refine in_ints (News.isList N10 (List.mem_cons_self ..)) hi10 ?_
        clear hpos hfd
        by_cases h1b : (1 : Int) ∈ (lawBits 6 ws).drop ((lawBits 6 ws).length / 8 * 8)
        · rw [decide_eq_true h1b]
          show wpAny _ _ _ _ _ _
          (try k_fold)
          k_steps
          exact hQ _ _ _ F10.keep (Or.inr ⟨hin, Or.inl ⟨_, rfl, Or.inr (by rw [hws]; exact h1b)⟩⟩)
        · rw [decide_eq_false h1b]
          show wpAny _ _ _ _ _ _
          (try k_fold)
          k_steps
          refine law_numbers_call (dp := dp + 1) (un := un + 3) (sz := 8) (CallAt.of B F10 rfl rfl X T) (by omega) (News.isList N10 (List.mem_cons_of_mem _ (List.mem_cons_self ..))) hv9 (fun b hb => lawBits_bit b hb) (by omega) (by decide) (by decide) ?_
          intro D12 vs12 h12 tk12 k12 hD120 hD12 hv12
          have N12 := news_fresh F10 N10 k12 hD120 hD12
          have F12 := F10.keeps k12
          have hn12 : (lawNumbers 8 (lawBits 6 ws)).length ≤ 1000 := by rw [lawNumbers_length]; omega
          have hin12 := lawNumbers_in (sz := 8) (bs := lawBits 6 ws) (fun b hb => lawBits_bit b hb)
          clear F10 N10 F9 N9
          show wpAny _ _ _ _ _ _
          (try k_fold)
          k_steps
          refine KBa.make_K F12 N12 rfl (News.isList N12 (List.mem_cons_self ..)) hv12 (fun n hn => hin12 n hn) (by omega) fun h13 tb13 k13 F13 N13 _ => ?_
          exact hQ _ _ _ F13.keep (Or.inr ⟨hin, Or.inr ⟨_, _, rfl, by rw [hws]; exact KBa.ints_make (fun n hn => hin12 n hn), hmod, by rw [hws]; exact h1b⟩⟩)
end
end Mine
end

-- DrawF
section
open PySem PySem.W PyProof.Rows PySem.Calls
set_option Elab.async false
set_option maxRecDepth 100000
namespace Mine
open PyProof.Rows.LCg
local macro_rules | `(tactic| k_all) => `(tactic| assumption)
local macro_rules | `(tactic| walk_at "call ref") => `(tactic| refine Stop.out ?_)

section
variable {prog : Program} {w : World} {mean : ExcName → Option Value} {mg mb : Str → Option Value} {dp un : Nat} {gd : Option (List Code)} {env : Env} {outer : List Env} {s : Shared}
  {E : Value → Shared → Prop} {Q : Value → Shared → Prop}

/-- a heap without the object at P -/
def less (h : Heap) (P : Addr) : Heap := h.update P fun _ => { cls := .none, data := .freed }
theorem less_self (h : Heap) (P : Addr) : (less h P).get? P = none := by
  unfold less Heap.update Heap.get?
  obtain ⟨objs, l⟩ := h
  dsimp only
  rw [Array.getElem?_modify, if_pos rfl]
  cases objs[P]? <;> rfl
theorem less_other (h : Heap) {P b : Addr} (hb : b ≠ P) : (less h P).get? b = h.get? b := Heap.get?_update_ne h b P _ hb
theorem less_size (h : Heap) (P : Addr) : (less h P).objs.size = h.objs.size := by
  unfold less Heap.update
  obtain ⟨objs, l⟩ := h
  exact Array.size_modify
theorem less_kept (h : Heap) (P : Addr) : Kept (less h P) h := by
  intro b o ho
  by_cases hb : b = P
  · subst hb; rw [less_self] at ho; cases ho
  · rw [less_other h hb] at ho; exact ho
theorem less_fr {h₀ h : Heap} {L P : Addr} {m : Str → Option Value} (F : Fr h₀ L h m) (hL : L ≠ P) (h0 : h₀.get? P = none) : Fr h₀ L (less h P) m :=
  ⟨F.ns.at' fun o ho => (less_other h hL).trans ho, fun b o ho => (less_other h (fun q => by rw [q, h0] at ho; cases ho)).trans (F.keep b o ho), F.above⟩
set_option maxHeartbeats 4000000 in
theorem law_draw_call {P cl : Addr} {cvs : List Value} {cs : List Int} {i e mn : Int} {t u tm : Tok} {n : Nat} (C : CallAt w mean mg mb env outer (less s.heap P)) (hd : dp + 5 ≤ 900)
    (hP : s.heap.get? P = some (W.listOf #[.ref cl, .int i t, .int e u] n)) (hcl : (less s.heap P).IsList cl cvs.toArray) (hci : IntsAre cvs cs) (hlen : cs.length ≤ 60)
    (hi0 : 0 ≤ i) (hi1 : i ≤ 1000) (hm0 : 0 < mn) (hm1 : mn ≤ 1000)
    (hQ : ∀ d td h' t' n' tk, 0 ≤ d → d < mn → Kept (less s.heap P) h' → h'.get? P = some (W.listOf #[.ref cl, .int (i + 1) t', .int e u] n') → Q (.int d td) { s with heap := h', toks := tk }) :
    wpAny (model prog w) (A1 dp un gd (env :: outer)) (call (.ref 104) [.ref P, .int mn tm]) Q E s := by
  refine' enter_over (led := [(P, W.listOf #[.ref cl, .int i t, .int e u] n)]) (binds := [(Str.ofString "pen", .ref P), (Str.ofString "many", .int mn tm)]) (m := (fun y => if y = Str.ofString "many" then some (.int mn tm) else if y = Str.ofString "pen" then some (.ref P) else none))
    C (less_kept s.heap P) (Nat.le_of_eq (less_size s.heap P)) (by intro p hp; rw [List.mem_singleton.mp hp]; exact ⟨hP, less_self s.heap P⟩) ?ko ?kcd (by simp only [recursionLimit]; omega) ?kbind ?kloc ?km ?_ ?c1 ?c2 ?c3 ?c4
  case ko => k_is
  case kcd => k_is
  case kbind => exact BindsTo.of_eq rfl
  case kloc => exact locs rfl
  case km => exact fun _ => lk2
  case c1 => rfl
  case c2 => rfl
  case c3 => rfl
  case c4 => decide
  intro base L' h1 B F N X T hL kk
  (try dsimp only)
  (try k_fold)
  generalize less s.heap P = g at *
  k_steps
  all_goals (rename News _ _ _ _ => N9; rename Fr _ _ _ _ => F9)
  all_goals exact hQ _ _ _ _ _ _ (Int.fmod_nonneg_of_pos _ hm0) (Int.fmod_lt_of_pos _ hm0) F9.keep (N9 _ List.mem_cons_self).1
end
end Mine
end

-- RevB
section
open PySem PySem.W PyProof.Rows PySem.Calls Builtin
set_option Elab.async false
set_option maxRecDepth 100000
namespace Mine
/-- the bytes from the last to the first -/
def revB (b : Array UInt8) : Array UInt8 := Bytes.sliced b ((b.size : Int) - 1) (-1) (-1)
theorem meets_rev (b : Array UInt8) (t tt : Tok) (a : Addr) :
    Meets («bytes.__getitem__» ⟨[.bytes b t, .ref a], []⟩) (fun _ R s => s.heap.IsSliceOf a .none .none (.int (-1) tt) ∧ (revB b).size ≤ sizeLine ∧ R (.ok (.ret (.bytes (revB b) s.toks))) { s with toks := s.toks + 1 }) := by
  refine .of_wp fun prog w A R s hS => ?_
  obtain ⟨⟨o, ho, hc, hd⟩, hsz, h⟩ := hS
  have hT : s.TypeIs (.ref a) "slice" := ⟨o, ho, hc⟩
  show wpAny _ _ (Bytes.payload (.bytes b t) >>= fun r => _) _ _ s
  refine wpAny_bind (wpAny_of_eq (a := b) rfl ?_)
  show wpAny _ _ (Bytes.subscript? (.ref a) >>= fun r => _) _ _ s
  refine wpAny_bind ?_
  unfold Bytes.subscript?
  refine wpAny_bind (wpAny_specialOf hT slice_no_index (wpAny_pure ?_))
  refine wpAny_bind (wpAny_typeOf hT ?_)
  show wpAny _ _ (Bytes.sliceParts (.ref a) >>= fun r => _) _ _ s
  refine wpAny_bind ?_
  unfold Bytes.sliceParts
  refine wpAny_bind (wpAny_field (x := .int (-1) tt) ho hd rfl ?_)
  refine wpAny_bind (wpAny_ite (KBy.ite_no (show ¬ ((Value.int _ _ == Value.none) = true) from Bool.false_ne_true) ?_))
  refine wpAny_bind (wpAny_specialOf (T := "int") (typeIs_int _ _ _) F.slot_int_index.lookup ?_)
  refine wpAny_ite (KBy.ite_no (show ¬ (Option.isNone (some _) = true) from Bool.false_ne_true) ?_)
  refine wpAny_bind (wpAny_of_eq rfl (wpAny_pure ?_))
  refine wpAny_ite (KBy.ite_no (show ¬ ((rawInt (-1) == rawInt 0) = true) from by decide) ?_)
  refine wpAny_bind (wpAny_field (x := .none) ho hd rfl ?_)
  refine wpAny_bind (wpAny_of_eq (a := Value.none) rfl ?_)
  refine wpAny_bind (wpAny_field (x := .none) ho hd rfl ?_)
  refine wpAny_bind (wpAny_of_eq (a := Value.none) rfl ?_)
  refine wpAny_pure ?_
  have go : wpAny (model prog w) A.in1 (sliceIndices (rawPart none) (rawPart none) (rawPart (some (-1))) b.size) (fun r s' => r = sliceBounds none none (some (-1)) b.size ∧ s' = s) (fun _ _ => False) s :=
    wpAny_of_eq (sliceIndices_raw none none (some (-1)) b.size (fun e => by simp at e)) ⟨rfl, rfl⟩
  refine wpAny_bind (wpAny_mono go (fun r s' hr => ?_) fun _ _ e => e.elim)
  obtain ⟨hr1, hr2⟩ := hr
  subst hr1 hr2
  refine wpAny_ite (KBy.ite_no ?_ ?_)
  · show ¬ ((((b.size : Int) - 1 == 0) && ((-1 : Int) == 1) && _ && _) = true)
    simp
  · exact wpAny_bind (wpAny_mkBytes (wpAny_pure ⟨_, rfl, h⟩) hsz)
section
variable {prog : Program} {w : World} {A : Around} {E : Value → Shared → Prop} {s : Shared} {value slice : PySem.Expr} {b : Array UInt8} {t tt : Tok} {h₀ : Heap} {L : Addr} {m : PySem.Str → Option Value} {news : List (Addr × Obj)} {Q : Value → Shared → Prop}
theorem rev_N (hF : Fr h₀ L s.heap m) (hN : News h₀ L s.heap news) (hz : (revB b).size ≤ 16777216)
    (h : ∀ h' t' k, Fr h₀ L h' m → News h₀ L h' news → Q (.bytes (revB b) t') { s with heap := h', toks := k })
    (hs : subscripted slice false (.bytes b t) (.ref s.heap.objs.size) = operate [.ref s.heap.objs.size, .bytes b t] (getItem (.bytes b t) (.ref s.heap.objs.size)) := by with_unfolding_all rfl)
    (ht : ∀ r, letTemporaryGo value (.bytes b t) r = pure () := by intro _; with_unfolding_all rfl) :
    wpAny (model prog w) A (subscriptTail value slice (.bytes b t) (.ref s.heap.objs.size)) Q E { s with heap := s.heap.push { cls := .type "slice", data := .fields #[.none, .none, .int (-1) tt] } } :=
  tail_of_ItemOn ⟨"bytes", _, FB.slot_bytes_getitem.lookup, typeIs_bytes _ _ _, getItem_meets (typeIs_bytes _ _ _) (by decide) FB.slot_bytes_getitem FB.entry_bytes_getitem (FB.args_bytes_getitem_2 _ _) (meets_rev b t tt _)
    ⟨Heap.IsSliceOf.new _ _ _ _, by rw [PySem.sizeLine_eq]; exact hz, h _ _ _ (hF.push _) (News.pushKeep hN _)⟩⟩ hs ht
end
end Mine
end

-- AlphaF
section
open PySem PySem.W PyProof.Rows PySem.Calls
set_option Elab.async false
set_option maxRecDepth 100000
namespace Mine
open PyProof.Rows.LCg
local macro_rules | `(tactic| k_all) => `(tactic| assumption)
local macro_rules | `(tactic| walk_at "call type:list") => `(tactic| (k_here; (with_reducible show wpAny _ _ (call (Value.type _) [Value.ref _]) _ _ _); (rename IsRange _ _ _ _ _ _ _ _ => rgX); (with_unfolding_all refine' kll_range ?k0 ?k1 ?k2 ?k3 ?k4 ?k5 ?k6 ?_; (case k0 => rfl); (case k1 => k_asm); (case k2 => k_asm); (case k3 => exact rgX); (case k4 => decide); (case k5 => exact rfl); (case k6 => decide); k_whole); intro D' vs' c' h' tk' F' N' l1 hI'; (try k_lt l1); clear rgX))
local macro_rules | `(tactic| walk_at "call ref") => `(tactic| refine Stop.out ?_)
local macro_rules | `(tactic| walk_at "eval ListComp") => `(tactic| (k_here; k_dflt (refine ListComp_it (by k_asm) (by with_unfolding_all rfl) (by decide) (by rfl) (by decide) (by rfl) ?_)))
local macro_rules | `(tactic| walk_at "call type:bytes") => `(tactic| refine Stop.out ?_)
local macro_rules | `(tactic| walk_at "subscriptTail") => `(tactic| (k_here; (with_reducible show wpAny _ _ (subscriptTail _ (Expr.Slice none none (some _) _) (Value.bytes _ _) (Value.ref _)) _ _ _); (with_reducible rename Fr _ _ _ _ => F'); (with_reducible rename News _ _ _ _ => N'); (refine rev_N (s := ⟨_, _, _, _, _⟩) F' N' (by decide +kernel) ?_); intro _ _ _ _ _))

section
variable {prog : Program} {w : World} {mean : ExcName → Option Value} {mg mb : Str → Option Value} {dp un : Nat} {gd : Option (List Code)} {env : Env} {outer : List Env} {s : Shared}
  {E : Value → Shared → Prop} {Q : Value → Shared → Prop}

def plainL : List Int := rangeKs 65 26 ++ rangeKs 97 26 ++ rangeKs 48 10
theorem plainL_in : KBa.In plainL := by unfold KBa.In; decide +kernel
theorem dropL_in : KBa.In ((rangeKs 0 64).map fun k => 200 - k) := by unfold KBa.In; decide +kernel
set_option maxHeartbeats 4000000 in
theorem law_alphabet_call {k : Int} {tk0 : Tok} (C : CallAt w mean mg mb env outer s.heap) (hd : dp + 5 ≤ 900)
    (hk0 : 0 ≤ k) (hk1 : k < 3)
    (hQ : ∀ al ta as h' tk, Kept s.heap h' → KBw.bInts al = as → as.length = 64 → as.Nodup → Q (.bytes al ta) { s with heap := h', toks := tk }) :
    wpAny (model prog w) (A1 dp un gd (env :: outer)) (call (.ref 109) [.int k tk0]) Q E s := by
  refine' enter_plain (binds := [(Str.ofString "way", .int k tk0)]) (m := (fun y => if y = Str.ofString "way" then some (.int k tk0) else none))
    C ?ko ?kcd (by simp only [recursionLimit]; omega) ?kbind ?kloc ?km ?_ ?c1 ?c2 ?c3 ?c4
  case ko => k_is
  case kcd => k_is
  case kbind => exact BindsTo.of_eq rfl
  case kloc => exact locs rfl
  case km => exact fun _ => lk1
  case c1 => rfl
  case c2 => rfl
  case c3 => rfl
  case c4 => decide
  intro base L' h1 B F N X T
  (try dsimp only)
  (try k_fold)
  k_steps
  rename IntsAre _ (_ ++ _ ++ _) => hp
  replace hp : IntsAre _ plainL := hp
  rename Fr _ _ _ _ => F2
  rename News _ _ _ _ => N2
  (try dsimp only at F2 N2)
  refine KBa.make_K F2 N2 rfl (News.isList N2 (List.mem_cons_self ..)) hp plainL_in (by decide +kernel) fun h3 tb3 k3 F3 N3 _ => ?_
  clear F2 N2
  replace N3 : News s.heap L' h3 [] := fun p hp => nomatch hp
  show wpAny _ _ _ _ _ _
  (try k_fold)
  k_steps
  rename IsRange _ _ _ _ _ _ _ _ => hr
  rename Fr _ _ _ _ => F5
  rename News _ _ _ _ => N5
  dsimp only at hr F5 N5 ⊢
  refine CompAt.range (n := 64) (by rfl) F5 N5 hr (by decide) (by decide) (by decide) ?_
  intro g
  refine comp_ints (ks := rangeKs 0 64) (fun k => 200 - k) (by decide +kernel) ?_ ?_ ?_
  · rintro i v hi ⟨t, rfl⟩
    refine ⟨(i : Int), t, ?_, ?_⟩
    · have : ∀ j : Fin 64, (rangeKs 0 64)[(j : Nat)]? = some ((j : Nat) : Int) := by decide +kernel
      exact this ⟨i, hi⟩
    · rw [show (0 : Int) + (i : Int) * 1 = (i : Int) from by omega]
  · intro k9 t9 I oI C9 oC D9 m₂ ys h6 tk7 E' hk hC hx F6 N6 off ne
    have hk0 : 0 ≤ k9 ∧ k9 < 64 := by
      have : ∀ k ∈ rangeKs 0 64, (0 : Int) ≤ k ∧ k < 64 := by decide +kernel
      exact this k9 hk
    clear hr F5 N5
    dsimp only at F6 N6 ⊢
    show wpAny _ _ _ _ _ _
    k_fold
    k_steps
    exact ⟨rfl, _, rfl⟩
  · intro ys hy D9 h8 tk8 F8 N8 o8
    clear hr F5 N5
    show wpAny _ _ _ _ _ _
    (try k_fold)
    k_steps
    refine KBa.make_K F8 N8 rfl (News.isList N8 (List.mem_cons_self ..)) hy dropL_in (by decide +kernel) fun h10 tb10 k10 F10 N10 _ => ?_
    clear F8 N8
    replace N10 : News s.heap L' h10 [] := fun p hp => nomatch hp
    show wpAny _ _ _ _ _ _
    (try k_fold)
    k_steps
    all_goals rename Fr _ _ _ _ => F12
    all_goals exact hQ _ _ _ _ _ F12.keep rfl (by decide +kernel) (by decide +kernel)
end
end Mine
end

-- Draw2
section
open PySem PySem.W PyProof.Rows PySem.Calls
set_option Elab.async false
set_option maxRecDepth 100000
namespace Mine
open PyProof.Rows.LCg
section
variable {prog : Program} {w : World} {mean : ExcName → Option Value} {mg mb : Str → Option Value} {dp un : Nat} {gd : Option (List Code)} {env : Env} {s : Shared} {E : Value → Shared → Prop} {Q : Value → Shared → Prop}
theorem less_isList {h : Heap} {P l : Addr} {its : Array Value} (hl : h.IsList l its) (ne : l ≠ P) : (less h P).IsList l its := hl.at fun o ho => (less_other h ne).trans ho
/-- a draw of the law's own frame -/
theorem draw_at {A₀ : Around} {h₀ : Heap} {L P cl : Addr} {m : Str → Option Value} {pre post : List (Addr × Obj)} {cvs : List Value} {cs : List Int} {i e mn : Int} {t u tm : Tok} {n : Nat}
    (F : Fr h₀ L s.heap m) (N : News h₀ L s.heap (pre ++ (P, W.listOf #[.ref cl, .int i t, .int e u] n) :: post))
    (B : Below A₀ h₀ [] h₀) (hf : env.frame = some L) (hk : env.scope.kind = .function) (X : (hd.heap_39 w.params).In h₀) (T : TopH mean mg mb h₀) (hd : dp + 5 ≤ 900)
    (h1 : ∀ p ∈ pre, p.1 ≠ P) (h2 : ∀ p ∈ post, p.1 ≠ P) {oc : Obj} (hcm : (cl, oc) ∈ pre ++ post) (hoc : oc = lst cvs) (hci : IntsAre cvs cs) (hlen : cs.length ≤ 60)
    (hi0 : 0 ≤ i) (hi1 : i ≤ 1000) (hm0 : 0 < mn) (hm1 : mn ≤ 1000)
    (hQ : ∀ d td h' t' n' tk, 0 ≤ d → d < mn → Fr h₀ L h' m → News h₀ L h' ((P, W.listOf #[.ref cl, .int (i + 1) t', .int e u] n') :: (pre ++ post)) → Q (.int d td) { s with heap := h', toks := tk }) :
    wpAny (model prog w) (A1 dp un gd [env]) (call (.ref 104) [.ref P, .int mn tm]) Q E s := by
  have NP := N _ (List.mem_append_right _ (List.mem_cons_self ..))
  have hLP : L ≠ P := fun q => NP.2.1 q.symm
  have F' : Fr h₀ L (less s.heap P) m := less_fr F hLP NP.2.2
  have hm : ∀ p ∈ pre ++ post, p ∈ pre ++ (P, W.listOf #[.ref cl, .int i t, .int e u] n) :: post := by
    intro p hp
    rcases List.mem_append.mp hp with hp | hp
    · exact List.mem_append_left _ hp
    · exact List.mem_append_right _ (List.mem_cons_of_mem _ hp)
  have hne : ∀ p ∈ pre ++ post, p.1 ≠ P := by
    intro p hp
    rcases List.mem_append.mp hp with hp | hp
    · exact h1 p hp
    · exact h2 p hp
  have NC := N _ (hm _ hcm)
  subst hoc
  have hcl : (less s.heap P).IsList cl cvs.toArray := less_isList ⟨_, NC.1, rfl, _, rfl⟩ (hne _ hcm)
  refine law_draw_call (CallAt.of B F' hf hk X T) hd NP.1 hcl hci hlen hi0 hi1 hm0 hm1 ?_
  intro d td h' t' n' tk d0 d1 kg hP'
  refine hQ d td h' t' n' tk d0 d1 (F'.keeps kg) ?_
  intro p hp
  rcases List.mem_cons.mp hp with rfl | hp
  · exact ⟨hP', NP.2⟩
  · exact ⟨kg _ _ ((less_other s.heap (hne p hp)).trans (N p (hm p hp)).1), (N p (hm p hp)).2⟩
end
section
variable {prog : Program} {w : World} {A : Around} {h₀ : Heap} {L : Addr} {m : Str → Option Value} {env : Env} {elt : Expr} {x : Str} {scope : Scope} {cl : List (Str × Addr)} {s : Shared} {S : List (Addr × Obj) → Prop} {P : Nat → Value → Prop} {Fin : List Value → List (Addr × Obj) → Prop} {news : List (Addr × Obj)}
/-- the end of a turn whose element is an int of R, the ledger as J says -/
def ElJ (J : List (Addr × Obj) → Prop) (R : Int → Prop) (y : Value) (news' : List (Addr × Obj)) : Prop := J news' ∧ ∃ (r : Int) (t : Tok), y = .int r t ∧ R r
theorem ne_same {prog : Program} {w : World} {A : Around} {E : Value → Shared → Prop} {s : Shared} {b : Array UInt8} {t u : Tok} {Q : Value → Shared → Prop} (h : Q (.bool false) s) : wpAny (model prog w) A (compareOp .NotEq (.bytes b t) (.bytes b u)) Q E s :=
  ne_bytes (by rw [bne_self_eq_false]; exact h)
theorem eq_same {prog : Program} {w : World} {A : Around} {E : Value → Shared → Prop} {s : Shared} {b : Array UInt8} {t u : Tok} {Q : Value → Shared → Prop} (h : Q (.bool true) s) : wpAny (model prog w) A (compareOp .Eq (.bytes b t) (.bytes b u)) Q E s :=
  eq_bytes (by rw [beq_self_eq_true]; exact h)
theorem menu_in {as : List Int} (h : ∀ a ∈ as, 0 ≤ a ∧ a < 256) : ∀ a ∈ as ++ [61, 33], 0 ≤ a ∧ a < 256 := by
  intro a ha
  rcases List.mem_append.mp ha with ha | ha
  · exact h a ha
  · simp only [List.mem_cons, List.not_mem_nil, or_false] at ha
    omega
theorem news_back3 {h₀ h : Heap} {L : Addr} {a b c p : Addr × Obj} {post : List (Addr × Obj)} (N : News h₀ L h (p :: ([a, b, c] ++ post))) : News h₀ L h (a :: b :: c :: p :: post) := by
  intro q hq
  refine N q ?_
  simp only [List.mem_cons, List.cons_append, List.nil_append] at hq ⊢
  rcases hq with h | h | h | h | h
  · exact .inr (.inl h)
  · exact .inr (.inr (.inl h))
  · exact .inr (.inr (.inr (.inl h)))
  · exact .inl h
  · exact .inr (.inr (.inr (.inr h)))
theorem news_tail {h₀ h : Heap} {L : Addr} {a : Addr × Obj} {l : List (Addr × Obj)} (N : News h₀ L h (a :: l)) : News h₀ L h l := fun p hp => N p (List.mem_cons_of_mem _ hp)
theorem zeros_are (t : Tok) : ∀ k : Nat, IntsAre (List.replicate k [Value.int 0 t]).flatten (List.replicate k 0)
  | 0 => .nil
  | k + 1 => by
    rw [List.replicate_succ, List.flatten_cons, List.replicate_succ]
    exact IntsAre.cons 0 t (zeros_are t k)
theorem pad_of (n : Nat) : ∃ pad : Nat, (-(n : Int)).fmod 6 = (pad : Int) ∧ pad < 6 ∧ (n + pad) % 6 = 0 := by
  have h := Int.fmod_eq_emod_of_nonneg (-(n : Int)) (show (0 : Int) ≤ 6 by decide)
  refine ⟨((-(n : Int)).fmod 6).toNat, ?_, ?_, ?_⟩ <;> rw [h] <;> omega
theorem news_cut3 {h₀ h : Heap} {L : Addr} {a b c d : Addr × Obj} {l : List (Addr × Obj)} (N : News h₀ L h (a :: b :: c :: d :: l)) : News h₀ L h (a :: l) := by
  intro p hp
  rcases List.mem_cons.mp hp with rfl | hp
  · exact N _ (.head _)
  · exact N _ (.tail _ (.tail _ (.tail _ (.tail _ hp))))
theorem news_cut1 {h₀ h : Heap} {L : Addr} {a b : Addr × Obj} {l : List (Addr × Obj)} (N : News h₀ L h (a :: b :: l)) : News h₀ L h (a :: l) := by
  intro p hp
  rcases List.mem_cons.mp hp with rfl | hp
  · exact N _ (.head _)
  · exact N _ (.tail _ (.tail _ hp))
theorem pad_bits {bs : List Int} {pad : Nat} (h : ∀ b ∈ bs, 0 ≤ b ∧ b < 2) : ∀ b ∈ bs ++ List.replicate pad (0 : Int), 0 ≤ b ∧ b < 2 := by
  intro b hb
  rcases List.mem_append.mp hb with hb | hb
  · exact h b hb
  · rw [List.eq_of_mem_replicate hb]; decide
theorem are_get {vs : List Value} {ns : List Int} (h : IntsAre vs ns) : ∀ (i : Nat) (v : Value), vs[i]? = some v → ∃ k t, ns[i]? = some k ∧ v = .int k t := by
  induction h with
  | nil => intro i v e; simp at e
  | cons n t h ih =>
    intro i v e
    cases i with
    | zero => simp at e; exact ⟨n, t, by simp, e.symm⟩
    | succ j => simpa using ih j v (by simpa using e)
theorem getD_byte {as : List Int} (h : ∀ a ∈ as, 0 ≤ a ∧ a < 256) (i : Nat) : 0 ≤ as.getD i 0 ∧ as.getD i 0 < 256 := by
  rw [List.getD_eq_getElem?_getD]
  cases e : as[i]? with
  | none => exact ⟨by simp, by simp⟩
  | some v => exact h v (List.mem_of_getElem? e)
/-- the ledger with the pen ahead -/
def PenJ (P cl : Addr) (e : Int) (u : Tok) (rest : List (Addr × Obj)) (a b i : Nat) (nw : List (Addr × Obj)) : Prop :=
  ∃ (k : Int) (t : Tok) (n : Nat), 0 ≤ k ∧ k ≤ a + b * i ∧ nw = (P, W.listOf #[.ref cl, .int k t, .int e u] n) :: rest
theorem comp_rows {n : Nat} (R : Int → Prop) (J : Nat → List (Addr × Obj) → Prop) (h0 : J 0 news)
    (turn : ∀ i v I oI C oC D m₂ ys nw h tk (E' : Value → Shared → Prop), i < n → P i v → J i nw → NsObj oC m₂ → m₂ x = some v → Fr h₀ L h m → News h₀ L h ((I, oI) :: (C, oC) :: (D, lst ys) :: nw) → Off3 I C D nw → ((@Ne Nat I C) ∧ (@Ne Nat I D) ∧ (@Ne Nat C D)) →
      wpAny (model prog w) A (eval elt (compEnvC scope cl C env)) (CompEnd h₀ L m { s with heap := h, toks := tk } I oI C oC D (lst ys) S (ElJ (J (i + 1)) R)) E' { s with heap := h, toks := tk })
    (fin : ∀ ys rs nw, IntsAre ys rs → rs.length = n → (∀ r ∈ rs, R r) → J n nw → Fin ys nw) : CompRest prog w A h₀ L m env elt x scope cl s S P Fin n 0 [] news := by
  have key : ∀ (j i : Nat) (ys : List Value) (rs : List Int) (nw : List (Addr × Obj)), i + j = n → IntsAre ys rs → rs.length = i → (∀ r ∈ rs, R r) → J i nw → CompRest prog w A h₀ L m env elt x scope cl s S P Fin j i ys nw := by
    intro j
    induction j with
    | zero =>
      intro i ys rs nw hi hy hl hr hJ
      obtain rfl : i = n := by omega
      exact CompRest.zero (fin ys rs nw hy hl hr hJ)
    | succ j ih =>
      intro i ys rs nw hi hy hl hr hJ
      refine CompRest.succ ?_
      intro v I oI C oC D m₂ h tk E' hv hC hx F N off ne
      refine wpAny_mono (turn i v I oI C oC D m₂ ys nw h tk E' (by omega) hv hJ hC hx F N off ne) (fun y s₂ hq => ?_) fun _ _ e => e
      obtain ⟨h', tk', nw', e, F', N', off', hS, hJ', r, t', hy', hR⟩ := hq
      refine ⟨h', tk', nw', e, F', N', off', hS, ?_⟩
      rw [hy']
      refine ih (i + 1) _ (rs ++ [r]) nw' (by omega) (IntsAre.append hy (.cons r t' .nil)) (by simp [hl]) ?_ hJ'
      intro q hq
      rcases List.mem_append.mp hq with hq | hq
      · exact hr q hq
      · rw [List.mem_singleton.mp hq]; exact hR
  exact key n 0 [] [] news (by omega) .nil rfl (fun r hr => nomatch hr) h0
end
end Mine
end

-- PlainA
section
open PySem PySem.W PyProof.Rows PySem.Calls
set_option Elab.async false
namespace Mine
theorem foldl_tot (B : Int) : ∀ (b : List Int) (x : Int), b.foldl (fun a k => B * a + k) x = x * B ^ b.length + tot B b
  | [], x => by simp [tot]
  | k :: r, x => by
    have h1 := foldl_tot B r (B * x + k)
    have h2 := foldl_tot B r (B * 0 + k)
    unfold tot
    rw [List.foldl_cons, List.foldl_cons, h1, h2, List.length_cons, Int.pow_succ]
    generalize B ^ r.length = P
    generalize tot B r = t
    rw [Int.mul_zero, Int.zero_add, Int.add_mul, Int.add_assoc, Int.mul_comm B x, Int.mul_assoc, Int.mul_comm P B]
theorem tot_append (B : Int) (a b : List Int) : tot B (a ++ b) = tot B a * B ^ b.length + tot B b := by
  rw [← foldl_tot]
  unfold tot
  rw [List.foldl_append]
theorem tot_zeros (B : Int) : ∀ n : Nat, tot B (List.replicate n 0) = 0
  | 0 => rfl
  | n + 1 => by
    rw [List.replicate_succ', tot_snoc, tot_zeros B n]; simp
theorem tot_inj {B : Int} (hB : 1 < B) {a b : List Int} (ha : ∀ x ∈ a, 0 ≤ x ∧ x < B) (hb : ∀ x ∈ b, 0 ≤ x ∧ x < B) (hl : a.length = b.length) (ht : tot B a = tot B b) : a = b := by
  have h1 := digs_tot hB b.length a hl ha
  have h2 := digs_tot hB b.length b rfl hb
  rw [ht] at h1
  exact h1.symm.trans h2
theorem lawBits_append (sz : Nat) (a b : List Int) : lawBits sz (a ++ b) = lawBits sz a ++ lawBits sz b := by simp [lawBits]
theorem lawBits_one (sz : Nat) (n : Int) : lawBits sz [n] = digs 2 sz n := by simp [lawBits, digs]
theorem pow_big {sz : Nat} (h : 0 < sz) : (1 : Int) < 2 ^ sz := by
  obtain ⟨k, rfl⟩ : ∃ k, sz = k + 1 := ⟨sz - 1, by omega⟩
  rw [Int.pow_succ]
  have : (0 : Int) < 2 ^ k := Int.pow_pos (by decide)
  omega
theorem tot_bits {sz : Nat} : ∀ (n : Nat) (ns : List Int), ns.length = n → (∀ x ∈ ns, 0 ≤ x ∧ x < 2 ^ sz) → tot 2 (lawBits sz ns) = tot (2 ^ sz) ns := by
  intro n
  induction n with
  | zero => intro ns hl _; rw [List.eq_nil_of_length_eq_zero hl]; rfl
  | succ n ih =>
    intro ns hl h
    obtain ⟨r, k, rfl, hr⟩ := snoc_of hl
    have hk := h k (by simp)
    rw [lawBits_append, lawBits_one, tot_append, digs_length, tot_snoc, ih r hr (fun x hx => h x (List.mem_append_left _ hx)), tot_digs (by decide) sz k hk.1 hk.2, Int.mul_comm]
theorem lawNum_append_left {sz : Nat} {a b : List Int} {i : Nat} (h : sz * (i + 1) ≤ a.length) : lawNum sz (a ++ b) i = lawNum sz a i := by
  unfold lawNum
  congr 1
  refine List.map_congr_left fun j hj => ?_
  have hj := List.mem_range.mp hj
  rw [Nat.mul_succ] at h
  rw [List.getD_eq_getElem?_getD, List.getElem?_append_left (by omega), ← List.getD_eq_getElem?_getD]
theorem lawNum_append_right {sz : Nat} {a b : List Int} {m i : Nat} (h : a.length = sz * m) : lawNum sz (a ++ b) (m + i) = lawNum sz b i := by
  unfold lawNum
  congr 1
  refine List.map_congr_left fun j hj => ?_
  rw [Nat.mul_add, List.getD_eq_getElem?_getD, List.getElem?_append_right (by omega), ← List.getD_eq_getElem?_getD]
  congr 2
  omega
theorem lawNumbers_append {sz : Nat} (hs : 0 < sz) {a b : List Int} {m : Nat} (h : a.length = sz * m) : lawNumbers sz (a ++ b) = lawNumbers sz a ++ lawNumbers sz b := by
  unfold lawNumbers
  have e1 : a.length / sz = m := by rw [h, Nat.mul_div_cancel_left _ hs]
  have e2 : (a ++ b).length / sz = m + b.length / sz := by
    rw [List.length_append, h, Nat.mul_add_div hs]
  rw [e1, e2, List.range_add, List.map_append, List.map_map]
  congr 1
  · refine List.map_congr_left fun i hi => ?_
    have hi := List.mem_range.mp hi
    refine lawNum_append_left ?_
    rw [h]
    exact Nat.mul_le_mul_left sz hi
  · refine List.map_congr_left fun i _ => ?_
    exact lawNum_append_right h
theorem lawNumbers_short {sz : Nat} {b : List Int} (h : b.length < sz) : lawNumbers sz b = [] := by
  unfold lawNumbers
  rw [Nat.div_eq_of_lt h]; rfl
theorem lawNumbers_one {sz : Nat} (hs : 0 < sz) {c : List Int} (h : c.length = sz) : lawNumbers sz c = [tot 2 c] := by
  unfold lawNumbers
  rw [h, Nat.div_self hs]
  show [lawNum sz c 0] = _
  rw [lawNum_tot (by omega), Nat.mul_zero, List.drop_zero, List.take_of_length_le (by omega)]
theorem tot_numbers {sz : Nat} (hs : 0 < sz) : ∀ (q : Nat) (c : List Int), c.length = sz * q → tot (2 ^ sz) (lawNumbers sz c) = tot 2 c := by
  intro q
  induction q with
  | zero =>
    intro c hl
    have e : c = [] := List.eq_nil_of_length_eq_zero (by rw [hl, Nat.mul_zero])
    subst e
    simp [lawNumbers, tot]
  | succ q ih =>
    intro c hl
    rw [Nat.mul_succ] at hl
    have e : c = c.take (sz * q) ++ c.drop (sz * q) := (List.take_append_drop _ _).symm
    have l1 : (c.take (sz * q)).length = sz * q := by rw [List.length_take]; omega
    have l2 : (c.drop (sz * q)).length = sz := by rw [List.length_drop]; omega
    rw [e, lawNumbers_append hs l1, lawNumbers_one hs l2, tot_append, tot_append, ih _ l1, l2]
    show _ * (2 ^ sz) ^ 1 + (2 ^ sz * 0 + tot 2 (c.drop (sz * q))) = _
    rw [Int.pow_succ, Int.pow_zero, Int.one_mul, Int.mul_zero, Int.zero_add]
theorem numbers_digs {sz : Nat} (hs : 0 < sz) {q : Nat} {c : List Int} (hl : c.length = sz * q) (hc : ∀ b ∈ c, 0 ≤ b ∧ b < 2) : lawNumbers sz c = digs (2 ^ sz) q (tot 2 c) := by
  rw [← tot_numbers hs q c hl]
  refine (digs_tot (pow_big hs) q _ ?_ (lawNumbers_in hc)).symm
  rw [lawNumbers_length, hl, Nat.mul_div_cancel_left _ hs]
theorem bits_numbers {sz : Nat} (hs : 0 < sz) {q : Nat} {c : List Int} (hl : c.length = sz * q) (hc : ∀ b ∈ c, 0 ≤ b ∧ b < 2) : lawBits sz (lawNumbers sz c) = c := by
  have hln : (lawNumbers sz c).length = q := by rw [lawNumbers_length, hl, Nat.mul_div_cancel_left _ hs]
  refine tot_inj (B := 2) (by decide) lawBits_bit hc ?_ ?_
  · rw [lawBits_length, hln, hl, Nat.mul_comm]
  · rw [tot_bits _ _ rfl (lawNumbers_in hc), tot_numbers hs q c hl]
theorem numbers_bits {sz : Nat} (hs : 0 < sz) {ns : List Int} (h : ∀ x ∈ ns, 0 ≤ x ∧ x < 2 ^ sz) : lawNumbers sz (lawBits sz ns) = ns := by
  have hl : (lawBits sz ns).length = sz * ns.length := by rw [lawBits_length, Nat.mul_comm]
  rw [numbers_digs hs hl lawBits_bit, tot_bits _ _ rfl h, digs_tot (pow_big hs) _ _ rfl h]
theorem numbers_cut {sz : Nat} (hs : 0 < sz) {m : Nat} {a z : List Int} (h : a.length = sz * m) (hz : z.length < sz) : lawNumbers sz (a ++ z) = lawNumbers sz a := by
  rw [lawNumbers_append hs h, lawNumbers_short hz, List.append_nil]
theorem ones_tot {b : List Int} (hb : ∀ x ∈ b, 0 ≤ x ∧ x < 2) : (1 : Int) ∈ b ↔ 0 < tot 2 b := by
  have h0 := (tot_bound (B := 2) (by decide) b hb).1
  constructor
  · intro h1
    refine Classical.byContradiction fun hn => ?_
    have e : tot 2 b = 0 := by omega
    have := digs_tot (B := 2) (by decide) b.length b rfl hb
    rw [e] at this
    rw [← this] at h1
    obtain ⟨i, _, hi⟩ := List.mem_map.mp h1
    rw [Int.zero_ediv] at hi
    cases hi
  · intro h
    refine Classical.byContradiction fun hn => ?_
    have : b = List.replicate b.length 0 := by
      refine List.eq_replicate_iff.mpr ⟨rfl, fun x hx => ?_⟩
      have := hb x hx
      have : x ≠ 1 := fun e => hn (e ▸ hx)
      omega
    rw [this, tot_zeros] at h
    omega
end Mine
end

-- PlainL
section
open PySem PySem.W PyProof.Rows PySem.Calls
set_option Elab.async false
namespace Mine
def signsOf (rs as : List Int) (pad : Nat) : List Int := (lawNumbers 6 (lawBits 8 rs ++ List.replicate pad 0)).map fun n => as.getD n.toNat 0
theorem bInts_inj {a b : Array UInt8} (h : KBw.bInts a = KBw.bInts b) : a = b := by
  unfold KBw.bInts at h
  have : a.toList = b.toList := by
    refine (List.map_inj_right (f := fun (c : UInt8) => ((c.toNat : Nat) : Int)) ?_).mp h
    intro x y e
    exact UInt8.toNat_inj.mp (Int.ofNat.inj e)
  exact Array.toList_inj.mp this
theorem pow64 (k : Nat) : (2 : Int) ^ (6 * k) = 64 ^ k := by rw [Int.pow_mul]; rfl
theorem pow256 (k : Nat) : (2 : Int) ^ (8 * k) = 256 ^ k := by rw [Int.pow_mul]; rfl
theorem groupCodes_digs (os as : List Int) : groupCodes os as = (digs 64 (os.length + 1) (tot 256 os * 2 ^ (6 - 2 * os.length))).map fun n => as.getD n.toNat 0 := by
  unfold groupCodes digs downKs
  rw [List.map_map, List.map_map]
  refine List.map_congr_left fun i hi => ?_
  have hi := List.mem_range.mp hi
  show as.getD _ 0 = as.getD _ 0
  rw [show (6 * ((os.length : Int) - (i : Int))).toNat = 6 * (os.length + 1 - 1 - i) from by omega, pow64, Int.fdiv_eq_ediv_of_nonneg _ (Int.le_of_lt (Int.pow_pos (by decide)))]
theorem groupOctets_digs (ws : List Int) : groupOctets ws = digs 256 (ws.length - 1) (tot 64 ws / 2 ^ (8 - 2 * ws.length)) := by
  unfold groupOctets digs downKs
  rw [List.map_map]
  refine List.map_congr_left fun i hi => ?_
  have hi := List.mem_range.mp hi
  show ((tot 64 ws).fdiv _).fdiv _ % 256 = _
  rw [show (8 * ((ws.length : Int) - 2 - (i : Int))).toNat = 8 * (ws.length - 1 - 1 - i) from by omega, pow256, Int.fdiv_eq_ediv_of_nonneg _ (Int.le_of_lt (Int.pow_pos (by decide))),
    Int.fdiv_eq_ediv_of_nonneg _ (Int.le_of_lt (Int.pow_pos (by decide)))]
theorem group_enc {c as : List Int} {pad : Nat} (hc : ∀ r ∈ c, 0 ≤ r ∧ r < 256) (h0 : 0 < c.length) (h3 : c.length ≤ 3) (hp : pad < 6) (hm : (c.length * 8 + pad) % 6 = 0) : groupCodes c as = signsOf c as pad := by
  have e : pad = 6 - 2 * c.length := by omega
  have hl : (lawBits 8 c ++ List.replicate pad 0).length = 6 * (c.length + 1) := by rw [List.length_append, List.length_replicate, lawBits_length]; omega
  have hb : ∀ b ∈ lawBits 8 c ++ List.replicate pad (0 : Int), 0 ≤ b ∧ b < 2 := by
    intro b hb
    rcases List.mem_append.mp hb with hb | hb
    · exact lawBits_bit b hb
    · rw [List.eq_of_mem_replicate hb]; decide
  unfold signsOf
  rw [groupCodes_digs, numbers_digs (by decide) hl hb, tot_append, tot_zeros, Int.add_zero, List.length_replicate, tot_bits _ _ rfl hc, e]
  rfl
theorem partEnc_nil (as : List Int) : partEnc [] as = [] := rfl
theorem chunk_next {α : Type} (m : Nat) (c r : List α) (hc : c.length = m) (i : Nat) : (c ++ r).drop (m * (i + 1)) = r.drop (m * i) := by
  rw [Nat.mul_succ, Nat.add_comm, ← List.drop_drop, List.drop_left' hc]
theorem partEnc_step {c r as : List Int} (hc : c.length = 3) : partEnc (c ++ r) as = groupCodes c as ++ partEnc r as := by
  unfold partEnc
  rw [List.length_append, hc, show (3 + r.length + 2) / 3 = 1 + (r.length + 2) / 3 from by omega, List.range_add, List.flatMap_append]
  congr 1
  · simp [List.take_left' hc]
  · rw [List.flatMap_map]
    congr 1
    funext i
    rw [Nat.add_comm 1 i, chunk_next 3 c r hc]
theorem partEnc_last {r as : List Int} (h0 : 0 < r.length) (h3 : r.length ≤ 3) : partEnc r as = groupCodes r as := by
  unfold partEnc
  rw [show (r.length + 2) / 3 = 1 from by omega]
  simp [List.take_of_length_le h3]
theorem signsOf_step {c r as : List Int} {pad : Nat} (hc : c.length = 3) : signsOf (c ++ r) as pad = signsOf c as 0 ++ signsOf r as pad := by
  unfold signsOf
  have hl : (lawBits 8 c).length = 6 * 4 := by rw [lawBits_length, hc]
  rw [lawBits_append, List.append_assoc, lawNumbers_append (by decide) hl, List.map_append, List.replicate_zero, List.append_nil]
theorem plain_enc {as : List Int} {pad : Nat} (hpad : pad < 6) : ∀ {rs : List Int} (_ : ∀ r ∈ rs, 0 ≤ r ∧ r < 256) (_ : (rs.length * 8 + pad) % 6 = 0), partEnc rs as = signsOf rs as pad := by
  have key : ∀ (n : Nat) (rs : List Int), rs.length ≤ n → (∀ r ∈ rs, 0 ≤ r ∧ r < 256) → (rs.length * 8 + pad) % 6 = 0 → partEnc rs as = signsOf rs as pad := by
    intro n
    induction n with
    | zero =>
      intro rs hn _ hm
      have e : rs = [] := List.eq_nil_of_length_eq_zero (by omega)
      subst e
      have : pad = 0 := by simp at hm; omega
      subst this
      rfl
    | succ n ih =>
      intro rs hn hrs hm
      by_cases h0 : rs.length = 0
      · have e : rs = [] := List.eq_nil_of_length_eq_zero h0
        subst e
        have : pad = 0 := by simp at hm; omega
        subst this
        rfl
      by_cases h3 : rs.length ≤ 3
      · rw [partEnc_last (by omega) h3]
        exact group_enc hrs (by omega) h3 hpad hm
      · have e : rs = rs.take 3 ++ rs.drop 3 := (List.take_append_drop _ _).symm
        have l1 : (rs.take 3).length = 3 := by rw [List.length_take]; omega
        have l2 : (rs.drop 3).length = rs.length - 3 := List.length_drop
        rw [e, partEnc_step l1, signsOf_step l1, ih (rs.drop 3) (by omega) (fun r hr => hrs r (List.mem_of_mem_drop hr)) (by omega),
          group_enc (pad := 0) (fun r hr => hrs r (List.mem_of_mem_take hr)) (by omega) (by omega) (by decide) (by rw [l1])]
  intro rs h1 h2
  exact key _ rs (Nat.le_refl _) h1 h2
end Mine
end

-- PlainD
section
open PySem PySem.W PyProof.Rows PySem.Calls
set_option Elab.async false
namespace Mine
/-- a group's bits: octets and what is left -/
theorem group_split {c : List Int} (hc : ∀ r ∈ c, 0 ≤ r ∧ r < 64) (h0 : 0 < c.length) (h4 : c.length ≤ 4) :
    groupOctets c = lawNumbers 8 (lawBits 6 c) ∧ groupSpare c = tot 2 ((lawBits 6 c).drop (8 * (c.length - 1))) := by
  have hl : (lawBits 6 c).length = c.length * 6 := lawBits_length 6 c
  have e : lawBits 6 c = (lawBits 6 c).take (8 * (c.length - 1)) ++ (lawBits 6 c).drop (8 * (c.length - 1)) := (List.take_append_drop _ _).symm
  have l1 : ((lawBits 6 c).take (8 * (c.length - 1))).length = 8 * (c.length - 1) := by rw [List.length_take]; omega
  have l2 : ((lawBits 6 c).drop (8 * (c.length - 1))).length = 8 - 2 * c.length := by rw [List.length_drop]; omega
  have b1 : ∀ b ∈ (lawBits 6 c).take (8 * (c.length - 1)), 0 ≤ b ∧ b < 2 := fun b hb => lawBits_bit b (List.mem_of_mem_take hb)
  have b2 : ∀ b ∈ (lawBits 6 c).drop (8 * (c.length - 1)), 0 ≤ b ∧ b < 2 := fun b hb => lawBits_bit b (List.mem_of_mem_drop hb)
  have ht : tot 64 c = tot 2 (lawBits 6 c) := (tot_bits (sz := 6) _ _ rfl hc).symm
  have B2 := tot_bound (B := 2) (by decide) _ b2
  rw [l2] at B2
  have hn : lawNumbers 8 (lawBits 6 c) = lawNumbers 8 ((lawBits 6 c).take (8 * (c.length - 1))) := by
    conv => lhs; rw [e]
    exact numbers_cut (by decide) l1 (by omega)
  have hd := numbers_digs (sz := 8) (by decide) l1 b1
  have hp : (0 : Int) < 2 ^ (8 - 2 * c.length) := Int.pow_pos (by decide)
  rw [groupOctets_digs, hn, hd]
  unfold groupSpare
  rw [ht, e, tot_append, l2, ← e]
  generalize tot 2 ((lawBits 6 c).take (8 * (c.length - 1))) = a at *
  generalize tot 2 ((lawBits 6 c).drop (8 * (c.length - 1))) = b at *
  generalize (2 : Int) ^ (8 - 2 * c.length) = p at *
  have q1 : (a * p + b) / p = a := by
    rw [Int.add_comm, Int.add_mul_ediv_right _ _ (by omega), Int.ediv_eq_zero_of_lt B2.1 B2.2, Int.zero_add]
  have q2 : (a * p + b) % p = b := by
    rw [Int.add_comm, Int.add_mul_emod_self_right, Int.emod_eq_of_lt B2.1 B2.2]
  rw [q1, q2]
  exact ⟨rfl, rfl⟩
theorem partDec_step {c r : List Int} (hc : c.length = 4) : partDec (c ++ r) = groupOctets c ++ partDec r := by
  unfold partDec partDecTo
  rw [List.length_append, hc, show (4 + r.length + 3) / 4 = 1 + (r.length + 3) / 4 from by omega, List.range_add, List.map_append, List.flatten_append]
  congr 1
  · simp [groupAt, List.take_left' hc]
  · rw [List.map_map]
    congr 1
    refine List.map_congr_left fun i _ => ?_
    show groupOctets (groupAt (c ++ r) (1 + i)) = groupOctets (groupAt r i)
    unfold groupAt
    rw [Nat.add_comm 1 i, chunk_next 4 c r hc]
theorem partDec_last {r : List Int} (h0 : 0 < r.length) (h4 : r.length ≤ 4) : partDec r = groupOctets r := by
  unfold partDec partDecTo
  rw [show (r.length + 3) / 4 = 1 from by omega]
  simp [groupAt, List.take_of_length_le h4]
theorem partDec_bits : ∀ {ws : List Int} (_ : ∀ r ∈ ws, 0 ≤ r ∧ r < 64), partDec ws = lawNumbers 8 (lawBits 6 ws) := by
  have key : ∀ (n : Nat) (ws : List Int), ws.length ≤ n → (∀ r ∈ ws, 0 ≤ r ∧ r < 64) → partDec ws = lawNumbers 8 (lawBits 6 ws) := by
    intro n
    induction n with
    | zero =>
      intro ws hn _
      have e : ws = [] := List.eq_nil_of_length_eq_zero (by omega)
      subst e
      rfl
    | succ n ih =>
      intro ws hn hw
      by_cases h0 : ws.length = 0
      · have e : ws = [] := List.eq_nil_of_length_eq_zero h0
        subst e
        rfl
      by_cases h4 : ws.length ≤ 4
      · rw [partDec_last (by omega) h4]
        exact (group_split hw (by omega) h4).1
      · have e : ws = ws.take 4 ++ ws.drop 4 := (List.take_append_drop _ _).symm
        have l1 : (ws.take 4).length = 4 := by rw [List.length_take]; omega
        have l2 : (ws.drop 4).length = ws.length - 4 := List.length_drop
        have g1 := (group_split (c := ws.take 4) (fun r hr => hw r (List.mem_of_mem_take hr)) (by omega) (by omega)).1
        rw [e, partDec_step l1, lawBits_append, lawNumbers_append (sz := 8) (m := 3) (by decide) (by rw [lawBits_length, l1]), g1,
          ih (ws.drop 4) (by omega) fun r hr => hw r (List.mem_of_mem_drop hr)]
  exact fun {ws} h => key _ ws (Nat.le_refl _) h
/-- the last group's left bits are the row's -/
theorem spare_last {ws : List Int} {j : Nat} (hw : ∀ r ∈ ws, 0 ≤ r ∧ r < 64) (h1 : 4 * j < ws.length) (h2 : ws.length ≤ 4 * j + 4) :
    groupSpare (groupAt ws j) = tot 2 ((lawBits 6 ws).drop ((lawBits 6 ws).length / 8 * 8)) := by
  have hg : groupAt ws j = ws.drop (4 * j) := by
    unfold groupAt
    exact List.take_of_length_le (by rw [List.length_drop]; omega)
  have e : ws = ws.take (4 * j) ++ ws.drop (4 * j) := (List.take_append_drop _ _).symm
  have l1 : (ws.take (4 * j)).length = 4 * j := by rw [List.length_take]; omega
  have l2 : (ws.drop (4 * j)).length = ws.length - 4 * j := List.length_drop
  have S := (group_split (c := ws.drop (4 * j)) (fun r hr => hw r (List.mem_of_mem_drop hr)) (by omega) (by omega)).2
  have hb1 : (lawBits 6 (ws.take (4 * j))).length = 24 * j := by rw [lawBits_length, l1]; omega
  have hlen : (lawBits 6 ws).length / 8 * 8 = 24 * j + 8 * ((ws.drop (4 * j)).length - 1) := by
    rw [lawBits_length, l2]; omega
  rw [hg, S, hlen]
  conv => rhs; rw [e, lawBits_append, ← List.drop_drop, List.drop_left' hb1]
  rw [← e]
theorem spare_four {c : List Int} (h : c.length = 4) : groupSpare c = 0 := by
  unfold groupSpare
  rw [h]
  show tot 64 c % 1 = 0
  omega
theorem left_ones {ws : List Int} {j : Nat} (hw : ∀ r ∈ ws, 0 ≤ r ∧ r < 64) (h1 : 4 * j < ws.length) (h2 : ws.length ≤ 4 * j + 4) :
    (1 : Int) ∈ (lawBits 6 ws).drop ((lawBits 6 ws).length / 8 * 8) ↔ 0 < groupSpare (groupAt ws j) := by
  rw [spare_last hw h1 h2]
  exact ones_tot fun b hb => lawBits_bit b (List.mem_of_mem_drop hb)
theorem getD_in {as : List Int} {n : Int} (h0 : 0 ≤ n) (h1 : n < as.length) : as.getD n.toNat 0 ∈ as := by
  rw [List.getD_eq_getElem?_getD, List.getElem?_eq_getElem (by omega)]
  exact List.getElem_mem _
theorem idxOf_getD {as : List Int} (hnd : as.Nodup) {n : Int} (h0 : 0 ≤ n) (h1 : n < as.length) : ((as.idxOf (as.getD n.toNat 0) : Nat) : Int) = n := by
  have hn : n.toNat < as.length := by omega
  rw [List.getD_eq_getElem?_getD, List.getElem?_eq_getElem hn]
  show ((as.idxOf as[n.toNat] : Nat) : Int) = n
  rw [List.Nodup.idxOf_getElem hnd n.toNat hn]
  omega
section
variable {rs as : List Int} {pad : Nat}
theorem bits_pad (rs : List Int) (pad : Nat) : ∀ b ∈ lawBits 8 rs ++ List.replicate pad (0 : Int), 0 ≤ b ∧ b < 2 := by
  intro b hb
  rcases List.mem_append.mp hb with hb | hb
  · exact lawBits_bit b hb
  · rw [List.eq_of_mem_replicate hb]; decide
theorem worths_signs (has : as.length = 64) (hnd : as.Nodup) : worthsOf (signsOf rs as pad) as = lawNumbers 6 (lawBits 8 rs ++ List.replicate pad 0) := by
  unfold worthsOf signsOf
  rw [List.map_map]
  conv => rhs; rw [← List.map_id (lawNumbers 6 (lawBits 8 rs ++ List.replicate pad 0))]
  refine List.map_congr_left fun n hn => ?_
  have := lawNumbers_in (sz := 6) (bits_pad rs pad) n hn
  exact idxOf_getD hnd this.1 (by rw [has]; exact this.2)
theorem signs_in (has : as.length = 64) : ∀ x ∈ signsOf rs as pad, x ∈ as := by
  intro x hx
  obtain ⟨n, hn, rfl⟩ := List.mem_map.mp hx
  have := lawNumbers_in (sz := 6) (bits_pad rs pad) n hn
  exact getD_in this.1 (by rw [has]; exact this.2)
theorem bits_signs (has : as.length = 64) (hnd : as.Nodup) (hm : (rs.length * 8 + pad) % 6 = 0) : lawBits 6 (worthsOf (signsOf rs as pad) as) = lawBits 8 rs ++ List.replicate pad 0 := by
  rw [worths_signs has hnd]
  refine bits_numbers (sz := 6) (q := (rs.length * 8 + pad) / 6) (by decide) ?_ (bits_pad rs pad)
  rw [List.length_append, List.length_replicate, lawBits_length]
  omega
theorem plain_dec (hrs : ∀ r ∈ rs, 0 ≤ r ∧ r < 256) (has : as.length = 64) (hnd : as.Nodup) (hpad : pad < 6) (hm : (rs.length * 8 + pad) % 6 = 0) : partDec (worthsOf (signsOf rs as pad) as) = rs := by
  rw [partDec_bits (worthsOf_in has (signs_in has)), bits_signs has hnd hm, numbers_cut (sz := 8) (m := rs.length) (by decide) (by rw [lawBits_length, Nat.mul_comm]) (by rw [List.length_replicate]; omega)]
  exact numbers_bits (by decide) hrs
theorem plain_no {k : Int} (has : as.length = 64) (hnd : as.Nodup) (hpad : pad < 6) (hm : (rs.length * 8 + pad) % 6 = 0) : ¬ DecFault (signsOf rs as pad) as k := by
  have hin := signs_in (rs := rs) (pad := pad) has
  have hw := worthsOf_in has hin
  have hb := bits_signs (rs := rs) (pad := pad) has hnd hm
  have hlen : (worthsOf (signsOf rs as pad) as).length * 6 = rs.length * 8 + pad := by
    rw [← lawBits_length 6, hb, List.length_append, List.length_replicate, lawBits_length]
  have hl2 := worthsOf_length (signsOf rs as pad) as
  rintro (⟨i, x, _, hx, hxa, _⟩ | ⟨_, j, hj, _, hg, _⟩ | ⟨_, j, hj, _, hg, hsp, _⟩)
  · exact hxa (hin x (List.mem_of_getElem? hx))
  · rw [groupAt_length] at hg
    omega
  · have hne : (groupAt (worthsOf (signsOf rs as pad) as) j).length ≠ 4 := fun e => by rw [spare_four e] at hsp; omega
    rw [groupAt_length] at hg hne
    have h1 := (left_ones hw (j := j) (by omega) (by omega)).mpr hsp
    rw [hb] at h1
    have e : (lawBits 8 rs ++ List.replicate pad (0 : Int)).length / 8 * 8 = (lawBits 8 rs).length := by
      rw [List.length_append, List.length_replicate, lawBits_length]; omega
    rw [e, List.drop_left] at h1
    have := List.eq_of_mem_replicate h1
    omega
end
theorem due_ok {ss as : List Int} {v : Value} (has : as.length = 64) (hin : ∀ x ∈ ss, x ∈ as) (hg : ∀ j, j < (ss.length + 3) / 4 → GoodAt (worthsOf ss as) j) (hv : DueIs v ss as) : ∃ bo t, v = .bytes bo t ∧ KBw.bInts bo = partDec (worthsOf ss as) := by
  have hw := worthsOf_in has hin
  have hl := worthsOf_length ss as
  rcases hv with ⟨i, x, t, _, hx, hxa, _⟩ | ⟨_, ⟨t, _, h⟩ | ⟨bo, t, rfl, hbo, _, _⟩⟩
  · exact absurd (hin x (List.mem_of_getElem? hx)) hxa
  · exfalso
    by_cases h0 : ss.length = 0
    · rcases h with h | h
      · omega
      · have e : worthsOf ss as = [] := List.eq_nil_of_length_eq_zero (by omega)
        rw [e] at h
        simp [lawBits] at h
    · have hj : (ss.length - 1) / 4 < (ss.length + 3) / 4 := by omega
      obtain ⟨g1, g2⟩ := hg _ hj
      rcases h with h | h
      · rw [groupAt_length] at g1
        omega
      · have := (left_ones hw (j := (ss.length - 1) / 4) (by omega) (by omega)).mp h
        omega
  · exact ⟨bo, t, rfl, by rw [hbo, partDec_bits hw]⟩
theorem due_no {ss as : List Int} {v : Value} {k : Int} (has : as.length = 64) (h : DecFault ss as k) (hv : DueIs v ss as) : ∃ t, v = .int k t := by
  have hl := worthsOf_length ss as
  rcases h with ⟨i, x, rfl, hx, hxa, hpre⟩ | ⟨hin, j, hj, _, hg, rfl⟩ | ⟨hin, j, hj, _, hg, hsp, rfl⟩
  · rcases hv with ⟨i2, x2, t, rfl, hx2, hxa2, hpre2⟩ | ⟨hin, _⟩
    · have e : i = i2 := by
        refine Nat.le_antisymm (Nat.not_lt.mp fun hlt => ?_) (Nat.not_lt.mp fun hlt => ?_)
        · refine hxa2 (hpre x2 ?_)
          refine List.mem_of_getElem? (i := i2) ?_
          rw [List.getElem?_take_of_lt hlt]; exact hx2
        · refine hxa (hpre2 x ?_)
          refine List.mem_of_getElem? (i := i) ?_
          rw [List.getElem?_take_of_lt hlt]; exact hx
      exact ⟨t, by rw [e]⟩
    · exact absurd (hin x (List.mem_of_getElem? hx)) hxa
  · rw [groupAt_length] at hg
    rcases hv with ⟨i2, x2, t, rfl, hx2, hxa2, _⟩ | ⟨_, ⟨t, rfl, _⟩ | ⟨bo, t, rfl, _, hm, _⟩⟩
    · exact absurd (hin x2 (List.mem_of_getElem? hx2)) hxa2
    · exact ⟨t, by rw [show (ss.length : Int) - 1 = 4 * (j : Int) from by omega]⟩
    · exfalso; omega
  · have hw := worthsOf_in has hin
    have hne : (groupAt (worthsOf ss as) j).length ≠ 4 := fun e => by rw [spare_four e] at hsp; omega
    rw [groupAt_length] at hg hne ⊢
    rcases hv with ⟨i2, x2, t, rfl, hx2, hxa2, _⟩ | ⟨_, ⟨t, rfl, _⟩ | ⟨bo, t, rfl, _, hm, hno⟩⟩
    · exact absurd (hin x2 (List.mem_of_getElem? hx2)) hxa2
    · exact ⟨t, by rw [show (ss.length : Int) - 1 = 4 * (j : Int) + ((min 4 ((worthsOf ss as).length - 4 * j) : Nat) : Int) - 1 from by omega]⟩
    · exact absurd ((left_ones hw (j := j) (by omega) (by omega)).mpr hsp) hno
end Mine
end

-- Law
section
open PySem PySem.W PyProof.Rows PySem.Calls
set_option Elab.async false
set_option maxRecDepth 100000
namespace Mine
open PyProof.Rows.LCg
local macro_rules | `(tactic| k_all) => `(tactic| assumption)
local macro_rules | `(tactic| walk_at "call ref") => `(tactic| refine Stop.out ?_)
local macro_rules | `(tactic| walk_at "call type:bytes") => `(tactic| refine Stop.out ?_)
local macro_rules | `(tactic| walk_at "binaryOp Mult ref int") => `(tactic| refine Stop.out ?_)
local macro_rules | `(tactic| walk_at "binaryOp Add ref ref") => `(tactic| refine Stop.out ?_)
local macro_rules | `(tactic| walk_at "compareOp NotEq bytes bytes") => `(tactic| refine Stop.out ?_)
local macro_rules | `(tactic| walk_at "compareOp Eq bytes bytes") => `(tactic| refine Stop.out ?_)
local macro_rules | `(tactic| walk_at "binaryOp Add bytes bytes") => `(tactic| refine Stop.out ?_)
local macro_rules | `(tactic| walk_at "eval ListComp") => `(tactic| (k_here; k_dflt (refine ListComp_it (by k_asm) (by with_unfolding_all rfl) (by decide) (by rfl) (by decide) (by rfl) ?_)))

theorem cells_len (l : List Int) : (List.map (fun k' => Int.fmod k' 1000003) (List.take 60 l)).length ≤ 60 := by rw [List.length_map]; exact List.length_take_le _ _
theorem mn_lo (c : Bool) : (0 : Int) < 64 + 2 * if c = true then 1 else 0 := by split <;> decide
theorem mn_hi (c : Bool) : (64 : Int) + 2 * (if c = true then 1 else 0) ≤ 66 := by split <;> decide
theorem back_fr {h₀ h h' : Heap} {L : Addr} {m : Str → Option Value} (F : Fr h₀ L h m) (B : Back L h h') : Fr h₀ L h' m :=
  ⟨B.2.ns F.ns, fun b o e => B.1 b o (F.keep b o e) (fun q => by rw [q, kts_self F] at e; cases e), F.above⟩
theorem back_news {h₀ h h' : Heap} {L : Addr} {l : List (Addr × Obj)} (N : News h₀ L h l) (B : Back L h h') : News h₀ L h' l :=
  fun p hp => ⟨B.1 _ _ (N p hp).1 (N p hp).2.1, (N p hp).2⟩
set_option maxHeartbeats 8000000 in
theorem law_holds : PySem.Challenge.rw_no0347_01.Holds := hd (by
  k_go0
  (all_goals try k_fold)
  k_steps
  rename Frag.In _ _ => X
  rename Top _ _ _ _ _ _ => T
  rename Fr _ _ _ _ => F1
  rename News _ _ _ _ => N1
  rename IntsAre _ (List.map _ _) => hcs
  rename List.length _ = List.length (List.map _ _) => hcl
  (try dsimp only at F1 N1 ⊢)
  rename (_ < _ ∧ _) => l1
  obtain ⟨a1, a2, a3, a4, a5⟩ := l1
  refine draw_at (dp := 1 + claimMargin + 1) (un := 7) (pre := []) F1 N1 (below_caller _) (by rfl) (by rfl) X T (by decide) (fun p hp => nomatch hp) ?hn (.head _) (by rfl) hcs (cells_len _) (by decide) (by decide) (by decide) (by decide) ?_
  case hn =>
    simp only [List.forall_mem_cons]
    exact ⟨Nat.ne_of_lt a1, Nat.ne_of_lt a2, Nat.ne_of_lt a3, Nat.ne_of_lt a4, Nat.ne_of_lt a5, fun _ h => nomatch h⟩
  intro d1 td1 h1 t1 n1 tk1 hd10 hd11 F2 N2
  clear F1 N1
  simp only [List.nil_append] at N2
  show wpAny _ _ _ _ _ _
  (try k_fold)
  k_steps
  refine law_alphabet_call (dp := 1 + claimMargin + 1) (un := 7) (CallAt.of (below_caller _) F2 (by rfl) (by rfl) X T) (by decide) hd10 hd11 ?_
  intro al ta as h2 tk2 k2 hal hal64 hnd
  have F3 := F2.keeps k2
  have N3 := news_kept N2 k2
  clear F2 N2
  show wpAny _ _ _ _ _ _
  (try k_fold)
  k_steps
  rename Fr _ _ _ _ => F5
  rename News _ _ _ _ => N5
  (try dsimp only at F5 N5 ⊢)
  refine draw_at (dp := 1 + claimMargin + 1) (un := 7) (pre := []) F5 N5 (below_caller _) (by rfl) (by rfl) X T (by decide) (fun p hp => nomatch hp) ?hn (.head _) (by rfl) hcs (cells_len _) (by decide) (by decide) (by decide) (by decide) ?_
  case hn =>
    simp only [List.forall_mem_cons]
    exact ⟨Nat.ne_of_lt a1, Nat.ne_of_lt a2, Nat.ne_of_lt a3, Nat.ne_of_lt a4, Nat.ne_of_lt a5, fun _ h => nomatch h⟩
  intro d2 td2 h6 t6 n6 tk6 hd20 hd21 F6 N6
  clear F5 N5
  simp only [List.nil_append] at N6
  show wpAny _ _ _ _ _ _
  (try k_fold)
  k_steps
  rename IsRange _ _ _ _ _ _ _ _ => hr
  rename Fr _ _ _ _ => F7
  rename News _ _ _ _ => N7
  dsimp only at hr F7 N7 ⊢
  refine CompAt.range (n := d2.toNat) (by rfl) F7 N7 hr (small_one (by omega) (by omega) (by omega) (by omega)) (by rw [rangeSize_one]; split <;> omega) (by rw [PySem.sizeLine_eq]; omega) ?_
  intro g
  refine comp_rows (fun r => 0 ≤ r ∧ r < 256) (PenJ _ _ _ _ _ 10 1) ⟨_, _, _, ?_, ?_, rfl⟩ ?_ ?_
  · decide
  · decide
  · rintro i v I oI C oC D m₂ ys nw h tk E' hi hv ⟨k, t, n, hk0, hk1, rfl⟩ hC hx F N off ne
    clear hr F7 N7
    (try dsimp only at F N)
    show wpAny _ _ _ _ _ _
    (try k_fold)
    k_steps
    refine draw_at (dp := 1 + claimMargin + 1) (un := 7) (pre := [(I, oI), (C, oC), (D, lst ys)]) F N (below_caller _) (by rfl) (by rfl) X T (by decide) ?hn1 ?hn2 (.tail _ (.tail _ (.tail _ (.head _)))) (by rfl) hcs (cells_len _) hk0 (by omega) (by decide) (by decide) ?_
    case hn1 =>
      simp only [List.forall_mem_cons]
      exact ⟨Ne.symm off.1.1, Ne.symm off.1.2.1, Ne.symm off.1.2.2, fun _ h => nomatch h⟩
    case hn2 =>
      simp only [List.forall_mem_cons]
      exact ⟨Nat.ne_of_lt a1, Nat.ne_of_lt a2, Nat.ne_of_lt a3, Nat.ne_of_lt a4, Nat.ne_of_lt a5, fun _ h => nomatch h⟩
    intro d td h' t' n' tk' hd0 hd1 F' N'
    exact ⟨h', tk', _, rfl, F', news_back3 N', off, trivial, ⟨k + 1, t', n', by omega, by omega, rfl⟩, d, td, rfl, hd0, hd1⟩
  · rintro ys rs nw hys hlen hR ⟨k, t, n, hk0, hk1, rfl⟩ D8 h8 tk8 F8 N8 o8
    clear hr F7 N7
    show wpAny _ _ _ _ _ _
    (try k_fold)
    k_steps
    have hos : rs.length ≤ 9 := by omega
    refine KBa.make_K F8 N8 (by rfl) (News.isList N8 (List.mem_cons_self ..)) hys hR (by omega) fun h9 tb9 k9 F9 N9 _ => ?_
    replace N9 := news_tail N9
    clear F8 N8
    have hob : KBw.bInts (byteArr rs) = rs := KBa.ints_make hR
    generalize byteArr rs = ob at *
    show wpAny _ _ _ _ _ _
    (try k_fold)
    k_steps
    rename Fr _ _ _ _ => F10
    rename News _ _ _ _ => N10
    (try dsimp only at F10 N10 ⊢)
    refine law_bits_call (dp := 1 + claimMargin + 1) (un := 7) (sz := 8) (CallAt.of (below_caller _) F10 (by rfl) (by rfl) X T) (by decide) (IterInts.bytes hob) hR (by omega) (by decide) ?_
    intro D11 vs11 h11 tk11 k11 hD110 hD11 hv11
    have N11 := news_fresh F10 N10 k11 hD110 hD11
    have ne11 := news_ne N10 hD110
    have F11 := F10.keeps k11
    have hbl := lawBits_length 8 rs
    have hb01 : ∀ b ∈ lawBits 8 rs, 0 ≤ b ∧ b < 2 := lawBits_bit
    clear F10 N10
    show wpAny _ _ _ _ _ _
    (try k_fold)
    k_steps
    rename Fr _ _ _ _ => F12
    rename News _ _ _ _ => N12
    (try dsimp only at F12 N12 ⊢)
    obtain ⟨pad, hpad, hpad6, hpadm⟩ := pad_of (lawBits 8 rs).length
    rw [hpad]
    refine KMa.mul (vs := [.int 0 _]) F12 N12 (News.isList N12 (List.mem_cons_self ..)) (by omega) (by omega) (by simp; omega) rfl fun D13 h13 F13 N13 l13 => ?_
    clear F12 N12
    show wpAny _ _ _ _ _ _
    (try k_fold)
    refine kmk_add_ints F13 N13 (News.isList N13 (.tail _ (.tail _ (.head _)))) (News.isList N13 (List.mem_cons_self ..)) hv11 (zeros_are _ pad) (fun D14 us14 h14 F14 N14 l14 hu14 => ?_) ?_
    · have hbits01 := pad_bits (pad := pad) hb01
      have hbitslen : (lawBits 8 rs ++ List.replicate pad 0).length = rs.length * 8 + pad := by rw [List.length_append, List.length_replicate, hbl]
      generalize hbits : lawBits 8 rs ++ List.replicate pad 0 = bits at *
      replace N14 := news_cut3 N14
      clear F13 N13 l13 l14 ne11
      show wpAny _ _ _ _ _ _
      (try k_fold)
      k_steps
      rename Fr _ _ _ _ => F15
      rename News _ _ _ _ => N15
      (try dsimp only at F15 N15 ⊢)
      refine law_numbers_call (dp := 1 + claimMargin + 1) (un := 7) (sz := 6) (CallAt.of (below_caller _) F15 (by rfl) (by rfl) X T) (by decide) (News.isList N15 (List.mem_cons_self ..)) hu14 hbits01 (by omega) (by decide) (by decide) ?_
      intro D16 vs16 h16 tk16 k16 hD160 hD16 hv16
      have N16 := news_fresh F15 N15 k16 hD160 hD16
      have ne16 := news_ne N15 hD160
      have F16 := F15.keeps k16
      clear F15 N15
      have hnl := lawNumbers_length 6 bits
      have hn64 : ∀ n ∈ lawNumbers 6 bits, 0 ≤ n ∧ n < 64 := lawNumbers_in (sz := 6) hbits01
      show wpAny _ _ _ _ _ _
      (try k_fold)
      k_steps
      have hal256 : ∀ a ∈ as, 0 ≤ a ∧ a < 256 := fun a h => KBw.ints_in (hal ▸ h)
      refine CompAt.list (its := vs16.toArray) (by rfl) F16 N16 (.inr ⟨lst vs16, List.mem_cons_self .., rfl, _, rfl⟩) (by rw [List.size_toArray, hv16.length, hnl, PySem.sizeLine_eq]; omega) ?_
      intro g2
      refine comp_ints (ks := lawNumbers 6 bits) (fun n => as.getD n.toNat 0) (by rw [List.size_toArray, hv16.length]) ?_ ?_ ?_
      · intro i v hi hv
        exact are_get hv16 i v (by simpa using hv)
      · intro k9 t9 I oI C9 oC D9 m₂ ys2 h17 tk17 E' hk9 hC hx F17 N17 off17 ne17
        have hk64 := hn64 k9 hk9
        clear F16 N16
        (try dsimp only at F17 N17)
        show wpAny _ _ _ _ _ _
        (try k_fold)
        k_steps
        exact ⟨_, _, _, rfl, F17, N17, off17, .inr ⟨lst vs16, List.mem_cons_self .., rfl, _, rfl⟩, rfl, _, rfl⟩
      · intro ys17 hy17 D17 h17 tk17 F17 N17 o17
        clear F16 N16
        show wpAny _ _ _ _ _ _
        (try k_fold)
        k_steps
        replace hy17 : IntsAre ys17 (signsOf rs as pad) := by unfold signsOf; rw [hbits]; exact hy17
        have hss : ∀ x ∈ signsOf rs as pad, 0 ≤ x ∧ x < 256 := by
          intro x hx
          obtain ⟨n, _, rfl⟩ := List.mem_map.mp hx
          exact getD_byte hal256 _
        have hssl : (signsOf rs as pad).length ≤ 13 := by unfold signsOf; rw [hbits, List.length_map, hnl]; omega
        have hpm : (rs.length * 8 + pad) % 6 = 0 := by rw [← hbl]; exact hpadm
        have P1 := plain_enc (as := as) hpad6 hR hpm
        have P2 := plain_dec hR hal64 hnd hpad6 hpm
        have P3 := fun k => plain_no (k := k) (rs := rs) hal64 hnd hpad6 hpm
        generalize signsOf rs as pad = ss at *
        refine KBa.make_K F17 N17 (by rfl) (News.isList N17 (List.mem_cons_self ..)) hy17 hss (by omega) fun h18 tb18 k18 F18 N18 _ => ?_
        replace N18 := news_tail (news_tail N18)
        clear F17 N17 o17 hbits hu14 hv16 hbits01 hbitslen hb01 hv11 hbl hnl hn64 hpm hpadm hpad
        have hsb : KBw.bInts (byteArr ss) = ss := KBa.ints_make hss
        generalize byteArr ss = sb at *
        show wpAny _ _ _ _ _ _
        (try k_fold)
        k_steps
        rename Fr _ _ _ _ => F19
        rename News _ _ _ _ => N19
        (try dsimp only at F19 N19 ⊢)
        refine part_encoded_call (dp := 1 + claimMargin + 1) (un := 7) (CallAt.of (below_caller _) F19 (by rfl) (by rfl) X T) (by decide) (by decide) hob (by omega) hal hal64 ?_
        intro bo20 t20 h20 tk20 k20 hbo20
        obtain rfl : bo20 = sb := bInts_inj (hbo20.trans (P1.trans hsb.symm))
        have F20 := F19.keeps k20
        have N20 := news_kept N19 k20
        clear F19 N19
        show wpAny _ _ _ _ _ _
        (try k_fold)
        k_steps
        refine ne_same ?_
        show wpAny _ _ _ _ _ _
        (try k_fold)
        k_steps
        refine part_decoded_call (dp := 1 + claimMargin + 1) (un := 7) (CallAt.of (below_caller _) F20 (by rfl) (by rfl) X T) (by decide) (by decide) hsb (by omega) hal hal64 hnd ?_ ?_
        · intro bo21 t21 h21 tk21 _ _ k21 hbo21
          obtain rfl : bo21 = ob := bInts_inj (hbo21.trans (P2.trans hob.symm))
          have F21 := F20.keeps k21
          have N21 := news_kept N20 k21
          clear F20 N20
          show wpAny _ _ _ _ _ _
          (try k_fold)
          k_steps
          refine ne_same ?_
          replace N21 := news_tail N21
          clear hbo21 hbo20 P1 P2 P3 hob hsb hos
          show wpAny _ _ _ _ _ _
          (try k_fold)
          k_steps
          refine KBa.add_K (ls := [61, 33]) hal (by decide) (by rw [hal64]; decide) fun t22 k22 hmb => ?_
          generalize al ++ _ = mn at *
          have hm256 := menu_in hal256
          have hml : (as ++ [61, 33]).length = 66 := by rw [List.length_append, hal64]; rfl
          generalize as ++ [61, 33] = ms at *
          show wpAny _ _ _ _ _ _
          (try k_fold)
          k_steps
          rename Fr _ _ _ _ => F23
          rename News _ _ _ _ => N23
          (try dsimp only at F23 N23 ⊢)
          refine draw_at (dp := 1 + claimMargin + 1) (un := 7) (pre := []) F23 N23 (below_caller _) (by rfl) (by rfl) X T (by decide) (fun p hp => nomatch hp) ?hn (.head _) (by rfl) hcs (cells_len _) hk0 (by omega) (by decide) (by decide) ?_
          case hn =>
            simp only [List.forall_mem_cons]
            exact ⟨Nat.ne_of_lt a1, Nat.ne_of_lt a2, Nat.ne_of_lt a3, Nat.ne_of_lt a4, Nat.ne_of_lt a5, fun _ h => nomatch h⟩
          intro d4 td4 h24 t24 n24 tk24 hd40 hd41 F24 N24
          clear F23 N23
          simp only [List.nil_append] at N24
          show wpAny _ _ _ _ _ _
          (try k_fold)
          k_steps
          rename IsRange _ _ _ _ _ _ _ _ => hr
          rename Fr _ _ _ _ => F25
          rename News _ _ _ _ => N25
          dsimp only at hr F25 N25 ⊢
          refine CompAt.range (n := d4.toNat) (by rfl) F25 N25 hr (small_one (by omega) (by omega) (by omega) (by omega)) (by rw [rangeSize_one]; split <;> omega) (by rw [PySem.sizeLine_eq]; omega) ?_
          intro g3
          refine comp_rows (fun r => 0 ≤ r ∧ r < 256) (PenJ _ _ _ _ _ 40 2) ⟨_, _, _, ?_, ?_, rfl⟩ ?_ ?_
          · omega
          · omega
          · rintro i v I oI C oC D m₂ ys nw h tk E' hi hv ⟨k, t, n, hk0, hk1, rfl⟩ hC hx F N off ne
            clear hr F25 N25
            (try dsimp only at F N)
            show wpAny _ _ _ _ _ _
            (try k_fold)
            k_steps
            refine draw_at (dp := 1 + claimMargin + 1) (un := 7) (pre := [(I, oI), (C, oC), (D, lst ys)]) F N (below_caller _) (by rfl) (by rfl) X T (by decide) ?hn1 ?hn2 (.tail _ (.tail _ (.tail _ (.head _)))) (by rfl) hcs (cells_len _) hk0 (by omega) (by decide) (by decide) ?_
            case hn1 =>
              simp only [List.forall_mem_cons]
              exact ⟨Ne.symm off.1.1, Ne.symm off.1.2.1, Ne.symm off.1.2.2, fun _ h => nomatch h⟩
            case hn2 =>
              simp only [List.forall_mem_cons]
              exact ⟨Nat.ne_of_lt a1, Nat.ne_of_lt a2, Nat.ne_of_lt a3, Nat.ne_of_lt a4, Nat.ne_of_lt a5, fun _ h => nomatch h⟩
            intro d5 td5 h5 t5 n5 tk5 hd50 hd51 F5 N5
            replace N5 := news_back3 N5
            clear F N
            show wpAny _ _ _ _ _ _
            (try k_fold)
            k_steps
            refine draw_at (dp := 1 + claimMargin + 1) (un := 7) (pre := [(I, oI), (C, oC), (D, lst ys)]) F5 N5 (below_caller _) (by rfl) (by rfl) X T (by decide) ?hn1 ?hn2 (.tail _ (.tail _ (.tail _ (.head _)))) (by rfl) hcs (cells_len _) (by omega) (by omega) (mn_lo _) (Int.le_trans (mn_hi _) (by decide)) ?_
            case hn1 =>
              simp only [List.forall_mem_cons]
              exact ⟨Ne.symm off.1.1, Ne.symm off.1.2.1, Ne.symm off.1.2.2, fun _ h => nomatch h⟩
            case hn2 =>
              simp only [List.forall_mem_cons]
              exact ⟨Nat.ne_of_lt a1, Nat.ne_of_lt a2, Nat.ne_of_lt a3, Nat.ne_of_lt a4, Nat.ne_of_lt a5, fun _ h => nomatch h⟩
            intro d6 td6 h6 t6 n6 tk6 hd60 hd61 F6 N6
            replace hd61 := Int.lt_of_lt_of_le hd61 (mn_hi _)
            replace N6 := news_back3 N6
            clear F5 N5
            show wpAny _ _ _ _ _ _
            refine KBw.item_K hmb (by omega) hd60 (by omega) fun t' k' _ _ => ?_
            exact ⟨h6, _, _, rfl, F6, N6, off, trivial, ⟨k + 1 + 1, t6, n6, by omega, by omega, rfl⟩, _, _, rfl, getD_byte hm256 _⟩
          · rintro ys qs nw hys hqlen hqR ⟨k, t, n, hk0, hk1, rfl⟩ D26 h26 tk26 F26 N26 o26
            clear hr F25 N25
            have hqs : qs.length ≤ 9 := by omega
            show wpAny _ _ _ _ _ _
            (try k_fold)
            k_steps
            refine KBa.make_K F26 N26 (by rfl) (News.isList N26 (List.mem_cons_self ..)) hys hqR (by omega) fun h27 tb27 k27 F27 N27 _ => ?_
            replace N27 := news_tail N27
            clear F26 N26
            have hqb : KBw.bInts (byteArr qs) = qs := KBa.ints_make hqR
            generalize byteArr qs = qb at *
            show wpAny _ _ _ _ _ _
            (try k_fold)
            k_steps
            rename Fr _ _ _ _ => F28
            rename News _ _ _ _ => N28
            (try dsimp only at F28 N28 ⊢)
            refine law_heard_call (dp := 1 + claimMargin + 1) (un := 7) (below_caller _) F28 (by rfl) (by rfl) X T (by decide) (by decide) hqb (by omega) hal hal64 hnd ?_ ?_
            · intro bo29 t29 h29 tk29 hin hgood B29 hbo29
              have F29 := back_fr F28 B29
              have N29 := back_news N28 B29
              clear F28 N28 B29
              show wpAny _ _ _ _ _ _
              (try k_fold)
              k_steps
              refine law_due_call (dp := 1 + claimMargin + 1) (un := 7) (CallAt.of (below_caller _) F29 (by rfl) (by rfl) X T) (by decide) hqb (by omega) hal hal64 ?_
              intro v30 h30 tk30 k30 hv30
              obtain ⟨bo31, t31, rfl, hbo31⟩ := due_ok hal64 hin hgood hv30
              obtain rfl : bo31 = bo29 := bInts_inj (hbo31.trans hbo29.symm)
              have F30 := F29.keeps k30
              have N30 := news_kept N29 k30
              clear F29 N29
              show wpAny _ _ _ _ _ _
              (try k_fold)
              refine eq_same ?_
              k_steps
            · intro k29 t29 h29 tk29 hk29 B29
              have F29 := back_fr F28 B29
              have N29 := back_news N28 B29
              clear F28 N28 B29
              show wpAny _ _ _ _ _ _
              (try k_fold)
              k_steps
              refine law_due_call (dp := 1 + claimMargin + 1) (un := 7) (CallAt.of (below_caller _) F29 (by rfl) (by rfl) X T) (by decide) hqb (by omega) hal hal64 ?_
              intro v30 h30 tk30 k30 hv30
              obtain ⟨t31, rfl⟩ := due_no hal64 hk29 hv30
              have F30 := F29.keeps k30
              have N30 := news_kept N29 k30
              clear F29 N29
              show wpAny _ _ _ _ _ _
              (try k_fold)
              k_steps
        · intro e k h21 tk21 hk _
          exact absurd hk (P3 k)
    · rw [List.length_replicate, PySem.sizeLine_eq]; omega)
end Mine
end

theorem PySem.Challenge.cw_no0347_01_holds : PySem.Challenge.rw_no0347_01.Holds :=
  Mine.law_holds
