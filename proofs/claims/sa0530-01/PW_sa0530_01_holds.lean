import PyProof.Rows.All
import Wide.All
import OpenK.AllK
import Wide.FinOn
import Lean
import PySem.Challenge.RW_sa0530_01
open PySem PySem.W PyProof.Rows PySem.Calls PySem.Spec
set_option Elab.async false
namespace Mine
/-- the run of the top over a tree of objects, with the quick twins of the step -/
noncomputable def topRunQ (tb : String → Option Builtin) (p : Program) (w : World) (n₀ : Nat) (ann : Option Value) : Nat → SharedT → Thread → Option SharedT
  | 0, _, _ => none
  | n + 1, s, t => match through t with
    | true => some s
    | false => match PySem.W.Fast.tw6613529449190102663 n₀ ann t with
      | false => none
      | true => match PySem.W.Fast.tw10156331382660048174 (PySem.W.Fast.tw11892475500146522536 tb) p w s t with
        | some (s', t') => topRunQ tb p w n₀ ann n s' t'
        | none => none
theorem stepOk_q : @PySem.W.Fast.tw6613529449190102663 = @stepOk := PySem.W.Fast.te6613529449190102663.symm
theorem stepT_q : @PySem.W.Fast.tw10156331382660048174 = @stepT := PySem.W.Fast.te10156331382660048174.symm
theorem denote_q : @PySem.W.Fast.tw11892475500146522536 = @denote := PySem.W.Fast.te11892475500146522536.symm
theorem openSeen_q : @PySem.W.Fast.tw4187177175401517315 = @openSeen := PySem.W.Fast.te4187177175401517315.symm
theorem imported_q : @PySem.W.Fast.tw5923862056798008813 = @importedModules := PySem.W.Fast.te5923862056798008813.symm
theorem topRun_of {tb : String → Option Builtin} {p : Program} {w : World} {n₀ : Nat} {ann : Option Value} : ∀ {n : Nat} {s s' : SharedT} {t : Thread}, topRunQ tb p w n₀ ann n s t = some s' → topRun tb p w n₀ ann n s.abs t = some s'.abs
  | 0, _, _, _, h => by cases h
  | n + 1, s, s', t, h => by
    unfold topRunQ at h
    rw [stepOk_q, stepT_q, denote_q] at h
    unfold topRun
    cases he : through t with
    | true => rw [he] at h; cases h; rfl
    | false =>
      rw [he] at h
      cases hk : stepOk n₀ ann t with
      | false => rw [hk] at h; cases h
      | true =>
        rw [hk] at h
        cases hs : stepT (denote tb) p w s t with
        | none => rw [hs] at h; cases h
        | some r => obtain ⟨s₂, t₂⟩ := r; rw [hs] at h; rw [stepT_spec hs]; exact topRun_of h
noncomputable def bootT (P : Params) : BT :=
  .node (boot_o_0 P) (.node (boot_o_1 P) (.node (boot_o_3 P) (.node (boot_o_7 P) .nil .nil) .nil) (.node (boot_o_5 P) (.node (boot_o_9 P) .nil .nil) .nil)) (.node (boot_o_2 P) (.node (boot_o_4 P) (.node (boot_o_8 P) .nil .nil) .nil) (.node (boot_o_6 P) (.node (boot_o_10 P) .nil .nil) .nil))
theorem bootT_heap (P : Params) : absHeap (bootT P) 11 (boot_heap P).life = boot_heap P := by rfl
noncomputable def bootS (w : World) (os : OsState) : SharedT := ⟨bootT w.params, 11, (boot_heap w.params).life, #[], boot_drawn, boot_toks, os⟩
theorem leftO_tree {p p' q : Program} {tb' : String → Option Builtin} {loose : List Str} {Xt : Shared → Bool} {α : Type} {Yf : Shared → α} {Ya : World → α} {N M : Nat} {g0 : Bool} {ann : Option Value} (hp : p = p') (htb : treeTable = tb')
    (open_ : ∀ w : World, (fencedOpening treeTable p w N).map (fun s => (s.heap, s.gens, s.drawn, s.toks)) = some (boot_heap w.params, Array.mk [], boot_drawn, boot_toks))
    (size : ∀ w : World, ((boot_heap w.params).isNs mainGlobals && (Array.mk [] : Array GenState).size == 0, (boot_heap w.params).objs.size, (boot_heap w.params).nsMap mainGlobals "__annotations__") = (true, 11, ann))
    (le : Nat.ble M N = true)
    (looks : ∀ w : World, (fun os => (topRunQ tb' p' w 11 ann M (bootS w os) (topStub p')).map fun s =>
      ((staticsOk (PySem.W.Fast.tw5923862056798008813 p'.main.body) (boot_heap w.params) s.abs.heap && namesBound p' s.abs.heap && gensDone s.abs && laidKept (boot_heap w.params) s.abs.heap), PySem.W.Fast.tw4187177175401517315 q loose (PySem.W.Fast.tw5923862056798008813 p'.main.body) Xt g0 s.abs, Yf s.abs)) = fun _ => some (true, openGood q loose, Ya w)) : LeftO p q loose Xt Yf Ya N g0 := fun w => by
  subst hp htb
  rw [imported_q, openSeen_q] at looks
  obtain ⟨⟨h, gs, d, k, os⟩, e, e'⟩ := Option.map_eq_some_iff.mp (open_ w)
  obtain ⟨rfl, rfl, rfl, rfl⟩ : h = boot_heap w.params ∧ gs = Array.mk [] ∧ d = boot_drawn ∧ k = boot_toks := by simpa using e'
  obtain ⟨z1, z2, z3⟩ : _ ∧ _ ∧ _ := by simpa only [Prod.mk.injEq] using size w
  obtain ⟨s₁, r, l⟩ := Option.map_eq_some_iff.mp (congrFun (looks w) os)
  obtain ⟨l1, l2, l3⟩ : _ ∧ _ ∧ _ := by simpa only [Prod.mk.injEq] using l
  have r := topRun_mono (N - M) _ _ _ _ (topRun_of r)
  rw [show M + (N - M) = N by have := Nat.le_of_ble_eq_true le; omega] at r
  have b : (bootS w os).abs = ⟨boot_heap w.params, Array.mk [], boot_drawn, boot_toks, os⟩ := congrArg (fun h => (⟨h, Array.mk [], boot_drawn, boot_toks, os⟩ : Shared)) (bootT_heap w.params)
  rw [b] at r
  have t : topFrom treeTable p w N ⟨boot_heap w.params, Array.mk [], boot_drawn, boot_toks, os⟩ = some s₁.abs := by
    unfold topFrom
    dsimp only
    rw [z1, z2, z3, r]
    show (match staticsOk (importedModules p.main.body) (boot_heap w.params) s₁.abs.heap && namesBound p s₁.abs.heap && gensDone s₁.abs && laidKept (boot_heap w.params) s₁.abs.heap with | true => _ | false => _) = _
    rw [l1]
  unfold openEnds
  rw [e]
  show (topFrom treeTable p w N _).map _ = _
  rw [t]
  exact congrArg some (Prod.ext l2 l3)
noncomputable def pick (b : List Stmt) (is : List Nat) : List Stmt := is.flatMap fun i => (b.drop i).take 1
noncomputable abbrev lawRow : OpenRow := OpenLaw.row PySem.Challenge.rw_sa0530_01
noncomputable def view : Program := { (OpenRow.toRowW lawRow).prog with main := { (OpenRow.toRowW lawRow).prog.main with body := pick (OpenRow.toRowW lawRow).prog.main.body [1, 2, 4, 5, 6, 7, 8, 9, 10, 11, 12, 13, 14, 16, 17, 18, 20, 21, 22, 23, 24, 26, 27, 28, 29, 30, 31, 32, 33, 34] } }
local macro_rules
  | `(tactic| o_head $H) => do
    let hw := Lean.mkIdent `hw
    let hc := Lean.mkIdent `hc
    let te := Lean.mkIdent `PySem.W.Fast.te11875813962299790604
    `(tactic| (refine holds_open (q := view) (loose := []) (Xt := fun s => xlAt view [] s && recOk (RowW.records (OpenRow.toRowW (OpenLaw.row PySem.Challenge.rw_sa0530_01))) s) (XP := XL view []) (Yf := Hook.obs $H) (Ya := Hook.val $H) (YP := Hook.says $H) (N := 4860) (leftO_tree (M := 4000) (ann := some (.ref 6)) (congrArg (fun r => (OpenRow.toRowW r).prog) (congr PySem.W.Fast.te2368527892694137696 $te)) PySem.W.Fast.te14364793385576792824 (boot_open (by kernel_rfl) (by decide) (fun s => by kernel_rfl)) (fun w => by kernel_rfl) (by decide) (fun w => by kernel_rfl)) (Hook.of $H) (Hook.keeps $H) (fun s e => xl_of s (Bool.and_eq_true_iff.mp e).1) XL.keeps (by rfl) (by rfl) (by rfl) (fun s e => recFacts_of (Bool.and_eq_true_iff.mp e).2) (by rfl) (by first | assumption | decide +kernel) (by decide +kernel) ⟨rfl, rfl, rfl, rfl, rfl, by decide +kernel⟩ ?$hw ?$hc))
set_option maxRecDepth 100000 in
set_option maxHeartbeats 8000000 in
open_top hd for PySem.Challenge.rw_sa0530_01
end Mine

namespace Mine
abbrev Led := List (Addr × Obj)

/-- a call of the def at f, from any frame, over the ledger -/
def Calls (w : World) (f : Addr) (nd nu : Nat) (args : List Value) (news : Led) (Post : Value → Led → Prop) : Prop :=
  ∀ (p : Program) (loose : List Str) (mean : ExcName → Option Value) (mg mb : Str → Option Value) (dp un : Nat) (gd : Option (List Code)) (cn : Str) (cs : Scope) (a : Addr) (ccd : Value) (cl : List (Str × Addr)) (outer : List Env) (A₀ : Around) (base h₀ : Heap) (L : Addr) (m : Str → Option Value) (s : Shared)
    (Q E : Value → Shared → Prop),
    Below A₀ base outer h₀ → Fr h₀ L s.heap m → (hd.heap_39 w.params).In h₀ → News h₀ L s.heap news → Top p loose mean mg mb h₀ → cs.kind = .function → dp + nd < recursionLimit → un + nu < cLine →
    (∀ r news' h' tk', Fr h₀ L h' m → News h₀ L h' news' → Post r news' → Q r { s with heap := h', toks := tk' }) →
    wpAny (model PySem.Challenge.rw_sa0530_01.row.prog w) (ktrTop dp un gd cn cs L a ccd cl outer) (call (.ref f) args) Q E s

abbrev tup2 (a b : Int) (ta tb : Tok) (n : Nat) : Obj := { cls := .type "tuple", data := .seq #[.int a ta, .int b tb] n }

set_option maxRecDepth 100000 in
set_option maxHeartbeats 8000000 in
theorem up_calls (w : World) (news : Led) {x y : Addr} {a b i j : Int} {t1 t2 t3 t4 : Tok} {n n' : Nat} (hx : (x, tup2 a i t1 t2 n) ∈ news) (hy : (y, tup2 b j t3 t4 n') ∈ news) :
    Calls w 249 2 16 [.ref x, .ref y] news (fun r news' => (∃ tk, r = .int (a - b) tk) ∧ news' = news) := by
  unfold Calls
  k_fill
  intro p loose mean mg mb dp un gd cn cs ad ccd cl outer A₀ base h₀ L m s Q E B F X N T hk hd hu hret
  refine wpAny_call ?_
  k_dflt ktr_enter
  k_steps
  exact hret _ _ _ _ (by k_asm) (by k_asm) ⟨⟨_, rfl⟩, rfl⟩
end Mine

namespace Mine

def Hold (P : Prop) : Prop := P
theorem hold {P : Prop} (h : Hold P) : P := h

section
variable {prog : Program} {w : World} {A : Around} {E : Value → Shared → Prop} {s : Shared} {h₀ : Heap} {L : Addr} {m : Str → Option Value} {news : Led}
theorem listAt {a : Addr} {items : Array Value} {n : Nat} (N : News h₀ L s.heap news) (ha : (a, listOf items n) ∈ news) : s.heap.IsList a items := ⟨_, (N _ ha).1, rfl, n, rfl⟩

theorem len_L {α : Type} {val : α → Value} {xs : List α} {a : Addr} {n : Nat} {Q : Value → Shared → Prop} (N : News h₀ L s.heap news) (ha : (a, listOf (xs.map val).toArray n) ∈ news) (hz : xs.length ≤ 1000)
    (h : Q (.int xs.length (s.toks + 1)) { s with toks := s.toks + 1 + 1 }) : wpAny (model prog w) A (call (.builtin "len") [.ref a]) Q E s := by
  have h' : Q (.int ((xs.map val).toArray.size : Int) (s.toks + 1)) { s with toks := s.toks + 1 + 1 } := by simpa using h
  exact len_list (listAt N ha) (by simp; omega) h'

theorem item_L {α : Type} {val : α → Value} {xs : List α} {x : α} {a : Addr} {n : Nat} {value slice : PySem.Expr} {i : Nat} {k : Int} {u : Tok} {Q : Value → Shared → Prop} (N : News h₀ L s.heap news) (ha : (a, listOf (xs.map val).toArray n) ∈ news)
    (hk : k = (i : Int)) (hz : i < 1000) (hx : xs[i]? = some x) (h : Q (val x) s)
    (hs : subscripted slice false (.ref a) (.int k u) = operate [.ref a, .int k u] (getItem (.ref a) (.int k u)) := by with_unfolding_all rfl) :
    wpAny (model prog w) A (subscriptTail value slice (.ref a) (.int k u)) Q E s := by
  have hL := listAt N ha
  refine tail_any hL.typeIs slot_list_getitem.lookup (wpAny_getItem_list hL (by omega) (by omega) ?_ h) hs
  subst hk
  simp [hx]

theorem sliceFrom_L {α : Type} {val : α → Value} {xs : List α} {a : Addr} {n i : Nat} {u : Tok} {value slice : PySem.Expr} {Q : Value → Shared → Prop} (F : Fr h₀ L s.heap m) (N : News h₀ L s.heap news) (ha : (a, listOf (xs.map val).toArray n) ∈ news)
    (hz : xs.length ≤ 1000) (hi : i ≤ xs.length)
    (h : ∀ b h', Fr h₀ L h' m → News h₀ L h' ((b, listOf ((xs.drop i).map val).toArray 0) :: news) → (∀ p ∈ news, p.1 < b) → Q (.ref b) { s with heap := h' })
    (hs : subscripted slice false (.ref a) (.ref s.heap.objs.size) = operate [.ref s.heap.objs.size, .ref a] (getItem (.ref a) (.ref s.heap.objs.size)) := by with_unfolding_all rfl)
    (ht : ∀ r, letTemporaryGo value (.ref a) r = pure () := by intro _; with_unfolding_all rfl) :
    wpAny (model prog w) A (subscriptTail value slice (.ref a) (.ref s.heap.objs.size)) Q E { s with heap := s.heap.push { cls := .type "slice", data := .fields #[.int i u, .none, .none] } } := by
  refine slice_list (lo := some (i : Int)) (hi := none) F N (listAt N ha) (.int _ _) .none (fun h' F' N' => ?_) hs ht (by rw [sizeLine_eq]; simp; omega)
  rw [show slicePick (xs.map val).toArray (some (i : Int)) none none = ((xs.drop i).map val).toArray by rw [slicePick_from _ _ (by simp; exact hi)]; simp] at N'
  exact h _ h' F' N' fun p hp => Nat.lt_succ_of_lt (Heap.lt_size (N p hp).1)

theorem callWith_P {M : Model} {P : Heap → Prop} {f : Value} {first : List Value} {e : PySem.Expr} {rest : List PySem.Expr} {env : Env} {pos : Pos} {Q : Value → Shared → Prop}
    (hk : ∀ h, P h → ∃ k, (k = Keeper.frame ∨ k = Keeper.machine ∨ k = Keeper.boundFrame) ∧ Looks M h (keeperOf f) k)
    (h : wpAny M A (spliced (backTo pos (starEach (e :: rest) env))) (fun vs s₁ => P s₁.heap ∧ wpAny M A (call f (first ++ vs)) Q E s₁) E s)
    (he : starEach (e :: rest) env = (false, eval e env) :: starEach rest env := by rfl) (hplain : (backTo pos (starEach rest env)).any (·.1) = false := by rfl) :
    wpAny M A (callWith pos f first (backTo pos (starEach (e :: rest) env)) []) Q E s := by
  rw [he] at h ⊢
  exact callWith_of (by show ((false || (backTo pos (starEach rest env)).any (·.1)) || false) = false; rw [hplain]; rfl) hk (evalArgs_plain h)

theorem extend_L {α : Type} {val : α → Value} {xs ys : List α} {D b : Addr} {n n2 : Nat} {own rest : Led} {Q : Value → Shared → Prop}
    (F : Fr h₀ L s.heap m) (N : News h₀ L s.heap (own ++ (D, listOf (xs.map val).toArray n) :: rest)) (hown : ∀ p ∈ own, p.1 ≠ D) (hap : ∀ p ∈ rest, p.1 ≠ D)
    (hb : (b, listOf (ys.map val).toArray n2) ∈ own ++ (D, listOf (xs.map val).toArray n) :: rest) (hz : xs.length + ys.length ≤ 1000)
    (h : ∀ h' n', Fr h₀ L h' m → News h₀ L h' (own ++ (D, listOf ((xs ++ ys).map val).toArray n') :: rest) → Q .none { s with heap := h' }) :
    wpAny (model prog w) A (call (.builtin "list.extend") [.ref D, .ref b]) Q E s := by
  refine extend_in F N hown hap (N _ hb).1 (fun h' n' F' N' => h h' n' F' ?_) (by rw [sizeLine_eq]; simp; omega)
  simpa using N'

theorem append_L {α : Type} {val : α → Value} {xs : List α} {x : α} {D : Addr} {n : Nat} {rest : Led} {Q : Value → Shared → Prop}
    (F : Fr h₀ L s.heap m) (N : News h₀ L s.heap ((D, listOf (xs.map val).toArray n) :: rest)) (hap : ∀ p ∈ rest, p.1 ≠ D) (hz : xs.length ≤ 1000)
    (h : ∀ h' n', Fr h₀ L h' m → News h₀ L h' ((D, listOf ((xs ++ [x]).map val).toArray n') :: rest) → Q .none { s with heap := h' }) :
    wpAny (model prog w) A (call (.builtin "list.append") [.ref D, val x]) Q E s := by
  refine append_K F N (Upd.head hap) (fun h' F' N' => h h' (n + 1) F' ?_) (by rw [sizeLine_eq]; simp; omega)
  simpa using N'

theorem extend_L1 {α : Type} {val : α → Value} {xs ys : List α} {D b : Addr} {n n2 : Nat} {rest : Led} {Q : Value → Shared → Prop}
    (F : Fr h₀ L s.heap m) (N : News h₀ L s.heap ((b, listOf (ys.map val).toArray n2) :: (D, listOf (xs.map val).toArray n) :: rest)) (hb : ∀ p ∈ (D, listOf (xs.map val).toArray n) :: rest, p.1 < b) (hap : ∀ p ∈ rest, p.1 ≠ D) (hz : xs.length + ys.length ≤ 1000)
    (h : ∀ h' n', Fr h₀ L h' m → News h₀ L h' ((D, listOf ((xs ++ ys).map val).toArray n') :: rest) → Q .none { s with heap := h' }) :
    wpAny (model prog w) A (call (.builtin "list.extend") [.ref D, .ref b]) Q E s :=
  extend_L (own := [(b, listOf (ys.map val).toArray n2)]) F N (fun p hp => by rw [List.mem_singleton.mp hp]; exact Nat.ne_of_gt (hb _ (.head _))) hap (.head _) hz fun h' n' F' N' => h h' n' F' fun p hp => N' p (.tail _ hp)
theorem apart_of {σ : Type} {mt : σ → Led} {rest : Led} {k : σ} {fa : Addr} (h : ∀ kk, ∀ p ∈ mt kk ++ rest, p.1 < fa) : ∀ p ∈ mt k ++ rest, p.1 ≠ fa := fun p hp => Nat.ne_of_lt (h k p hp)
end
end Mine

namespace Mine
section
variable {prog : Program} {w : World} {A : Around} {E : Value → Shared → Prop} {s : Shared} {env : Env} {h₀ : Heap} {x : Str} {body : List Stmt} {Q : Flow → Shared → Prop}

/-- what a turn of a for over a range must show -/
def FEnd (h₀ : Heap) (L : Addr) (J : (Str → Option Value) → Led → Prop) (I : Addr) (o : Obj) (s₁ s₂ : Shared) : Prop :=
  ∃ h' tk m' news', s₂ = { s₁ with heap := h', toks := tk } ∧ Fr h₀ L h' m' ∧ News h₀ L h' ((I, o) :: news') ∧ (∀ p ∈ news', p.1 ≠ I) ∧ J m' news'
def FPost (h₀ : Heap) (L : Addr) (J : (Str → Option Value) → Led → Prop) (I : Addr) (o : Obj) (s₁ : Shared) (Q : Flow → Shared → Prop) (f : Flow) (s₂ : Shared) : Prop :=
  match f with
  | .ret v => Q (.ret v) s₂
  | .brk => Q .next s₂
  | _ => FEnd h₀ L J I o s₁ s₂
theorem FPost.next {h₀ : Heap} {L : Addr} {J : (Str → Option Value) → Led → Prop} {I : Addr} {o : Obj} {s₁ : Shared} {h' : Heap} {tk : Nat} {m' : Str → Option Value} {news' : Led}
    (F : Fr h₀ L h' m') (N : News h₀ L h' ((I, o) :: news')) (off : ∀ p ∈ news', p.1 ≠ I) (hj : J m' news') : FPost h₀ L J I o s₁ Q .next { s₁ with heap := h', toks := tk } := ⟨h', tk, m', news', rfl, F, N, off, hj⟩

theorem for_range {r : Addr} {a₀ b₀ c₀ : Int} {t₀ u₀ v₀ : Tok} {n : Nat} {m₀ : Str → Option Value} {news : Led} (J : Nat → (Str → Option Value) → Led → Prop)
    (hh : A.handled = none) (hr : IsRange s.heap r a₀ b₀ c₀ t₀ u₀ v₀) (hsmall : Builtin.Range.small a₀ b₀ c₀ = true) (hn : Builtin.Range.rangeSize a₀ b₀ c₀ = (n : Int))
    (F : Fr h₀ env.locals s.heap m₀) (N : News h₀ env.locals s.heap news) (hj : J 0 m₀ news)
    (turn : ∀ i t m₁ news₁ I o h tk, i < n → J i m₁ news₁ → (∀ p ∈ news₁, p.1 ≠ I) → Fr h₀ env.locals h (fun y => if y = x then some (.int (a₀ + (i : Int) * c₀) t) else m₁ y) → News h₀ env.locals h ((I, o) :: news₁) →
      wpAny (model prog w) A (execs body env) (FPost h₀ env.locals (J (i + 1)) I o { s with heap := h, toks := tk } Q) E { s with heap := h, toks := tk })
    (done : ∀ m₁ news₁ h tk, J n m₁ news₁ → Fr h₀ env.locals h m₁ → News h₀ env.locals h news₁ → Q .next { s with heap := h, toks := tk }) :
    wpAny (model prog w) A (pyIter (.ref r)) (fun it s₂ => LoopAtV prog w A h₀ env x body Q E it s₂) E s := by
  refine wpAny_pyIter_range hr hsmall ?_
  have W := Walks.range (prog := prog) (w := w) hh s.heap.objs.size a₀ c₀ n
  refine ⟨_, _, _, n, _, _, m₀, news, J, rfl, W, ?_, ?_, ?_, (by show IsRangeIter _ _ _ _ _; rw [hn]; simpa using Heap.get?_push_size _ rfl), F.push _, (fun p hp => ⟨Heap.get?_push_of_some _ (N p hp).1, (N p hp).2⟩), hj, ?_, ?_⟩
  · intro hm
    exact absurd F.ns.lt ((List.mem_singleton.mp hm) ▸ Nat.lt_irrefl _)
  · intro b hb
    rw [List.mem_singleton.mp hb]
    exact next_is_new F
  · intro p hp hI
    exact absurd (Heap.lt_size (N p hp).1) ((List.mem_singleton.mp hI) ▸ Nat.lt_irrefl _)
  · rintro i v m₁ news₁ s₁ own ⟨hh', tk', rfl⟩ hin ⟨t, rfl⟩ hJ hoff hown hown2 hown3 hst F₁ N₁
    obtain ⟨o, hI⟩ : ∃ o, hh'.get? s.heap.objs.size = some o := ⟨_, hst⟩
    have hIo := hown3 s.heap.objs.size (.head _) (next_is_new F) _ hI
    have N₂ := N₁ _ (List.mem_append_left _ hIo)
    have hoff' : ∀ p ∈ news₁, p.1 ≠ s.heap.objs.size := fun p hp e => hoff p hp (by rw [e]; exact .head _)
    have N₃ : News h₀ env.locals hh' ((s.heap.objs.size, o) :: news₁) := fun p hp => by
      rcases List.mem_cons.mp hp with rfl | hp
      · exact N₂
      · exact N₁ p (List.mem_append_right _ hp)
    refine wpAny_mono (turn i t m₁ news₁ s.heap.objs.size o hh' tk' hin hJ hoff' F₁ N₃) (fun f s₂ p => ?_) fun _ _ e => e
    have fin : FEnd h₀ env.locals (J (i + 1)) s.heap.objs.size o { s with heap := hh', toks := tk' } s₂ → LoopStepU h₀ env.locals [s.heap.objs.size] own (J (i + 1)) { s with heap := hh', toks := tk' } .next s₂ := by
      rintro ⟨h', tk, m', news', e, F', N', off', hm⟩
      refine ⟨rfl, h', tk, m', news', e, F', fun p hp => ?_, fun p hp hq => off' p hp (List.mem_singleton.mp hq), hm⟩
      rcases List.mem_append.mp hp with hp | hp
      · have e1 : p.1 = s.heap.objs.size := List.mem_singleton.mp (hown p hp)
        have e2 := hown2 p hp
        have e3 : hh'.get? p.1 = some p.2 := e2
        rw [e1, hI] at e3
        have : p = (s.heap.objs.size, o) := Prod.ext e1 (Option.some.inj e3).symm
        rw [this]
        exact N' _ (.head _)
      · exact N' p (.tail _ hp)
    cases f with
    | ret v => exact .ret p
    | brk => exact .brk p
    | next => exact .next (fin p)
    | cont => exact .cont (fin p)
  · rintro h' tk m' news' F' N' _ hJ
    exact done m' news' h' tk hJ F' N'
end

section
open LCg LCt
variable {prog : Program} {w : World} {A : Around} {s : Shared} {h₀ : Heap} {L : Addr} {m : Str → Option Value} {env : Env} {elt ct : PySem.Expr} {x : Str} {scope : Scope} {cl : List (Str × Addr)} {S : Led → Prop} {P : Nat → Value → Prop} {Fin : List Value → Led → Prop} {n : Nat} {news : Led}
theorem comp_ind (J : Nat → List Value → Led → Prop) (h0 : J 0 [] news)
    (turn : ∀ i ys news v I oI C oC D m₂ h tk (E' : Value → Shared → Prop), i < n → P i v → J i ys news → NsObj oC m₂ → m₂ x = some v → Fr h₀ L h m → News h₀ L h ((I, oI) :: (C, oC) :: (D, lst ys) :: news) → (∀ p ∈ news, p.1 ≠ I ∧ p.1 ≠ C ∧ p.1 ≠ D) → ((@Ne Nat I C) ∧ (@Ne Nat I D) ∧ (@Ne Nat C D)) →
      wpAny (model prog w) A (eval elt (compEnvC scope cl C env)) (CompEnd h₀ L m { s with heap := h, toks := tk } I oI C oC D (lst ys) S (fun y news' => J (i + 1) (ys ++ [y]) news')) E' { s with heap := h, toks := tk })
    (fin : ∀ ys news, J n ys news → Fin ys news) : CompRest prog w A h₀ L m env elt x scope cl s S P Fin n 0 [] news := by
  have all : ∀ k i ys news, i + k = n → J i ys news → CompRest prog w A h₀ L m env elt x scope cl s S P Fin k i ys news := by
    intro k
    induction k with
    | zero => intro i ys news e hj; obtain rfl : i = n := e; exact fin _ _ hj
    | succ k ih =>
      intro i ys news e hj
      refine CompRest.succ fun v I oI C oC D m₂ h tk E' hP hC hx F N off ne => ?_
      refine wpAny_mono (turn i ys news v I oI C oC D m₂ h tk E' (by omega) hP hj hC hx F N off.mem ne) (fun y s₂ hq => ?_) fun _ _ e => e
      obtain ⟨h', tk', news', e1, F', N', off', hS, hj'⟩ := hq
      exact ⟨h', tk', news', e1, F', N', off', hS, ih (i + 1) _ _ (by omega) hj'⟩
  exact all n 0 [] news (by omega) h0

theorem comp_indT (J : Nat → List Value → Led → Prop) (h0 : J 0 [] news)
    (turn : ∀ i ys news v I oI C oC D m₂ h tk (E' : Value → Shared → Prop), i < n → P i v → J i ys news → NsObj oC m₂ → m₂ x = some v → Fr h₀ L h m → News h₀ L h ((I, oI) :: (C, oC) :: (D, lst ys) :: news) → (∀ p ∈ news, p.1 ≠ I ∧ p.1 ≠ C ∧ p.1 ≠ D) → ((@Ne Nat I C) ∧ (@Ne Nat I D) ∧ (@Ne Nat C D)) →
      wpAny (model prog w) A (isTrue ct (compEnvC scope cl C env) (eval ct (compEnvC scope cl C env))) (fun ok s' => if ok = true then
        wpAny (model prog w) A (eval elt (compEnvC scope cl C env)) (CompEnd h₀ L m { s with heap := h, toks := tk } I oI C oC D (lst ys) S (fun y news' => J (i + 1) (ys ++ [y]) news')) E' s'
        else CompEnd h₀ L m { s with heap := h, toks := tk } I oI C oC D (lst ys) S (fun _ news' => J (i + 1) ys news') Value.none s') E' { s with heap := h, toks := tk })
    (fin : ∀ ys news, J n ys news → Fin ys news) : CompRestT prog w A h₀ L m env ct elt x scope cl s S P Fin n 0 [] news := by
  have all : ∀ k i ys news, i + k = n → J i ys news → CompRestT prog w A h₀ L m env ct elt x scope cl s S P Fin k i ys news := by
    intro k
    induction k with
    | zero => intro i ys news e hj; obtain rfl : i = n := e; exact fin _ _ hj
    | succ k ih =>
      intro i ys news e hj
      refine CompRestT.succ fun v I oI C oC D m₂ h tk E' hP hC hx F N off ne => ?_
      refine wpAny_mono (turn i ys news v I oI C oC D m₂ h tk E' (by omega) hP hj hC hx F N off.mem ne) (fun ok s₂ hq => ?_) fun _ _ e => e
      cases ok with
      | true =>
        simp only [if_true] at hq ⊢
        refine wpAny_mono hq (fun y s₃ hq => ?_) fun _ _ e => e
        obtain ⟨h', tk', news', e1, F', N', off', hS, hj'⟩ := hq
        exact ⟨h', tk', news', e1, F', N', off', hS, ih (i + 1) _ _ (by omega) hj'⟩
      | false =>
        simp only [Bool.false_eq_true, if_false] at hq ⊢
        obtain ⟨h', tk', news', e1, F', N', off', hS, hj'⟩ := hq
        exact ⟨h', tk', news', e1, F', N', off', hS, ih (i + 1) _ _ (by omega) hj'⟩
  exact all n 0 [] news (by omega) h0
end
end Mine

namespace Mine
def merge {α : Type} (ord : α → α → Int) : List α → List α → List α
  | [], ys => ys
  | x :: xs, [] => x :: xs
  | x :: xs, y :: ys => if ord x y ≤ 0 then x :: merge ord xs (y :: ys) else y :: merge ord (x :: xs) ys
termination_by xs ys => xs.length + ys.length
def asks {α : Type} (ord : α → α → Int) : List α → List α → Nat
  | [], _ => 0
  | _ :: _, [] => 0
  | x :: xs, y :: ys => if ord x y ≤ 0 then asks ord xs (y :: ys) + 1 else asks ord (x :: xs) ys + 1
termination_by xs ys => xs.length + ys.length

def OrdP (w : World) (imm : Led) (h : Heap) : Prop := (hd.heap_39 w.params).In h ∧ ∀ p ∈ imm, h.get? p.1 = some p.2
structure OrdOK (w : World) {α σ : Type} (f : Addr) (val : α → Value) (ord : α → α → Int) (dom : α → Prop) (imm : Led) (mt : σ → Led) (cnt : σ → Nat) : Prop where
  call : ∀ k x y rest, dom x → dom y → (∀ p ∈ imm, p ∈ rest) → (∀ p ∈ mt k, ∀ q ∈ rest, q.1 ≠ p.1) → Calls w f 8 80 [val x, val y] (mt k ++ rest) (fun r news' => (∃ tk, r = .int (ord x y) tk) ∧ ∃ k', cnt k' = cnt k + 1 ∧ news' = mt k' ++ rest)
  adr : ∀ k k', (mt k).map (·.1) = (mt k').map (·.1)
  keeper : ∀ h, OrdP w imm h → ∃ k, (k = Keeper.frame ∨ k = Keeper.machine ∨ k = Keeper.boundFrame) ∧ Looks (model PySem.Challenge.rw_sa0530_01.row.prog w) h (keeperOf (.ref f)) k

theorem calls_use {w : World} {f : Addr} {nd nu : Nat} {args : List Value} {news₀ news : Led} {Post : Value → Led → Prop} (C : Calls w f nd nu args news₀ Post)
    {p : Program} {loose : List Str} {mean : ExcName → Option Value} {mg mb : Str → Option Value} {dp un : Nat} {gd : Option (List Code)} {cn : Str} {cs : Scope} {a : Addr} {ccd : Value} {cl : List (Str × Addr)} {outer : List Env} {A₀ : Around} {base h₀ : Heap} {L : Addr} {m : Str → Option Value} {s : Shared}
    {Q E : Value → Shared → Prop} (B : Below A₀ base outer h₀) (F : Fr h₀ L s.heap m) (X : (hd.heap_39 w.params).In h₀) (N : News h₀ L s.heap news) (T : Top p loose mean mg mb h₀) (hk : cs.kind = .function) (hn : ∀ p ∈ news₀, p ∈ news) (hdp : dp + nd < recursionLimit) (hu : un + nu < cLine)
    (ret : ∀ r news' h' tk', Fr h₀ L h' m → News h₀ L h' news' → Post r news' → Q r { s with heap := h', toks := tk' }) :
    wpAny (model PySem.Challenge.rw_sa0530_01.row.prog w) (ktrTop dp un gd cn cs L a ccd cl outer) (call (.ref f) args) Q E s :=
  C _ _ _ _ _ _ _ _ _ _ _ _ _ _ _ _ _ _ _ _ _ _ B F X (fun p hp => N p (hn p hp)) T hk hdp hu ret

theorem ord_use {w : World} {α σ : Type} {f : Addr} {val : α → Value} {ord : α → α → Int} {dom : α → Prop} {imm : Led} {mt : σ → Led} {cnt : σ → Nat} (O : OrdOK w f val ord dom imm mt cnt) {k : σ} {x y : α} {fa : Addr} {o : Obj} {rest : Led}
    {p : Program} {loose : List Str} {mean : ExcName → Option Value} {mg mb : Str → Option Value} {dp un : Nat} {gd : Option (List Code)} {cn : Str} {cs : Scope} {a : Addr} {ccd : Value} {cl : List (Str × Addr)} {outer : List Env} {A₀ : Around} {base h₀ : Heap} {L : Addr} {m : Str → Option Value} {s : Shared}
    {Q E : Value → Shared → Prop} (B : Below A₀ base outer h₀) (F : Fr h₀ L s.heap m) (X : (hd.heap_39 w.params).In h₀) (N : News h₀ L s.heap ((fa, o) :: (mt k ++ rest))) (T : Top p loose mean mg mb h₀) (hk : cs.kind = .function)
    (hi : ∀ p ∈ imm, p ∈ rest) (hj : ∀ kk, ∀ p ∈ mt kk, ∀ q ∈ rest, q.1 ≠ p.1) (hfa : ∀ kk, ∀ p ∈ mt kk ++ rest, p.1 < fa) (hx : dom x) (hy : dom y) (hdp : dp + 8 < recursionLimit) (hu : un + 80 < cLine)
    (ret : ∀ tk k' h' tk', cnt k' = cnt k + 1 → Fr h₀ L h' m → News h₀ L h' ((fa, o) :: (mt k' ++ rest)) → Q (.int (ord x y) tk) { s with heap := h', toks := tk' }) :
    wpAny (model PySem.Challenge.rw_sa0530_01.row.prog w) (ktrTop dp un gd cn cs L a ccd cl outer) (call (.ref f) [val x, val y]) Q E s := by
  refine calls_use (O.call k x y ((fa, o) :: rest) hx hy (fun p hp => .tail _ (hi p hp)) ?_) B F X N T hk ?_ hdp hu ?_
  · intro p hp q hq
    rcases List.mem_cons.mp hq with rfl | hq
    · exact Nat.ne_of_gt (hfa k p (List.mem_append_left _ hp))
    · exact hj k p hp q hq
  · intro p hp
    simp only [List.mem_append, List.mem_cons] at hp ⊢
    rcases hp with h | h | h <;> simp [h]
  · rintro r news' h' tk' F' N' ⟨⟨tk, rfl⟩, k', hc, rfl⟩
    refine ret tk k' h' tk' hc F' fun p hp => N' p ?_
    simp only [List.mem_append, List.mem_cons] at hp ⊢
    rcases hp with h | h | h <;> simp [h]

theorem OrdOK.it {w : World} {α σ : Type} {f : Addr} {val : α → Value} {ord : α → α → Int} {dom : α → Prop} {imm : Led} {mt : σ → Led} {cnt : σ → Nat} (O : OrdOK w f val ord dom imm mt cnt) : OrdOK w f val ord dom imm mt cnt := O
theorem OrdOK.adrs {w : World} {α σ : Type} {f : Addr} {val : α → Value} {ord : α → α → Int} {dom : α → Prop} {imm : Led} {mt : σ → Led} {cnt : σ → Nat} (O : OrdOK w f val ord dom imm mt cnt) {rest : Led} {k : σ} {fa : Addr} (h : ∀ p ∈ mt k ++ rest, p.1 < fa) : ∀ kk, ∀ p ∈ mt kk ++ rest, p.1 < fa := by
  intro kk p hp
  rcases List.mem_append.mp hp with hp | hp
  · have h1 : p.1 ∈ (mt kk).map (·.1) := List.mem_map.mpr ⟨p, hp, rfl⟩
    rw [O.adr kk k] at h1
    obtain ⟨q, hq, e⟩ := List.mem_map.mp h1
    rw [← e]
    exact h q (List.mem_append_left _ hq)
  · exact h p (List.mem_append_right _ hp)
theorem ordP_of {w : World} {imm : Led} {h₀ h : Heap} {L : Addr} {m : Str → Option Value} {news : Led} (F : Fr h₀ L h m) (X : (hd.heap_39 w.params).In h₀) (N : News h₀ L h news) (hs : ∀ p ∈ imm, p ∈ news) : OrdP w imm h :=
  ⟨X.keeps F.keep, fun p hp => (N p (hs p hp)).1⟩
theorem sub_ca {imm rest A : Led} {x : Addr × Obj} (h : ∀ p ∈ imm, p ∈ rest) : ∀ p ∈ imm, p ∈ x :: (A ++ rest) := fun p hp => .tail _ (List.mem_append_right _ (h p hp))

theorem it_lt {fa : Addr} {l : Led} (h : ∀ p ∈ l, p.1 < fa) : ∀ p ∈ l, p.1 < fa := h
theorem merge_cons {α : Type} (ord : α → α → Int) (x y : α) (xs ys : List α) : merge ord (x :: xs) (y :: ys) = if ord x y ≤ 0 then x :: merge ord xs (y :: ys) else y :: merge ord (x :: xs) ys := by rw [merge]
theorem asks_cons {α : Type} (ord : α → α → Int) (x y : α) (xs ys : List α) : asks ord (x :: xs) (y :: ys) = if ord x y ≤ 0 then asks ord xs (y :: ys) + 1 else asks ord (x :: xs) ys + 1 := by rw [asks]
theorem merge_nil {α : Type} (ord : α → α → Int) (xs : List α) : merge ord xs [] = xs := by cases xs <;> simp [merge]
theorem nil_merge {α : Type} (ord : α → α → Int) (ys : List α) : merge ord [] ys = ys := by simp [merge]
theorem asks_nil {α : Type} (ord : α → α → Int) (xs : List α) : asks ord xs [] = 0 := by cases xs <;> simp [asks]
theorem nil_asks {α : Type} (ord : α → α → Int) (ys : List α) : asks ord [] ys = 0 := by simp [asks]

structure MS (α σ : Type) where
  i : Nat
  j : Nat
  acc : List α
  n : Nat
  ti : Tok
  tj : Tok
  k : σ
structure MInv {α σ : Type} (cnt : σ → Nat) (ord : α → α → Int) (xs ys : List α) (k : σ) (c : MS α σ) : Prop where
  hi : c.i ≤ xs.length
  hj : c.j ≤ ys.length
  hm : c.acc ++ merge ord (xs.drop c.i) (ys.drop c.j) = merge ord xs ys
  ha : cnt c.k + asks ord (xs.drop c.i) (ys.drop c.j) = cnt k + asks ord xs ys
  hl : c.acc.length = c.i + c.j

theorem drop_at {α : Type} {xs : List α} {i : Nat} {x : α} (h : xs[i]? = some x) : xs.drop i = x :: xs.drop (i + 1) := by
  obtain ⟨hi, rfl⟩ := List.getElem?_eq_some_iff.mp h
  exact List.drop_eq_getElem_cons hi
theorem lt_at {α : Type} {xs : List α} {i : Nat} {x : α} (h : xs[i]? = some x) : i < xs.length := (List.getElem?_eq_some_iff.mp h).1
section
variable {α σ : Type} {cnt : σ → Nat} {ord : α → α → Int} {xs ys : List α} {k k' : σ} {n : Nat} {c : MS α σ} {x y : α} {t1 t2 : Tok}
theorem MInv.left (I : MInv cnt ord xs ys k c) (hk : cnt k' = cnt c.k + 1) (hx : xs[c.i]? = some x) (hy : ys[c.j]? = some y) (ho : ord x y ≤ 0) : MInv cnt ord xs ys k ⟨c.i + 1, c.j, c.acc ++ [x], n, t1, t2, k'⟩ := by
  obtain ⟨h1, h2, h3, h4, h5⟩ := I
  rw [drop_at hx, drop_at hy, merge_cons, if_pos ho] at h3
  rw [drop_at hx, drop_at hy, asks_cons, if_pos ho] at h4
  have := lt_at hx
  refine ⟨this, h2, ?_, ?_, ?_⟩
  · rw [drop_at hy, ← h3]; simp
  · dsimp only; rw [drop_at hy, ← h4, hk]; omega
  · simp only [List.length_append, List.length_cons, List.length_nil]; omega
theorem MInv.right (I : MInv cnt ord xs ys k c) (hk : cnt k' = cnt c.k + 1) (hx : xs[c.i]? = some x) (hy : ys[c.j]? = some y) (ho : ¬ ord x y ≤ 0) : MInv cnt ord xs ys k ⟨c.i, c.j + 1, c.acc ++ [y], n, t1, t2, k'⟩ := by
  obtain ⟨h1, h2, h3, h4, h5⟩ := I
  rw [drop_at hx, drop_at hy, merge_cons, if_neg ho] at h3
  rw [drop_at hx, drop_at hy, asks_cons, if_neg ho] at h4
  have := lt_at hy
  refine ⟨h1, this, ?_, ?_, ?_⟩
  · rw [drop_at hx, ← h3]; simp
  · dsimp only; rw [drop_at hx, ← h4, hk]; omega
  · simp only [List.length_append, List.length_cons, List.length_nil]; omega
theorem MInv.out (I : MInv cnt ord xs ys k c) (h : xs.length ≤ c.i ∨ ys.length ≤ c.j) : c.acc ++ xs.drop c.i ++ ys.drop c.j = merge ord xs ys ∧ cnt c.k = cnt k + asks ord xs ys := by
  obtain ⟨h1, h2, h3, h4, h5⟩ := I
  rcases h with h | h
  · rw [List.drop_of_length_le h, nil_merge] at h3
    rw [List.drop_of_length_le h, nil_asks] at h4
    rw [List.drop_of_length_le h, ← h3]
    exact ⟨by simp, h4⟩
  · rw [List.drop_of_length_le h, merge_nil] at h3
    rw [List.drop_of_length_le h, asks_nil] at h4
    rw [List.drop_of_length_le h, ← h3]
    exact ⟨by simp, h4⟩
end

abbrev sOne : Str := Str.ofString "one"
abbrev sTwo : Str := Str.ofString "two"
section
variable {α σ : Type} {val : α → Value} {ord : α → α → Int} {mt : σ → Led} {cnt : σ → Nat} {rest : Led} {xs ys : List α} {k : σ} {fa : Addr}
variable {prog : Program} {w : World} {A : Around} {E : Value → Shared → Prop} {Q : Flow → Shared → Prop} {s : Shared} {env : Env} {h₀ : Heap} {L : Addr} {m₀ : Str → Option Value}
abbrev mLed (val : α → Value) (mt : σ → Led) (rest : Led) (fa : Addr) (c : MS α σ) : Led := (fa, listOf (c.acc.map val).toArray c.n) :: (mt c.k ++ rest)
abbrev mPs (c : MS α σ) : List (Str × Value) := [(sOne, .int c.i c.ti), (sTwo, .int c.j c.tj)]
abbrev mMeas (xs ys : List α) (c : MS α σ) : Nat := (xs.length - c.i) + (ys.length - c.j)
def MPost (h₀ : Heap) (L : Addr) (s : Shared) (val : α → Value) (ord : α → α → Int) (mt : σ → Led) (cnt : σ → Nat) (rest : Led) (xs ys : List α) (k : σ) (fa : Addr) (m₀ : Str → Option Value) (Q : Flow → Shared → Prop) (c : MS α σ) : Flow → Shared → Prop :=
  KswPost h₀ L s (mLed val mt rest fa) mPs (fun _ => True) [] m₀ (MInv cnt ord xs ys k) (mMeas xs ys) Q c
theorem merge_while {test : PySem.Expr} {body : List Stmt} {pos : Pos} {n₀ : Nat} {t1 t2 : Tok} (F : Fr h₀ L s.heap m₀) (N : News h₀ L s.heap ((fa, listOf #[] n₀) :: (mt k ++ rest))) (e1 : m₀ sOne = some (.int 0 t1)) (e2 : m₀ sTwo = some (.int 0 t2))
    (turn : ∀ (c : MS α σ) h tk, MInv cnt ord xs ys k c → Fr h₀ L h (fun y => if y = sOne then some (.int c.i c.ti) else if y = sTwo then some (.int c.j c.tj) else m₀ y) → News h₀ L h ((fa, listOf (c.acc.map val).toArray c.n) :: (mt c.k ++ rest)) →
      wpAny (model prog w) A (isTrue test env (eval test env)) (fun b s₂ =>
        if b = true then wpAny (model prog w) A (execs body env) (MPost h₀ L s val ord mt cnt rest xs ys k fa m₀ Q c) E s₂ else Q .next s₂) E { s with heap := h, toks := tk })
    (hE : PassesOwn (model prog w) A env E) : wpAny (model prog w) A (exec (.While test body [] pos) env) Q E s := by
  refine ksw_while (mLed val mt rest fa) mPs (fun _ => True) [] (MInv cnt ord xs ys k) (mMeas xs ys) ⟨0, 0, [], n₀, t1, t2, k⟩ F N trivial ?_ ?_ ?_ hE
  · intro p hp
    simp only [mPs, List.mem_cons, List.not_mem_nil, or_false] at hp
    rcases hp with rfl | rfl <;> assumption
  · exact ⟨Nat.zero_le _, Nat.zero_le _, by simp, by simp, rfl⟩
  · intro c u h tk _ hi F' N'
    exact turn c h tk hi F' N'
theorem merge_end {s : Shared} {h' : Heap} {tk : Nat} {m' : Str → Option Value} {c : MS α σ} {i j : Nat} {acc : List α} {n : Nat} {kk : σ} {t1 t2 : Tok} (F : Fr h₀ L h' m') (N : News h₀ L h' ((fa, listOf (acc.map val).toArray n) :: (mt kk ++ rest)))
    (e1 : m' sOne = some (.int i t1)) (e2 : m' sTwo = some (.int j t2)) (er : ∀ z, z ≠ sOne → z ≠ sTwo → m' z = m₀ z) (hi : MInv cnt ord xs ys k ⟨i, j, acc, n, t1, t2, kk⟩) (hm : (xs.length - i) + (ys.length - j) < (xs.length - c.i) + (ys.length - c.j)) :
    MPost h₀ L s val ord mt cnt rest xs ys k fa m₀ Q c .next { s with heap := h', toks := tk } := by
  refine ksw_end ⟨i, j, acc, n, t1, t2, kk⟩ F N (fun _ h => h) trivial ?_ (fun z hz _ => er z (hz (sOne, _) (.head _)) (hz (sTwo, _) (.tail _ (.head _)))) hi hm
  intro p hp
  simp only [mPs, List.mem_cons, List.not_mem_nil, or_false] at hp
  rcases hp with rfl | rfl <;> assumption
end

local macro_rules | `(tactic| k_steps) => `(tactic| repeat' (first | (k_unfold; (try dsimp only)) | walk1 | (dsimp only; walk1) | (leave1; try dsimp only) | fail "no step"))
local macro_rules | `(tactic| walk_at "exec While") => `(tactic| refine hold ?_)
local macro_rules | `(tactic| k_mem) => `(tactic| first | with_reducible assumption | (refine List.mem_append_right _ ?_; with_reducible assumption) | (refine List.mem_append_left _ ?_; with_reducible assumption))
local macro_rules | `(tactic| k_mem) => `(tactic| first | exact List.Mem.head _ | (refine' List.Mem.tail _ ?_; k_mem))
local macro_rules | `(tactic| k_all) => `(tactic| exact fun p hp => Nat.ne_of_lt ((by with_reducible assumption : ∀ p ∈ _, p.1 < _) p hp))
local macro_rules | `(tactic| walk_at "callWith ref") => `(tactic| (k_here; k_dflt (refine' callWith_P (OrdOK.keeper (by assumption)) ?_)))
local macro_rules | `(tactic| walk_at "And") => `(tactic| ((with_reducible show OrdP _ _ _ ∧ _); refine ⟨ordP_of (by k_asm) (by k_asm) (by k_asm) (sub_ca (by assumption)), ?_⟩; try dsimp only [List.nil_append, List.cons_append]))
local macro_rules | `(tactic| walk_at "call builtin:len") => `(tactic| (k_here; (with_reducible show wpAny _ _ (call (Value.builtin "len") [Value.ref _]) _ _ _); k_dflt (refine' len_L ?k1 ?k2 ?k3 ?_; (case k1 => k_asm); (case k2 => k_mem); (case k3 => omega); k_whole)))
local macro_rules | `(tactic| walk_at "subscriptTail") => `(tactic| (k_here; (with_reducible show wpAny _ _ (subscriptTail _ _ (Value.ref _) (Value.int _ _)) _ _ _); k_dflt (refine' item_L ?k1 ?k2 ?k3 ?k4 ?k5 ?_ ?k6; (case k1 => k_asm); (case k2 => k_mem); (case k3 => exact rfl); (case k4 => omega); (case k5 => with_reducible assumption); (case k6 => with_unfolding_all rfl); k_whole)))

local macro_rules | `(tactic| walk_at "call ref") => `(tactic| (k_here; k_dflt (refine' ord_use (OrdOK.it (by assumption)) ?k1 ?k2 ?k3 ?k4 ?k5 ?k6 ?k7 ?k8 ?k9 ?k10 ?k11 ?k12 ?k13 ?_; (case k1 => k_asm); (case k2 => k_asm); (case k3 => k_asm); (case k4 => k_asm); (case k5 => k_asm); (case k6 => exact rfl); (case k7 => with_reducible assumption); (case k8 => with_reducible assumption); (case k9 => with_reducible assumption); (case k10 => assumption); (case k11 => assumption); (case k12 => ktr_room); (case k13 => ktr_units); k_whole); intro tk' k9 h' tk9 hk9 F' N'; (try k_sweep)))
local macro_rules | `(tactic| walk_at "subscriptTail") => `(tactic| (k_here; (with_reducible show wpAny _ _ (subscriptTail _ _ (Value.ref _) (Value.ref _)) _ _ _); k_dflt (refine' sliceFrom_L ?k1 ?k2 ?k3 ?k4 ?k5 ?_ ?k6 ?k7; (case k1 => k_asm); (case k2 => k_asm); (case k3 => k_mem); (case k4 => omega); (case k5 => omega); (case k6 => with_unfolding_all rfl); (case k7 => intro _; with_unfolding_all rfl); k_whole); intro b' h' F' N' l1; (try k_sweep)))
local macro_rules | `(tactic| walk_at "call builtin:list.append") => `(tactic| (k_here; k_dflt (refine' append_L ?k1 ?k2 ?k3 ?k4 ?_; (case k1 => k_asm); (case k2 => k_asm); (case k3 => exact apart_of (by with_reducible assumption)); (case k4 => omega); k_whole); intro h' n' F' N'; (try k_sweep)))
local macro_rules | `(tactic| walk_at "call builtin:list.extend") => `(tactic| (k_here; k_dflt (refine' extend_L1 ?k1 ?k2 ?k3 ?k4 ?k5 ?_; (case k1 => k_asm); (case k2 => k_asm); (case k3 => assumption); (case k4 => exact apart_of (by with_reducible assumption)); (case k5 => simp only [List.length_append, List.length_drop]; omega); k_whole); intro h' n' F' N'; (try k_sweep)))
set_option maxRecDepth 100000 in
set_option maxHeartbeats 8000000 in
theorem merged_calls (w : World) {α σ : Type} {f : Addr} {val : α → Value} {ord : α → α → Int} {dom : α → Prop} {imm : Led} {mt : σ → Led} {cnt : σ → Nat} (O : OrdOK w f val ord dom imm mt cnt)
    (k : σ) (rest : Led) (hi : ∀ p ∈ imm, p ∈ rest) (hd : ∀ kk, ∀ p ∈ mt kk, ∀ q ∈ rest, q.1 ≠ p.1) {l r : Addr} {xs ys : List α} {n₁ n₂ : Nat}
    (hl : (l, listOf (xs.map val).toArray n₁) ∈ rest) (hr : (r, listOf (ys.map val).toArray n₂) ∈ rest) (hsz : xs.length + ys.length ≤ 100) (hx : ∀ x ∈ xs, dom x) (hy : ∀ y ∈ ys, dom y) :
    Calls w 208 10 100 [.ref l, .ref r, .ref f] (mt k ++ rest) (fun v news' => ∃ a n k', v = .ref a ∧ (∀ p ∈ mt k ++ rest, p.1 < a) ∧ cnt k' = cnt k + asks ord xs ys ∧ news' = (a, listOf ((merge ord xs ys).map val).toArray n) :: (mt k' ++ rest)) := by
  unfold Calls
  k_fill
  intro p loose mean mg mb dp un gd cn cs ad ccd cl outer A₀ base h₀ L m s Q E B F X N T hk hdp hu hret
  refine wpAny_call ?_
  k_dflt ktr_enter
  k_steps
  rename Fr _ _ _ _ => F1
  rename News _ _ _ _ => N1
  have l1 := it_lt (l := mt k ++ rest) (by assumption)
  unfold Hold
  refine merge_while (cnt := cnt) (xs := xs) (ys := ys) (ord := ord) (val := val) F1 N1 rfl rfl ?turn (by passes_own)
  intro c h tk₁ I F2 N2
  obtain ⟨hi', hj', hm', ha', hl'⟩ := id I
  clear F1 N1
  have lk := O.adrs l1
  rcases Nat.lt_or_ge c.i xs.length with hci | hci
  · rcases Nat.lt_or_ge c.j ys.length with hcj | hcj
    · obtain ⟨x, hgx⟩ : ∃ x, xs[c.i]? = some x := ⟨xs[c.i], by simp [hci]⟩
      obtain ⟨y, hgy⟩ : ∃ y, ys[c.j]? = some y := ⟨ys[c.j], by simp [hcj]⟩
      have hdx : dom x := hx x (List.mem_of_getElem? hgx)
      have hdy : dom y := hy y (List.mem_of_getElem? hgy)
      k_steps
      · refine merge_end (i := c.i + 1) (j := c.j) (by assumption) (by assumption) rfl rfl (fun z h1 h2 => (if_neg h1).trans ((if_neg h1).trans (if_neg h2))) (I.left (by assumption) hgx hgy (by assumption)) (by omega)
      · refine merge_end (i := c.i) (j := c.j + 1) (by assumption) (by assumption) rfl rfl (fun z h1 h2 => (if_neg h2).trans ((if_neg h1).trans (if_neg h2))) (I.right (by assumption) hgx hgy (by assumption)) (by omega)
    · obtain ⟨e1, e2⟩ := I.out (.inr hcj)
      k_steps
      exact hret _ _ _ _ (by assumption) (by assumption) ⟨_, _, c.k, rfl, l1, e2, by rw [e1]⟩
  · obtain ⟨e1, e2⟩ := I.out (.inl hci)
    k_steps
    exact hret _ _ _ _ (by assumption) (by assumption) ⟨_, _, c.k, rfl, l1, e2, by rw [e1]⟩
end Mine

namespace Mine
def At {α : Type} (xs : List α) (k : Int) (x : α) : Prop := ∃ i : Nat, k = i ∧ xs[i]? = some x
theorem off1_mem {D : Addr} : ∀ {l : Led}, LCg.Off1 D l → ∀ p ∈ l, p.1 ≠ D
  | [], _, _, h => nomatch h
  | _ :: _, x, p, h => by
    rcases List.mem_cons.mp h with rfl | h
    · exact x.1
    · exact off1_mem x.2 p h

section
variable {prog : Program} {w : World} {A : Around} {E : Value → Shared → Prop} {s : Shared} {h₀ : Heap} {L : Addr} {m : Str → Option Value} {news : Led}
theorem item_A {α : Type} {val : α → Value} {xs : List α} {x : α} {a : Addr} {n : Nat} {value slice : PySem.Expr} {k : Int} {u : Tok} {Q : Value → Shared → Prop} (N : News h₀ L s.heap news) (hx : At xs k x) (ha : (a, listOf (xs.map val).toArray n) ∈ news)
    (hz : xs.length ≤ 1000) (h : Q (val x) s)
    (hs : subscripted slice false (.ref a) (.int k u) = operate [.ref a, .int k u] (getItem (.ref a) (.int k u)) := by with_unfolding_all rfl) :
    wpAny (model prog w) A (subscriptTail value slice (.ref a) (.int k u)) Q E s := by
  obtain ⟨i, hk, hx⟩ := hx
  have hL := listAt N ha
  have hi := lt_at hx
  refine tail_any hL.typeIs slot_list_getitem.lookup (wpAny_getItem_list hL (by omega) (by omega) ?_ h) hs
  subst hk
  simp [hx]
theorem item_Last {α : Type} {val : α → Value} {xs : List α} {x : α} {a : Addr} {n : Nat} {value slice : PySem.Expr} {u : Tok} {Q : Value → Shared → Prop} (N : News h₀ L s.heap news) (hx : xs.getLast? = some x) (ha : (a, listOf (xs.map val).toArray n) ∈ news)
    (hz : xs.length ≤ 1000) (h : Q (val x) s)
    (hs : subscripted slice false (.ref a) (.int (-1) u) = operate [.ref a, .int (-1) u] (getItem (.ref a) (.int (-1) u)) := by with_unfolding_all rfl) :
    wpAny (model prog w) A (subscriptTail value slice (.ref a) (.int (-1) u)) Q E s := by
  have hL := listAt N ha
  rw [List.getLast?_eq_getElem?] at hx
  have hi := lt_at hx
  refine tail_any hL.typeIs slot_list_getitem.lookup (wpAny_getItem_list_neg hL (by decide) (by simp; omega) (by decide) ?_ h) hs
  have : ((-1 : Int) + ((xs.map val).toArray.size : Nat)).toNat = xs.length - 1 := by simp; omega
  rw [this]
  simp [hx]
/-- append to a list on the ledger, wherever it lies at the head behind one entry -/
theorem append_in {α : Type} {val : α → Value} {xs : List α} {x : α} {D : Addr} {n : Nat} {pre post : Led} {Q : Value → Shared → Prop}
    (F : Fr h₀ L s.heap m) (N : News h₀ L s.heap (pre ++ (D, listOf (xs.map val).toArray n) :: post)) (h1 : ∀ p ∈ pre, p.1 ≠ D) (h2 : ∀ p ∈ post, p.1 ≠ D) (hz : xs.length ≤ 1000)
    (h : ∀ h' n', Fr h₀ L h' m → News h₀ L h' (pre ++ (D, listOf ((xs ++ [x]).map val).toArray n') :: post) → Q .none { s with heap := h' }) :
    wpAny (model prog w) A (call (.builtin "list.append") [.ref D, val x]) Q E s := by
  have U : ∀ pre : Led, (∀ p ∈ pre, p.1 ≠ D) → Upd D (listOf (xs.map val).toArray n) (listOf ((xs.map val).toArray.push (val x)) (n + 1)) (pre ++ (D, listOf (xs.map val).toArray n) :: post) (pre ++ (D, listOf ((xs.map val).toArray.push (val x)) (n + 1)) :: post) := by
    intro pre
    induction pre with
    | nil => intro _; exact Upd.head h2
    | cons p r ih => intro hp; exact Upd.tail (hp p (.head _)) (ih fun q hq => hp q (.tail _ hq))
  refine append_K F N (U pre h1) (fun h' F' N' => h h' (n + 1) F' ?_) (by rw [sizeLine_eq]; simp; omega)
  simpa using N'
end

section
variable {prog : Program} {w : World} {A : Around} {E : Value → Shared → Prop} {s : Shared} {env : Env} {h₀ : Heap} {x : Str} {body : List Stmt} {Q : Flow → Shared → Prop}
/-- a turn's end where the frame keeps but the loop's own name -/
def FPostS (h₀ : Heap) (L : Addr) (m₀ : Str → Option Value) (x : Str) (J : Led → Prop) (I : Addr) (o : Obj) (s₁ : Shared) (Q : Flow → Shared → Prop) (f : Flow) (s₂ : Shared) : Prop :=
  FPost h₀ L (fun m news => (∀ z, z ≠ x → m z = m₀ z) ∧ J news) I o s₁ Q f s₂
theorem FPostS.next {h₀ : Heap} {L : Addr} {m₀ : Str → Option Value} {x : Str} {J : Led → Prop} {I : Addr} {o : Obj} {s₁ : Shared} {h' : Heap} {tk : Nat} {u : Option Value} {news' : Led}
    (F : Fr h₀ L h' (fun y => if y = x then u else m₀ y)) (N : News h₀ L h' ((I, o) :: news')) (off : ∀ p ∈ news', p.1 ≠ I) (hj : J news') : FPostS h₀ L m₀ x J I o s₁ Q .next { s₁ with heap := h', toks := tk } :=
  ⟨h', tk, _, news', rfl, F, N, off, fun _ hz => if_neg hz, hj⟩
theorem for_rangeS {r : Addr} {a₀ b₀ c₀ : Int} {t₀ u₀ v₀ : Tok} {n : Nat} {m₀ : Str → Option Value} {news : Led} (J : Nat → Led → Prop)
    (hh : A.handled = none) (hr : IsRange s.heap r a₀ b₀ c₀ t₀ u₀ v₀) (hsmall : Builtin.Range.small a₀ b₀ c₀ = true) (hn : Builtin.Range.rangeSize a₀ b₀ c₀ = (n : Int))
    (F : Fr h₀ env.locals s.heap m₀) (N : News h₀ env.locals s.heap news) (hj : J 0 news)
    (turn : ∀ i t news₁ I o h tk, i < n → J i news₁ → (∀ p ∈ news₁, p.1 ≠ I) → Fr h₀ env.locals h (fun y => if y = x then some (.int (a₀ + (i : Int) * c₀) t) else m₀ y) → News h₀ env.locals h ((I, o) :: news₁) →
      wpAny (model prog w) A (execs body env) (FPostS h₀ env.locals m₀ x (J (i + 1)) I o { s with heap := h, toks := tk } Q) E { s with heap := h, toks := tk })
    (done : ∀ u news₁ h tk, J n news₁ → Fr h₀ env.locals h (fun y => if y = x then u else m₀ y) → News h₀ env.locals h news₁ → Q .next { s with heap := h, toks := tk }) :
    wpAny (model prog w) A (pyIter (.ref r)) (fun it s₂ => LoopAtV prog w A h₀ env x body Q E it s₂) E s := by
  have en : ∀ (m₁ : Str → Option Value) (u : Option Value), (∀ z, z ≠ x → m₁ z = m₀ z) → (fun y => if y = x then u else m₁ y) = fun y => if y = x then u else m₀ y := by
    intro m₁ u h
    funext y
    by_cases hy : y = x
    · simp [hy]
    · simp only [if_neg hy]; exact h y hy
  refine for_range (fun i m news => (∀ z, z ≠ x → m z = m₀ z) ∧ J i news) hh hr hsmall hn F N ⟨fun _ _ => rfl, hj⟩ ?_ ?_
  · rintro i t m₁ news₁ I o h tk hi ⟨hm, hJ⟩ off F₁ N₁
    rw [en m₁ _ hm] at F₁
    exact turn i t news₁ I o h tk hi hJ off F₁ N₁
  · rintro m₁ news₁ h tk ⟨hm, hJ⟩ F₁ N₁
    refine done (m₁ x) news₁ h tk hJ ?_ N₁
    rw [← en m₁ _ hm]
    have : (fun y => if y = x then m₁ x else m₁ y) = m₁ := by funext y; by_cases hy : y = x <;> simp [hy]
    rw [this]; exact F₁
end

structure Run (α : Type) where
  adr : Addr
  xs : List α
  n : Nat
abbrev rv {α : Type} (r : Run α) : Value := .ref r.adr
abbrev runLed {α : Type} (val : α → Value) (rs : List (Run α)) : Led := rs.map fun r => (r.adr, listOf (r.xs.map val).toArray r.n)
theorem run_mem {α : Type} {val : α → Value} {rs : List (Run α)} {r : Run α} (h : r ∈ rs) : (r.adr, listOf (r.xs.map val).toArray r.n) ∈ runLed val rs := List.mem_map_of_mem h

section
variable {α : Type} {ord : α → α → Int}
def pairUp (ord : α → α → Int) : List (List α) → List (List α)
  | a :: b :: r => merge ord a b :: pairUp ord r
  | r => r
def pairAsks (ord : α → α → Int) : List (List α) → Nat
  | a :: b :: r => asks ord a b + pairAsks ord r
  | _ => 0
theorem pairUp_len : ∀ r : List (List α), (pairUp ord r).length = (r.length + 1) / 2
  | [] => by simp [pairUp]
  | [a] => by simp [pairUp]
  | a :: b :: r => by simp only [pairUp, List.length_cons, pairUp_len r]; omega
def rounds (ord : α → α → Int) (runs : List (List α)) : List (List α) := if runs.length ≤ 1 then runs else rounds ord (pairUp ord runs)
termination_by runs.length
decreasing_by rw [pairUp_len]; omega
def roundAsks (ord : α → α → Int) (runs : List (List α)) : Nat := if runs.length ≤ 1 then 0 else pairAsks ord runs + roundAsks ord (pairUp ord runs)
termination_by runs.length
decreasing_by rw [pairUp_len]; omega
def sortM (ord : α → α → Int) (xs : List α) : List α := (rounds ord (xs.map fun x => [x])).headD []
def sortAsks (ord : α → α → Int) (xs : List α) : Nat := roundAsks ord (xs.map fun x => [x])

theorem merge_len (xs ys : List α) : (merge ord xs ys).length = xs.length + ys.length := by
  induction xs, ys using merge.induct ord with
  | case1 ys => simp [merge]
  | case2 x xs => simp [merge]
  | case3 x xs y ys h ih => rw [merge_cons, if_pos h]; simp only [List.length_cons] at ih ⊢; omega
  | case4 x xs y ys h ih => rw [merge_cons, if_neg h]; simp only [List.length_cons] at ih ⊢; omega
theorem mem_merge (xs ys : List α) (z : α) : z ∈ merge ord xs ys ↔ z ∈ xs ∨ z ∈ ys := by
  induction xs, ys using merge.induct ord with
  | case1 ys => simp [merge]
  | case2 x xs => simp [merge]
  | case3 x xs y ys h ih => rw [merge_cons, if_pos h, List.mem_cons, ih, List.mem_cons (l := xs), or_assoc]
  | case4 x xs y ys h ih => rw [merge_cons, if_neg h, List.mem_cons, ih, List.mem_cons (l := ys)]; constructor <;> (intro h; rcases h with h | h | h) <;> simp [h]

theorem pairUp_take : ∀ (i : Nat) (r : List (List α)) (a b : List α), r[2 * i]? = some a → r[2 * i + 1]? = some b → (pairUp ord r).take (i + 1) = (pairUp ord r).take i ++ [merge ord a b] ∧ pairAsks ord (r.take (2 * (i + 1))) = pairAsks ord (r.take (2 * i)) + asks ord a b
  | 0, r, a, b, h1, h2 => by
    match r, h1, h2 with
    | a' :: b' :: r, h1, h2 =>
      simp only [Nat.mul_zero, List.getElem?_cons_zero, Option.some.injEq, Nat.zero_add, List.getElem?_cons_succ] at h1 h2
      subst h1 h2
      simp [pairUp, pairAsks]
    | [a'], h1, h2 => simp at h2
    | [], h1, h2 => simp at h1
  | i + 1, r, a, b, h1, h2 => by
    match r, h1, h2 with
    | a' :: b' :: r, h1, h2 =>
      have e : 2 * (i + 1) = (2 * i) + 1 + 1 := by omega
      rw [e, List.getElem?_cons_succ, List.getElem?_cons_succ] at h1
      rw [e, List.getElem?_cons_succ, List.getElem?_cons_succ] at h2
      obtain ⟨q1, q2⟩ := pairUp_take i r a b h1 h2
      refine ⟨?_, ?_⟩
      · simp only [pairUp, List.take_succ_cons, q1, List.cons_append]
      · rw [show 2 * (i + 1 + 1) = 2 * (i + 1) + 1 + 1 by omega, show 2 * (i + 1) = 2 * i + 1 + 1 by omega]
        simp only [List.take_succ_cons, pairAsks]
        rw [show 2 * i + 1 + 1 = 2 * (i + 1) by omega, q2]; omega
    | [a'], h1, h2 => exact absurd (lt_at h1) (by simp only [List.length_cons, List.length_nil]; omega)
    | [], h1, h2 => exact absurd (lt_at h1) (by simp)
theorem pairUp_end : ∀ r : List (List α), (pairUp ord r).take (r.length / 2) ++ (if r.length % 2 = 1 then r.drop (r.length - 1) else []) = pairUp ord r ∧ pairAsks ord (r.take (2 * (r.length / 2))) = pairAsks ord r
  | [] => by simp [pairUp]
  | [a] => by simp [pairUp, pairAsks]
  | a :: b :: r => by
    obtain ⟨h1, h2⟩ := pairUp_end r
    have e1 : (a :: b :: r).length / 2 = r.length / 2 + 1 := by simp only [List.length_cons]; omega
    have e2 : (a :: b :: r).length % 2 = r.length % 2 := by simp only [List.length_cons]; omega
    rw [e1, e2]
    refine ⟨?_, ?_⟩
    · by_cases h : r.length % 2 = 1
      · rw [if_pos h] at h1 ⊢
        have e3 : (a :: b :: r).drop ((a :: b :: r).length - 1) = r.drop (r.length - 1) := by
          rw [show (a :: b :: r).length - 1 = (r.length - 1) + 1 + 1 by simp only [List.length_cons]; omega]; simp
        rw [e3]
        simp only [pairUp, List.take_succ_cons, List.cons_append]
        rw [h1]
      · rw [if_neg h] at h1 ⊢
        simp only [pairUp, List.take_succ_cons, List.cons_append]
        rw [h1]
    · rw [show 2 * (r.length / 2 + 1) = 2 * (r.length / 2) + 1 + 1 by omega]
      simp only [List.take_succ_cons, pairAsks]
      rw [h2]
end
end Mine

open Mine
local macro_rules | `(tactic| k_steps) => `(tactic| repeat' (first | (k_unfold; (try dsimp only)) | walk1 | (dsimp only; walk1) | (leave1; try dsimp only) | fail "no step"))
local macro_rules | `(tactic| walk_at "exec While") => `(tactic| refine hold ?_)
local macro_rules | `(tactic| walk_at "CompRest") => `(tactic| refine hold ?_)
local macro_rules | `(tactic| walk_at "CompRestT") => `(tactic| refine hold ?_)
local macro_rules | `(tactic| k_mem) => `(tactic| first | with_reducible assumption | exact List.Mem.head _ | (refine List.mem_cons_of_mem _ ?_; k_mem) | (refine List.mem_append_right _ ?_; k_mem) | (refine List.mem_append_left _ ?_; k_mem))
local macro_rules | `(tactic| k_all) => `(tactic| exact fun p hp => Nat.ne_of_lt ((by with_reducible assumption : ∀ p ∈ _, p.1 < _) p hp))
local macro_rules | `(tactic| walk_at "call builtin:len") => `(tactic| (k_here; (with_reducible show wpAny _ _ (call (Value.builtin "len") [Value.ref _]) _ _ _); k_dflt (refine' len_L ?k1 ?k2 ?k3 ?_; (case k1 => k_asm); (case k2 => k_mem); (case k3 => omega); k_whole)))
local macro_rules | `(tactic| walk_at "CompSrc") => `(tactic| (k_here; k_dflt (refine LCg.CompSrc.ledger (by rfl) (by k_asm) (by k_asm) (by k_mem) (by rw [sizeLine_eq]; simp; omega) ?_); intro g'))

namespace Mine

theorem ro_use {w : World} {f : Addr} {nd nu : Nat} {args : List Value} {news : Led} {P : Value → Prop} (C : Calls w f nd nu args news (fun r news' => P r ∧ news' = news))
    {p : Program} {loose : List Str} {mean : ExcName → Option Value} {mg mb : Str → Option Value} {dp un : Nat} {gd : Option (List Code)} {cn : Str} {cs : Scope} {a : Addr} {ccd : Value} {cl : List (Str × Addr)} {outer : List Env} {A₀ : Around} {base h₀ : Heap} {L : Addr} {m : Str → Option Value} {s : Shared}
    {Q E : Value → Shared → Prop} (B : Below A₀ base outer h₀) (F : Fr h₀ L s.heap m) (X : (hd.heap_39 w.params).In h₀) (N : News h₀ L s.heap news) (T : Top p loose mean mg mb h₀) (hk : cs.kind = .function) (hdp : dp + nd < recursionLimit) (hu : un + nu < cLine)
    (ret : ∀ r h' tk', Fr h₀ L h' m → News h₀ L h' news → P r → Q r { s with heap := h', toks := tk' }) :
    wpAny (model PySem.Challenge.rw_sa0530_01.row.prog w) (ktrTop dp un gd cn cs L a ccd cl outer) (call (.ref f) args) Q E s :=
  C _ _ _ _ _ _ _ _ _ _ _ _ _ _ _ _ _ _ _ _ _ _ B F X N T hk hdp hu fun r news' h' tk' F' N' ⟨p1, e⟩ => ret r h' tk' F' (e ▸ N') p1
def Txt (w : World) (v : Value) (a : Str) : Prop := ∀ news : Led, Calls w 194 8 48 [v] news (fun r news' => (∃ tk, r = .str a tk) ∧ news' = news)
def Same (w : World) (v : Value) : Prop := ∀ news : Led, Calls w 187 2 16 [v] news (fun r news' => r = v ∧ news' = news)
end Mine

namespace Mine
def High {α σ : Type} (mt : σ → Led) (rest : Led) (rs : List (Run α)) : Prop := ∀ r ∈ rs, ∀ kk, ∀ p ∈ mt kk ++ rest, p.1 < r.adr
/-- the runs' own promise -/
structure RunsOK {α σ : Type} (dom : α → Prop) (mt : σ → Led) (rest : Led) (rs : List (Run α)) : Prop where
  high : High mt rest rs
  dom : ∀ r ∈ rs, ∀ x ∈ r.xs, dom x
  tot : (rs.map fun r => r.xs.length).sum ≤ 20
  len : rs.length ≤ 20

theorem allLt_mem {a : Addr} : ∀ {l : Led}, AllLt a l → ∀ p ∈ l, p.1 < a := ktn_ltOf
/-- the comprehension's invariant -/
def JC {α : Type} (val : α → Value) (xs : List α) (base : Led) (i : Nat) (ys : List Value) (news : Led) : Prop :=
  ∃ rs : List (Run α), ys = rs.map rv ∧ news = runLed val rs ++ base ∧ rs.map (·.xs) = (xs.take i).map (fun x => [x]) ∧ ∀ r ∈ rs, ∀ p ∈ base, p.1 < r.adr
theorem sub_run {l' I C D : Addr} {o oI oC oD : Obj} {X Y : Led} : ∀ p ∈ (I, oI) :: (C, oC) :: (D, oD) :: ((X ++ [(l', o)]) ++ Y), p ∈ (l', o) :: (I, oI) :: (C, oC) :: (D, oD) :: (X ++ Y) := by
  intro p hp
  simp only [List.mem_append, List.mem_cons, List.not_mem_nil, or_false] at hp ⊢
  rcases hp with h | h | h | (h | h) | h <;> simp only [h, true_or, or_true]
theorem off_run {l' I C D : Addr} {o : Obj} {X Y : Led} (off : ∀ p ∈ X ++ Y, p.1 ≠ I ∧ p.1 ≠ C ∧ p.1 ≠ D) (h1 : I < l') (h2 : C < l') (h3 : D < l') : LCg.Off3 I C D ((X ++ [(l', o)]) ++ Y) := by
  refine LCg.Off3.of fun p hp => ?_
  simp only [List.mem_append, List.mem_cons, List.not_mem_nil, or_false] at hp
  rcases hp with (h | h) | h
  · exact off p (List.mem_append_left _ h)
  · subst h; exact ⟨Nat.ne_of_gt h1, Nat.ne_of_gt h2, Nat.ne_of_gt h3⟩
  · exact off p (List.mem_append_right _ h)
theorem JC.snoc {α : Type} {val : α → Value} {xs : List α} {base : Led} {i : Nat} {rs : List (Run α)} {x : α} {l' : Addr} (hrs : rs.map (·.xs) = (xs.take i).map (fun x => [x])) (hhi : ∀ r ∈ rs, ∀ p ∈ base, p.1 < r.adr) (hg : xs[i]? = some x) (hl : ∀ p ∈ base, p.1 < l') :
    JC val xs base (i + 1) (rs.map rv ++ [.ref l']) ((runLed val rs ++ [(l', listOf #[val x] 0)]) ++ base) := by
  refine ⟨rs ++ [⟨l', [x], 0⟩], by simp, by simp, ?_, ?_⟩
  · rw [List.map_append, hrs, List.take_add_one, hg]; simp
  · intro r hr p hp
    rcases List.mem_append.mp hr with hr | hr
    · exact hhi r hr p hp
    · rw [List.mem_singleton.mp hr]; exact hl p hp
abbrev sRuns : Str := Str.ofString "runs"
abbrev sLater : Str := Str.ofString "later"
abbrev sAt : Str := Str.ofString "at"
structure SS (α σ : Type) where
  rs : List (Run α)
  D : Addr
  n : Nat
  k : σ
structure SInv {α σ : Type} (cnt : σ → Nat) (ord : α → α → Int) (dom : α → Prop) (mt : σ → Led) (rest : Led) (xs : List α) (k : σ) (c : SS α σ) : Prop where
  ok : RunsOK dom mt rest c.rs
  off : ∀ kk, ∀ p ∈ mt kk, c.D ≠ p.1
  same : rounds ord (c.rs.map (·.xs)) = rounds ord (xs.map fun x => [x])
  ask : cnt c.k + roundAsks ord (c.rs.map (·.xs)) = cnt k + sortAsks ord xs
section
variable {α σ : Type} {val : α → Value} {ord : α → α → Int} {dom : α → Prop} {mt : σ → Led} {cnt : σ → Nat} {rest : Led} {xs : List α} {k : σ}
variable {prog : Program} {w : World} {A : Around} {E : Value → Shared → Prop} {Q : Flow → Shared → Prop} {s : Shared} {env : Env} {h₀ : Heap} {L : Addr} {m₀ : Str → Option Value}
abbrev sLed (val : α → Value) (mt : σ → Led) (rest : Led) (c : SS α σ) : Led := (c.D, listOf (c.rs.map rv).toArray c.n) :: (runLed val c.rs ++ (mt c.k ++ rest))
abbrev sPs (c : SS α σ) : List (Str × Value) := [(sRuns, .ref c.D)]
def SPost (h₀ : Heap) (L : Addr) (s : Shared) (val : α → Value) (ord : α → α → Int) (dom : α → Prop) (mt : σ → Led) (cnt : σ → Nat) (rest : Led) (xs : List α) (k : σ) (m₀ : Str → Option Value) (Q : Flow → Shared → Prop) (c : SS α σ) : Flow → Shared → Prop :=
  KswPost h₀ L s (sLed val mt rest) sPs (fun _ => True) [sLater, sAt] m₀ (SInv cnt ord dom mt rest xs k) (fun c => c.rs.length) Q c
theorem sorted_while {test : PySem.Expr} {body : List Stmt} {pos : Pos} {c₀ : SS α σ} (F : Fr h₀ L s.heap m₀) (N : News h₀ L s.heap (sLed val mt rest c₀)) (e1 : m₀ sRuns = some (.ref c₀.D)) (hI : SInv cnt ord dom mt rest xs k c₀)
    (turn : ∀ (c : SS α σ) (u : Str → Option Value) h tk, SInv cnt ord dom mt rest xs k c → Fr h₀ L h (fun y => if y = sRuns then some (.ref c.D) else (fun z => if [sLater, sAt].contains z then u z else m₀ z) y) → News h₀ L h ((c.D, listOf (c.rs.map rv).toArray c.n) :: (runLed val c.rs ++ (mt c.k ++ rest))) →
      wpAny (model prog w) A (isTrue test env (eval test env)) (fun b s₂ =>
        if b = true then wpAny (model prog w) A (execs body env) (SPost h₀ L s val ord dom mt cnt rest xs k m₀ Q c) E s₂ else Q .next s₂) E { s with heap := h, toks := tk })
    (hE : PassesOwn (model prog w) A env E) : wpAny (model prog w) A (exec (.While test body [] pos) env) Q E s := by
  refine ksw_while (sLed val mt rest) sPs (fun _ => True) [sLater, sAt] (SInv cnt ord dom mt rest xs k) (fun c => c.rs.length) c₀ F N trivial ?_ hI ?_ hE
  · intro p hp
    simp only [sPs, List.mem_cons, List.not_mem_nil, or_false] at hp
    rcases hp with rfl; assumption
  · intro c u h tk _ hi F' N'
    exact turn c u h tk hi F' N'
theorem sorted_end {s : Shared} {h' : Heap} {tk : Nat} {m' : Str → Option Value} {c : SS α σ} {news' : Led} (c' : SS α σ) (F : Fr h₀ L h' m') (N : News h₀ L h' news') (hs : ∀ p ∈ sLed val mt rest c', p ∈ news')
    (e1 : m' sRuns = some (.ref c'.D)) (er : ∀ z, z ≠ sRuns → [sLater, sAt].contains z = false → m' z = m₀ z) (hi : SInv cnt ord dom mt rest xs k c') (hm : c'.rs.length < c.rs.length) :
    SPost h₀ L s val ord dom mt cnt rest xs k m₀ Q c .next { s with heap := h', toks := tk } := by
  refine ksw_end c' F N hs trivial ?_ (fun z hz hc => er z (hz (sRuns, _) (.head _)) hc) hi hm
  intro p hp
  simp only [sPs, List.mem_cons, List.not_mem_nil, or_false] at hp
  rcases hp with rfl; assumption
theorem sum_ones {α : Type} : ∀ xs : List α, (xs.map fun _ => 1).sum = xs.length
  | [] => rfl
  | x :: xs => by simp only [List.map_cons, List.sum_cons, sum_ones xs, List.length_cons]; omega
theorem SInv.start (O : ∀ kk jj, (mt kk).map (·.1) = (mt jj).map (·.1)) {D : Addr} {n : Nat} {rs : List (Run α)} (hrs : rs.map (·.xs) = xs.map (fun x => [x])) (hhi : ∀ r ∈ rs, ∀ p ∈ mt k ++ rest, p.1 < r.adr) (off : ∀ p ∈ runLed val rs ++ (mt k ++ rest), p.1 ≠ D) (hsz : xs.length ≤ 20) (hx : ∀ x ∈ xs, dom x) :
    SInv cnt ord dom mt rest xs k ⟨rs, D, n, k⟩ := by
  have adr : ∀ kk jj, ∀ p ∈ mt kk, ∃ q ∈ mt jj, q.1 = p.1 := fun kk jj p hp => by
    have h1 : p.1 ∈ (mt kk).map (·.1) := List.mem_map.mpr ⟨p, hp, rfl⟩
    rw [O kk jj] at h1
    exact List.mem_map.mp h1
  have hlen : rs.length = xs.length := by simpa using congrArg List.length hrs
  refine ⟨⟨?_, ?_, ?_, by simp only; omega⟩, ?_, by simp only [hrs], by simp only [hrs]; rfl⟩
  · intro r hr kk p hp
    rcases List.mem_append.mp hp with hp | hp
    · obtain ⟨q, hq, e⟩ := adr kk k p hp
      rw [← e]; exact hhi r hr q (List.mem_append_left _ hq)
    · exact hhi r hr p (List.mem_append_right _ hp)
  · intro r hr x hm
    have h1 : r.xs ∈ rs.map (·.xs) := List.mem_map_of_mem hr
    rw [hrs] at h1
    obtain ⟨y, hy, e⟩ := List.mem_map.mp h1
    rw [← e] at hm
    rw [List.mem_singleton.mp hm]; exact hx y hy
  · have : (rs.map fun r => r.xs.length) = xs.map fun _ => 1 := by
      have := congrArg (List.map List.length) hrs
      simpa [List.map_map, Function.comp_def] using this
    have h2 := sum_ones xs
    show (rs.map fun r => r.xs.length).sum ≤ 20
    rw [this]
    omega
  · intro kk p hp
    obtain ⟨q, hq, e⟩ := adr kk k p hp
    have := off q (List.mem_append_right _ (List.mem_append_left _ hq))
    rw [← e]; exact fun h => this h.symm
end

section
variable {α : Type} {ord : α → α → Int}
theorem rounds_le {runs : List (List α)} (h : runs.length ≤ 1) : rounds ord runs = runs := by rw [rounds, if_pos h]
theorem rounds_gt {runs : List (List α)} (h : 1 < runs.length) : rounds ord runs = rounds ord (pairUp ord runs) := by conv => lhs; rw [rounds, if_neg (Nat.not_le.mpr h)]
theorem roundAsks_le {runs : List (List α)} (h : runs.length ≤ 1) : roundAsks ord runs = 0 := by rw [roundAsks, if_pos h]
theorem roundAsks_gt {runs : List (List α)} (h : 1 < runs.length) : roundAsks ord runs = pairAsks ord runs + roundAsks ord (pairUp ord runs) := by conv => lhs; rw [roundAsks, if_neg (Nat.not_le.mpr h)]
theorem mem_pairUp : ∀ (rs : List (List α)) (ys : List α) (x : α), ys ∈ pairUp ord rs → x ∈ ys → ∃ zs ∈ rs, x ∈ zs
  | a :: b :: r, ys, x, h, hx => by
    rw [pairUp] at h
    rcases List.mem_cons.mp h with rfl | h
    · rcases (mem_merge a b x).mp hx with h | h
      · exact ⟨a, .head _, h⟩
      · exact ⟨b, .tail _ (.head _), h⟩
    · obtain ⟨zs, h1, h2⟩ := mem_pairUp r ys x h hx
      exact ⟨zs, .tail _ (.tail _ h1), h2⟩
  | [a], ys, x, h, hx => ⟨ys, h, hx⟩
  | [], ys, x, h, hx => nomatch h
theorem pairUp_sum : ∀ rs : List (List α), ((pairUp ord rs).map List.length).sum = (rs.map List.length).sum
  | a :: b :: r => by simp only [pairUp, List.map_cons, List.sum_cons, merge_len, pairUp_sum r]; omega
  | [a] => rfl
  | [] => rfl
theorem le_sum {β : Type} {g : β → Nat} : ∀ {rs : List β} {r : β}, r ∈ rs → g r ≤ (rs.map g).sum
  | a :: r, b, h => by
    rw [List.map_cons, List.sum_cons]
    rcases List.mem_cons.mp h with rfl | h
    · omega
    · have := le_sum (g := g) h; omega
theorem SInv.next {σ : Type} {cnt : σ → Nat} {dom : α → Prop} {mt : σ → Led} {rest : Led} {xs : List α} {k k' : σ} {c : SS α σ} (hk9 : cnt k' = cnt c.k + pairAsks ord (c.rs.map (·.xs))) (I : SInv cnt ord dom mt rest xs k c) (hc : 1 < c.rs.length) {acc : List (Run α)} {D2 n' : Nat} (e : acc.map (·.xs) = pairUp ord (c.rs.map (·.xs))) (hh : High mt rest acc) (off : ∀ kk, ∀ p ∈ mt kk, D2 ≠ p.1) :
    SInv cnt ord dom mt rest xs k ⟨acc, D2, n', k'⟩ ∧ acc.length < c.rs.length := by
  have hl : acc.length = (c.rs.length + 1) / 2 := by
    have := congrArg List.length e
    rw [pairUp_len, List.length_map, List.length_map] at this
    exact this
  have hlen := I.ok.len
  have hm : 1 < (c.rs.map (·.xs)).length := by rw [List.length_map]; exact hc
  refine ⟨⟨⟨hh, ?_, ?_, by simp only; omega⟩, off, ?_, ?_⟩, by omega⟩
  · intro r hr x hx
    have h1 : r.xs ∈ acc.map (·.xs) := List.mem_map_of_mem hr
    rw [e] at h1
    obtain ⟨zs, h2, h3⟩ := mem_pairUp _ _ _ h1 hx
    obtain ⟨r', hr', rfl⟩ := List.mem_map.mp h2
    exact I.ok.dom r' hr' x h3
  · have h1 : (acc.map fun r => r.xs.length) = (acc.map (·.xs)).map List.length := by simp [Function.comp_def]
    have h2 : (c.rs.map fun r => r.xs.length) = (c.rs.map (·.xs)).map List.length := by simp [Function.comp_def]
    have h3 := I.ok.tot
    rw [h2, ← pairUp_sum (ord := ord), ← e, ← h1] at h3
    exact h3
  · show rounds ord (acc.map (·.xs)) = _
    rw [e, ← rounds_gt hm]; exact I.same
  · show cnt k' + roundAsks ord (acc.map (·.xs)) = _
    rw [hk9]
    have := I.ask
    rw [roundAsks_gt hm] at this
    rw [e]; omega
theorem SInv.one {σ : Type} {cnt : σ → Nat} {dom : α → Prop} {mt : σ → Led} {rest : Led} {xs : List α} {k : σ} {c : SS α σ} {r : Run α} (I : SInv cnt ord dom mt rest xs k c) (h : c.rs = [r]) : sortM ord xs = r.xs ∧ cnt c.k = cnt k + sortAsks ord xs := by
  have h1 := I.same
  have h2 := I.ask
  rw [h, List.map_cons, List.map_nil, rounds_le (by simp)] at h1
  rw [h, List.map_cons, List.map_nil, roundAsks_le (by simp)] at h2
  exact ⟨by unfold sortM; rw [← h1]; rfl, h2⟩
theorem SInv.none {σ : Type} {cnt : σ → Nat} {dom : α → Prop} {mt : σ → Led} {rest : Led} {xs : List α} {k : σ} {c : SS α σ} (I : SInv cnt ord dom mt rest xs k c) (h : c.rs.length = 0) : sortM ord xs = [] ∧ cnt c.k = cnt k + sortAsks ord xs := by
  have h1 := I.same
  have h2 := I.ask
  have h := List.length_eq_zero_iff.mp h
  rw [h, List.map_nil, rounds_le (by simp)] at h1
  rw [h, List.map_nil, roundAsks_le (by simp)] at h2
  exact ⟨by unfold sortM; rw [← h1]; rfl, h2⟩
theorem even_end {σ : Type} {c : SS α σ} {acc : List (Run α)} (hacc : acc.map (·.xs) = (pairUp ord (c.rs.map (·.xs))).take (c.rs.length / 2)) (h : (c.rs.length : Int).fmod 2 ≠ 1) : acc.map (·.xs) = pairUp ord (c.rs.map (·.xs)) := by
  have e := (pairUp_end (ord := ord) (c.rs.map (·.xs))).1
  rw [List.length_map, if_neg (by rw [Int.fmod_eq_emod_of_nonneg _ (by decide)] at h; omega), List.append_nil, ← hacc] at e
  exact e
theorem odd_end {σ : Type} {c : SS α σ} {acc : List (Run α)} {r : Run α} (hacc : acc.map (·.xs) = (pairUp ord (c.rs.map (·.xs))).take (c.rs.length / 2)) (h : (c.rs.length : Int).fmod 2 = 1) (hr : c.rs.getLast? = some r) : (acc ++ [r]).map (·.xs) = pairUp ord (c.rs.map (·.xs)) := by
  have e := (pairUp_end (ord := ord) (c.rs.map (·.xs))).1
  rw [List.length_map, if_pos (by rw [Int.fmod_eq_emod_of_nonneg _ (by decide)] at h; omega), ← hacc] at e
  rw [← e, List.map_append]
  congr 1
  rw [List.getLast?_eq_getElem?] at hr
  rw [drop_at (x := r.xs) (by simp [hr]), List.drop_of_length_le (by simp; omega)]
  rfl
theorem sub_one {a b e : Addr × Obj} {X Y : Led} (h : e ∈ X) : ∀ p ∈ e :: Y, p ∈ a :: b :: (X ++ Y) := by
  intro p hp
  rcases List.mem_cons.mp hp with rfl | hp
  · exact .tail _ (.tail _ (List.mem_append_left _ h))
  · exact .tail _ (.tail _ (List.mem_append_right _ hp))
theorem sub_none {a b e : Addr × Obj} {X Y : Led} : ∀ p ∈ e :: Y, p ∈ e :: a :: b :: (X ++ Y) := by
  intro p hp
  rcases List.mem_cons.mp hp with rfl | hp
  · exact .head _
  · exact .tail _ (.tail _ (.tail _ (List.mem_append_right _ hp)))
theorem sub_even {a b : Addr × Obj} {X Y Z : Led} : ∀ p ∈ a :: (X ++ Z), p ∈ a :: (X ++ (b :: (Y ++ Z))) := by
  intro p hp
  simp only [List.mem_append, List.mem_cons] at hp ⊢
  rcases hp with h | h | h <;> simp only [h, true_or, or_true]
theorem sub_odd {a b e : Addr × Obj} {X Y Z : Led} (he : e ∈ Y) : ∀ p ∈ a :: ((X ++ [e]) ++ Z), p ∈ a :: (X ++ (b :: (Y ++ Z))) := by
  intro p hp
  simp only [List.mem_append, List.mem_cons, List.not_mem_nil, or_false] at hp ⊢
  rcases hp with h | (h | h) | h
  · simp only [h, true_or]
  · simp only [h, true_or, or_true]
  · rw [h]; simp only [he, true_or, or_true]
  · simp only [h, or_true]
theorem sub_turn {a b d I : Addr × Obj} {X Y Z : Led} : ∀ p ∈ I :: d :: ((X ++ [a]) ++ (b :: (Y ++ Z))), p ∈ [a, I] ++ d :: (X ++ (b :: (Y ++ Z))) := by
  intro p hp
  simp only [List.mem_append, List.mem_cons, List.not_mem_nil, or_false] at hp ⊢
  rcases hp with h | h | (h | h) | h | h | h <;> simp only [h, true_or, or_true]
end
theorem off_next {σ : Type} {mt : σ → Led} (adr : ∀ k j, (mt k).map (·.1) = (mt j).map (·.1)) {D2 a I : Addr} {o1 o2 o : Obj} {b : Addr × Obj} {X Y rest : Led} {k1 k2 : σ} (off : ∀ p ∈ (D2, o1) :: (X ++ (b :: (Y ++ (mt k1 ++ rest)))), p.1 ≠ I) (ha : I < a) :
    ∀ p ∈ (D2, o2) :: ((X ++ [(a, o)]) ++ (b :: (Y ++ (mt k2 ++ rest)))), p.1 ≠ I := by
  intro p hp
  simp only [List.mem_append, List.mem_cons, List.not_mem_nil, or_false] at hp off
  rcases hp with h | (h | h) | h | h | h | h
  · rw [h]; exact off (D2, o1) (.inl rfl)
  · exact off p (.inr (.inl h))
  · rw [h]; exact Nat.ne_of_gt ha
  · exact off p (.inr (.inr (.inl h)))
  · exact off p (.inr (.inr (.inr (.inl h))))
  · have h1 : p.1 ∈ (mt k2).map (·.1) := List.mem_map.mpr ⟨p, h, rfl⟩
    rw [adr k2 k1] at h1
    obtain ⟨q, hq, e⟩ := List.mem_map.mp h1
    rw [← e]; exact off q (.inr (.inr (.inr (.inr (.inl hq)))))
  · exact off p (.inr (.inr (.inr (.inr (.inr h)))))
theorem runLed_snoc {α : Type} {val : α → Value} {acc : List (Run α)} {r : Run α} : runLed val (acc ++ [r]) = runLed val acc ++ [(r.adr, listOf (r.xs.map val).toArray r.n)] := by simp [runLed]
theorem high_snoc {α σ : Type} {mt : σ → Led} {rest : Led} {acc : List (Run α)} {r : Run α} (h : High mt rest acc) (h2 : ∀ kk, ∀ p ∈ mt kk ++ rest, p.1 < r.adr) : High mt rest (acc ++ [r]) := by
  intro q hq
  rcases List.mem_append.mp hq with hq | hq
  · exact h q hq
  · rw [List.mem_singleton.mp hq]; exact h2
theorem nAt {z : Str} (h2 : [sLater, sAt].contains z = false) : ¬ z = sAt := by
  have h3 : z ≠ sLater ∧ z ≠ sAt := by simpa using h2
  exact h3.2
theorem nLater {z : Str} (h2 : [sLater, sAt].contains z = false) : ¬ z = sLater := by
  have h3 : z ≠ sLater ∧ z ≠ sAt := by simpa using h2
  exact h3.1
theorem nC {z : Str} (h2 : [sLater, sAt].contains z = false) : ¬ [sLater, sAt].contains z = true := by rw [h2]; decide
theorem hap_of {α σ : Type} {val : α → Value} {mt : σ → Led} {rest : Led} {rs acc : List (Run α)} {D D2 I : Addr} {oD oD2 : Obj} {kk : σ} (adr : ∀ k j, (mt k).map (·.1) = (mt j).map (·.1)) (off : ∀ p ∈ (D2, oD2) :: (runLed val acc ++ ((D, oD) :: (runLed val rs ++ (mt kk ++ rest)))), p.1 ≠ I)
    (hD2 : ∀ kk, ∀ p ∈ mt kk ++ rest, p.1 < D2) (hD : ∀ kk, ∀ p ∈ mt kk, D ≠ p.1) (h1 : High mt rest acc) (h2 : High mt rest rs) : ∀ jj, ∀ q ∈ mt jj, I ≠ q.1 ∧ D2 ≠ q.1 ∧ D ≠ q.1 ∧ (∀ z ∈ runLed val acc, z.1 ≠ q.1) ∧ ∀ z ∈ runLed val rs, z.1 ≠ q.1 := by
  intro jj q hq
  refine ⟨?_, Nat.ne_of_gt (hD2 jj q (List.mem_append_left _ hq)), hD jj q hq, ?_, ?_⟩
  · have h : q.1 ∈ (mt jj).map (·.1) := List.mem_map.mpr ⟨q, hq, rfl⟩
    rw [adr jj kk] at h
    obtain ⟨p, hp, e⟩ := List.mem_map.mp h
    rw [← e]
    exact (off p (.tail _ (List.mem_append_right _ (.tail _ (List.mem_append_right _ (List.mem_append_left _ hp)))))).symm
  · intro z hz
    obtain ⟨r, hr, rfl⟩ := List.mem_map.mp hz
    exact Nat.ne_of_gt (h1 r hr jj q (List.mem_append_left _ hq))
  · intro z hz
    obtain ⟨r, hr, rfl⟩ := List.mem_map.mp hz
    exact Nat.ne_of_gt (h2 r hr jj q (List.mem_append_left _ hq))
theorem post_of {α σ : Type} {val : α → Value} {mt : σ → Led} {rest : Led} {rs acc : List (Run α)} {D D2 : Addr} {oD : Obj} {kk : σ} (hD : D < D2) (h1 : ∀ p ∈ runLed val rs, p.1 < D2) (h2 : ∀ kk, ∀ p ∈ mt kk ++ rest, p.1 < D2) (h3 : ∀ r ∈ acc, D2 < r.adr) : ∀ p ∈ runLed val acc ++ ((D, oD) :: (runLed val rs ++ (mt kk ++ rest))), p.1 ≠ D2 := by
  intro p hp
  rcases List.mem_append.mp hp with h | h
  · obtain ⟨r, hr, rfl⟩ := List.mem_map.mp h
    exact Nat.ne_of_gt (h3 r hr)
  rcases List.mem_cons.mp h with rfl | h
  · exact Nat.ne_of_lt hD
  rcases List.mem_append.mp h with h | h
  · exact Nat.ne_of_lt (h1 p h)
  · exact Nat.ne_of_lt (h2 kk p h)

theorem eqNil_t {prog : Program} {w : World} {A : Around} {E : Value → Shared → Prop} {s : Shared} {h₀ : Heap} {L : Addr} {news : Led} {α : Type} {val : α → Value} {xs : List α} {a b : Addr} {n n2 : Nat} {Q : Value → Shared → Prop} (N : News h₀ L s.heap news) (ha : (a, listOf (xs.map val).toArray n) ∈ news) (hb : (b, listOf #[] n2) ∈ news)
    (h0 : xs.length = 0) (hu : A.units < cLine) (h : Q (.bool true) s) : wpAny (model prog w) A (compareOp .Eq (.ref a) (.ref b)) Q E s := by
  have e : xs = [] := List.length_eq_zero_iff.mp h0
  subst e
  exact SeqAt.RcAt.lists (e := fun _ => true) (listAt N ha) ⟨_, (N _ hb).1, rfl, _, rfl⟩ (by simp) hu (fun j h1 => absurd h1 (by simp)) prog w E Q (by simpa using h)
theorem eqNil_f {prog : Program} {w : World} {A : Around} {E : Value → Shared → Prop} {s : Shared} {h₀ : Heap} {L : Addr} {news : Led} {α : Type} {val : α → Value} {xs : List α} {a b : Addr} {n n2 : Nat} {Q : Value → Shared → Prop} (N : News h₀ L s.heap news) (ha : (a, listOf (xs.map val).toArray n) ∈ news) (hb : (b, listOf #[] n2) ∈ news)
    (h0 : 0 < xs.length) (hu : A.units < cLine) (h : Q (.bool false) s) : wpAny (model prog w) A (compareOp .Eq (.ref a) (.ref b)) Q E s :=
  SeqAt.RcAt.lists_lengths (listAt N ha) (items2 := #[]) ⟨_, (N _ hb).1, rfl, _, rfl⟩ (by simp only [List.size_toArray, List.length_map, List.size_toArray, List.length_nil, bne_iff_ne, ne_eq]; omega) hu prog w E Q h

theorem merged_use {w : World} {α σ : Type} {f : Addr} {val : α → Value} {ord : α → α → Int} {dom : α → Prop} {imm : Led} {mt : σ → Led} {cnt : σ → Nat} (O : OrdOK w f val ord dom imm mt cnt) {k : σ} {r1 r2 : Run α} {p0 p1 p2 : Addr × Obj} {X Y rest : Led}
    {p : Program} {loose : List Str} {mean : ExcName → Option Value} {mg mb : Str → Option Value} {dp un : Nat} {gd : Option (List Code)} {cn : Str} {cs : Scope} {a : Addr} {ccd : Value} {cl : List (Str × Addr)} {outer : List Env} {A₀ : Around} {base h₀ : Heap} {L : Addr} {m : Str → Option Value} {s : Shared}
    {Q E : Value → Shared → Prop} (B : Below A₀ base outer h₀) (F : Fr h₀ L s.heap m) (K : (hd.heap_39 w.params).In h₀) (N : News h₀ L s.heap (p0 :: p1 :: (X ++ (p2 :: (Y ++ (mt k ++ rest)))))) (T : Top p loose mean mg mb h₀) (hk : cs.kind = .function)
    (h1 : (r1.adr, listOf (r1.xs.map val).toArray r1.n) ∈ Y) (h2 : (r2.adr, listOf (r2.xs.map val).toArray r2.n) ∈ Y) (hap : ∀ jj, ∀ q ∈ mt jj, p0.1 ≠ q.1 ∧ p1.1 ≠ q.1 ∧ p2.1 ≠ q.1 ∧ (∀ z ∈ X, z.1 ≠ q.1) ∧ ∀ z ∈ Y, z.1 ≠ q.1)
    (hi : ∀ p ∈ imm, p ∈ rest) (hj : ∀ kk, ∀ p ∈ mt kk, ∀ q ∈ rest, q.1 ≠ p.1) (hsz : r1.xs.length + r2.xs.length ≤ 100) (hx : ∀ x ∈ r1.xs, dom x) (hy : ∀ x ∈ r2.xs, dom x) (hdp : dp + 10 < recursionLimit) (hu : un + 100 < cLine)
    (ret : ∀ a n k' h' tk', cnt k' = cnt k + asks ord r1.xs r2.xs → Fr h₀ L h' m → (∀ p ∈ p0 :: p1 :: (X ++ (p2 :: (Y ++ (mt k ++ rest)))), p.1 < a) → News h₀ L h' ((a, listOf ((merge ord r1.xs r2.xs).map val).toArray n) :: p0 :: p1 :: (X ++ (p2 :: (Y ++ (mt k' ++ rest))))) → Q (.ref a) { s with heap := h', toks := tk' }) :
    wpAny (model PySem.Challenge.rw_sa0530_01.row.prog w) (ktrTop dp un gd cn cs L a ccd cl outer) (call (.ref 208) [.ref r1.adr, .ref r2.adr, .ref f]) Q E s := by
  have sub : ∀ kk, ∀ z ∈ p0 :: p1 :: (X ++ (p2 :: (Y ++ (mt kk ++ rest)))), z ∈ mt kk ++ (p0 :: p1 :: (X ++ (p2 :: (Y ++ rest)))) := by
    intro kk z hz
    simp only [List.mem_append, List.mem_cons] at hz ⊢
    rcases hz with h | h | h | h | h | h | h <;> simp only [h, true_or, or_true]
  refine calls_use (merged_calls w O k (p0 :: p1 :: (X ++ (p2 :: (Y ++ rest)))) (n₁ := r1.n) (n₂ := r2.n) ?_ ?_ ?_ ?_ hsz hx hy) B F K N T hk ?_ hdp hu ?_
  · exact fun z hz => .tail _ (.tail _ (List.mem_append_right _ (.tail _ (List.mem_append_right _ (hi z hz)))))
  · intro jj q hq z hz
    obtain ⟨a0, a1, a2, a3, a4⟩ := hap jj q hq
    simp only [List.mem_append, List.mem_cons] at hz
    rcases hz with h | h | h | h | h | h
    · rw [h]; exact a0
    · rw [h]; exact a1
    · exact a3 z h
    · rw [h]; exact a2
    · exact a4 z h
    · exact hj jj q hq z h
  · exact .tail _ (.tail _ (List.mem_append_right _ (.tail _ (List.mem_append_left _ h1))))
  · exact .tail _ (.tail _ (List.mem_append_right _ (.tail _ (List.mem_append_left _ h2))))
  · intro z hz
    simp only [List.mem_append, List.mem_cons] at hz ⊢
    rcases hz with h | h | h | h | h | h | h <;> simp only [h, true_or, or_true]
  · rintro r news' h' tk' F' N' ⟨a', n', k', rfl, hlt, hk', rfl⟩
    refine ret a' n' k' h' tk' hk' F' (fun z hz => hlt z (sub k z hz)) fun z hz => N' z ?_
    rcases List.mem_cons.mp hz with h | h
    · rw [h]; exact .head _
    · exact .tail _ (sub _ z h)

local macro_rules | `(tactic| walk_at "compareOp Eq ref ref") => `(tactic| (k_here; k_dflt (first
  | (refine' eqNil_f ?k1 ?k2 ?k3 ?k4 ?k5 ?_; (case k1 => k_asm); (case k2 => k_mem); (case k3 => k_mem); (case k4 => with_reducible assumption); (case k5 => ktr_units); k_whole)
  | (refine' eqNil_t ?k1 ?k2 ?k3 ?k4 ?k5 ?_; (case k1 => k_asm); (case k2 => k_mem); (case k3 => k_mem); (case k4 => with_reducible assumption); (case k5 => ktr_units); k_whole))))
local macro_rules | `(tactic| walk_at "subscriptTail") => `(tactic| (k_here; (with_reducible show wpAny _ _ (subscriptTail _ _ (Value.ref _) (Value.int _ _)) _ _ _); k_dflt (refine' item_A ?k1 ?k2 ?k3 ?k4 ?_ ?k6; (case k1 => k_asm); (case k2 => with_reducible assumption); (case k3 => k_mem); (case k4 => omega); (case k6 => with_unfolding_all rfl); k_whole)))
local macro_rules | `(tactic| walk_at "subscriptTail") => `(tactic| (k_here; (with_reducible show wpAny _ _ (subscriptTail _ _ (Value.ref _) (Value.int (-1) _)) _ _ _); k_dflt (refine' item_Last ?k1 ?k2 ?k3 ?k4 ?_ ?k6; (case k1 => k_asm); (case k2 => with_reducible assumption); (case k3 => k_mem); (case k4 => omega); (case k6 => with_unfolding_all rfl); k_whole)))
local macro_rules | `(tactic| walk_at "call ref") => `(tactic| refine hold ?_)
local macro_rules | `(tactic| walk_at "call builtin:list.append") => `(tactic| refine hold ?_)
local macro_rules | `(tactic| walk_at "pyIter ref") => `(tactic| refine hold ?_)
theorem range_two {n : Nat} (h1 : 1 < n) (h : n ≤ 20) : Builtin.Range.rangeSize 0 ((n : Int) - 1) 2 = ((n / 2 : Nat) : Int) := by
  unfold Builtin.Range.rangeSize
  rw [if_pos (by decide), if_pos (by omega)]
  omega
theorem range_small2 {n : Nat} (h1 : 1 < n) (h : n ≤ 20) : Builtin.Range.small 0 ((n : Int) - 1) 2 = true := by
  unfold Builtin.Range.small
  rw [range_two h1 h, if_pos (by decide)]
  simp only [Builtin.Range.rangeFitsLong, Bool.and_eq_true, decide_eq_true_eq, Bool.or_eq_true]
  refine ⟨⟨⟨⟨?_, ?_⟩, ?_⟩, ?_⟩, .inr ?_⟩ <;> omega
/-- the inner loop's invariant -/
def JF {α σ : Type} (val : α → Value) (ord : α → α → Int) (mt : σ → Led) (cnt : σ → Nat) (rest : Led) (c : SS α σ) (D2 : Addr) (i : Nat) (news : Led) : Prop :=
  ∃ (acc : List (Run α)) (n' : Nat) (k1 : σ), cnt k1 = cnt c.k + pairAsks ord ((c.rs.map (·.xs)).take (2 * i)) ∧ news = (D2, listOf (acc.map rv).toArray n') :: (runLed val acc ++ ((c.D, listOf (c.rs.map rv).toArray c.n) :: (runLed val c.rs ++ (mt k1 ++ rest)))) ∧
    acc.map (·.xs) = (pairUp ord (c.rs.map (·.xs))).take i ∧ High mt rest acc ∧ ∀ r ∈ acc, D2 < r.adr
section
variable {α σ : Type} {val : α → Value} {ord : α → α → Int} {dom : α → Prop} {mt : σ → Led} {cnt : σ → Nat} {rest : Led} {xs : List α} {k : σ}
variable {prog : Program} {w : World} {A : Around} {E : Value → Shared → Prop} {Q : Flow → Shared → Prop} {s : Shared} {env : Env} {h₀ : Heap} {m₀ : Str → Option Value}
theorem sorted_for {c : SS α σ} {D2 r : Addr} {n₂ : Nat} {t₀ u₀ v₀ : Tok} {x : Str} {body : List Stmt} (I : SInv cnt ord dom mt rest xs k c) (hc : 1 < c.rs.length) (hh : A.handled = none) (hr : IsRange s.heap r 0 ((c.rs.length : Int) - 1) 2 t₀ u₀ v₀) (F : Fr h₀ env.locals s.heap m₀)
    (N : News h₀ env.locals s.heap ((D2, listOf #[] n₂) :: (c.D, listOf (c.rs.map rv).toArray c.n) :: (runLed val c.rs ++ (mt c.k ++ rest))))
    (turn : ∀ (i : Nat) (t : Tok) (acc : List (Run α)) (n' : Nat) (k1 : σ) (I : Addr) (o : Obj) (h : Heap) (tk : Nat) (r1 r2 : Run α), cnt k1 = cnt c.k + pairAsks ord ((c.rs.map (·.xs)).take (2 * i)) → 2 * i + 1 < c.rs.length → c.rs[2 * i]? = some r1 → c.rs[2 * i + 1]? = some r2 → At c.rs (0 + (i : Int) * 2) r1 → At c.rs (0 + (i : Int) * 2 + 1) r2 → 
      acc.map (·.xs) = (pairUp ord (c.rs.map (·.xs))).take i → High mt rest acc → (∀ r ∈ acc, D2 < r.adr) →
      (∀ p ∈ (D2, listOf (acc.map rv).toArray n') :: (runLed val acc ++ ((c.D, listOf (c.rs.map rv).toArray c.n) :: (runLed val c.rs ++ (mt k1 ++ rest)))), p.1 ≠ I) →
      Fr h₀ env.locals h (fun y => if y = x then some (.int (0 + (i : Int) * 2) t) else m₀ y) →
      News h₀ env.locals h ((I, o) :: (D2, listOf (acc.map rv).toArray n') :: (runLed val acc ++ ((c.D, listOf (c.rs.map rv).toArray c.n) :: (runLed val c.rs ++ (mt k1 ++ rest))))) →
      wpAny (model prog w) A (execs body env) (FPostS h₀ env.locals m₀ x (JF val ord mt cnt rest c D2 (i + 1)) I o { s with heap := h, toks := tk } Q) E { s with heap := h, toks := tk })
    (done : ∀ (u : Option Value) (acc : List (Run α)) (n' : Nat) (k1 : σ) (h : Heap) (tk : Nat), cnt k1 = cnt c.k + pairAsks ord (c.rs.map (·.xs)) → acc.map (·.xs) = (pairUp ord (c.rs.map (·.xs))).take (c.rs.length / 2) → High mt rest acc → (∀ r ∈ acc, D2 < r.adr) → Fr h₀ env.locals h (fun y => if y = x then u else m₀ y) →
      News h₀ env.locals h ((D2, listOf (acc.map rv).toArray n') :: (runLed val acc ++ ((c.D, listOf (c.rs.map rv).toArray c.n) :: (runLed val c.rs ++ (mt k1 ++ rest))))) → Q .next { s with heap := h, toks := tk }) :
    wpAny (model prog w) A (pyIter (.ref r)) (fun it s₂ => LoopAtV prog w A h₀ env x body Q E it s₂) E s := by
  have hl := I.ok.len
  refine for_rangeS (n := c.rs.length / 2) (JF val ord mt cnt rest c D2) hh hr (range_small2 hc hl) (range_two hc hl) F N ?_ ?_ ?_
  · exact ⟨[], n₂, c.k, by simp [pairAsks], by simp, by simp, (fun _ h => nomatch h), (fun _ h => nomatch h)⟩
  · rintro i t news₁ I o h2 tk2 hin ⟨acc, n', k1, hk1, rfl, hacc, hhi, hlo⟩ off F3 N3
    have g1 : c.rs[2 * i]? = some c.rs[2 * i] := List.getElem?_eq_getElem (by omega)
    have g2 : c.rs[2 * i + 1]? = some c.rs[2 * i + 1] := List.getElem?_eq_getElem (by omega)
    exact turn i t acc n' k1 I o h2 tk2 _ _ hk1 (by omega) g1 g2 ⟨2 * i, by omega, g1⟩ ⟨2 * i + 1, by omega, g2⟩ hacc hhi hlo off F3 N3
  · rintro u news₁ h tk ⟨acc, n', k1, hk1, rfl, hacc, hhi, hlo⟩ F1 N1
    have e := (pairUp_end (ord := ord) (c.rs.map (·.xs))).2
    rw [List.length_map] at e
    rw [e] at hk1
    exact done u acc n' k1 h tk hk1 hacc hhi hlo F1 N1
theorem JF.step {k1 k2 : σ} {c : SS α σ} {D2 : Addr} {i n' : Nat} {acc : List (Run α)} {r1 r2 : Run α} {a : Addr} {n : Nat} (hk1 : cnt k1 = cnt c.k + pairAsks ord ((c.rs.map (·.xs)).take (2 * i))) (hk2 : cnt k2 = cnt k1 + asks ord r1.xs r2.xs) (h1 : c.rs[2 * i]? = some r1) (h2 : c.rs[2 * i + 1]? = some r2) (hacc : acc.map (·.xs) = (pairUp ord (c.rs.map (·.xs))).take i) (hh : High mt rest acc) (hlo : ∀ r ∈ acc, D2 < r.adr)
    (ha : ∀ kk, ∀ p ∈ mt kk ++ rest, p.1 < a) (hD : D2 < a) : JF val ord mt cnt rest c D2 (i + 1) ((D2, listOf ((acc ++ [(⟨a, merge ord r1.xs r2.xs, n⟩ : Run α)]).map rv).toArray n') :: ((runLed val acc ++ [(a, listOf ((merge ord r1.xs r2.xs).map val).toArray n)]) ++ ((c.D, listOf (c.rs.map rv).toArray c.n) :: (runLed val c.rs ++ (mt k2 ++ rest))))) := by
  have g1 : (c.rs.map (·.xs))[2 * i]? = some r1.xs := by simp [h1]
  have g2 : (c.rs.map (·.xs))[2 * i + 1]? = some r2.xs := by simp [h2]
  obtain ⟨e1, e2⟩ := pairUp_take (ord := ord) i _ _ _ g1 g2
  refine ⟨acc ++ [⟨a, merge ord r1.xs r2.xs, n⟩], n', k2, by rw [e2, hk2, hk1, Nat.add_assoc], by simp, by rw [List.map_append, hacc, e1]; rfl, ?_, ?_⟩
  · intro r hr
    rcases List.mem_append.mp hr with hr | hr
    · exact hh r hr
    · rw [List.mem_singleton.mp hr]; exact ha
  · intro r hr
    rcases List.mem_append.mp hr with hr | hr
    · exact hlo r hr
    · rw [List.mem_singleton.mp hr]; exact hD
end
set_option maxRecDepth 100000 in
set_option maxHeartbeats 1600000 in
theorem sorted_calls (w : World) {α σ : Type} {f : Addr} {val : α → Value} {ord : α → α → Int} {dom : α → Prop} {imm : Led} {mt : σ → Led} {cnt : σ → Nat} (O : OrdOK w f val ord dom imm mt cnt)
    (k : σ) (rest : Led) (hi : ∀ p ∈ imm, p ∈ rest) (hd : ∀ kk, ∀ p ∈ mt kk, ∀ q ∈ rest, q.1 ≠ p.1) {l : Addr} {xs : List α} {n₁ : Nat}
    (hl : (l, listOf (xs.map val).toArray n₁) ∈ rest) (hsz : xs.length ≤ 20) (hx : ∀ x ∈ xs, dom x) :
    Calls w 213 12 120 [.ref l, .ref f] (mt k ++ rest) (fun v news' => ∃ a n k', v = .ref a ∧ (∀ p ∈ mt k ++ rest, p.1 < a) ∧ cnt k' = cnt k + sortAsks ord xs ∧ news' = (a, listOf ((sortM ord xs).map val).toArray n) :: (mt k' ++ rest)) := by
  unfold Calls
  k_fill
  intro p loose mean mg mb dp un gd cn cs ad ccd cl outer A₀ base h₀ L m s Q E B F X N T hk hdp hu hret
  refine wpAny_call ?_
  k_dflt ktr_enter
  k_steps
  unfold Hold
  refine comp_ind (JC val xs (mt k ++ rest)) ⟨[], rfl, rfl, by simp, fun _ h => nomatch h⟩ ?turn ?fin
  case turn =>
    rintro i ys news v I oI C oC D m₂ h tk E' hi9 hv ⟨rs, rfl, rfl, hrs, hhi⟩ hC hx2 F2 N2 off ne
    obtain ⟨x, hgx, rfl⟩ : ∃ x, xs[i]? = some x ∧ v = val x := by
      simp only [List.getElem?_toArray, List.getElem?_map] at hv
      cases e : xs[i]? with
      | none => rw [e] at hv; cases hv
      | some x => rw [e] at hv; exact ⟨x, rfl, (Option.some.inj hv).symm⟩
    k_steps
    rename News _ _ _ _ => N3
    rename _ ∧ _ => l1
    have l2 := allLt_mem l1.2.2.2
    exact LCg.CompEnd.intro (by k_asm) N3 _ sub_run (off_run off l1.1 l1.2.1 l1.2.2.1) (.inr ⟨_, List.mem_append_right _ (List.mem_append_right _ hl), rfl, _, rfl⟩) (JC.snoc hrs hhi hgx fun p hp => l2 _ (List.mem_append_right _ hp))
  case fin =>
    rintro ys news ⟨rs, rfl, rfl, hrs, hhi⟩
    k_steps
    rename LCg.Off1 _ _ => o1
    unfold Hold
    refine sorted_while (cnt := cnt) (val := val) (ord := ord) (dom := dom) (xs := xs) (k := k) (c₀ := ⟨rs, _, _, k⟩) (by k_asm) (by k_asm) rfl (SInv.start O.adr (by simpa using hrs) hhi (off1_mem o1) hsz hx) ?turn (by passes_own)
    intro c u h tk₁ I F2 N2
    clear o1 hrs hhi
    have hlen := I.ok.len
    rcases Nat.lt_or_ge 1 c.rs.length with hc | hc
    · k_steps
      unfold Hold
      rename _ ∧ _ => l1
      refine sorted_for I hc (by rfl) (by assumption) (by k_asm) (by k_asm) ?trn ?dn
      case trn =>
        intro i t acc n' k1 I9 o h2 tk2 r1 r2 hk1 hin hg1 hg2 ht1 ht2 hacc hhi hlo off F3 N3
        have hlt := allLt_mem l1.2
        have hD2 := O.adrs fun p hp => hlt p (List.mem_append_right _ hp)
        have m1 := List.mem_of_getElem? hg1
        have m2 := List.mem_of_getElem? hg2
        have z1 := le_sum (g := fun r : Run α => r.xs.length) m1
        have z2 := le_sum (g := fun r : Run α => r.xs.length) m2
        have z3 := I.ok.tot
        have z4 : acc.length ≤ 20 := by
          have := congrArg List.length hacc
          rw [List.length_map, List.length_take, pairUp_len, List.length_map] at this
          omega
        k_steps
        unfold Hold
        refine merged_use O (r1 := r1) (r2 := r2) (by k_asm) (by k_asm) (by k_asm) N3 (by k_asm) rfl (run_mem m1) (run_mem m2) (hap_of O.adr off hD2 I.off hhi I.ok.high) hi hd (by omega) (I.ok.dom _ m1) (I.ok.dom _ m2) (by ktr_room) (by ktr_units) ?_
        intro a9 n9 k9 h9 tk9 hk9 F9 hlt9 N9
        clear N3
        k_steps
        unfold Hold
        refine append_in (pre := [_, _]) (val := rv) (x := (⟨a9, merge ord r1.xs r2.xs, n9⟩ : Run α)) F9 N9 ?ka ?kb (by omega) ?kc
        case ka =>
          intro p hp
          rcases List.mem_cons.mp hp with rfl | hp
          · exact Nat.ne_of_gt (hlt9 _ (.tail _ (.head _)))
          · rw [List.mem_singleton.mp hp]
            exact (off _ (.head _)).symm
        case kb => exact post_of l1.1 (fun p hp => hlt p (List.mem_append_left _ hp)) hD2 hlo
        intro hz nz Fz Nz
        clear N9 F9
        k_steps
        refine FPostS.next (by k_asm) (fun p hp => Nz p (sub_turn p hp)) ?kd (JF.step (val := val) hk1 hk9 hg1 hg2 hacc hhi hlo ?ke (hlt9 _ (.tail _ (.head _))))
        case kd => exact off_next O.adr off (hlt9 _ (.head _))
        case ke => exact O.adrs fun p hp => hlt9 p (.tail _ (.tail _ (List.mem_append_right _ (.tail _ (List.mem_append_right _ hp)))))
      case dn =>
        intro u9 acc n' k1 h2 tk2 hk1 hacc hhi hlo9 F3 N3
        have hlt := allLt_mem l1.2
        have hD2 := O.adrs fun p hp => hlt p (List.mem_append_right _ hp)
        have offD : ∀ kk, ∀ p ∈ mt kk, (_ : Addr) ≠ p.1 := fun kk p hp => Nat.ne_of_gt (hD2 kk p (List.mem_append_left _ hp))
        obtain ⟨rl, hrl⟩ : ∃ rl, c.rs.getLast? = some rl := ⟨c.rs.getLast (by intro h; rw [h] at hc; simp at hc), List.getLast?_eq_some_getLast _⟩
        have hmr := List.mem_of_getLast? hrl
        have hlo : ∀ r ∈ acc, _ < r.adr := hlo9
        have z4 : acc.length ≤ 20 := by
          have := congrArg List.length hacc
          rw [List.length_map, List.length_take, pairUp_len, List.length_map] at this
          omega
        k_steps
        · unfold Hold
          refine append_in (pre := []) (val := rv) (x := rl) (by k_asm) (by k_asm) (fun _ h => nomatch h) (post_of l1.1 (fun p hp => hlt p (List.mem_append_left _ hp)) hD2 hlo) (by omega) ?_
          intro hz nz Fz Nz
          k_steps
          have e := odd_end hacc (by assumption) hrl
          obtain ⟨hI, hm⟩ := SInv.next (n' := nz) hk1 I hc e (high_snoc hhi (I.ok.high _ hmr)) offD
          refine sorted_end ⟨acc ++ [rl], _, nz, _⟩ (by k_asm) (by k_asm) (fun p hp => sub_odd (run_mem hmr) p (by rw [← runLed_snoc]; exact hp)) rfl ?_ hI hm
          exact fun z h1 h2 => (if_neg h1).trans ((if_neg (nAt h2)).trans ((if_neg (nLater h2)).trans ((if_neg h1).trans (if_neg (nC h2)))))
        · have e := even_end hacc (by assumption)
          obtain ⟨hI, hm⟩ := SInv.next (n' := n') hk1 I hc e hhi offD
          refine sorted_end ⟨acc, _, n', _⟩ (by k_asm) (by k_asm) sub_even rfl ?_ hI hm
          exact fun z h1 h2 => (if_neg h1).trans ((if_neg (nAt h2)).trans ((if_neg (nLater h2)).trans ((if_neg h1).trans (if_neg (nC h2)))))
    · rcases Nat.lt_or_ge 0 c.rs.length with hc2 | hc2
      · obtain ⟨r, hr⟩ : ∃ r, c.rs = [r] := List.length_eq_one_iff.mp (by omega)
        have hg : At c.rs 0 r := ⟨0, rfl, by rw [hr]; rfl⟩
        have hm : r ∈ c.rs := by rw [hr]; exact .head _
        obtain ⟨e1, e2⟩ := I.one hr
        k_steps
        rename News h₀ L _ _ => N9
        exact hret _ _ _ _ (by k_asm) (fun p hp => N9 p (sub_one (run_mem hm) p hp)) ⟨r.adr, r.n, c.k, rfl, I.ok.high r hm k, e2, by rw [e1]⟩
      · have hc3 : c.rs.length = 0 := by omega
        obtain ⟨e1, e2⟩ := I.none hc3
        k_steps
        rename _ ∧ _ ∧ _ => l9
        rename News h₀ L _ _ => N9
        exact hret _ _ _ _ (by k_asm) (fun p hp => N9 p (sub_none p hp)) ⟨_, _, c.k, rfl, O.adrs (fun p hp => allLt_mem l9.2.2 p (List.mem_append_right _ hp)) k, e2, by rw [e1]; rfl⟩
end Mine

namespace Mine
set_option maxRecDepth 100000 in
set_option maxHeartbeats 1600000 in
theorem up_call (w : World) (news : Led) {x y : Addr} {a b i j : Int} {t1 t2 t3 t4 : Tok} {n n' : Nat} (hx : (x, tup2 a i t1 t2 n) ∈ news) (hy : (y, tup2 b j t3 t4 n') ∈ news) :
    Calls w 249 2 16 [.ref x, .ref y] news (fun r news' => (∃ tk, r = .int (a - b) tk) ∧ news' = news) := by
  unfold Calls
  k_fill
  intro p loose mean mg mb dp un gd cn cs ad ccd cl outer A₀ base h₀ L m s Q E B F X N T hk hd hu hret
  refine wpAny_call ?_
  k_dflt ktr_enter
  k_steps
  exact hret _ _ _ _ (by k_asm) (by k_asm) ⟨⟨_, rfl⟩, rfl⟩
set_option maxRecDepth 100000 in
set_option maxHeartbeats 1600000 in
theorem down_call (w : World) (news : Led) {x y : Addr} {a b i j : Int} {t1 t2 t3 t4 : Tok} {n n' : Nat} (hx : (x, tup2 a i t1 t2 n) ∈ news) (hy : (y, tup2 b j t3 t4 n') ∈ news) :
    Calls w 256 2 16 [.ref x, .ref y] news (fun r news' => (∃ tk, r = .int (b - a) tk) ∧ news' = news) := by
  unfold Calls
  k_fill
  intro p loose mean mg mb dp un gd cn cs ad ccd cl outer A₀ base h₀ L m s Q E B F X N T hk hd hu hret
  refine wpAny_call ?_
  k_dflt ktr_enter
  k_steps
  exact hret _ _ _ _ (by k_asm) (by k_asm) ⟨⟨_, rfl⟩, rfl⟩
end Mine

namespace Mine
def halvN : Nat → Nat
  | 0 => 0 | 1 => 0 | 2 => 1 | 3 => 2 | 4 => 2 | 5 => 3 | 6 => 3 | 7 => 3 | 8 => 3 | _ => 4
theorem halv_cases {n c : Nat} (hn : n ≤ 9) (hc : c ≤ halvN n) : (c < halvN n ∧ ((c = 0 ∧ 1 < n) ∨ (c = 1 ∧ 2 < n) ∨ (c = 2 ∧ 4 < n) ∨ (c = 3 ∧ 8 < n))) ∨ (c = halvN n ∧ ((c = 0 ∧ n ≤ 1) ∨ (c = 1 ∧ n ≤ 2) ∨ (c = 2 ∧ n ≤ 4) ∨ (c = 3 ∧ n ≤ 8) ∨ (c = 4 ∧ n ≤ 16))) := by
  have h : n = 0 ∨ n = 1 ∨ n = 2 ∨ n = 3 ∨ n = 4 ∨ n = 5 ∨ n = 6 ∨ n = 7 ∨ n = 8 ∨ n = 9 := by omega
  rcases h with rfl | rfl | rfl | rfl | rfl | rfl | rfl | rfl | rfl | rfl <;> simp only [halvN] at hc ⊢ <;> omega
abbrev sTurns : Str := Str.ofString "turns"
theorem while_turns {prog : Program} {w : World} {A : Around} {E : Value → Shared → Prop} {Q : Flow → Shared → Prop} {s : Shared} {env : Env} {h₀ : Heap} {L : Addr} {m₀ : Str → Option Value} {news : Led} {test : PySem.Expr} {body : List Stmt} {pos : Pos} {n : Nat} {t : Tok} (F : Fr h₀ L s.heap m₀) (N : News h₀ L s.heap news) (e1 : m₀ sTurns = some (.int 0 t))
    (turn : ∀ (c : Nat × Tok) h tk, c.1 ≤ halvN n → Fr h₀ L h (fun y => if y = sTurns then some (.int c.1 c.2) else m₀ y) → News h₀ L h news →
      wpAny (model prog w) A (isTrue test env (eval test env)) (fun b s₂ =>
        if b = true then wpAny (model prog w) A (execs body env) (KswPost h₀ L s (fun _ => news) (fun c : Nat × Tok => [(sTurns, .int c.1 c.2)]) (fun _ => True) [] m₀ (fun c => c.1 ≤ halvN n) (fun c => halvN n - c.1) Q c) E s₂ else Q .next s₂) E { s with heap := h, toks := tk })
    (hE : PassesOwn (model prog w) A env E) : wpAny (model prog w) A (exec (.While test body [] pos) env) Q E s := by
  refine ksw_while (fun _ => news) (fun c : Nat × Tok => [(sTurns, .int c.1 c.2)]) (fun _ => True) [] (fun c => c.1 ≤ halvN n) (fun c => halvN n - c.1) (0, t) F N trivial ?_ (Nat.zero_le _) ?_ hE
  · intro p hp
    simp only [List.mem_cons, List.not_mem_nil, or_false] at hp
    rcases hp with rfl; assumption
  · intro c u h tk _ hi F' N'
    exact turn c h tk hi F' N'
set_option maxRecDepth 100000 in
set_option maxHeartbeats 1600000 in
theorem halv_call (w : World) (news : Led) {n : Nat} {t : Tok} (hn : n ≤ 9) :
    Calls w 275 2 16 [.int n t] news (fun r news' => (∃ tk, r = .int (halvN n) tk) ∧ news' = news) := by
  unfold Calls
  k_fill
  intro p loose mean mg mb dp un gd cn cs ad ccd cl outer A₀ base h₀ L m s Q E B F X N T hk hd hu hret
  refine wpAny_call ?_
  k_dflt ktr_enter
  k_steps
  unfold Hold
  refine while_turns (n := n) (by k_asm) (by k_asm) rfl ?_ (by passes_own)
  rintro ⟨c, t9⟩ h tk hc F1 N1
  dsimp only at hc F1 ⊢
  rcases halv_cases hn hc with ⟨hlt, hh⟩ | ⟨heq, hh⟩
  · rcases hh with ⟨rfl, h9⟩ | ⟨rfl, h9⟩ | ⟨rfl, h9⟩ | ⟨rfl, h9⟩
    all_goals
      k_steps
      case _ =>
        rename ¬ _ => h8
        exfalso
        revert h8
        simp only [Int.natCast_zero, Int.toNat_natCast, Int.toNat_zero, Int.reducePow, Int.one_mul]
        omega
  · rcases hh with ⟨rfl, h9⟩ | ⟨rfl, h9⟩ | ⟨rfl, h9⟩ | ⟨rfl, h9⟩ | ⟨rfl, h9⟩
    all_goals
      k_steps
      case _ =>
        rename 1 * 2 ^ _ < _ => h8
        exfalso
        revert h8
        simp only [Int.natCast_zero, Int.toNat_natCast, Int.toNat_zero, Int.reducePow, Int.one_mul]
        omega
      case _ => exact hret _ _ _ _ (by k_asm) (by k_asm) ⟨⟨_, by rw [← heq]⟩, rfl⟩
end Mine

namespace Mine
def cmpS (a b : Str) : Int := if a.cps.toList < b.cps.toList then -1 else if b.cps.toList < a.cps.toList then 1 else 0
set_option maxRecDepth 100000 in
set_option maxHeartbeats 1600000 in
theorem text_none (w : World) (news : Led) : Calls w 194 4 36 [.none] news (fun r news' => (∃ tk, r = .str (Str.ofString "") tk) ∧ news' = news) := by
  unfold Calls
  k_fill
  intro p loose mean mg mb dp un gd cn cs ad ccd cl outer A₀ base h₀ L m s Q E B F X N T hk hd hu hret
  refine wpAny_call ?_
  k_dflt ktr_enter
  k_steps
  refine hret _ _ _ _ ?_ ?_ ⟨⟨_, rfl⟩, rfl⟩ <;> k_asm
set_option maxRecDepth 100000 in
set_option maxHeartbeats 1600000 in
theorem text_str (w : World) (news : Led) (x : Str) (t : Tok) : Calls w 194 4 36 [.str x t] news (fun r news' => (∃ tk, r = .str x tk) ∧ news' = news) := by
  unfold Calls
  k_fill
  intro p loose mean mg mb dp un gd cn cs ad ccd cl outer A₀ base h₀ L m s Q E B F X N T hk hd hu hret
  refine wpAny_call ?_
  k_dflt ktr_enter
  k_steps
  refine hret _ _ _ _ ?_ ?_ ⟨⟨_, rfl⟩, rfl⟩ <;> k_asm
set_option maxRecDepth 100000 in
set_option maxHeartbeats 1600000 in
theorem num_9 (w : World) (news : Led) (t : Tok) : Calls w 21 3 26 [.int 9 t] news (fun r news' => (∃ tk, r = .str (Str.ofString "9") tk) ∧ news' = news) := by
  unfold Calls
  k_fill
  intro p loose mean mg mb dp un gd cn cs ad ccd cl outer A₀ base h₀ L m s Q E B F X N T hk hd hu hret
  refine wpAny_call ?_
  k_dflt ktr_enter
  k_steps
  refine hret _ _ _ _ ?_ ?_ ⟨⟨_, rfl⟩, rfl⟩ <;> k_asm
set_option maxRecDepth 100000 in
set_option maxHeartbeats 1600000 in
theorem num_1 (w : World) (news : Led) (t : Tok) : Calls w 21 2 16 [.int 1 t] news (fun r news' => (∃ tk, r = .str (Str.ofString "1") tk) ∧ news' = news) := by
  unfold Calls
  k_fill
  intro p loose mean mg mb dp un gd cn cs ad ccd cl outer A₀ base h₀ L m s Q E B F X N T hk hd hu hret
  refine wpAny_call ?_
  k_dflt ktr_enter
  k_steps
  refine hret _ _ _ _ ?_ ?_ ⟨⟨_, rfl⟩, rfl⟩ <;> k_asm
set_option maxRecDepth 100000 in
set_option maxHeartbeats 1600000 in
theorem num_10 (w : World) (news : Led) (t : Tok) : Calls w 21 3 26 [.int 10 t] news (fun r news' => (∃ tk, r = .str (Str.ofString "10") tk) ∧ news' = news) := by
  unfold Calls
  k_fill
  intro p loose mean mg mb dp un gd cn cs ad ccd cl outer A₀ base h₀ L m s Q E B F X N T hk hd hu hret
  refine wpAny_call ?_
  k_dflt ktr_enter
  k_steps
  refine hret _ _ _ _ ?_ ?_ ⟨⟨_, rfl⟩, rfl⟩ <;> k_asm
local macro_rules | `(tactic| walk_at "call ref") => `(tactic| (k_here; k_dflt (first | (refine' ro_use (num_1 _ _ _) ?k1 ?k2 ?k3 ?k4 ?k5 ?k6 ?k7 ?k8 ?_; (case k1 => k_asm); (case k2 => k_asm); (case k3 => k_asm); (case k4 => k_asm); (case k5 => k_asm); (case k6 => exact rfl); (case k7 => ktr_room); (case k8 => ktr_units)) | (refine' ro_use (by assumption) ?k1 ?k2 ?k3 ?k4 ?k5 ?k6 ?k7 ?k8 ?_; (case k1 => k_asm); (case k2 => k_asm); (case k3 => k_asm); (case k4 => k_asm); (case k5 => k_asm); (case k6 => exact rfl); (case k7 => ktr_room); (case k8 => ktr_units))); intro r' h' tk' F' N' P'; obtain ⟨t9', e9'⟩ := P'; subst e9'; (try dsimp only)))
set_option maxRecDepth 100000 in
set_option maxHeartbeats 1600000 in
theorem num_m1 (w : World) (news : Led) (t : Tok) : Calls w 21 3 26 [.int (-1) t] news (fun r news' => (∃ tk, r = .str (Str.ofString "-1") tk) ∧ news' = news) := by
  unfold Calls
  k_fill
  intro p loose mean mg mb dp un gd cn cs ad ccd cl outer A₀ base h₀ L m s Q E B F X N T hk hd hu hret
  refine wpAny_call ?_
  k_dflt ktr_enter
  k_steps
  refine hret _ _ _ _ ?_ ?_ ⟨⟨_, rfl⟩, rfl⟩ <;> k_asm
set_option maxRecDepth 100000 in
set_option maxHeartbeats 1600000 in
theorem text_int (w : World) (news : Led) (t : Tok) {v : Int} {x : Str} (C : Calls w 21 3 26 [.int v t] news (fun r news' => (∃ tk, r = .str x tk) ∧ news' = news)) : Calls w 194 4 36 [.int v t] news (fun r news' => (∃ tk, r = .str x tk) ∧ news' = news) := by
  unfold Calls
  k_fill
  intro p loose mean mg mb dp un gd cn cs ad ccd cl outer A₀ base h₀ L m s Q E B F X N T hk hd hu hret
  refine wpAny_call ?_
  k_dflt ktr_enter
  k_steps
  refine hret _ _ _ _ ?_ ?_ ⟨⟨_, rfl⟩, rfl⟩ <;> k_asm
set_option maxRecDepth 100000 in
set_option maxHeartbeats 1600000 in
theorem cmp_call (w : World) (news : Led) {x y : Value} {a b : Str} (Cx : Calls w 194 4 36 [x] news (fun r news' => (∃ tk, r = .str a tk) ∧ news' = news)) (Cy : Calls w 194 4 36 [y] news (fun r news' => (∃ tk, r = .str b tk) ∧ news' = news)) : Calls w 201 5 48 [x, y] news (fun r news' => (∃ tk, r = .int (cmpS a b) tk) ∧ news' = news) := by
  unfold Calls
  k_fill
  intro p loose mean mg mb dp un gd cn cs ad ccd cl outer A₀ base h₀ L m s Q E B F X N T hk hd hu hret
  refine wpAny_call ?_
  k_dflt ktr_enter
  k_steps
  · rename _ < _ => h8
    refine hret _ _ _ _ ?_ ?_ ⟨⟨_, by rw [cmpS, if_pos h8]⟩, rfl⟩ <;> k_asm
  · rename ¬ _ => h8
    rename _ < _ => h9
    refine hret _ _ _ _ ?_ ?_ ⟨⟨_, by rw [cmpS, if_neg h8, if_pos h9]⟩, rfl⟩ <;> k_asm
  · refine hret _ _ _ _ ?_ ?_ ⟨⟨_, by rw [cmpS, if_neg (by assumption), if_neg (by assumption)]⟩, rfl⟩ <;> k_asm
set_option maxRecDepth 100000 in
set_option maxHeartbeats 1600000 in
theorem same_none (w : World) (news : Led) : Calls w 187 2 16 [.none] news (fun r news' => r = .none ∧ news' = news) := by
  unfold Calls
  k_fill
  intro p loose mean mg mb dp un gd cn cs ad ccd cl outer A₀ base h₀ L m s Q E B F X N T hk hd hu hret
  refine wpAny_call ?_
  k_dflt ktr_enter
  k_steps
  refine hret _ _ _ _ ?_ ?_ ⟨rfl, rfl⟩ <;> k_asm
set_option maxRecDepth 100000 in
set_option maxHeartbeats 1600000 in
theorem same_int (w : World) (news : Led) (v : Int) (t : Tok): Calls w 187 2 16 [.int v t] news (fun r news' => r = .int v t ∧ news' = news) := by
  unfold Calls
  k_fill
  intro p loose mean mg mb dp un gd cn cs ad ccd cl outer A₀ base h₀ L m s Q E B F X N T hk hd hu hret
  refine wpAny_call ?_
  k_dflt ktr_enter
  k_steps
  refine hret _ _ _ _ ?_ ?_ ⟨rfl, rfl⟩ <;> k_asm
set_option maxRecDepth 100000 in
set_option maxHeartbeats 1600000 in
theorem same_str (w : World) (news : Led) (x : Str) (t : Tok): Calls w 187 2 16 [.str x t] news (fun r news' => r = .str x t ∧ news' = news) := by
  unfold Calls
  k_fill
  intro p loose mean mg mb dp un gd cn cs ad ccd cl outer A₀ base h₀ L m s Q E B F X N T hk hd hu hret
  refine wpAny_call ?_
  k_dflt ktr_enter
  k_steps
  refine hret _ _ _ _ ?_ ?_ ⟨rfl, rfl⟩ <;> k_asm

set_option maxRecDepth 100000 in
set_option maxHeartbeats 1600000 in
theorem order_call (w : World) (news : Led) {x y : Value} {a b : Str} (Cx : Calls w 194 4 36 [x] news (fun r news' => (∃ tk, r = .str a tk) ∧ news' = news)) (Cy : Calls w 194 4 36 [y] news (fun r news' => (∃ tk, r = .str b tk) ∧ news' = news)) (Sx : Calls w 187 2 16 [x] news (fun r news' => r = x ∧ news' = news)) (Sy : Calls w 187 2 16 [y] news (fun r news' => r = y ∧ news' = news)) : Calls w 220 8 80 [x, y] news (fun r news' => (∃ tk, r = .int (cmpS a b) tk) ∧ news' = news) := by
  have C9 := cmp_call w news Cx Cy
  clear Cx Cy
  unfold Calls
  k_fill
  intro p loose mean mg mb dp un gd cn cs ad ccd cl outer A₀ base h₀ L m s Q E B F X N T hk hd hu hret
  refine wpAny_call ?_
  k_dflt ktr_enter
  k_steps
  k_dflt (refine' ro_use Sx ?k1 ?k2 ?k3 ?k4 ?k5 ?k6 ?k7 ?k8 ?_; (case k1 => k_asm); (case k2 => k_asm); (case k3 => k_asm); (case k4 => k_asm); (case k5 => k_asm); (case k6 => exact rfl); (case k7 => ktr_room); (case k8 => ktr_units))
  intro r1 h1 tk1 F1 N1 e1
  subst e1
  k_steps
  k_dflt (refine' ro_use Sy ?k1 ?k2 ?k3 ?k4 ?k5 ?k6 ?k7 ?k8 ?_; (case k1 => k_asm); (case k2 => k_asm); (case k3 => k_asm); (case k4 => k_asm); (case k5 => k_asm); (case k6 => exact rfl); (case k7 => ktr_room); (case k8 => ktr_units))
  intro r2 h2 tk2 F2 N2 e2
  subst e2
  k_steps
  refine hret _ _ _ _ ?_ ?_ ⟨⟨_, rfl⟩, rfl⟩ <;> k_asm
end Mine

namespace Mine

def wval : Nat → Value
  | 0 => .str (Str.ofString "b") 503 | 1 => .int 10 504 | 2 => .str (Str.ofString "") 505 | 3 => .none | 4 => .str (Str.ofString "B") 506
  | 5 => .int 9 507 | 6 => .str (Str.ofString "ba") 508 | 7 => .str (Str.ofString "1") 509 | _ => .int (-1) 511
def wtxt : Nat → Str
  | 0 => Str.ofString "b" | 1 => Str.ofString "10" | 2 => Str.ofString "" | 3 => Str.ofString "" | 4 => Str.ofString "B"
  | 5 => Str.ofString "9" | 6 => Str.ofString "ba" | 7 => Str.ofString "1" | _ => Str.ofString "-1"
theorem nine {P : Nat → Prop} (h0 : P 0) (h1 : P 1) (h2 : P 2) (h3 : P 3) (h4 : P 4) (h5 : P 5) (h6 : P 6) (h7 : P 7) (h8 : P 8) : ∀ i, i < 9 → P i
  | 0, _ => h0 | 1, _ => h1 | 2, _ => h2 | 3, _ => h3 | 4, _ => h4 | 5, _ => h5 | 6, _ => h6 | 7, _ => h7 | 8, _ => h8 
theorem wtext (w : World) (news : Led) : ∀ i, i < 9 → Calls w 194 4 36 [wval i] news (fun r news' => (∃ tk, r = .str (wtxt i) tk) ∧ news' = news) :=
  nine (text_str w news _ _) (text_int w news _ (num_10 w news _)) (text_str w news _ _) (text_none w news) (text_str w news _ _) (text_int w news _ (num_9 w news _)) (text_str w news _ _) (text_str w news _ _) (text_int w news _ (num_m1 w news _))
theorem wsame (w : World) (news : Led) : ∀ i, i < 9 → Calls w 187 2 16 [wval i] news (fun r news' => r = wval i ∧ news' = news) :=
  nine (same_str w news _ _) (same_int w news _ _) (same_str w news _ _) (same_none w news) (same_str w news _ _) (same_int w news _ _) (same_str w news _ _) (same_str w news _ _) (same_int w news _ _)
structure Mem where
  adr : Addr
  w : Nat
  i : Nat
  tw : Tok
  ti : Tok
  n : Nat
abbrev mval (x : Mem) : Value := .ref x.adr
abbrev mobj (x : Mem) : Addr × Obj := (x.adr, tup2 x.w x.i x.tw x.ti x.n)
def up (x y : Mem) : Int := x.w - y.w
def down (x y : Mem) : Int := y.w - x.w
def tord (i j : Nat) : Int := cmpS (wtxt i) (wtxt j)
set_option maxRecDepth 100000 in
theorem keep_up (w : World) (imm : Led) (h : Heap) (X : OrdP w imm h) : ∃ k, (k = Keeper.frame ∨ k = Keeper.machine ∨ k = Keeper.boundFrame) ∧ Looks (model PySem.Challenge.rw_sa0530_01.row.prog w) h (keeperOf (.ref 249)) k := by
  k_fill
  exact keeps_K (K := hd.heap_39 w.params) (by rfl) h X.1
set_option maxRecDepth 100000 in
theorem keep_down (w : World) (imm : Led) (h : Heap) (X : OrdP w imm h) : ∃ k, (k = Keeper.frame ∨ k = Keeper.machine ∨ k = Keeper.boundFrame) ∧ Looks (model PySem.Challenge.rw_sa0530_01.row.prog w) h (keeperOf (.ref 256)) k := by
  k_fill
  exact keeps_K (K := hd.heap_39 w.params) (by rfl) h X.1
set_option maxRecDepth 100000 in
theorem keep_text (w : World) (imm : Led) (h : Heap) (X : OrdP w imm h) : ∃ k, (k = Keeper.frame ∨ k = Keeper.machine ∨ k = Keeper.boundFrame) ∧ Looks (model PySem.Challenge.rw_sa0530_01.row.prog w) h (keeperOf (.ref 220)) k := by
  k_fill
  exact keeps_K (K := hd.heap_39 w.params) (by rfl) h X.1
theorem calls_post {w : World} {f : Addr} {nd nu nd' nu' : Nat} {args : List Value} {news : Led} {P P' : Value → Led → Prop} (C : Calls w f nd nu args news P) (h1 : nd ≤ nd') (h2 : nu ≤ nu') (h : ∀ r n, P r n → P' r n) : Calls w f nd' nu' args news P' :=
  fun _ _ _ _ _ _ _ _ _ _ _ _ _ _ _ _ _ _ _ _ _ _ B F X N T hk hd hu ret => C _ _ _ _ _ _ _ _ _ _ _ _ _ _ _ _ _ _ _ _ _ _ B F X N T hk (by omega) (by omega) fun r n h' tk F' N' p => ret r n h' tk F' N' (h r n p)
abbrev mt0 : Nat → Led := fun _ => []
theorem up_ok (w : World) (ms : List Mem) : OrdOK w 249 mval up (· ∈ ms) (ms.map mobj) mt0 id where
  call k x y rest hx hy hi hj := calls_post (up_call w rest (hi _ (List.mem_map_of_mem hx)) (hi _ (List.mem_map_of_mem hy))) (by decide) (by decide) fun r n ⟨⟨tk, e⟩, h⟩ => ⟨⟨tk, e⟩, k + 1, rfl, h⟩
  adr _ _ := rfl
  keeper := keep_up w _
theorem down_ok (w : World) (ms : List Mem) : OrdOK w 256 mval down (· ∈ ms) (ms.map mobj) mt0 id where
  call k x y rest hx hy hi hj := calls_post (down_call w rest (hi _ (List.mem_map_of_mem hx)) (hi _ (List.mem_map_of_mem hy))) (by decide) (by decide) fun r n ⟨⟨tk, e⟩, h⟩ => ⟨⟨tk, e⟩, k + 1, rfl, h⟩
  adr _ _ := rfl
  keeper := keep_down w _
theorem text_ok (w : World) : OrdOK w 220 wval tord (· < 9) [] mt0 id where
  call k x y rest hx hy hi hj := calls_post (order_call w rest (wtext w rest x hx) (wtext w rest y hy) (wsame w rest x hx) (wsame w rest y hy)) (by decide) (by decide) fun r n ⟨⟨tk, e⟩, h⟩ => ⟨⟨tk, e⟩, k + 1, rfl, h⟩
  adr _ _ := rfl
  keeper := keep_text w _
end Mine

namespace Mine

theorem ord_pure {w : World} {α : Type} {f : Addr} {val : α → Value} {ord : α → α → Int} {dom : α → Prop} {imm : Led} (O : OrdOK w f val ord dom imm mt0 id) {x y : α} {news : Led} (hx : dom x) (hy : dom y) (hi : ∀ p ∈ imm, p ∈ news) :
    Calls w f 8 80 [val x, val y] news (fun r news' => (∃ tk, r = .int (ord x y) tk) ∧ news' = news) :=
  calls_post (O.call 0 x y news hx hy hi fun _ h => nomatch h) (Nat.le_refl _) (Nat.le_refl _) fun r n ⟨e, k', _, h⟩ => ⟨e, h⟩
theorem sub_c {imm rest : Led} {x : Addr × Obj} (h : ∀ p ∈ imm, p ∈ rest) : ∀ p ∈ imm, p ∈ x :: rest := fun p hp => .tail _ (h p hp)
theorem range_one {n : Nat} (h : n ≤ 20) : Builtin.Range.rangeSize 1 (n : Int) 1 = ((n - 1 : Nat) : Int) := by
  unfold Builtin.Range.rangeSize
  rw [if_pos (by decide)]
  split <;> omega
theorem range_small1 {n : Nat} (h : n ≤ 20) : Builtin.Range.small 1 (n : Int) 1 = true := by
  unfold Builtin.Range.small
  rw [range_one h, if_pos (by decide)]
  simp only [Builtin.Range.rangeFitsLong, Bool.and_eq_true, decide_eq_true_eq, Bool.or_eq_true]
  refine ⟨⟨⟨⟨?_, ?_⟩, ?_⟩, ?_⟩, .inr ?_⟩ <;> omega
local macro_rules | `(tactic| walk_at "callWith ref") => `(tactic| (k_here; k_dflt (refine' callWith_P (OrdOK.keeper (by assumption)) ?_)))
local macro_rules | `(tactic| walk_at "And") => `(tactic| ((with_reducible show OrdP _ _ _ ∧ _); refine ⟨ordP_of (by k_asm) (by k_asm) (by k_asm) (sub_c (by assumption)), ?_⟩; try dsimp only [List.nil_append, List.cons_append]))
local macro_rules | `(tactic| walk_at "pyIter ref") => `(tactic| refine hold ?_)
local macro_rules | `(tactic| walk_at "subscriptTail") => `(tactic| (k_here; (with_reducible show wpAny _ _ (subscriptTail _ _ (Value.ref _) (Value.int _ _)) _ _ _); k_dflt (refine' item_A ?k1 ?k2 ?k3 ?k4 ?_ ?k6; (case k1 => k_asm); (case k2 => with_reducible assumption); (case k3 => k_mem); (case k4 => omega); (case k6 => with_unfolding_all rfl); k_whole)))
local macro_rules | `(tactic| walk_at "call ref") => `(tactic| (k_here; k_dflt (refine' ro_use (ord_pure (by assumption) (by with_reducible assumption) (by with_reducible assumption) (sub_c (by assumption))) ?k1 ?k2 ?k3 ?k4 ?k5 ?k6 ?k7 ?k8 ?_; (case k1 => k_asm); (case k2 => k_asm); (case k3 => k_asm); (case k4 => k_asm); (case k5 => k_asm); (case k6 => exact rfl); (case k7 => ktr_room); (case k8 => ktr_units)); intro r' h' tk' F' N' P'; obtain ⟨t9', e9'⟩ := P'; subst e9'; (try dsimp only)))
set_option maxRecDepth 100000 in
set_option maxHeartbeats 1600000 in
theorem issorted_call (w : World) {α : Type} {f : Addr} {val : α → Value} {ord : α → α → Int} {dom : α → Prop} {imm : Led} (O : OrdOK w f val ord dom imm mt0 id)
    (news : Led) (hi : ∀ p ∈ imm, p ∈ news) {l : Addr} {xs : List α} {n₁ : Nat}
    (hl : (l, listOf (xs.map val).toArray n₁) ∈ news) (hsz : xs.length ≤ 20) (hx : ∀ x ∈ xs, dom x) (hs : ∀ (i : Nat) (x y : α), xs[i]? = some x → xs[i + 1]? = some y → ord x y ≤ 0) :
    Calls w 234 12 120 [.ref l, .ref f] news (fun r news' => r = .bool true ∧ news' = news) := by
  unfold Calls
  k_fill
  intro p loose mean mg mb dp un gd cn cs ad ccd cl outer A₀ base h₀ L m s Q E B F X N T hk hdp hu hret
  refine wpAny_call ?_
  k_dflt ktr_enter
  k_steps
  unfold Hold
  refine for_rangeS (n := xs.length - 1) (fun _ news₁ => news₁ = news) (by rfl) (by assumption) (range_small1 hsz) (range_one hsz) (by k_asm) (by k_asm) rfl ?trn ?dn
  case trn =>
    rintro i t news₁ I o h2 tk2 hin rfl off F3 N3
    have g1 : xs[i]? = some xs[i] := List.getElem?_eq_getElem (by omega)
    have g2 : xs[i + 1]? = some xs[i + 1] := List.getElem?_eq_getElem (by omega)
    have hle := hs i _ _ g1 g2
    have d1 := hx _ (List.mem_of_getElem? g1)
    have d2 := hx _ (List.mem_of_getElem? g2)
    have ht1 : At xs (1 + (i : Int) * 1 - 1) xs[i] := ⟨i, by omega, g1⟩
    have ht2 : At xs (1 + (i : Int) * 1) xs[i + 1] := ⟨i + 1, by omega, g2⟩
    generalize xs[i] = x1 at *
    generalize xs[i + 1] = x2 at *
    clear g1 g2
    k_steps
    exact FPostS.next (by k_asm) (by k_asm) off rfl
  case dn =>
    rintro u news₁ h2 tk2 rfl F3 N3
    k_steps
    refine hret _ _ _ _ ?_ ?_ ⟨rfl, rfl⟩ <;> k_asm
end Mine

namespace Mine

/-- the jar: a dict of two written keys -/
def Jar (w : World) (sc : Addr) (k : Nat) (o : Obj) : Prop := ∃ tk : Tok, o.IsDictOf (PySem.strKind PySem.Challenge.rw_sa0530_01.row.prog w) [(Str.ofString "script", .ref sc), (Str.ofString "scooped", .int k tk)]
/-- a call, the script's list being at hand -/
def CallsH (w : World) (f : Addr) (nd nu : Nat) (args : List Value) (news : Led) (sc : Addr) (vs : List Value) (Post : Value → Led → Prop) : Prop :=
  ∀ (p : Program) (loose : List Str) (mean : ExcName → Option Value) (mg mb : Str → Option Value) (dp un : Nat) (gd : Option (List Code)) (cn : Str) (cs : Scope) (a : Addr) (ccd : Value) (cl : List (Str × Addr)) (outer : List Env) (A₀ : Around) (base h₀ : Heap) (L : Addr) (m : Str → Option Value) (s : Shared)
    (Q E : Value → Shared → Prop),
    Below A₀ base outer h₀ → Fr h₀ L s.heap m → (hd.heap_39 w.params).In h₀ → News h₀ L s.heap news → Top p loose mean mg mb h₀ → cs.kind = .function → dp + nd < recursionLimit → un + nu < cLine → h₀.IsList sc vs.toArray →
    (∀ r news' h' tk', Fr h₀ L h' m → News h₀ L h' news' → Post r news' → Q r { s with heap := h', toks := tk' }) →
    wpAny (model PySem.Challenge.rw_sa0530_01.row.prog w) (ktrTop dp un gd cn cs L a ccd cl outer) (call (.ref f) args) Q E s
theorem jar_set {w : World} {A : Around} {E : Value → Shared → Prop} {s : Shared} {h₀ : Heap} {L j sc : Addr} {m : Str → Option Value} {rest : Led} {oj : Obj} {x v : Value} {t : Tok} {Q : Unit → Shared → Prop} (F : Fr h₀ L s.heap m) (N : News h₀ L s.heap ((j, oj) :: rest)) (hap : ∀ p ∈ rest, p.1 ≠ j)
    (hd : oj.IsDictOf (PySem.strKind PySem.Challenge.rw_sa0530_01.row.prog w) [(Str.ofString "script", .ref sc), (Str.ofString "scooped", x)])
    (h : ∀ h' o', Fr h₀ L h' m → News h₀ L h' ((j, o') :: rest) → o'.IsDictOf (PySem.strKind PySem.Challenge.rw_sa0530_01.row.prog w) [(Str.ofString "script", .ref sc), (Str.ofString "scooped", v)] → Q () { s with heap := h', toks := s.toks + 1 }) :
    wpAny (model PySem.Challenge.rw_sa0530_01.row.prog w) A (setItem (.ref j) (.str (Str.ofString "scooped") t) v) Q E s :=
  kda_set (knd := PySem.strKind _ _) F N (UpdF.head hap) hd (strKind_is _ _ _ _) (by rw [sizeLine_eq]; exact Nat.le_of_ble_eq_true rfl) fun h' o' F' N' hd' => h h' o' F' N' (by
    have e : stored [(Str.ofString "script", Value.ref sc), (Str.ofString "scooped", x)] (Str.ofString "scooped") v = [(Str.ofString "script", .ref sc), (Str.ofString "scooped", v)] := by
      unfold stored; rfl
    rw [e] at hd'; exact hd')
theorem fmod_val {x : Int} {many : Nat} {tk : Tok} (hm : 1 ≤ many) : Value.int (x.fmod many) tk = .int ((x.fmod many).toNat : Nat) tk := by
  rw [Int.toNat_of_nonneg (Int.fmod_nonneg_of_pos _ (by omega))]
theorem fmod_lt {x : Int} {many : Nat} (hm : 1 ≤ many) : (x.fmod many).toNat < many := by
  have h1 := Int.fmod_lt_of_pos x (b := (many : Int)) (by omega)
  have h2 := Int.fmod_nonneg_of_pos x (b := (many : Int)) (by omega)
  omega
theorem jar_up {w : World} {sc : Addr} {k : Nat} {o : Obj} {tk : Tok} (h : o.IsDictOf (PySem.strKind PySem.Challenge.rw_sa0530_01.row.prog w) [(Str.ofString "script", .ref sc), (Str.ofString "scooped", .int (k + 1) tk)]) : Jar w sc (k + 1) o := ⟨tk, h⟩
local macro_rules | `(tactic| walk_at "setItem ref str") => `(tactic| (k_here; k_dflt (refine' jar_set ?F ?N ?H ?d ?_; (case F => k_asm); (case N => k_asm); (case H => assumption); (case d => k_asm)); intro h' o' F' N' hd'; (try dsimp only at N')))
set_option maxRecDepth 100000 in
set_option maxHeartbeats 1600000 in
theorem scoop_call (w : World) (rest : Led) {j sc : Addr} {oj : Obj} {vs : List Value} {ns : List Int} (hi : IntsAre vs ns) (hns : ns.length ≤ 63) {k many : Nat} {tm : Tok} (hm : 1 ≤ many) (hm2 : many ≤ 10) (hk : k ≤ 30) (hap : ∀ p ∈ rest, p.1 ≠ j) (hj : Jar w sc k oj) :
    CallsH w 242 2 16 [.ref j, .int many tm] ((j, oj) :: rest) sc vs (fun r news' => ∃ (v : Nat) (tk : Tok) (oj' : Obj), r = .int v tk ∧ v < many ∧ Jar w sc (k + 1) oj' ∧ news' = (j, oj') :: rest) := by
  obtain ⟨tj, hd'⟩ := hj
  unfold CallsH
  k_fill
  intro p loose mean mg mb dp un gd cn cs ad ccd cl outer A₀ base h₀ L m s Q E B F X N T hkk hd hu hl hret
  refine wpAny_call ?_
  k_dflt ktr_enter
  have hl' := hl.at fun o e => Fr.keep (by assumption) sc o e
  k_steps
  all_goals exact hret _ _ _ _ (by k_asm) (by k_asm) ⟨_, _, _, fmod_val hm, fmod_lt hm, jar_up (by k_asm), rfl⟩
end Mine

namespace Mine

theorem scoop_use {w : World} {j sc : Addr} {oj : Obj} {vs : List Value} {ns : List Int} {rest : Led} {k : Nat} {z : Int} {tm : Tok}
    {p : Program} {loose : List Str} {mean : ExcName → Option Value} {mg mb : Str → Option Value} {dp un : Nat} {gd : Option (List Code)} {cn : Str} {cs : Scope} {a : Addr} {ccd : Value} {cl : List (Str × Addr)} {outer : List Env} {A₀ : Around} {base h₀ : Heap} {L : Addr} {m : Str → Option Value} {s : Shared}
    {Q E : Value → Shared → Prop} (B : Below A₀ base outer h₀) (F : Fr h₀ L s.heap m) (X : (hd.heap_39 w.params).In h₀) (N : News h₀ L s.heap ((j, oj) :: rest)) (T : Top p loose mean mg mb h₀) (hkf : cs.kind = .function)
    (hl : h₀.IsList sc vs.toArray) (hi : IntsAre vs ns) (hns : ns.length ≤ 63) (hj : Jar w sc k oj) (hap : ∀ p ∈ rest, p.1 ≠ j) (hz1 : 1 ≤ z) (hz2 : z ≤ 10) (hk : k ≤ 30) (hdp : dp + 2 < recursionLimit) (hu : un + 16 < cLine)
    (ret : ∀ (v : Nat) tk oj' h' tk', (v : Int) < z → Jar w sc (k + 1) oj' → Fr h₀ L h' m → News h₀ L h' ((j, oj') :: rest) → Q (.int v tk) { s with heap := h', toks := tk' }) :
    wpAny (model PySem.Challenge.rw_sa0530_01.row.prog w) (ktrTop dp un gd cn cs L a ccd cl outer) (call (.ref 242) [.ref j, .int z tm]) Q E s := by
  obtain ⟨many, rfl⟩ : ∃ many : Nat, z = (many : Int) := ⟨z.toNat, by omega⟩
  refine scoop_call w rest hi hns (k := k) (many := many) (tm := tm) (by omega) (by omega) hk hap hj _ _ _ _ _ _ _ _ _ _ _ _ _ _ _ _ _ _ _ _ _ _ B F X N T hkf hdp hu hl ?_
  rintro r news' h' tk' F' N' ⟨v, tk, oj', rfl, hv, hj', rfl⟩
  exact ret v tk oj' h' tk' (by omega) hj' F' N'
local macro_rules | `(tactic| walk_at "CompSrc") => `(tactic| refine hold ?_)
local macro_rules | `(tactic| walk_at "CompEnd") => `(tactic| refine hold ?_)
local macro_rules | `(tactic| walk_at "call ref") => `(tactic| (k_here; k_dflt (refine' scoop_use ?k1 ?k2 ?k3 ?k4 ?k5 ?k6 ?k7 ?k8 ?k9 ?k10 ?k11 ?k12 ?k13 ?k14 ?k15 ?k16 ?_; (case k1 => k_asm); (case k2 => k_asm); (case k3 => k_asm); (case k4 => k_asm); (case k5 => k_asm); (case k6 => exact rfl); (case k7 => with_reducible assumption); (case k8 => with_reducible assumption); (case k9 => assumption); (case k10 => with_reducible assumption); (case k11 => with_reducible assumption); (case k12 => omega); (case k13 => omega); (case k14 => omega); (case k15 => ktr_room); (case k16 => ktr_units)); intro v' t' oj' h' tk' hv' hj' F' N'; (try dsimp only)))
theorem news_swap {h₀ h : Heap} {L : Addr} {a b : Addr × Obj} {r : Led} (N : News h₀ L h (a :: b :: r)) : News h₀ L h (b :: a :: r) := by
  intro p hp
  rcases List.mem_cons.mp hp with h1 | hp
  · exact N p (h1 ▸ .tail _ (.head _))
  rcases List.mem_cons.mp hp with h1 | hp
  · exact N p (h1 ▸ .head _)
  · exact N p (.tail _ (.tail _ hp))
def JM (w : World) (sc j : Addr) (rest : Led) (k i : Nat) (ys : List Value) (news : Led) : Prop :=
  ∃ (ms : List Mem) (oj : Obj), ys = ms.map mval ∧ ms.length = i ∧ (∀ (q : Nat) (m : Mem), ms[q]? = some m → m.i = q ∧ m.w < 5) ∧ Jar w sc (k + i) oj ∧ (∀ m ∈ ms, m.adr ≠ j) ∧ news = ms.map mobj ++ ((j, oj) :: rest)
theorem range_zero {v : Nat} {b : Nat} (h : v < b) (hb : b ≤ 30) : Builtin.Range.rangeSize 0 (v : Int) 1 = (v : Int) ∧ Builtin.Range.small 0 (v : Int) 1 = true ∧ v ≤ sizeLine := by
  have e : Builtin.Range.rangeSize 0 (v : Int) 1 = (v : Int) := by
    unfold Builtin.Range.rangeSize
    rw [if_pos (by decide)]
    split <;> omega
  refine ⟨e, ?_, by rw [sizeLine_eq]; omega⟩
  unfold Builtin.Range.small
  rw [e, if_pos (by decide)]
  simp only [Builtin.Range.rangeFitsLong, Bool.and_eq_true, decide_eq_true_eq, Bool.or_eq_true]
  refine ⟨⟨⟨⟨?_, ?_⟩, ?_⟩, ?_⟩, .inr ?_⟩ <;> omega
theorem news_jar {h₀ h : Heap} {L : Addr} {a b c j : Addr × Obj} {X Y : Led} (N : News h₀ L h (a :: b :: c :: (X ++ (j :: Y)))) : News h₀ L h (j :: a :: b :: c :: (X ++ Y)) := by
  intro p hp
  refine N p ?_
  simp only [List.mem_append, List.mem_cons] at hp ⊢
  rcases hp with h | h | h | h | h | h <;> simp only [h, true_or, or_true]
theorem jar_off {a b c j : Addr × Obj} {X Y : Led} (off : ∀ p ∈ X ++ (j :: Y), p.1 ≠ a.1 ∧ p.1 ≠ b.1 ∧ p.1 ≠ c.1) (hX : ∀ p ∈ X, p.1 ≠ j.1) (hY : ∀ p ∈ Y, p.1 ≠ j.1) : ∀ p ∈ a :: b :: c :: (X ++ Y), p.1 ≠ j.1 := by
  intro p hp
  obtain ⟨o1, o2, o3⟩ := off j (List.mem_append_right _ (.head _))
  simp only [List.mem_append, List.mem_cons] at hp
  rcases hp with h | h | h | h | h
  · rw [h]; exact o1.symm
  · rw [h]; exact o2.symm
  · rw [h]; exact o3.symm
  · exact hX p h
  · exact hY p h
theorem sub_mem {t j I C D : Addr × Obj} {X Y : Led} : ∀ p ∈ I :: C :: D :: ((X ++ [t]) ++ (j :: Y)), p ∈ t :: j :: I :: C :: D :: (X ++ Y) := by
  intro p hp
  simp only [List.mem_append, List.mem_cons, List.not_mem_nil, or_false] at hp ⊢
  rcases hp with h | h | h | (h | h) | h | h <;> simp only [h, true_or, or_true]
theorem sub_cell {a j c : Addr × Obj} {X Y : Led} : ∀ p ∈ a :: (X ++ (j :: Y)), p ∈ a :: (X ++ (j :: c :: Y)) := by
  intro p hp
  simp only [List.mem_append, List.mem_cons] at hp ⊢
  rcases hp with h | h | h | h <;> simp only [h, true_or, or_true]
theorem off_mem {t I C D j : Addr} {oj oj' ot : Obj} {X Y : Led} (off : ∀ p ∈ X ++ ((j, oj) :: Y), p.1 ≠ I ∧ p.1 ≠ C ∧ p.1 ≠ D) (h1 : I < t) (h2 : C < t) (h3 : D < t) : LCg.Off3 I C D ((X ++ [(t, ot)]) ++ ((j, oj') :: Y)) := by
  refine LCg.Off3.of fun p hp => ?_
  simp only [List.mem_append, List.mem_cons, List.not_mem_nil, or_false] at hp off
  rcases hp with (h | h) | h | h
  · exact off p (.inl h)
  · subst h; exact ⟨Nat.ne_of_gt h1, Nat.ne_of_gt h2, Nat.ne_of_gt h3⟩
  · subst h; exact off (j, oj) (.inr (.inl rfl))
  · exact off p (.inr (.inr h))
theorem JM.snoc {w : World} {sc j : Addr} {rest : Led} {k i : Nat} {ms : List Mem} {oj : Obj} {t : Addr} {v : Nat} {t1 t2 : Tok} (hl : ms.length = i) (hm : ∀ (q : Nat) (m : Mem), ms[q]? = some m → m.i = q ∧ m.w < 5) (hj : Jar w sc (k + i + 1) oj) (hne : ∀ m ∈ ms, m.adr ≠ j) (hv : (v : Int) < 5) (ht : t ≠ j) :
    JM w sc j rest k (i + 1) (ms.map mval ++ [.ref t]) ((ms.map mobj ++ [(t, tup2 (v : Int) (i : Int) t1 t2 0)]) ++ ((j, oj) :: rest)) := by
  refine ⟨ms ++ [⟨t, v, i, t1, t2, 0⟩], oj, by simp, by simp [hl], ?_, hj, ?_, by simp⟩
  · intro q m hq
    rw [List.getElem?_append] at hq
    split at hq
    · exact hm q m hq
    · rename_i h
      have : q - ms.length = 0 := by
        have := lt_at hq
        simp only [List.length_cons, List.length_nil] at this
        omega
      rw [this] at hq
      simp only [List.getElem?_cons_zero, Option.some.injEq] at hq
      subst hq
      exact ⟨by simp only; omega, by simp only; omega⟩
  · intro m hm'
    rcases List.mem_append.mp hm' with h | h
    · exact hne m h
    · rw [List.mem_singleton.mp h]; exact ht
set_option maxRecDepth 100000 in
set_option maxHeartbeats 1600000 in
theorem members_call (w : World) (rest : Led) {j sc : Addr} {oj : Obj} {vs : List Value} {ns : List Int} (hi : IntsAre vs ns) (hns : ns.length ≤ 63) {k : Nat} (hk : k ≤ 2) (hap : ∀ p ∈ rest, p.1 ≠ j) (hj : Jar w sc k oj) :
    CallsH w 280 4 36 [.ref j] ((j, oj) :: rest) sc vs (fun r news' => ∃ (a : Addr) (n : Nat) (ms : List Mem) (oj' : Obj), r = .ref a ∧ ms.length ≤ 9 ∧ (∀ (q : Nat) (m : Mem), ms[q]? = some m → m.i = q ∧ m.w < 5) ∧ Jar w sc (k + 1 + ms.length) oj' ∧ (∀ m ∈ ms, m.adr ≠ j) ∧ a ≠ j ∧ news' = (a, listOf (ms.map mval).toArray n) :: (ms.map mobj ++ ((j, oj') :: rest))) := by
  unfold CallsH
  k_fill
  intro p loose mean mg mb dp un gd cn cs ad ccd cl outer A₀ base h₀ L m s Q E B F X N T hkk hd hu hl hret
  refine wpAny_call ?_
  k_dflt (refine' code_defC ?k1 ?k2 ?k3 ?k4 ?k5 ?kA ?kF ?kK ?k6 ?k7 ?k8 ?k9 ?kB ?kD ?_ ?c2 ?c3 ?c4; (case kA => exact rfl); (case kF => exact rfl); (case kK => assumption); (case k1 => k_asm); (case k2 => k_asm); (case k3 => k_asm); (case k4 => k_asm); (case k5 => k_asm); (case k6 => k_is); (case k7 => k_is); (case k8 => ktr_room); (case k9 => exact BindsTo.of_eq rfl); (case kB => exact rfl); (case kD => decide +kernel); (case c2 => exact rfl); (case c3 => exact rfl); (case c4 => exact rfl); k_whole; intro g' L' h' tk' cells' FG' F' N' Y' B' X' T' l1; k_cells Y'; (try simp only [List.cons_append, List.nil_append] at N'); (try dsimp only); (try k_fold))
  have hl' := hl.at fun o e => Fr.keep (by assumption) sc o e
  clear hl
  rename Obj => oc
  have hap2 : ∀ p ∈ (L' + 1, oc) :: rest, p.1 ≠ j := by
    intro p hp
    rcases List.mem_cons.mp hp with rfl | hp
    · exact Nat.ne_of_gt (Nat.lt_succ_of_lt (l1 _ (.head _)))
    · exact hap p hp
  replace N' : News g' L' h' ((j, oj) :: (L' + 1, oc) :: rest) := news_swap N'
  clear N F hap
  k_steps
  unfold Hold
  rename ((_ : Nat) : Int) < 10 => hv9
  rename IsRange _ _ _ _ _ _ _ _ => hr9
  rename Jar _ _ (_ + 1) _ => hj9
  obtain ⟨r1, r2, r3⟩ := range_zero (Int.ofNat_lt.mp hv9) (by decide)
  refine LCg.CompSrc.range (by rfl) (by k_asm) (by k_asm) hr9 r2 r1 r3 ?_
  intro g9
  clear r1 r2 r3 N'
  refine comp_ind (JM w sc j ((L' + 1, oc) :: rest) (k + 1)) ?st ?trn ?fin
  case st => exact ⟨[], _, rfl, rfl, (fun _ _ h => nomatch h), hj9, (fun _ h => nomatch h), rfl⟩
  case trn =>
    rintro i ys news v I oI C oC D m₂ h tk E' hi9 ⟨t9, rfl⟩ ⟨ms, oj2, rfl, hlen, hms, hj2, hne2, rfl⟩ hC hx2 F2 N2 off ne
    rw [Int.zero_add] at hx2
    have N3 := news_jar N2
    have hap3 := jar_off (a := (I, oI)) (b := (C, oC)) (c := (D, LCg.lst (ms.map mval))) off (fun p hp => by obtain ⟨m, hm, rfl⟩ := List.mem_map.mp hp; exact hne2 m hm) hap2
    clear N2 hj9
    k_steps
    unfold Hold
    rename _ ∧ _ => l2
    rename ((_ : Nat) : Int) < 5 => hv5
    rename Jar _ _ (_ + 1) _ => hj3
    rename News _ _ _ _ => N4
    exact LCg.CompEnd.intro (by k_asm) N4 _ sub_mem (off_mem off l2.2.1 l2.2.2.1 l2.2.2.2.1) trivial (JM.snoc hlen hms hj3 hne2 hv5 (Nat.ne_of_gt l2.1))
  case fin =>
    rintro ys news ⟨ms, oj2, rfl, hlen, hms, hj2, hne2, rfl⟩
    k_steps
    rename LCg.Off1 _ _ => o1
    rename News h₀ L _ _ => N9
    refine hret _ _ _ _ (by k_asm) (fun p hp => N9 p (sub_cell p hp)) ⟨_, _, ms, oj2, rfl, by omega, hms, ?_, hne2, fun e => off1_mem o1 (j, oj2) (List.mem_append_right _ (.head _)) e.symm, rfl⟩
    rw [hlen]
    exact hj2
end Mine

namespace Mine

def mdat (m : Mem) : Dat := .tuple [.int m.w, .int m.i]
theorem datAll_of {news : Led} : ∀ {ms : List Mem}, (∀ m ∈ ms, mobj m ∈ news) → DatAll news (ms.map mval) (ms.map mdat)
  | [], _ => .nil
  | m :: r, h => .cons (.tuple (vs := [.int m.w m.tw, .int m.i m.ti]) (h m (.head _)) (.cons (.int _ _) (.cons (.int _ _) .nil))) (datAll_of fun x hx => h x (.tail _ hx))
theorem ok_mdat {ms : List Mem} : ∀ d ∈ ms.map mdat, kqdOk 8 d = true := by
  intro d hd
  obtain ⟨m, _, rfl⟩ := List.mem_map.mp hd
  rfl
section
variable {prog : Program} {w : World} {A : Around} {E : Value → Shared → Prop} {s : Shared} {h₀ : Heap} {L : Addr} {news : Led} {Q : Value → Shared → Prop}
theorem notin_L {b : Addr} {n : Nat} {m : Mem} {hs : List Mem} (N : News h₀ L s.heap news) (hb : (b, listOf (hs.map mval).toArray n) ∈ news) (ho : ∀ m ∈ hs, mobj m ∈ news) (hm : m ∈ hs) (hu : A.units + 64 < cLine) (h : Q (.bool false) s) :
    wpAny (model prog w) A (compareOp .NotIn (.ref m.adr) (.ref b)) Q E s := by
  have D1 := datAll_of (ms := [m]) (news := news) (fun x hx => by rw [List.mem_singleton.mp hx]; exact ho m hm)
  cases D1 with
  | cons D1 _ =>
    refine kqd_notIn N hb rfl rfl (datAll_of ho) (fun _ h => h) D1 (fun _ h => h) ok_mdat rfl hu ?_
    simpa [List.mem_map_of_mem hm] using h
theorem neNil_L {a b : Addr} {n n2 : Nat} (N : News h₀ L s.heap news) (ha : (a, listOf #[] n) ∈ news) (hb : (b, listOf #[] n2) ∈ news) (hu : A.units + 64 < cLine) (h : Q (.bool false) s) :
    wpAny (model prog w) A (compareOp .NotEq (.ref a) (.ref b)) Q E s := by
  refine kqd_ne (xs := []) (ys := []) (n₁ := news) (n₂ := news) N ha rfl rfl .nil (fun _ h => h) hb rfl rfl .nil (fun _ h => h) (fun _ h => nomatch h) (fun _ h => nomatch h) hu ?_
  simpa using h
end
theorem sub_c4 {a b c d x : Addr × Obj} {r : Led} (h : x ∈ r) : x ∈ a :: b :: c :: d :: r := .tail _ (.tail _ (.tail _ (.tail _ h)))
local macro_rules | `(tactic| walk_at "CompSrcT") => `(tactic| (k_here; k_dflt (refine LCt.CompSrcT.ledger (by rfl) (by k_asm) (by k_asm) (by k_mem) (by rw [sizeLine_eq]; simp; omega) ?_); intro g'))
local macro_rules | `(tactic| walk_at "CompEnd") => `(tactic| refine hold ?_)
local macro_rules | `(tactic| walk_at "compareOp NotEq ref ref") => `(tactic| (k_here; k_dflt (refine' neNil_L ?k1 ?k2 ?k3 ?k4 ?_; (case k1 => k_asm); (case k2 => k_mem); (case k3 => k_mem); (case k4 => ktr_units); k_whole)))
local macro_rules | `(tactic| walk_at "compareOp NotIn ref ref") => `(tactic| (k_here; k_dflt (refine' notin_L ?k1 ?k2 ?k3 ?k4 ?k5 ?_; (case k1 => k_asm); (case k2 => k_mem); (case k3 => with_reducible assumption); (case k4 => with_reducible assumption); (case k5 => ktr_units); k_whole)))
local macro_rules | `(tactic| walk_at "pyIter ref") => `(tactic| refine hold ?_)
local macro_rules | `(tactic| walk_at "subscriptTail") => `(tactic| (k_here; (with_reducible show wpAny _ _ (subscriptTail _ _ (Value.ref _) (Value.int _ _)) _ _ _); k_dflt (refine' item_A ?k1 ?k2 ?k3 ?k4 ?_ ?k6; (case k1 => k_asm); (case k2 => with_reducible assumption); (case k3 => k_mem); (case k4 => omega); (case k6 => with_unfolding_all rfl); k_whole)))
set_option maxRecDepth 100000 in
set_option maxHeartbeats 1600000 in
theorem kept_call (w : World) (news : Led) {a b : Addr} {ms hs : List Mem} {n1 n2 : Nat} (ha : (a, listOf (ms.map mval).toArray n1) ∈ news) (hb : (b, listOf (hs.map mval).toArray n2) ∈ news) (ho : ∀ m ∈ hs, mobj m ∈ news)
    (hlen : hs.length = ms.length) (hsz : ms.length ≤ 20) (hin : ∀ m ∈ ms, m ∈ hs) (hlex : ∀ (i : Nat) (x y : Mem), hs[i]? = some x → hs[i + 1]? = some y → x.w < y.w ∨ (x.w = y.w ∧ x.i < y.i)) :
    Calls w 261 4 120 [.ref a, .ref b] news (fun r news' => r = .bool true ∧ news' = news) := by
  unfold Calls
  k_fill
  intro p loose mean mg mb dp un gd cn cs ad ccd cl outer A₀ base h₀ L m s Q E B F X N T hkk hd hu hret
  refine wpAny_call ?_
  k_dflt (refine' code_defC ?k1 ?k2 ?k3 ?k4 ?k5 ?kA ?kF ?kK ?k6 ?k7 ?k8 ?k9 ?kB ?kD ?_ ?c2 ?c3 ?c4; (case kA => exact rfl); (case kF => exact rfl); (case kK => assumption); (case k1 => k_asm); (case k2 => k_asm); (case k3 => k_asm); (case k4 => k_asm); (case k5 => k_asm); (case k6 => k_is); (case k7 => k_is); (case k8 => ktr_room); (case k9 => exact BindsTo.of_eq rfl); (case kB => exact rfl); (case kD => decide +kernel); (case c2 => exact rfl); (case c3 => exact rfl); (case c4 => exact rfl); k_whole; intro g' L' h' tk' cells' FG' F' N' Y' B' X' T' l1; k_cells Y'; (try simp only [List.cons_append, List.nil_append] at N'); (try dsimp only); (try k_fold))
  have hsz2 : hs.length ≤ 20 := by omega
  clear N
  k_steps
  · exfalso
    omega
  unfold Hold
  rename Obj => oc
  refine comp_indT (fun _ ys nw => ys = [] ∧ nw = (L' + 1, oc) :: news) ⟨rfl, rfl⟩ ?trn ?fin
  case trn =>
    rintro i ys nw v I oI C oC D m₂ h tk E' hi9 hv ⟨rfl, rfl⟩ hC hx2 F2 N2 off ne
    obtain ⟨x, hgx, rfl⟩ : ∃ x, ms[i]? = some x ∧ v = mval x := by
      simp only [List.getElem?_toArray, List.getElem?_map] at hv
      cases e : ms[i]? with
      | none => rw [e] at hv; cases hv
      | some x => rw [e] at hv; exact ⟨x, rfl, (Option.some.inj hv).symm⟩
    have hmx := hin x (List.mem_of_getElem? hgx)
    have ho2 : ∀ m ∈ hs, mobj m ∈ (I, oI) :: (C, oC) :: (D, LCg.lst []) :: (L' + 1, oc) :: news := fun m hm => sub_c4 (ho m hm)
    k_steps
    unfold Hold
    exact LCg.CompEnd.intro (by k_asm) N2 _ (fun _ h => h) (LCg.Off3.of off) (.inr ⟨_, .tail _ ha, rfl, _, rfl⟩) ⟨rfl, rfl⟩
  case fin =>
    rintro ys nw ⟨rfl, rfl⟩
    k_steps
    unfold Hold
    refine for_rangeS (n := hs.length - 1) (fun _ nw => nw = _) (by rfl) (by assumption) (range_small1 hsz2) (range_one hsz2) (by k_asm) (by k_asm) rfl ?trn ?dn
    case trn =>
      rintro i t nw I o h2 tk2 hin9 rfl off F3 N3
      obtain ⟨x1, g1⟩ : ∃ x1, hs[i]? = some x1 := ⟨_, List.getElem?_eq_getElem (by omega)⟩
      obtain ⟨x2, g2⟩ : ∃ x2, hs[i + 1]? = some x2 := ⟨_, List.getElem?_eq_getElem (by omega)⟩
      have hle := hlex i _ _ g1 g2
      have o1 := ho _ (List.mem_of_getElem? g1)
      have o2 := ho _ (List.mem_of_getElem? g2)
      have ht1 : At hs (1 + (i : Int) * 1 - 1) x1 := ⟨i, by omega, g1⟩
      have ht2 : At hs (1 + (i : Int) * 1) x2 := ⟨i + 1, by omega, g2⟩
      clear g1 g2
      rcases hle with hle | ⟨hle, hle2⟩
      · k_steps
        all_goals first | exact FPostS.next (by k_asm) (by k_asm) off rfl | (exfalso; omega)
      · k_steps
        all_goals first | exact FPostS.next (by k_asm) (by k_asm) off rfl | (exfalso; omega)
    case dn =>
      rintro u nw h2 tk2 rfl F3 N3
      k_steps
      rename News h₀ L _ _ => N9
      exact hret _ _ _ _ (by k_asm) (fun p hp => N9 p (.tail _ (.tail _ (.tail _ hp)))) ⟨rfl, rfl⟩
end Mine

namespace Mine

/-- a sort by an order that keeps no state: a new list on the ledger -/
theorem sorted_pure {w : World} {α : Type} {f : Addr} {val : α → Value} {ord : α → α → Int} {dom : α → Prop} {imm : Led} (O : OrdOK w f val ord dom imm mt0 id) {news : Led} {l : Addr} {xs : List α} {n₁ : Nat} (hi : ∀ p ∈ imm, p ∈ news)
    (hl : (l, listOf (xs.map val).toArray n₁) ∈ news) (hsz : xs.length ≤ 20) (hx : ∀ x ∈ xs, dom x) :
    Calls w 213 12 120 [.ref l, .ref f] news (fun v news' => ∃ a n, v = .ref a ∧ (∀ p ∈ news, p.1 < a) ∧ news' = (a, listOf ((sortM ord xs).map val).toArray n) :: news) :=
  calls_post (sorted_calls w O 0 news hi (fun _ _ h => nomatch h) hl hsz hx) (Nat.le_refl _) (Nat.le_refl _) fun r nw ⟨a, n, _, e, h1, _, h2⟩ => ⟨a, n, e, h1, h2⟩
theorem merged_pure {w : World} {α : Type} {f : Addr} {val : α → Value} {ord : α → α → Int} {dom : α → Prop} {imm : Led} (O : OrdOK w f val ord dom imm mt0 id) {news : Led} {l r : Addr} {xs ys : List α} {n₁ n₂ : Nat} (hi : ∀ p ∈ imm, p ∈ news)
    (hl : (l, listOf (xs.map val).toArray n₁) ∈ news) (hr : (r, listOf (ys.map val).toArray n₂) ∈ news) (hsz : xs.length + ys.length ≤ 100) (hx : ∀ x ∈ xs, dom x) (hy : ∀ x ∈ ys, dom x) :
    Calls w 208 10 100 [.ref l, .ref r, .ref f] news (fun v news' => ∃ a n, v = .ref a ∧ (∀ p ∈ news, p.1 < a) ∧ news' = (a, listOf ((merge ord xs ys).map val).toArray n) :: news) :=
  calls_post (merged_calls w O 0 news hi (fun _ _ h => nomatch h) hl hr hsz hx hy) (Nat.le_refl _) (Nat.le_refl _) fun r nw ⟨a, n, _, e, h1, _, h2⟩ => ⟨a, n, e, h1, h2⟩
theorem new_use {w : World} {f : Addr} {nd nu : Nat} {args : List Value} {news : Led} {its : Array Value} (C : Calls w f nd nu args news (fun v news' => ∃ a n, v = .ref a ∧ (∀ p ∈ news, p.1 < a) ∧ news' = (a, listOf its n) :: news))
    {p : Program} {loose : List Str} {mean : ExcName → Option Value} {mg mb : Str → Option Value} {dp un : Nat} {gd : Option (List Code)} {cn : Str} {cs : Scope} {a : Addr} {ccd : Value} {cl : List (Str × Addr)} {outer : List Env} {A₀ : Around} {base h₀ : Heap} {L : Addr} {m : Str → Option Value} {s : Shared}
    {Q E : Value → Shared → Prop} (B : Below A₀ base outer h₀) (F : Fr h₀ L s.heap m) (X : (hd.heap_39 w.params).In h₀) (N : News h₀ L s.heap news) (T : Top p loose mean mg mb h₀) (hk : cs.kind = .function) (hdp : dp + nd < recursionLimit) (hu : un + nu < cLine)
    (ret : ∀ a n h' tk', Fr h₀ L h' m → News h₀ L h' ((a, listOf its n) :: news) → (∀ p ∈ news, p.1 < a) → Q (.ref a) { s with heap := h', toks := tk' }) :
    wpAny (model PySem.Challenge.rw_sa0530_01.row.prog w) (ktrTop dp un gd cn cs L a ccd cl outer) (call (.ref f) args) Q E s :=
  C _ _ _ _ _ _ _ _ _ _ _ _ _ _ _ _ _ _ _ _ _ _ B F X N T hk hdp hu fun r news' h' tk' F' N' ⟨a, n, e, h1, h2⟩ => e ▸ ret a n h' tk' F' (h2 ▸ N') h1
local macro_rules | `(tactic| walk_at "call ref") => `(tactic| (k_here; k_dflt (refine' new_use (by assumption) ?k1 ?k2 ?k3 ?k4 ?k5 ?k6 ?k7 ?k8 ?_; (case k1 => k_asm); (case k2 => k_asm); (case k3 => k_asm); (case k4 => k_asm); (case k5 => k_asm); (case k6 => exact rfl); (case k7 => ktr_room); (case k8 => ktr_units)); intro a' n' h' tk' F' N' l1'))
set_option maxRecDepth 100000 in
set_option maxHeartbeats 1600000 in
theorem bytext_call (w : World) (news : Led) {l : Addr} {xs : List Nat} {n₁ : Nat} (hl : (l, listOf (xs.map wval).toArray n₁) ∈ news) (hsz : xs.length ≤ 20) (hx : ∀ x ∈ xs, x < 9) :
    Calls w 227 14 140 [.ref l] news (fun v news' => ∃ a n, v = .ref a ∧ (∀ p ∈ news, p.1 < a) ∧ news' = (a, listOf ((sortM tord xs).map wval).toArray n) :: news) := by
  have C9 := sorted_pure (text_ok w) (news := news) (fun _ h => nomatch h) hl hsz hx
  unfold Calls
  k_fill
  intro p loose mean mg mb dp un gd cn cs ad ccd cl outer A₀ base h₀ L m s Q E B F X N T hk hdp hu hret
  refine wpAny_call ?_
  k_dflt ktr_enter
  k_steps
  exact hret _ _ _ _ (by k_asm) (by k_asm) ⟨_, _, rfl, by assumption, rfl⟩
end Mine

namespace Mine

/-- a call, the code object's table at hand -/
def CallsC (w : World) (f : Addr) (nd nu : Nat) (args : List Value) (news : Led) (c P : Addr) (Post : Value → Led → Prop) : Prop :=
  ∀ (p : Program) (loose : List Str) (mean : ExcName → Option Value) (mg mb : Str → Option Value) (dp un : Nat) (gd : Option (List Code)) (cn : Str) (cs : Scope) (a : Addr) (ccd : Value) (cl : List (Str × Addr)) (outer : List Env) (A₀ : Around) (base h₀ : Heap) (L : Addr) (m : Str → Option Value) (s : Shared)
    (Q E : Value → Shared → Prop),
    Below A₀ base outer h₀ → Fr h₀ L s.heap m → (hd.heap_39 w.params).In h₀ → News h₀ L s.heap news → Top p loose mean mg mb h₀ → cs.kind = .function → dp + nd < recursionLimit → un + nu < cLine → CodeHd h₀ c P →
    (∀ r news' h' tk', Fr h₀ L h' m → News h₀ L h' news' → Post r news' → Q r { s with heap := h', toks := tk' }) →
    wpAny (model PySem.Challenge.rw_sa0530_01.row.prog w) (ktrTop dp un gd cn cs L a ccd cl outer) (call (.ref f) args) Q E s
def Tally (w : World) (k : Nat) (o : Obj) : Prop := ∃ tk : Tok, o.IsDictOf (PySem.strKind PySem.Challenge.rw_sa0530_01.row.prog w) [(Str.ofString "asked", .int k tk)]
structure TS (w : World) where
  k : Nat
  o : Obj
  h : Tally w k o
abbrev mtT {w : World} (d : Addr) : TS w → Led := fun st => [(d, st.o)]
theorem tally_set {w : World} {A : Around} {E : Value → Shared → Prop} {s : Shared} {h₀ : Heap} {L j : Addr} {m : Str → Option Value} {rest : Led} {oj : Obj} {x v : Value} {t : Tok} {Q : Unit → Shared → Prop} (F : Fr h₀ L s.heap m) (N : News h₀ L s.heap ((j, oj) :: rest)) (hap : ∀ p ∈ rest, p.1 ≠ j)
    (hd : oj.IsDictOf (PySem.strKind PySem.Challenge.rw_sa0530_01.row.prog w) [(Str.ofString "asked", x)])
    (h : ∀ h' o', Fr h₀ L h' m → News h₀ L h' ((j, o') :: rest) → o'.IsDictOf (PySem.strKind PySem.Challenge.rw_sa0530_01.row.prog w) [(Str.ofString "asked", v)] → Q () { s with heap := h', toks := s.toks + 1 }) :
    wpAny (model PySem.Challenge.rw_sa0530_01.row.prog w) A (setItem (.ref j) (.str (Str.ofString "asked") t) v) Q E s :=
  kda_set (knd := PySem.strKind _ _) F N (UpdF.head hap) hd (strKind_is _ _ _ _) (by rw [sizeLine_eq]; exact Nat.le_of_ble_eq_true rfl) fun h' o' F' N' hd' => h h' o' F' N' (by
    have e : stored [(Str.ofString "asked", x)] (Str.ofString "asked") v = [(Str.ofString "asked", v)] := by
      unfold stored; rfl
    rw [e] at hd'; exact hd')
theorem asks_tail {w : World} {ms : List Mem} {f c d ce P a : Addr} {fo oc o oce tb : Obj} {rest : Led} {n1 : Nat} (O : OrdOK w f mval up (· ∈ ms) ((f, fo) :: (c, oc) :: (ce, oce) :: ms.map mobj) (mtT (w := w) d) TS.k)
    {p : Program} {loose : List Str} {mean : ExcName → Option Value} {mg mb : Str → Option Value} {dp un : Nat} {gd : Option (List Code)} {cn : Str} {cs : Scope} {ad : Addr} {ccd : Value} {cl : List (Str × Addr)} {outer : List Env} {A₀ : Around} {base h₀ : Heap} {L : Addr} {m : Str → Option Value} {s : Shared}
    {Q E : Value → Shared → Prop} (B : Below A₀ base outer h₀) (F : Fr h₀ L s.heap m) (X : (hd.heap_39 w.params).In h₀) (N : News h₀ L s.heap ((f, fo) :: (c, oc) :: (d, o) :: (ce, oce) :: (P, tb) :: rest)) (T : Top p loose mean mg mb h₀) (hk : cs.kind = .function)
    (ho : Tally w 0 o) (hdp : dp + 12 < recursionLimit) (hu : un + 120 < cLine) (ha : (a, listOf (ms.map mval).toArray n1) ∈ rest) (hm : ∀ m ∈ ms, mobj m ∈ rest) (hsz : ms.length ≤ 20) (hf : f ≠ d) (hc : c ≠ d) (hce : ce ≠ d) (hP : P ≠ d) (hr : ∀ p ∈ rest, p.1 ≠ d)
    (ret : ∀ a2 o2 o' h' tk', Tally w (sortAsks up ms) o' → Fr h₀ L h' m → News h₀ L h' ((a2, o2) :: (d, o') :: (f, fo) :: (c, oc) :: (ce, oce) :: (P, tb) :: rest) → Q (.ref a2) { s with heap := h', toks := tk' }) :
    wpAny (model PySem.Challenge.rw_sa0530_01.row.prog w) (ktrTop dp un gd cn cs L ad ccd cl outer) (call (.ref 213) [.ref a, .ref f]) Q E s := by
  refine calls_use (sorted_calls w O ⟨0, o, ho⟩ ((f, fo) :: (c, oc) :: (ce, oce) :: (P, tb) :: rest) (n₁ := n1) ?_ ?_ ?_ hsz (fun x hx => hx)) B F X N T hk ?_ hdp hu ?_
  · intro p hp
    simp only [List.mem_cons, List.mem_map] at hp ⊢
    rcases hp with h | h | h | ⟨x, hx, rfl⟩
    · exact .inl h
    · exact .inr (.inl h)
    · exact .inr (.inr (.inl h))
    · exact .inr (.inr (.inr (.inr (hm x hx))))
  · intro kk p hp q hq
    rw [List.mem_singleton.mp hp]
    simp only [List.mem_cons] at hq
    rcases hq with h | h | h | h | h
    · rw [h]; exact hf
    · rw [h]; exact hc
    · rw [h]; exact hce
    · rw [h]; exact hP
    · exact hr q h
  · exact .tail _ (.tail _ (.tail _ (.tail _ ha)))
  · intro p hp
    simp only [mtT, List.cons_append, List.nil_append, List.mem_cons] at hp ⊢
    rcases hp with h | h | h | h | h | h <;> simp only [h, true_or, or_true]
  · rintro r news' h' tk' F' N' ⟨a2, n2, k', rfl, _, hk', rfl⟩
    refine ret a2 _ k'.o h' tk' ?_ F' N'
    have : k'.k = sortAsks up ms := by simpa using hk'
    rw [← this]; exact k'.h
local macro_rules | `(tactic| walk_at "setItem ref str") => `(tactic| (k_here; k_dflt (refine' tally_set ?F ?N ?H ?d ?_; (case F => k_asm); (case N => k_asm); (case H => assumption); (case d => k_asm)); intro h' o' F' N' hd'; (try dsimp only at N')))
local macro_rules | `(tactic| walk_at "call ref") => `(tactic| refine hold ?_)
set_option maxRecDepth 100000 in
set_option maxHeartbeats 1600000 in
theorem asks_call (w : World) (rest : Led) {a : Addr} {ms : List Mem} {n1 : Nat} (ha : (a, listOf (ms.map mval).toArray n1) ∈ rest) (ho : ∀ m ∈ ms, mobj m ∈ rest) (hsz : ms.length ≤ 20) (hP : ∀ p ∈ rest, p.1 ≠ 263) :
    CallsC w 268 20 200 [.ref a] ((263, tabObj #[]) :: rest) 267 263 (fun r news' => (∃ tk, r = .int (sortAsks up ms : Nat) tk) ∧ ∃ ps, news' = (263, tabObj ps) :: rest) := by
  unfold CallsC
  k_fill
  intro p loose mean mg mb dp un gd cn cs ad ccd cl outer A₀ base h₀ L m s Q E B F X N T hkk hd hu hC hret
  refine wpAny_call ?_
  k_dflt (refine' code_defC ?k1 ?k2 ?k3 ?k4 ?k5 ?kA ?kF ?kK ?k6 ?k7 ?k8 ?k9 ?kB ?kD ?_ ?c2 ?c3 ?c4; (case kA => exact rfl); (case kF => exact rfl); (case kK => assumption); (case k1 => k_asm); (case k2 => k_asm); (case k3 => k_asm); (case k4 => k_asm); (case k5 => k_asm); (case k6 => k_is); (case k7 => k_is); (case k8 => ktr_room); (case k9 => exact BindsTo.of_eq rfl); (case kB => exact rfl); (case kD => decide +kernel); (case c2 => exact rfl); (case c3 => exact rfl); (case c4 => exact rfl); k_whole; intro g' L' h' tk' cells' FG' F' N' Y' B' X' T' l1; (try k_lt l1); k_cells Y'; (try simp only [List.cons_append, List.nil_append] at N'); (try dsimp only); (try k_fold))
  have hC' : CodeHd g' 267 263 := hC.keeps FG'.keep
  clear N hC
  k_steps
  rename _ ∧ _ ∧ _ => l2
  have lr := allLt_mem l1.2
  have lr2 := allLt_mem l2.2.2
  refine storeX_C (by k_asm) (by k_asm) rfl (UpdF.tail (Nat.ne_of_gt l2.1) (UpdF.head ?ua)) (by k_asm) ?_ rfl rfl
  case ua =>
    intro p hp
    rcases List.mem_cons.mp hp with rfl | hp
    · exact Nat.ne_of_lt (Nat.lt_succ_of_lt l1.1)
    · exact Nat.ne_of_lt (Nat.lt_succ_of_lt (lr p hp))
  intro h9 oc9 F9 N9 d9
  clear N'
  k_steps
  k_dflt (refine' nestDef_K ?d0 ?k0 ?a0 ?_; (case d0 => exact rfl); (case k0 => exact rfl); (case a0 => exact rfl))
  k_dflt (refine' nest_K ?F ?N ?T ?C ?cd (UpdF.tail ?u1 (UpdF.tail ?u2 (UpdF.head hP))) ?t ?n ?cl ?_; (case F => k_asm); (case N => k_asm); (case T => k_asm); (case cd => exact rfl); (case C => exact hC'); (case u1 => exact Nat.ne_of_gt l2.2.1); (case u2 => exact Nat.ne_of_gt (Nat.lt_succ_of_lt l1.1)); (case t => kn_triples); (case n => kn_among); (case cl => exact rfl); k_whole)
  intro f1 c1 oc1 vs1 t1 ct1 dc1 h1 tk1 F1 N1 d1 d2 lf1 lf2
  clear N9 F9
  (try dsimp only at N1)
  k_steps
  unfold Hold
  rename News _ _ _ _ => N5
  refine asks_tail (w := w) (ms := ms) ?ord (by k_asm) (by k_asm) (by k_asm) N5 (by k_asm) rfl ⟨_, by k_asm⟩ (by ktr_room) (by ktr_units) ha ho hsz ?e1 ?e2 ?e3 ?e4 (fun p hp => Nat.ne_of_lt (lr2 p hp)) ?ret
  case ord =>
    refine { call := ?_, adr := fun _ _ => rfl, keeper := fun h9 X9 => keeps_F h9 (by have := X9.2 _ (.head _); exact ⟨_, _, _, _, this⟩) }
    rintro ⟨k2, o2, tk2, ht2⟩ x y rest2 hx hy hi2 hj2
    have hap2 : ∀ p ∈ rest2, p.1 ≠ _ := fun p hp => hj2 _ (.head _) p hp
    have if1 := hi2 _ (.head _)
    have if2 := hi2 _ (.tail _ (.head _))
    have if3 := hi2 _ (.tail _ (.tail _ (.head _)))
    have ix : mobj x ∈ rest2 := hi2 _ (.tail _ (.tail _ (.tail _ (List.mem_map_of_mem hx))))
    have iy : mobj y ∈ rest2 := hi2 _ (.tail _ (.tail _ (.tail _ (List.mem_map_of_mem hy))))
    clear hi2 hj2 N5
    dsimp only [mtT, List.cons_append, List.nil_append]
    unfold Calls
    intro p2 loose2 mean2 mg2 mb2 dp2 un2 gd2 cn2 cs2 ad2 ccd2 cl2 outer2 A2 base2 h02 L2 m2 s2 Q2 E2 B2 F2 X2 N2 T2 hkk2 hd2 hu2 hret2
    refine wpAny_call ?_
    k_dflt (refine' code_nest ?k1 ?k2 ?k3 ?k4 ?k5 ?kA ?kF ?kK ?k6 ?k7 ?k8 ?k9 ?kB ?_ ?c2 ?c3 ?c4 ?c5; (case kA => exact rfl); (case kF => exact rfl); (case kK => assumption); (case k1 => exact B2); (case k2 => exact F2); (case k3 => exact X2); (case k4 => exact N2); (case k5 => exact T2); (case k6 => exact .tail _ if1); (case k7 => exact codeRec_news N2 (.tail _ if2) d1 d2); (case k8 => ktr_room); (case k9 => exact BindsTo.of_eq rfl); (case c5 => decide); (case kB => exact locs rfl); (case c2 => exact rfl); (case c3 => exact rfl); (case c4 => exact rfl); k_whole; intro g' L' h' FG' F' N' B' X' T'; (try dsimp only); (try k_fold))
    clear N2
    k_steps
    exact hret2 _ _ _ _ (by k_asm) (by k_asm) ⟨⟨_, rfl⟩, ⟨k2 + 1, _, ⟨_, by k_asm⟩⟩, rfl, rfl⟩
  case e1 => exact Nat.ne_of_gt (Nat.lt_trans (lf1 _ (.head _)) lf2)
  case e2 => exact Nat.ne_of_gt (lf1 _ (.head _))
  case e3 => exact Nat.ne_of_lt l2.1
  case e4 => exact Nat.ne_of_lt l2.2.1
  case ret =>
    rintro a2 o2 o' h9 tk9 ⟨tt9, ht9⟩ F9 N9
    clear N5
    k_steps
    rename News h₀ L _ _ => N8
    exact hret _ _ _ _ (by k_asm) (fun p hp => N8 p (.tail _ (.tail _ (.tail _ (.tail _ (.tail _ hp)))))) ⟨⟨_, rfl⟩, _, rfl⟩
end Mine

namespace Mine
section
variable {α : Type} {ord : α → α → Int} {key : α → Int} {before : α → α → Prop} {dom : α → Prop}
def RR (key : α → Int) (before : α → α → Prop) (x y : α) : Prop := key x < key y ∨ (key x = key y ∧ before x y)
theorem RR.le {x y : α} (h : RR key before x y) : key x ≤ key y := by
  rcases h with h | h <;> omega
theorem merge_perm (xs ys : List α) : (merge ord xs ys).Perm (xs ++ ys) := by
  induction xs, ys using merge.induct ord with
  | case1 ys => simp [merge]
  | case2 x xs => simp [merge]
  | case3 x xs y ys h ih => rw [merge_cons, if_pos h]; exact ih.cons x
  | case4 x xs y ys h ih => rw [merge_cons, if_neg h]; exact (ih.cons y).trans List.perm_middle.symm
theorem merge_pair (hk : ∀ x y, dom x → dom y → (ord x y ≤ 0 ↔ key x ≤ key y)) (xs ys : List α) (dx : ∀ x ∈ xs, dom x) (dy : ∀ y ∈ ys, dom y) (hx : xs.Pairwise (RR key before)) (hy : ys.Pairwise (RR key before)) (hxy : ∀ x ∈ xs, ∀ y ∈ ys, before x y) :
    (merge ord xs ys).Pairwise (RR key before) := by
  induction xs, ys using merge.induct ord with
  | case1 ys => rw [nil_merge]; exact hy
  | case2 x xs => rw [merge_nil]; exact hx
  | case3 x xs y ys h ih =>
    rw [merge_cons, if_pos h]
    have kx : key x ≤ key y := (hk x y (dx x (.head _)) (dy y (.head _))).mp h
    have hx' := List.pairwise_cons.mp hx
    have hy' := List.pairwise_cons.mp hy
    refine List.pairwise_cons.mpr ⟨fun z hz => ?_, ih (fun z hz => dx z (.tail _ hz)) dy hx'.2 hy fun z hz => hxy z (.tail _ hz)⟩
    rcases (mem_merge xs (y :: ys) z).mp hz with hz | hz
    · exact hx'.1 z hz
    · have b := hxy x (.head _) z hz
      have kz : key x ≤ key z := by
        rcases List.mem_cons.mp hz with rfl | hz
        · exact kx
        · exact Int.le_trans kx (hy'.1 z hz).le
      rcases Int.lt_or_eq_of_le kz with h | h
      · exact .inl h
      · exact .inr ⟨h, b⟩
  | case4 x xs y ys h ih =>
    rw [merge_cons, if_neg h]
    have kx : key y < key x := by
      have := mt (hk x y (dx x (.head _)) (dy y (.head _))).mpr h
      omega
    have hx' := List.pairwise_cons.mp hx
    have hy' := List.pairwise_cons.mp hy
    refine List.pairwise_cons.mpr ⟨fun z hz => ?_, ih dx (fun z hz => dy z (.tail _ hz)) hx hy'.2 fun z hz w hw => hxy z hz w (.tail _ hw)⟩
    rcases (mem_merge (x :: xs) ys z).mp hz with hz | hz
    · refine .inl ?_
      rcases List.mem_cons.mp hz with rfl | hz
      · exact kx
      · exact Int.lt_of_lt_of_le kx (hx'.1 z hz).le
    · exact hy'.1 z hz

structure RunsS (key : α → Int) (before : α → α → Prop) (dom : α → Prop) (rs : List (List α)) : Prop where
  each : ∀ r ∈ rs, r.Pairwise (RR key before)
  cross : rs.Pairwise fun a b => ∀ x ∈ a, ∀ y ∈ b, before x y
  dom : ∀ r ∈ rs, ∀ x ∈ r, dom x
theorem pairUp_s (hk : ∀ x y, dom x → dom y → (ord x y ≤ 0 ↔ key x ≤ key y)) : ∀ rs : List (List α), RunsS key before dom rs → RunsS key before dom (pairUp ord rs)
  | [], h => h
  | [a], h => h
  | a :: b :: r, ⟨h1, h2, h3⟩ => by
    have c1 := List.pairwise_cons.mp h2
    have c2 := List.pairwise_cons.mp c1.2
    obtain ⟨i1, i2, i3⟩ := pairUp_s hk r ⟨fun x hx => h1 x (.tail _ (.tail _ hx)), c2.2, fun x hx => h3 x (.tail _ (.tail _ hx))⟩
    refine ⟨?_, ?_, ?_⟩
    · intro x hx
      rcases List.mem_cons.mp hx with rfl | hx
      · exact merge_pair hk a b (h3 a (.head _)) (h3 b (.tail _ (.head _))) (h1 a (.head _)) (h1 b (.tail _ (.head _))) (c1.1 b (.head _))
      · exact i1 x hx
    · refine List.pairwise_cons.mpr ⟨fun q hq x hx y hy => ?_, i2⟩
      obtain ⟨zs, hz, hyz⟩ := mem_pairUp _ _ _ hq hy
      rcases (mem_merge a b x).mp hx with hx | hx
      · exact c1.1 zs (.tail _ hz) x hx y hyz
      · exact c2.1 zs hz x hx y hyz
    · intro x hx
      rcases List.mem_cons.mp hx with rfl | hx
      · intro z hz
        rcases (mem_merge a b z).mp hz with hz | hz
        · exact h3 a (.head _) z hz
        · exact h3 b (.tail _ (.head _)) z hz
      · exact i3 x hx
theorem pairUp_perm : ∀ rs : List (List α), (pairUp ord rs).flatten.Perm rs.flatten
  | [] => .refl _
  | [a] => .refl _
  | a :: b :: r => by
    simp only [pairUp, List.flatten_cons]
    have h := (merge_perm (ord := ord) a b).append (pairUp_perm r)
    rw [List.append_assoc] at h
    exact h
theorem rounds_ok (hk : ∀ x y, dom x → dom y → (ord x y ≤ 0 ↔ key x ≤ key y)) : ∀ (n : Nat) (rs : List (List α)), rs.length ≤ n → RunsS key before dom rs → RunsS key before dom (rounds ord rs) ∧ (rounds ord rs).flatten.Perm rs.flatten ∧ (rounds ord rs).length ≤ 1
  | 0, rs, h, hs => by rw [rounds_le (by omega)]; exact ⟨hs, .refl _, by omega⟩
  | n + 1, rs, h, hs => by
    rcases Nat.lt_or_ge 1 rs.length with hc | hc
    · rw [rounds_gt hc]
      obtain ⟨a, b, c⟩ := rounds_ok hk n (pairUp ord rs) (by rw [pairUp_len]; omega) (pairUp_s hk rs hs)
      exact ⟨a, b.trans (pairUp_perm rs), c⟩
    · rw [rounds_le hc]; exact ⟨hs, .refl _, hc⟩
theorem flat_one (xs : List α) : (xs.map fun x => [x]).flatten = xs := by
  induction xs with
  | nil => rfl
  | cons x xs ih => simp only [List.map_cons, List.flatten_cons, ih, List.cons_append, List.nil_append]
theorem sortM_ok (hk : ∀ x y, dom x → dom y → (ord x y ≤ 0 ↔ key x ≤ key y)) (xs : List α) (hd : ∀ x ∈ xs, dom x) (hb : xs.Pairwise before) : (sortM ord xs).Pairwise (RR key before) ∧ (sortM ord xs).Perm xs := by
  have hs : RunsS key before dom (xs.map fun x => [x]) := by
    refine ⟨?_, ?_, ?_⟩
    · intro r hr
      obtain ⟨x, _, rfl⟩ := List.mem_map.mp hr
      exact List.pairwise_singleton _ _
    · rw [List.pairwise_map]
      refine hb.imp fun {a b} h x hx y hy => ?_
      rw [List.mem_singleton.mp hx, List.mem_singleton.mp hy]; exact h
    · intro r hr x hx
      obtain ⟨y, hy, rfl⟩ := List.mem_map.mp hr
      rw [List.mem_singleton.mp hx]; exact hd y hy
  obtain ⟨a, b, c⟩ := rounds_ok hk _ _ (Nat.le_refl _) hs
  rw [flat_one] at b
  unfold sortM
  match h : rounds ord (xs.map fun x => [x]), a, b, c with
  | [], a, b, c => exact ⟨.nil, by simpa using b⟩
  | [r], a, b, c => exact ⟨a.each r (.head _), by simpa using b⟩
  | _ :: _ :: _, a, b, c => simp at c

theorem asks_le (xs ys : List α) : asks ord xs ys ≤ xs.length + ys.length := by
  induction xs, ys using merge.induct ord with
  | case1 ys => simp [asks]
  | case2 x xs => simp [asks]
  | case3 x xs y ys h ih => rw [asks_cons, if_pos h]; simp only [List.length_cons] at ih ⊢; omega
  | case4 x xs y ys h ih => rw [asks_cons, if_neg h]; simp only [List.length_cons] at ih ⊢; omega
theorem pairAsks_le : ∀ rs : List (List α), pairAsks ord rs ≤ (rs.map List.length).sum
  | [] => by simp [pairAsks]
  | [a] => by simp [pairAsks]
  | a :: b :: r => by
    have h1 := asks_le (ord := ord) a b
    have h2 := pairAsks_le r
    simp only [pairAsks, List.map_cons, List.sum_cons]
    omega
theorem halv_step {n : Nat} (h : 1 < n) (h9 : n ≤ 9) : halvN n = halvN ((n + 1) / 2) + 1 := by
  have h : n = 2 ∨ n = 3 ∨ n = 4 ∨ n = 5 ∨ n = 6 ∨ n = 7 ∨ n = 8 ∨ n = 9 := by omega
  rcases h with rfl | rfl | rfl | rfl | rfl | rfl | rfl | rfl <;> rfl
theorem roundAsks_bound : ∀ (n : Nat) (rs : List (List α)), rs.length ≤ n → rs.length ≤ 9 → roundAsks ord rs ≤ (rs.map List.length).sum * halvN rs.length
  | 0, rs, h, h9 => by rw [roundAsks_le (by omega)]; omega
  | n + 1, rs, h, h9 => by
    rcases Nat.lt_or_ge 1 rs.length with hc | hc
    · rw [roundAsks_gt hc, halv_step hc h9, Nat.mul_add, Nat.mul_one]
      have h1 := pairAsks_le (ord := ord) rs
      have h2 := roundAsks_bound n (pairUp ord rs) (by rw [pairUp_len]; omega) (by rw [pairUp_len]; omega)
      rw [pairUp_sum, pairUp_len] at h2
      omega
    · rw [roundAsks_le hc]; omega
theorem sortAsks_bound (xs : List α) (h : xs.length ≤ 9) : sortAsks ord xs ≤ xs.length * halvN xs.length := by
  have h1 := roundAsks_bound (ord := ord) _ (xs.map fun x => [x]) (Nat.le_refl _) (by rw [List.length_map]; exact h)
  rw [List.map_map, List.length_map] at h1
  have e : (xs.map (List.length ∘ fun x => [x])).sum = xs.length := sum_ones xs
  rw [e] at h1
  exact h1
theorem adj {R : α → α → Prop} {xs : List α} (h : xs.Pairwise R) {i : Nat} {x y : α} (h1 : xs[i]? = some x) (h2 : xs[i + 1]? = some y) : R x y := by
  obtain ⟨a1, rfl⟩ := List.getElem?_eq_some_iff.mp h1
  obtain ⟨a2, rfl⟩ := List.getElem?_eq_some_iff.mp h2
  exact List.pairwise_iff_getElem.mp h i (i + 1) a1 a2 (Nat.lt_succ_self _)
end
end Mine

namespace Mine
def lexM (x y : Mem) : Prop := x.w < y.w ∨ (x.w = y.w ∧ x.i < y.i)
def lexD (x y : Mem) : Prop := y.w < x.w ∨ (x.w = y.w ∧ x.i < y.i)
abbrev befM (x y : Mem) : Prop := x.w = y.w → x.i < y.i
theorem up_key : ∀ x y : Mem, True → True → (up x y ≤ 0 ↔ (x.w : Int) ≤ (y.w : Int)) := by intro x y _ _; unfold up; omega
theorem down_key : ∀ x y : Mem, True → True → (down x y ≤ 0 ↔ -(x.w : Int) ≤ -(y.w : Int)) := by intro x y _ _; unfold down; omega
theorem up_sort {xs : List Mem} (h : xs.Pairwise befM) : (sortM up xs).Pairwise lexM ∧ (sortM up xs).Perm xs := by
  obtain ⟨a, b⟩ := sortM_ok (dom := fun _ => True) up_key xs (fun _ _ => trivial) h
  refine ⟨a.imp fun {x y} h => ?_, b⟩
  simp only [RR] at h
  rcases h with h | ⟨h, h'⟩
  · exact .inl (by omega)
  · exact .inr ⟨by omega, h' (by omega)⟩
theorem lexM_bef {xs : List Mem} (h : xs.Pairwise lexM) : xs.Pairwise befM := h.imp fun {x y} h e => by
  rcases h with h | h
  · omega
  · exact h.2
theorem uniqM {l₁ l₂ : List Mem} (h1 : l₁.Pairwise lexM) (h2 : l₂.Pairwise lexM) (p : l₁.Perm l₂) : l₁ = l₂ :=
  p.eq_of_pairwise (fun a b _ _ x y => by unfold lexM at x y; omega) h1 h2
theorem uniqD {l₁ l₂ : List Mem} (h1 : l₁.Pairwise lexD) (h2 : l₂.Pairwise lexD) (p : l₁.Perm l₂) : l₁ = l₂ :=
  p.eq_of_pairwise (fun a b _ _ x y => by unfold lexD at x y; omega) h1 h2
section
variable {ms : List Mem} (h : ms.Pairwise fun x y => x.i < y.i)
include h
theorem bef_of : ms.Pairwise befM := h.imp fun {x y} (h : x.i < y.i) => (fun _ => h : befM x y)
theorem heard_ok : (sortM up ms).Pairwise lexM ∧ (sortM up ms).Perm ms := up_sort (bef_of h)
theorem again : sortM up (sortM up ms) = sortM up ms := by
  obtain ⟨a, b⟩ := heard_ok h
  obtain ⟨c, d⟩ := up_sort (lexM_bef a)
  exact uniqM c a d
theorem backward : sortM down ms = (sortM up ms.reverse).reverse := by
  obtain ⟨a, b⟩ := sortM_ok (dom := fun _ => True) (before := fun x y : Mem => x.i < y.i) down_key ms (fun _ _ => trivial) h
  have hr : ms.reverse.Pairwise fun x y => y.i < x.i := List.pairwise_reverse.mpr h
  obtain ⟨c, d⟩ := sortM_ok (dom := fun _ => True) (before := fun x y : Mem => y.i < x.i) up_key ms.reverse (fun _ _ => trivial) hr
  refine uniqD (a.imp fun {x y} h => ?_) (List.pairwise_reverse.mpr (c.imp fun {x y} h => ?_)) ?_
  · simp only [RR] at h
    rcases h with h | ⟨h, h'⟩
    · exact .inl (by omega)
    · exact .inr ⟨by omega, h'⟩
  · simp only [RR] at h
    rcases h with h | ⟨h, h'⟩
    · exact .inl (by omega)
    · exact .inr ⟨by omega, h'⟩
  · exact b.trans (((List.reverse_perm _).trans (d.trans (List.reverse_perm _))).symm)
theorem halves (c : Nat) : (sortM up (ms.take c)).Pairwise befM ∧ (sortM up (ms.drop c)).Pairwise befM ∧ (∀ x ∈ sortM up (ms.take c), ∀ y ∈ sortM up (ms.drop c), x.i < y.i) ∧ (sortM up (ms.take c) ++ sortM up (ms.drop c)).Perm ms := by
  have h' := h
  rw [← List.take_append_drop c ms, List.pairwise_append] at h'
  obtain ⟨h1, h2, h3⟩ := h'
  obtain ⟨a1, p1⟩ := up_sort (bef_of h1)
  obtain ⟨a2, p2⟩ := up_sort (bef_of h2)
  refine ⟨lexM_bef a1, lexM_bef a2, fun x hx y hy => h3 x (p1.mem_iff.mp hx) y (p2.mem_iff.mp hy), ?_⟩
  have := p1.append p2
  rw [List.take_append_drop] at this
  exact this
theorem halves_lex (c : Nat) : (sortM up (ms.take c)).Pairwise lexM ∧ (sortM up (ms.drop c)).Pairwise lexM := by
  have h' := h
  rw [← List.take_append_drop c ms, List.pairwise_append] at h'
  exact ⟨(up_sort (bef_of h'.1)).1, (up_sort (bef_of h'.2.1)).1⟩
theorem halves_merge (c : Nat) : merge up (sortM up (ms.take c)) (sortM up (ms.drop c)) = sortM up ms := by
  obtain ⟨b1, b2, b3, b4⟩ := halves h c
  obtain ⟨l1, l2⟩ := halves_lex h c
  obtain ⟨a, b⟩ := heard_ok h
  have toR : ∀ l : List Mem, l.Pairwise lexM → l.Pairwise (RR (fun x => (x.w : Int)) befM) := fun l hl => hl.imp fun {x y} h => by
    rcases h with h | ⟨h, h'⟩
    · exact .inl (by simp only; omega)
    · exact .inr ⟨by simp only; omega, fun _ => h'⟩
  have m := merge_pair (dom := fun _ => True) up_key _ _ (fun _ _ => trivial) (fun _ _ => trivial) (toR _ l1) (toR _ l2) fun x hx y hy _ => b3 x hx y hy
  refine uniqM (m.imp fun {x y} h => ?_) a ((merge_perm _ _).trans (b4.trans b.symm))
  simp only [RR] at h
  rcases h with h | ⟨h, h'⟩
  · exact .inl (by omega)
  · exact .inr ⟨by omega, h' (by omega)⟩
theorem halves_sort (c : Nat) : sortM up (sortM up (ms.take c) ++ sortM up (ms.drop c)) = sortM up ms := by
  obtain ⟨b1, b2, b3, b4⟩ := halves h c
  obtain ⟨a, b⟩ := heard_ok h
  obtain ⟨c1, c2⟩ := up_sort (xs := sortM up (ms.take c) ++ sortM up (ms.drop c)) (List.pairwise_append.mpr ⟨b1, b2, fun x hx y hy _ => b3 x hx y hy⟩)
  exact uniqM c1 a (c2.trans (b4.trans b.symm))
end
theorem idx_pair {ms : List Mem} (h : ∀ (q : Nat) (m : Mem), ms[q]? = some m → m.i = q ∧ m.w < 5) : ms.Pairwise fun x y => x.i < y.i := by
  refine List.pairwise_iff_getElem.mpr fun i j hi hj hij => ?_
  rw [(h i _ (List.getElem?_eq_getElem hi)).1, (h j _ (List.getElem?_eq_getElem hj)).1]
  exact hij
theorem up_adj {xs : List Mem} (h : xs.Pairwise lexM) : ∀ (i : Nat) (x y : Mem), xs[i]? = some x → xs[i + 1]? = some y → up x y ≤ 0 := by
  intro i x y h1 h2
  have := adj h h1 h2
  unfold lexM at this
  unfold up
  omega

def rankN : Nat → Int
  | 0 => 6 | 1 => 3 | 2 => 0 | 3 => 0 | 4 => 5 | 5 => 4 | 6 => 7 | 7 => 2 | _ => 1
def byRank (r : Int) : Str := if r = 0 then Str.ofString "" else if r = 1 then Str.ofString "-1" else if r = 2 then Str.ofString "1" else if r = 3 then Str.ofString "10" else if r = 4 then Str.ofString "9" else if r = 5 then Str.ofString "B" else if r = 6 then Str.ofString "b" else Str.ofString "ba"
theorem by_rank : ∀ i, i < 9 → wtxt i = byRank (rankN i) := nine (by rfl) (by rfl) (by rfl) (by rfl) (by rfl) (by rfl) (by rfl) (by rfl) (by rfl)
theorem tord_key9 : ∀ i, i < 9 → ∀ j, j < 9 → (tord i j ≤ 0 ↔ rankN i ≤ rankN j) := by
  have h : ∀ i : Fin 9, ∀ j : Fin 9, (decide (tord i j ≤ 0) = decide (rankN i ≤ rankN j)) := by decide +kernel
  intro i hi j hj
  have := h ⟨i, hi⟩ ⟨j, hj⟩
  simpa using this
theorem text_sort {xs : List Nat} (h : ∀ x ∈ xs, x < 9) : (sortM tord xs).Pairwise (fun i j => rankN i ≤ rankN j) ∧ (sortM tord xs).Perm xs := by
  obtain ⟨a, b⟩ := sortM_ok (dom := (· < 9)) (key := rankN) (before := fun _ _ => True) (fun x y hx hy => tord_key9 x hx y hy) xs h (List.pairwise_iff_getElem.mpr fun _ _ _ _ _ => trivial)
  exact ⟨a.imp fun {x y} h => h.le, b⟩
theorem text_adj {xs : List Nat} (h : ∀ x ∈ xs, x < 9) : ∀ (i : Nat) (x y : Nat), (sortM tord xs)[i]? = some x → (sortM tord xs)[i + 1]? = some y → tord x y ≤ 0 := by
  obtain ⟨a, b⟩ := text_sort h
  intro i x y h1 h2
  exact (tord_key9 x (h x (b.mem_iff.mp (List.mem_of_getElem? h1))) y (h y (b.mem_iff.mp (List.mem_of_getElem? h2)))).mpr (adj a h1 h2)
theorem text_same {xs : List Nat} (h : ∀ x ∈ xs, x < 9) : (sortM tord xs).map wtxt = (sortM tord xs.reverse).map wtxt := by
  have hr : ∀ x ∈ xs.reverse, x < 9 := fun x hx => h x (List.mem_reverse.mp hx)
  obtain ⟨a, b⟩ := text_sort h
  obtain ⟨c, d⟩ := text_sort hr
  have e : (sortM tord xs).map rankN = (sortM tord xs.reverse).map rankN := by
    refine ((b.trans ((List.reverse_perm xs).symm.trans d.symm)).map rankN).eq_of_pairwise (le := (· ≤ ·)) (fun x y _ _ h1 h2 => Int.le_antisymm h1 h2) ?_ ?_
    · rw [List.pairwise_map]; exact a
    · rw [List.pairwise_map]; exact c
  have t : ∀ l : List Nat, (∀ x ∈ l, x < 9) → l.map wtxt = (l.map rankN).map byRank := fun l hl => by
    rw [List.map_map]
    exact List.map_congr_left fun x hx => by_rank x (hl x hx)
  rw [t _ fun x hx => h x (b.mem_iff.mp hx), t _ fun x hx => hr x (d.mem_iff.mp hx), e]
end Mine

namespace Mine
section
variable {prog : Program} {w : World} {A : Around} {E : Value → Shared → Prop} {s : Shared} {h₀ : Heap} {L : Addr} {m : Str → Option Value} {news : Led}
theorem rev_L {α : Type} {val : α → Value} {xs : List α} {a : Addr} {n : Nat} {u : Tok} {value slice : PySem.Expr} {ops : List Value} {Q : Value → Shared → Prop} (F : Fr h₀ L s.heap m) (N : News h₀ L s.heap news) (ha : (a, listOf (xs.map val).toArray n) ∈ news)
    (hz : xs.length ≤ 1000) (h : ∀ b h', Fr h₀ L h' m → News h₀ L h' ((b, listOf (xs.reverse.map val).toArray 0) :: news) → (∀ p ∈ news, p.1 < b) → Q (.ref b) { s with heap := h' })
    (hs : subscripted slice false (.ref a) (.ref s.heap.objs.size) = operate ops (getItem (.ref a) (.ref s.heap.objs.size))) :
    wpAny (model prog w) A (subscriptTail value slice (.ref a) (.ref s.heap.objs.size)) Q E { s with heap := s.heap.push { cls := .type "slice", data := .fields #[.none, .none, .int (-1) u] } } := by
  have hl := listAt N ha
  refine tail_any (Heap.IsList.typeIs (s := { s with heap := s.heap.push { cls := .type "slice", data := .fields #[.none, .none, .int (-1) u] } }) (hl.push _)) list_getitem_lookup
    (wpAny_getItem_list_slice (hl.push _) (Heap.IsSliceOf.new ..) .none .none (IsPart.int _ _) (by decide) ?_ (by rw [sizeLine_eq]; simp; omega)) hs
  have N1 := News.push (F.push { cls := .type "slice", data := .fields #[.none, .none, .int (-1) u] }) (N.grown fun _ _ e => Heap.get?_push_of_some _ e) { cls := .type "list", data := .seq (slicePick (xs.map val).toArray none none (some (-1))) }
  rw [Heap.size_push, krv_pick] at N1
  show Q (.ref (s.heap.push _).objs.size) _
  rw [Heap.size_push, krv_pick]
  have e : (xs.map val).toArray.toList.reverse.toArray = (xs.reverse.map val).toArray := by simp
  rw [e] at N1 ⊢
  exact h _ _ ((F.push _).push _) N1 fun p hp => Nat.lt_succ_of_lt (Heap.lt_size (N p hp).1)
theorem upto_L {α : Type} {val : α → Value} {xs : List α} {a : Addr} {n i : Nat} {u : Tok} {value slice : PySem.Expr} {Q : Value → Shared → Prop} (F : Fr h₀ L s.heap m) (N : News h₀ L s.heap news) (ha : (a, listOf (xs.map val).toArray n) ∈ news)
    (hz : xs.length ≤ 1000) (hi : i ≤ xs.length)
    (h : ∀ b h', Fr h₀ L h' m → News h₀ L h' ((b, listOf ((xs.take i).map val).toArray 0) :: news) → (∀ p ∈ news, p.1 < b) → Q (.ref b) { s with heap := h' })
    (hs : subscripted slice false (.ref a) (.ref s.heap.objs.size) = operate [.ref s.heap.objs.size, .ref a] (getItem (.ref a) (.ref s.heap.objs.size)) := by with_unfolding_all rfl)
    (ht : ∀ r, letTemporaryGo value (.ref a) r = pure () := by intro _; with_unfolding_all rfl) :
    wpAny (model prog w) A (subscriptTail value slice (.ref a) (.ref s.heap.objs.size)) Q E { s with heap := s.heap.push { cls := .type "slice", data := .fields #[.none, .int i u, .none] } } := by
  refine slice_list (lo := none) (hi := some (i : Int)) F N (listAt N ha) .none (.int _ _) (fun h' F' N' => ?_) hs ht (by rw [sizeLine_eq]; simp; omega)
  rw [show slicePick (xs.map val).toArray none (some (i : Int)) none = ((xs.take i).map val).toArray by rw [slicePick_upto _ _ (by simp; exact hi)]; simp] at N'
  exact h _ h' F' N' fun p hp => Nat.lt_succ_of_lt (Heap.lt_size (N p hp).1)
theorem add_L {α : Type} {val : α → Value} {xs ys : List α} {a b : Addr} {n n2 : Nat} {Q : Value → Shared → Prop} (F : Fr h₀ L s.heap m) (N : News h₀ L s.heap news) (ha : (a, listOf (xs.map val).toArray n) ∈ news) (hb : (b, listOf (ys.map val).toArray n2) ∈ news)
    (hz : xs.length + ys.length ≤ 1000) (h : ∀ c h', Fr h₀ L h' m → News h₀ L h' ((c, listOf ((xs ++ ys).map val).toArray 0) :: news) → (∀ p ∈ news, p.1 < c) → Q (.ref c) { s with heap := h' }) :
    wpAny (model prog w) A (binaryOp .Add (.ref a) (.ref b)) Q E s := by
  refine add_lists F N (listAt N ha) (listAt N hb) (fun h' F' N' => ?_) (by rw [sizeLine_eq]; simp; omega)
  rw [← List.map_append] at N'
  exact h _ h' F' N' fun p hp => Heap.lt_size (N p hp).1
theorem neM_same {a b : Addr} {n n2 : Nat} {xs : List Mem} {Q : Value → Shared → Prop} (N : News h₀ L s.heap news) (ha : (a, listOf (xs.map mval).toArray n) ∈ news) (hb : (b, listOf (xs.map mval).toArray n2) ∈ news) {ms : List Mem} (hs : ∀ x ∈ xs, x ∈ ms) (hi : ∀ p ∈ ms.map mobj, p ∈ news) (hu : A.units + 64 < cLine) (h : Q (.bool false) s) :
    wpAny (model prog w) A (compareOp .NotEq (.ref a) (.ref b)) Q E s := by
  have ho : ∀ m ∈ xs, mobj m ∈ news := fun x hx => hi _ (List.mem_map_of_mem (hs x hx))
  refine kqd_ne N ha rfl rfl (datAll_of ho) (fun _ h => h) hb rfl rfl (datAll_of ho) (fun _ h => h) ok_mdat ok_mdat hu ?_
  simpa using h
abbrev wlist : List Value := [.str (Str.ofString "b") 503, .int 10 504, .str (Str.ofString "") 505, .none, .str (Str.ofString "B") 506, .int 9 507, .str (Str.ofString "ba") 508, .str (Str.ofString "1") 509, .int (-1) 511]
theorem word_at : ∀ v : Nat, v < 9 → seqIndex? (v : Int) wlist.length = some v ∧ wlist[v]? = some (wval v) :=
  nine ⟨by decide, rfl⟩ ⟨by decide, rfl⟩ ⟨by decide, rfl⟩ ⟨by decide, rfl⟩ ⟨by decide, rfl⟩ ⟨by decide, rfl⟩ ⟨by decide, rfl⟩ ⟨by decide, rfl⟩ ⟨by decide, rfl⟩
theorem word_L {v : Nat} {u : Tok} {value slice : PySem.Expr} {Q : Value → Shared → Prop} (F : Fr h₀ L s.heap m) (X : (hd.heap_39 w.params).In h₀) (hv : (v : Int) < 9) (h : Q (wval v) s)
    (hs : subscripted slice false (.ref 235) (.int v u) = operate [.ref 235, .int v u] (getItem (.ref 235) (.int v u)) := by with_unfolding_all rfl) :
    wpAny (model prog w) A (subscriptTail value slice (.ref 235) (.int v u)) Q E s := by
  have X9 : (hd.heap_39 w.params).lookup 235 = some ⟨.type "tuple", none, .seq wlist.toArray 0, #[]⟩ := by rfl
  obtain ⟨h1, h2⟩ := word_at v (by omega)
  exact topTup_K F X X9 (by omega) (by omega) h1 h2 h hs
end
theorem news_pull {h₀ h : Heap} {L : Addr} (pre : Led) {p : Addr × Obj} {post : Led} (N : News h₀ L h (pre ++ p :: post)) : News h₀ L h (p :: (pre ++ post)) := by
  intro q hq
  refine N q ?_
  simp only [List.mem_append, List.mem_cons] at hq ⊢
  rcases hq with h | h | h <;> simp only [h, true_or, or_true]
theorem news_ne {h₀ h : Heap} {L a b : Addr} {o o' : Obj} {l : Led} (N : News h₀ L h l) (ha : (a, o) ∈ l) (hb : (b, o') ∈ l) (hne : o.cls ≠ o'.cls) : a ≠ b := by
  intro e
  subst e
  have h1 := (N _ ha).1
  have h2 := (N _ hb).1
  simp only at h1 h2
  rw [h1] at h2
  exact hne (congrArg Obj.cls (Option.some.inj h2))
end Mine

namespace Mine
section
variable {w : World} {A : Around} {h₀ : Heap} {L : Addr} {m : Str → Option Value} {env : Env} {elt ct : PySem.Expr} {x : Str} {scope : Scope} {cl : List (Str × Addr)} {s₁ : Shared} {Fin : Shared → List Value → Led → Prop}
def VPost (w : World) (h₀ : Heap) (L : Addr) (m : Str → Option Value) (sc : Addr) (k : Nat) (j : Addr) (R : Led) (s₁ : Shared) (y : Value) (s₂ : Shared) : Prop :=
  ∃ (v : Nat) (oj'' : Obj) (h' : Heap) (tk' : Nat), y = wval v ∧ v < 9 ∧ Jar w sc k oj'' ∧ s₂ = { s₁ with heap := h', toks := tk' } ∧ Fr h₀ L h' m ∧ News h₀ L h' ((j, oj'') :: R)
def TPost (h₀ : Heap) (L : Addr) (m : Str → Option Value) (z : Nat) (R : Led) (s₁ : Shared) (y : Value) (s₂ : Shared) : Prop :=
  ∃ (t9 : Tok) (h' : Heap) (tk' : Nat), y = .str (wtxt z) t9 ∧ s₂ = { s₁ with heap := h', toks := tk' } ∧ Fr h₀ L h' m ∧ News h₀ L h' R
def NPost (h₀ : Heap) (L : Addr) (m : Str → Option Value) (R : Led) (s₁ : Shared) (b : Bool) (s₂ : Shared) : Prop :=
  b = false ∧ ∃ (h' : Heap) (tk' : Nat), s₂ = { s₁ with heap := h', toks := tk' } ∧ Fr h₀ L h' m ∧ News h₀ L h' R
abbrev progL : Program := PySem.Challenge.rw_sa0530_01.row.prog
theorem values_src {r j sc : Addr} {n k : Nat} {t u v : Tok} {oj : Obj} {R : Led} (hh : A.handled = none) (F : Fr h₀ L s₁.heap m) (N : News h₀ L s₁.heap ((j, oj) :: R)) (hr : IsRange s₁.heap r 0 (n : Int) 1 t u v) (hn : n ≤ 9) (hj : Jar w sc k oj) (hR : ∀ p ∈ R, p.1 ≠ j)
    (turn : ∀ g (i : Nat) (xs : List Nat) t9 oj' I oI C oC D m₂ h tk (E' : Value → Shared → Prop), i < n → xs.length = i → (∀ x ∈ xs, x < 9) → Jar w sc (k + i) oj' → LCg.NsObj oC m₂ → m₂ x = some (.int (0 + (i : Int)) t9) → Fr h₀ L h m → News h₀ L h ((j, oj') :: (I, oI) :: (C, oC) :: (D, LCg.lst (xs.map wval)) :: R) → (∀ p ∈ (I, oI) :: (C, oC) :: (D, LCg.lst (xs.map wval)) :: R, p.1 ≠ j) →
      wpAny (model progL w) A (eval elt (compEnvC scope cl C env)) (VPost w h₀ L m sc (k + i + 1) j ((I, oI) :: (C, oC) :: (D, LCg.lst (xs.map wval)) :: R) { s₁ with heap := g }) E' { { s₁ with heap := g } with heap := h, toks := tk })
    (fin : ∀ g (xs : List Nat) oj', xs.length = n → (∀ x ∈ xs, x < 9) → Jar w sc (k + n) oj' → Fin { s₁ with heap := g } (xs.map wval) ((j, oj') :: R)) : LCg.CompSrc progL w A h₀ L m env elt x scope cl Fin (.ref r) s₁ := by
  obtain ⟨r1, r2, r3⟩ := range_zero (v := n) (b := 10) (by omega) (by decide)
  refine LCg.CompSrc.range hh F N hr r2 r1 r3 fun g => ?_
  refine comp_ind (fun i ys nw => ∃ (xs : List Nat) (oj : Obj), ys = xs.map wval ∧ xs.length = i ∧ (∀ x ∈ xs, x < 9) ∧ Jar w sc (k + i) oj ∧ nw = (j, oj) :: R) ⟨[], oj, rfl, rfl, (fun _ h => nomatch h), hj, rfl⟩ ?_ ?_
  · rintro i ys nw v I oI C oC D m₂ h tk E' hi ⟨t9, rfl⟩ ⟨xs, oj', rfl, hl, hx, hj', rfl⟩ hC hx2 F2 N2 off ne
    have hapj : ∀ p ∈ (I, oI) :: (C, oC) :: (D, LCg.lst (xs.map wval)) :: R, p.1 ≠ j := by
      obtain ⟨o1, o2, o3⟩ := off _ (.head _)
      intro p hp
      simp only [List.mem_cons] at hp
      rcases hp with rfl | rfl | rfl | hp
      · exact o1.symm
      · exact o2.symm
      · exact o3.symm
      · exact hR p hp
    have N3 : News h₀ L h ((j, oj') :: (I, oI) :: (C, oC) :: (D, LCg.lst (xs.map wval)) :: R) := fun p hp => N2 p (by
      simp only [List.mem_cons] at hp ⊢
      rcases hp with h | h | h | h | h <;> simp only [h, true_or, or_true])
    refine wpAny_mono (turn g i xs t9 oj' I oI C oC D m₂ h tk E' hi hl hx hj' hC hx2 F2 N3 hapj) (fun y s₂ hq => ?_) fun _ _ e => e
    obtain ⟨v, oj'', h', tk', rfl, hv, hj'', rfl, F4, N4⟩ := hq
    refine LCg.CompEnd.intro F4 N4 ((j, oj'') :: R) (fun p hp => ?_) (LCg.Off3.of fun p hp => ?_) trivial ⟨xs ++ [v], oj'', by simp, by simp [hl], ?_, hj'', rfl⟩
    · simp only [List.mem_cons] at hp ⊢
      rcases hp with h | h | h | h | h <;> simp only [h, true_or, or_true]
    · rcases List.mem_cons.mp hp with rfl | hp
      · exact off (j, oj') (.head _)
      · exact off p (.tail _ hp)
    · intro z hz
      rcases List.mem_append.mp hz with hz | hz
      · exact hx z hz
      · rw [List.mem_singleton.mp hz]; exact hv
  · rintro ys nw ⟨xs, oj', rfl, hl, hx, hj', rfl⟩
    exact fin g xs oj' hl hx hj'
def dstr (x : Nat) : Dat := .str (wtxt x)
theorem texts_src {a : Addr} {n : Nat} {xs : List Nat} {news : Led} (hh : A.handled = none) (F : Fr h₀ L s₁.heap m) (N : News h₀ L s₁.heap news) (ha : (a, listOf (xs.map wval).toArray n) ∈ news) (hx : ∀ x ∈ xs, x < 9) (hsz : xs.length ≤ 20)
    (turn : ∀ g z I oI C oC D oD m₂ h tk (E' : Value → Shared → Prop), z ∈ xs → z < 9 → LCg.NsObj oC m₂ → m₂ x = some (wval z) → Fr h₀ L h m → News h₀ L h ((I, oI) :: (C, oC) :: (D, oD) :: news) →
      wpAny (model progL w) A (eval elt (compEnvC scope cl C env)) (TPost h₀ L m z ((I, oI) :: (C, oC) :: (D, oD) :: news) { s₁ with heap := g }) E' { { s₁ with heap := g } with heap := h, toks := tk })
    (fin : ∀ g ys, DatAll [] ys (xs.map dstr) → Fin { s₁ with heap := g } ys news) : LCg.CompSrc progL w A h₀ L m env elt x scope cl Fin (.ref a) s₁ := by
  refine LCg.CompSrc.ledger hh F N ha (by rw [sizeLine_eq]; simp; omega) fun g => ?_
  refine comp_ind (fun i ys nw => DatAll [] ys ((xs.take i).map dstr) ∧ nw = news) ⟨.nil, rfl⟩ ?_ ?_
  · rintro i ys nw v I oI C oC D m₂ h tk E' hi hv ⟨hd, rfl⟩ hC hx2 F2 N2 off ne
    obtain ⟨z, hg, rfl⟩ : ∃ z, xs[i]? = some z ∧ v = wval z := by
      simp only [List.getElem?_toArray, List.getElem?_map] at hv
      cases e : xs[i]? with
      | none => rw [e] at hv; cases hv
      | some x => rw [e] at hv; exact ⟨x, rfl, (Option.some.inj hv).symm⟩
    have hm := List.mem_of_getElem? hg
    refine wpAny_mono (turn g z I oI C oC D _ m₂ h tk E' hm (hx z hm) hC hx2 F2 N2) (fun y s₂ hq => ?_) fun _ _ e => e
    obtain ⟨t9, h', tk', rfl, rfl, F4, N4⟩ := hq
    refine LCg.CompEnd.intro F4 N4 _ (fun _ h => h) (LCg.Off3.of off) (.inr ⟨_, ha, rfl, _, rfl⟩) ⟨?_, rfl⟩
    rw [List.take_add_one, hg, List.map_append]
    exact hd.append (.one (.str _ _))
  · rintro ys nw ⟨hd, rfl⟩
    refine fin g ys ?_
    have e : xs.take (xs.map wval).toArray.size = xs := List.take_of_length_le (by simp)
    rwa [e] at hd
theorem none_src {a : Addr} {n : Nat} {xs : List Nat} {news : Led} (hh : A.handled = none) (F : Fr h₀ L s₁.heap m) (N : News h₀ L s₁.heap news) (ha : (a, listOf (xs.map wval).toArray n) ∈ news) (hx : ∀ x ∈ xs, x < 9) (hsz : xs.length ≤ 20)
    (turn : ∀ g z I oI C oC D oD m₂ h tk (E' : Value → Shared → Prop), z ∈ xs → z < 9 → LCg.NsObj oC m₂ → m₂ x = some (wval z) → Fr h₀ L h m → News h₀ L h ((I, oI) :: (C, oC) :: (D, oD) :: news) →
      wpAny (model progL w) A (isTrue ct (compEnvC scope cl C env) (eval ct (compEnvC scope cl C env))) (NPost h₀ L m ((I, oI) :: (C, oC) :: (D, oD) :: news) { s₁ with heap := g }) E' { { s₁ with heap := g } with heap := h, toks := tk })
    (fin : ∀ g, Fin { s₁ with heap := g } [] news) : LCt.CompSrcT progL w A h₀ L m env ct elt x scope cl Fin (.ref a) s₁ := by
  refine LCt.CompSrcT.ledger hh F N ha (by rw [sizeLine_eq]; simp; omega) fun g => ?_
  refine comp_indT (fun i ys nw => ys = [] ∧ nw = news) ⟨rfl, rfl⟩ ?_ ?_
  · rintro i ys nw v I oI C oC D m₂ h tk E' hi hv ⟨rfl, rfl⟩ hC hx2 F2 N2 off ne
    obtain ⟨z, hg, rfl⟩ : ∃ z, xs[i]? = some z ∧ v = wval z := by
      simp only [List.getElem?_toArray, List.getElem?_map] at hv
      cases e : xs[i]? with
      | none => rw [e] at hv; cases hv
      | some x => rw [e] at hv; exact ⟨x, rfl, (Option.some.inj hv).symm⟩
    have hm := List.mem_of_getElem? hg
    refine wpAny_mono (turn g z I oI C oC D _ m₂ h tk E' hm (hx z hm) hC hx2 F2 N2) (fun b s₂ hq => ?_) fun _ _ e => e
    obtain ⟨rfl, h', tk', rfl, F4, N4⟩ := hq
    simp only [Bool.false_eq_true, if_false]
    exact LCg.CompEnd.intro F4 N4 _ (fun _ h => h) (LCg.Off3.of off) (.inr ⟨_, ha, rfl, _, rfl⟩) (by simp)
  · rintro ys nw ⟨rfl, rfl⟩
    exact fin g
end
theorem strOk_w : ∀ i, i < 9 → PyData.strOk (wtxt i) = true := nine (by decide +kernel) (by decide +kernel) (by decide +kernel) (by decide +kernel) (by decide +kernel) (by decide +kernel) (by decide +kernel) (by decide +kernel) (by decide +kernel)
theorem ok_dstr {xs : List Nat} (h : ∀ x ∈ xs, x < 9) : ∀ d ∈ xs.map dstr, kqdOk 8 d = true := by
  intro d hd
  obtain ⟨x, hx, rfl⟩ := List.mem_map.mp hd
  exact strOk_w x (h x hx)
section
variable {prog : Program} {w : World} {A : Around} {E : Value → Shared → Prop} {s : Shared} {h₀ : Heap} {L : Addr} {news : Led} {Q : Value → Shared → Prop}
theorem neT_same {a b : Addr} {ys zs : List Value} {n n2 : Nat} {ds es : List Dat} (N : News h₀ L s.heap news) (ha : (a, listOf ys.toArray n) ∈ news) (hb : (b, listOf zs.toArray n2) ∈ news) (D1 : DatAll [] ys ds) (D2 : DatAll [] zs es) (he : ds = es) (ho : ∀ d ∈ ds, kqdOk 8 d = true) (hu : A.units + 64 < cLine) (h : Q (.bool false) s) :
    wpAny (model prog w) A (compareOp .NotEq (.ref a) (.ref b)) Q E s := by
  subst he
  refine kqd_ne N ha rfl rfl D1 (fun _ h => nomatch h) hb rfl rfl D2 (fun _ h => nomatch h) ho ho hu ?_
  simpa using h
theorem notinT {b : Addr} {ys : List Value} {n : Nat} {x : Str} {t : Tok} {ds : List Dat} (N : News h₀ L s.heap news) (hb : (b, listOf ys.toArray n) ∈ news) (D1 : DatAll [] ys ds) (hm : Dat.str x ∈ ds) (ho : ∀ d ∈ ds, kqdOk 8 d = true) (hu : A.units + 64 < cLine) (h : Q (.bool false) s) :
    wpAny (model prog w) A (compareOp .NotIn (.str x t) (.ref b)) Q E s := by
  refine kqd_notIn (n₂ := []) N hb rfl rfl D1 (fun _ h => nomatch h) (.str x t) (fun _ h => nomatch h) ho (ho _ hm) hu ?_
  simpa [hm] using h
theorem eqNil2 {a b : Addr} {n n2 : Nat} (N : News h₀ L s.heap news) (ha : (a, listOf #[] n) ∈ news) (hb : (b, listOf #[] n2) ∈ news) (hu : A.units + 64 < cLine) (h : Q (.bool true) s) :
    wpAny (model prog w) A (compareOp .Eq (.ref a) (.ref b)) Q E s := by
  refine kqd_eq (xs := []) (ys := []) (n₁ := news) (n₂ := news) N ha rfl rfl .nil (fun _ h => h) hb rfl rfl .nil (fun _ h => h) (fun _ h => nomatch h) (fun _ h => nomatch h) hu ?_
  simpa using h
end
end Mine

namespace Mine

theorem members_use {w : World} {j sc : Addr} {oj : Obj} {vs : List Value} {ns : List Int} {rest : Led} {k : Nat}
    {p : Program} {loose : List Str} {mean : ExcName → Option Value} {mg mb : Str → Option Value} {dp un : Nat} {gd : Option (List Code)} {cn : Str} {cs : Scope} {a : Addr} {ccd : Value} {cl : List (Str × Addr)} {outer : List Env} {A₀ : Around} {base h₀ : Heap} {L : Addr} {m : Str → Option Value} {s : Shared}
    {Q E : Value → Shared → Prop} (B : Below A₀ base outer h₀) (F : Fr h₀ L s.heap m) (X : (hd.heap_39 w.params).In h₀) (N : News h₀ L s.heap ((j, oj) :: rest)) (T : Top p loose mean mg mb h₀) (hkf : cs.kind = .function)
    (hl : h₀.IsList sc vs.toArray) (hi : IntsAre vs ns) (hns : ns.length ≤ 63) (hj : Jar w sc k oj) (hap : ∀ p ∈ rest, p.1 ≠ j) (hk : k ≤ 2) (hdp : dp + 4 < recursionLimit) (hu : un + 36 < cLine)
    (ret : ∀ (a : Addr) (n : Nat) (ms : List Mem) oj' h' tk', ms.length ≤ 9 → (∀ (q : Nat) (m : Mem), ms[q]? = some m → m.i = q ∧ m.w < 5) → Jar w sc (k + 1 + ms.length) oj' → (∀ m ∈ ms, m.adr ≠ j) → a ≠ j → Fr h₀ L h' m → News h₀ L h' ((j, oj') :: (a, listOf (ms.map mval).toArray n) :: (rest ++ ms.map mobj)) → Q (.ref a) { s with heap := h', toks := tk' }) :
    wpAny (model PySem.Challenge.rw_sa0530_01.row.prog w) (ktrTop dp un gd cn cs L a ccd cl outer) (call (.ref 280) [.ref j]) Q E s := by
  refine members_call w rest hi hns hk hap hj _ _ _ _ _ _ _ _ _ _ _ _ _ _ _ _ _ _ _ _ _ _ B F X N T hkf hdp hu hl ?_
  rintro r news' h' tk' F' N' ⟨a2, n, ms, oj', rfl, h1, h2, h3, h4, h5, rfl⟩
  refine ret a2 n ms oj' h' tk' h1 h2 h3 h4 h5 F' fun p hp => N' p ?_
  simp only [List.mem_append, List.mem_cons] at hp ⊢
  rcases hp with h | h | h | h <;> simp only [h, true_or, or_true]
theorem asks_use {w : World} {a : Addr} {ms : List Mem} {rest : Led} {n1 : Nat}
    {p : Program} {loose : List Str} {mean : ExcName → Option Value} {mg mb : Str → Option Value} {dp un : Nat} {gd : Option (List Code)} {cn : Str} {cs : Scope} {ad : Addr} {ccd : Value} {cl : List (Str × Addr)} {outer : List Env} {A₀ : Around} {base h₀ : Heap} {L : Addr} {m : Str → Option Value} {s : Shared}
    {Q E : Value → Shared → Prop} (B : Below A₀ base outer h₀) (F : Fr h₀ L s.heap m) (X : (hd.heap_39 w.params).In h₀) (N : News h₀ L s.heap ((263, tabObj #[]) :: rest)) (T : Top p loose mean mg mb h₀) (hkf : cs.kind = .function)
    (hC : CodeHd h₀ 267 263) (ha : (a, listOf (ms.map mval).toArray n1) ∈ rest) (ho : ∀ m ∈ ms, mobj m ∈ rest) (hsz : ms.length ≤ 20) (hP : ∀ p ∈ rest, p.1 ≠ 263) (hdp : dp + 20 < recursionLimit) (hu : un + 200 < cLine)
    (ret : ∀ tk ps h' tk', Fr h₀ L h' m → News h₀ L h' ((263, tabObj ps) :: rest) → Q (.int (sortAsks up ms : Nat) tk) { s with heap := h', toks := tk' }) :
    wpAny (model PySem.Challenge.rw_sa0530_01.row.prog w) (ktrTop dp un gd cn cs L ad ccd cl outer) (call (.ref 268) [.ref a]) Q E s := by
  refine asks_call w rest ha ho hsz hP _ _ _ _ _ _ _ _ _ _ _ _ _ _ _ _ _ _ _ _ _ _ B F X N T hkf hdp hu hC ?_
  rintro r news' h' tk' F' N' ⟨⟨tk, rfl⟩, ps, rfl⟩
  exact ret tk ps h' tk' F' N'
theorem no_263 {h₀ h : Heap} {L a2 j a1 tc jc : Addr} {oj otc ojc : Obj} {i2 i1 : Array Value} {n2 n1 : Nat} {ms : List Mem} (N : News h₀ L h ((a2, listOf i2 n2) :: (j, oj) :: (a1, listOf i1 n1) :: (tc, otc) :: (jc, ojc) :: (263, tabObj #[]) :: ms.map mobj)) (h1 : 263 < j) (h2 : 263 < tc) (h3 : 263 < jc) :
    ∀ p ∈ (a2, listOf i2 n2) :: (j, oj) :: (a1, listOf i1 n1) :: (tc, otc) :: (jc, ojc) :: ms.map mobj, p.1 ≠ 263 := by
  have m9 : ((263 : Addr), tabObj #[]) ∈ (a2, listOf i2 n2) :: (j, oj) :: (a1, listOf i1 n1) :: (tc, otc) :: (jc, ojc) :: (263, tabObj #[]) :: ms.map mobj := .tail _ (.tail _ (.tail _ (.tail _ (.tail _ (.head _)))))
  intro p hp
  simp only [List.mem_cons] at hp
  rcases hp with rfl | rfl | rfl | rfl | rfl | hp
  · exact news_ne N (.head _) m9 (fun h => by cases h)
  · exact Nat.ne_of_gt h1
  · exact news_ne N (.tail _ (.tail _ (.head _))) m9 (fun h => by cases h)
  · exact Nat.ne_of_gt h2
  · exact Nat.ne_of_gt h3
  · obtain ⟨m, hm, rfl⟩ := List.mem_map.mp hp
    exact news_ne N (.tail _ (.tail _ (.tail _ (.tail _ (.tail _ (.tail _ hp)))))) m9 (fun h => by cases h)
theorem heard_rev {ms : List Mem} (h : ms.Pairwise fun x y => x.i < y.i) : (sortM up ms.reverse).length = ms.length ∧ ∀ x ∈ sortM up ms.reverse, x ∈ ms := by
  obtain ⟨c, d⟩ := sortM_ok (dom := fun _ => True) (before := fun x y : Mem => y.i < x.i) up_key ms.reverse (fun _ _ => trivial) (List.pairwise_reverse.mpr h)
  exact ⟨by rw [d.length_eq, List.length_reverse], fun x hx => List.mem_reverse.mp (d.mem_iff.mp hx)⟩
theorem slice_rev {α : Type} {val : α → Value} {xs : List α} : slicePick (xs.map val).toArray none none (some (-1)) = (xs.reverse.map val).toArray := by
  rw [krv_pick]; simp
theorem half_facts {ms : List Mem} (h : ms.Pairwise fun x y => x.i < y.i) (c : Nat) : (∀ x ∈ sortM up (ms.take c), x ∈ ms) ∧ (∀ x ∈ sortM up (ms.drop c), x ∈ ms) ∧ (sortM up (ms.take c)).length + (sortM up (ms.drop c)).length = ms.length := by
  have p := (halves h c).2.2.2
  refine ⟨fun x hx => p.mem_iff.mp (List.mem_append_left _ hx), fun x hx => p.mem_iff.mp (List.mem_append_right _ hx), ?_⟩
  rw [← List.length_append]; exact p.length_eq
theorem sub_cut {x1 x2 x3 x4 x5 h j m t c : Addr × Obj} {r : Led} : ∀ p ∈ j :: h :: m :: t :: c :: r, p ∈ x1 :: x2 :: x3 :: x4 :: x5 :: h :: j :: m :: t :: c :: r := by
  intro p hp
  simp only [List.mem_cons] at hp ⊢
  rcases hp with h | h | h | h | h | h <;> simp only [h, true_or, or_true]
theorem sub_tab {h j m t c q : Addr × Obj} {r : Led} : ∀ p ∈ h :: j :: m :: t :: c :: q :: r, p ∈ q :: h :: j :: m :: t :: c :: r := by
  intro p hp
  simp only [List.mem_cons] at hp ⊢
  rcases hp with h | h | h | h | h | h | h <;> simp only [h, true_or, or_true]
theorem hap_cut {j h m t c q : Addr} {oh om ot oc oq : Obj} {ms : List Mem} (h1 : h ≠ j) (h2 : m ≠ j) (h3 : t ≠ j) (h4 : c ≠ j) (h6 : q ≠ j) (h5 : ∀ x ∈ ms, x.adr ≠ j) : ∀ p ∈ (h, oh) :: (m, om) :: (t, ot) :: (c, oc) :: (q, oq) :: ms.map mobj, p.1 ≠ j := by
  intro p hp
  simp only [List.mem_cons] at hp
  rcases hp with rfl | rfl | rfl | rfl | rfl | hp
  · exact h1
  · exact h2
  · exact h3
  · exact h4
  · exact h6
  · obtain ⟨x, hx, rfl⟩ := List.mem_map.mp hp
    exact h5 x hx
theorem slice_upto {α : Type} {val : α → Value} {xs : List α} {i : Nat} (hi : i ≤ xs.length) : slicePick (xs.map val).toArray none (some (i : Int)) none = ((xs.take i).map val).toArray := by
  rw [slicePick_upto _ _ (by simp; exact hi)]; simp
theorem slice_from {α : Type} {val : α → Value} {xs : List α} {i : Nat} (hi : i ≤ xs.length) : slicePick (xs.map val).toArray (some (i : Int)) none none = ((xs.drop i).map val).toArray := by
  rw [slicePick_from _ _ (by simp; exact hi)]; simp
theorem sub_val {x1 x2 x3 x4 x5 x6 x7 x8 h j m t c q : Addr × Obj} {r : Led} : ∀ p ∈ [j, t, c, q], p ∈ x1 :: x2 :: x3 :: x4 :: x5 :: x6 :: x7 :: x8 :: j :: h :: m :: t :: c :: q :: r := by
  intro p hp
  simp only [List.mem_cons, List.not_mem_nil, or_false] at hp ⊢
  rcases hp with h | h | h | h <;> simp only [h, true_or, or_true]
theorem VPost.intro {w : World} {h₀ : Heap} {L : Addr} {m : Str → Option Value} {sc : Addr} {k : Nat} {j : Addr} {R : Led} {s₁ : Shared} {v : Nat} {oj : Obj} {h' : Heap} {tk' : Nat} (hv : (v : Int) < 9) (hj : Jar w sc k oj) (F : Fr h₀ L h' m) (N : News h₀ L h' ((j, oj) :: R)) : VPost w h₀ L m sc k j R s₁ (wval v) { s₁ with heap := h', toks := tk' } := ⟨v, oj, h', tk', rfl, by omega, hj, rfl, F, N⟩
theorem TPost.intro {h₀ : Heap} {L : Addr} {m : Str → Option Value} {z : Nat} {R : Led} {s₁ : Shared} {t9 : Tok} {h' : Heap} {tk' : Nat} (F : Fr h₀ L h' m) (N : News h₀ L h' R) : TPost h₀ L m z R s₁ (.str (wtxt z) t9) { s₁ with heap := h', toks := tk' } := ⟨t9, h', tk', rfl, rfl, F, N⟩
theorem NPost.intro {h₀ : Heap} {L : Addr} {m : Str → Option Value} {R : Led} {s₁ : Shared} {h' : Heap} {tk' : Nat} (F : Fr h₀ L h' m) (N : News h₀ L h' R) : NPost h₀ L m R s₁ false { s₁ with heap := h', toks := tk' } := ⟨rfl, h', tk', rfl, F, N⟩
theorem text_dat {xs : List Nat} (h : ∀ x ∈ xs, x < 9) : (sortM tord xs).map dstr = (sortM tord xs.reverse).map dstr := by
  have := congrArg (List.map Dat.str) (text_same h)
  rw [List.map_map, List.map_map] at this
  exact this
theorem ne_cell {h₀ h : Heap} {L a t : Addr} {i : Array Value} {n : Nat} {ot : Obj} {v : Option Value} {l : Led} (N : News h₀ L h l) (ha : (a, listOf i n) ∈ l) (ht : (t, ot) ∈ l) (hd : ot.data = .cell v) : a ≠ t := by
  intro e
  subst e
  have h1 := (N _ ha).1
  have h2 := (N _ ht).1
  simp only at h1 h2
  rw [h1] at h2
  rw [← Option.some.inj h2] at hd
  cases hd
theorem store_cell5 {M : Model} {A : Around} {E : Value → Shared → Prop} {s : Shared} {h₀ : Heap} {L a9 : Addr} {m : Str → Option Value} {cn x : Str} {cs : Scope} {ccd v : Value} {cl : List (Str × Addr)} {Q : Unit → Shared → Prop} {D a b j t c q : Addr} {i1 i2 i3 : Array Value} {n1 n2 n3 : Nat} {oj ot oc oq : Obj} {v₀ : Option Value}
    (F : Fr h₀ L s.heap m) (N : News h₀ L s.heap ((D, listOf i1 n1) :: (a, listOf i2 n2) :: (b, listOf i3 n3) :: (j, oj) :: (t, ot) :: (c, oc) :: (q, oq) :: [])) (hc : cl.lookup x = some t) (hd : ot.data = .cell v₀) (hj : j ≠ t) (hct : c ≠ t) (hqt : q ≠ t)
    (h : ∀ h' o', Fr h₀ L h' m → News h₀ L h' ((D, listOf i1 n1) :: (a, listOf i2 n2) :: (b, listOf i3 n3) :: (j, oj) :: (t, o') :: (c, oc) :: (q, oq) :: []) → o'.data = .cell (some v) → Q () { s with heap := h' })
    (hk : cs.kind = .function) (hx : (envX cn cs L a9 ccd cl).kindOf x = some .cell) : wpAny M A (storeName (envX cn cs L a9 ccd cl) x v) Q E s := by
  have mt : (t, ot) ∈ (D, listOf i1 n1) :: (a, listOf i2 n2) :: (b, listOf i3 n3) :: (j, oj) :: (t, ot) :: (c, oc) :: (q, oq) :: [] := .tail _ (.tail _ (.tail _ (.tail _ (.head _))))
  exact storeX_C F N hc (UpdF.tail (ne_cell N (.head _) mt hd) (UpdF.tail (ne_cell N (.tail _ (.head _)) mt hd) (UpdF.tail (ne_cell N (.tail _ (.tail _ (.head _))) mt hd) (UpdF.tail hj (UpdF.head (List.forall_mem_cons.mpr ⟨hct, List.forall_mem_cons.mpr ⟨hqt, List.forall_mem_nil _⟩⟩)))))) hd h hk hx
theorem eqInt_t {prog : Program} {w : World} {A : Around} {E : Value → Shared → Prop} {s : Shared} {a b : Int} {t u : Tok} {Q : Value → Shared → Prop} (e : a = b) (h : Q (.bool true) s) : wpAny (model prog w) A (compareOp .Eq (.int a t) (.int b u)) Q E s := by
  refine eq_int ?_
  simpa [e] using h
theorem news_sub {h₀ h : Heap} {L : Addr} {l l' : Led} (N : News h₀ L h l) (s : ∀ p ∈ l', p ∈ l) : News h₀ L h l' := fun p hp => N p (s p hp)

local macro_rules | `(tactic| walk_at "call ref") => `(tactic| refine hold ?_)
local macro_rules | `(tactic| walk_at "call ref") => `(tactic| (k_here; k_dflt (refine' new_use (bytext_call _ _ ?h1 ?h2 ?h3) ?k1 ?k2 ?k3 ?k4 ?k5 ?k6 ?k7 ?k8 ?_; (case k4 => k_asm); (case h1 => k_mem); (case h2 => with_reducible assumption); (case h3 => with_reducible assumption); (case k1 => k_asm); (case k2 => k_asm); (case k3 => k_asm); (case k5 => k_asm); (case k6 => exact rfl); (case k7 => ktr_room); (case k8 => ktr_units)); intro a' n' h' tk' F' N' l1'))
local macro_rules | `(tactic| walk_at "CompSrc") => `(tactic| refine hold ?_)
local macro_rules | `(tactic| walk_at "CompSrcT") => `(tactic| refine hold ?_)
local macro_rules | `(tactic| walk_at "compareOp NotIn") => `(tactic| refine hold ?_)
local macro_rules | `(tactic| walk_at "compareOp NotIn str ref") => `(tactic| refine hold ?_)
local macro_rules | `(tactic| walk_at "compareOp Eq ref ref") => `(tactic| (k_here; k_dflt (refine' eqNil2 ?k1 ?k2 ?k3 ?k4 ?_; (case k1 => k_asm); (case k2 => k_mem); (case k3 => k_mem); (case k4 => ktr_units); k_whole)))
local macro_rules | `(tactic| walk_at "compareOp NotEq ref ref") => `(tactic| refine hold ?_)
local macro_rules | `(tactic| walk_at "compareOp NotEq ref ref") => `(tactic| (k_here; k_dflt (refine' neM_same ?k1 ?k2 ?k3 ?k4 ?k5 ?k6 ?_; (case k1 => k_asm); (case k2 => k_mem); (case k3 => k_mem); (case k4 => with_reducible assumption); (case k5 => repeat (first | exact fun _ h => h | refine sub_c ?_)); (case k6 => ktr_units); k_whole)))
local macro_rules | `(tactic| walk_at "subscriptTail") => `(tactic| (k_here; (with_reducible show wpAny _ _ (subscriptTail _ (PySem.Expr.Slice none (some _) none _) (Value.ref _) (Value.ref _)) _ _ _); k_dflt (refine' upto_L ?k1 ?k2 ?k3 ?k4 ?k5 ?_ ?k6 ?k7; (case k1 => k_asm); (case k2 => k_asm); (case k3 => k_mem); (case k4 => with_reducible assumption); (case k5 => omega); (case k6 => with_unfolding_all rfl); (case k7 => intro _; with_unfolding_all rfl); k_whole); intro b' h' F' N' l1'))
local macro_rules | `(tactic| walk_at "subscriptTail") => `(tactic| (k_here; (with_reducible show wpAny _ _ (subscriptTail _ (PySem.Expr.Slice (some _) none none _) (Value.ref _) (Value.ref _)) _ _ _); k_dflt (refine' sliceFrom_L ?k1 ?k2 ?k3 ?k4 ?k5 ?_ ?k6 ?k7; (case k1 => k_asm); (case k2 => k_asm); (case k3 => k_mem); (case k4 => with_reducible assumption); (case k5 => omega); (case k6 => with_unfolding_all rfl); (case k7 => intro _; with_unfolding_all rfl); k_whole); intro b' h' F' N' l1'))
local macro_rules | `(tactic| walk_at "binaryOp Add ref ref") => `(tactic| (k_here; k_dflt (refine' add_L ?k1 ?k2 ?k3 ?k4 ?k5 ?_; (case k1 => k_asm); (case k2 => k_asm); (case k3 => k_mem); (case k4 => k_mem); (case k5 => with_reducible assumption); k_whole); intro b' h' F' N' l1'))
local macro_rules | `(tactic| walk_at "subscriptTail") => `(tactic| ((with_reducible show wpAny _ _ (subscriptTail (PySem.Expr.Call _ _ _ _) (PySem.Expr.Slice none none (some _) _) _ _) _ _ _); refine hold ?_))
local macro_rules | `(tactic| walk_at "compareOp Eq int int") => `(tactic| (k_here; k_dflt (refine' eqInt_t ?h ?_; (case h => omega); k_whole)))
local macro_rules | `(tactic| walk_at "subscriptTail Name Slice ref ref") => `(tactic| (k_here; (with_reducible show wpAny _ _ (subscriptTail _ (PySem.Expr.Slice none none (some _) _) (Value.ref _) (Value.ref _)) _ _ _); k_dflt (refine' rev_L ?k1 ?k2 ?k3 ?k4 ?_ ?k6; (case k1 => k_asm); (case k2 => k_asm); (case k3 => k_mem); (case k4 => with_reducible assumption); (case k6 => with_unfolding_all rfl); k_whole); intro b' h' F' N' l1'))
local macro_rules | `(tactic| walk_at "callWith ref") => `(tactic| (k_here; k_dflt (refine' callWith_K ?k1 ?k2 ?_; (case k1 => k_asm); (case k2 => k_is); k_whole)))
local macro_rules | `(tactic| walk_at "subscriptTail") => `(tactic| (k_here; (with_reducible show wpAny _ _ (subscriptTail _ _ (Value.ref 235) (Value.int _ _)) _ _ _); k_dflt (refine' word_L ?k1 ?k2 ?k3 ?_ ?k4; (case k1 => k_asm); (case k2 => k_asm); (case k3 => with_reducible assumption); (case k4 => with_unfolding_all rfl); k_whole)))
set_option maxRecDepth 100000 in
set_option maxHeartbeats 12000000 in
theorem law0 : PySem.Challenge.rw_sa0530_01.Holds := hd (by
  k_go0
  all_goals (try k_fold)
  k_steps
  unfold Hold
  rename IntsAre _ _ => hI
  rename ¬ _ < _ => h63
  rename World => w
  rename _ ∧ _ ∧ _ => lc
  rename Obj.IsDictOf _ _ _ => hD0
  refine members_use (k := 0) (by k_asm) (by k_asm) (by k_asm) (by k_asm) (by k_asm) rfl (by assumption) hI (by have h := h63; simp at h; omega) ⟨_, hD0⟩ (List.forall_mem_cons.mpr ⟨Nat.ne_of_lt lc.1, List.forall_mem_cons.mpr ⟨Nat.ne_of_lt lc.2.1, List.forall_mem_cons.mpr ⟨Nat.ne_of_lt lc.2.2, List.forall_mem_nil _⟩⟩⟩) (by decide) (by ktr_room) (by ktr_units) ?_
  intro a1 n1 ms oj1 h1 tk1 hlen hms hj1 hne1 ha1 F1 N1
  dsimp only [List.cons_append, List.nil_append] at N1
  have hp := idx_pair hms
  obtain ⟨hlex, hperm⟩ := heard_ok hp
  have hlen2 : (sortM up ms).length = ms.length := hperm.length_eq
  have hin : ∀ x ∈ sortM up ms, x ∈ ms := fun x hx => hperm.mem_iff.mp hx
  clear hD0
  k_steps
  unfold Hold
  rename News _ _ _ _ => N5
  refine new_use (sorted_pure (up_ok w ms) (by repeat (first | exact fun _ h => h | refine sub_c ?_)) (n₁ := n1) (by k_mem) (by omega) (fun x hx => hx)) (by k_asm) (by k_asm) (by k_asm) N5 (by k_asm) rfl (by ktr_room) (by ktr_units) ?_
  intro a2 n2 h2 tk2 F2 N2 l2
  have ha2 : a2 ≠ _ := Nat.ne_of_gt (l2 _ (.head _))
  clear N5
  k_steps
  unfold Hold
  rename News _ _ _ _ => N5
  refine ro_use (kept_call w _ (ms := ms) (hs := sortM up ms) (n1 := n1) (n2 := n2) (by k_mem) (by k_mem) ?hm hlen2 (by omega) (fun x hx => hperm.mem_iff.mpr hx) (fun i x y h1 h2 => adj hlex h1 h2)) (by k_asm) (by k_asm) (by k_asm) N5 (by k_asm) rfl (by ktr_room) (by ktr_units) ?_
  case hm => exact fun x hx => (by repeat (first | exact fun _ h => h | refine sub_c ?_) : ∀ p ∈ ms.map mobj, p ∈ _) _ (List.mem_map_of_mem (hin x hx))
  intro r3 h3 tk3 F3 N3 e3
  subst e3
  clear N5
  k_steps
  unfold Hold
  rename News _ _ _ _ => N5
  refine ro_use (issorted_call w (up_ok w ms) _ (by repeat (first | exact fun _ h => h | refine sub_c ?_)) (n₁ := n2) (by k_mem) (by omega) hin (up_adj hlex)) (by k_asm) (by k_asm) (by k_asm) N5 (by k_asm) rfl (by ktr_room) (by ktr_units) ?_
  intro r4 h4 tk4 F4 N4 e4
  subst e4
  clear N5
  k_steps
  unfold Hold
  rename News _ _ _ _ => N5
  have N6 := news_pull [_, _, _, _, _] N5
  dsimp only [List.cons_append, List.nil_append] at N6
  rename 263 < _ => l0
  have h263 := no_263 N5 lc.2.2 (Nat.lt_succ_of_lt (Nat.lt_succ_of_lt l0)) (Nat.lt_succ_of_lt l0)
  refine asks_use (ms := ms) (n1 := n1) (by k_asm) (by k_asm) (by k_asm) N6 (by k_asm) rfl (by assumption) (by k_mem) (fun x hx => (by repeat (first | exact fun _ h => h | refine sub_c ?_) : ∀ p ∈ ms.map mobj, p ∈ _) _ (List.mem_map_of_mem hx)) (by omega) h263 (by ktr_room) (by ktr_units) ?_
  intro t5 ps5 h5 tk5 F5 N70
  have N7 := news_sub N70 sub_tab
  clear N5 N6 N70 h263
  have hh4 : halvN ms.length ≤ 4 := by
    have h : ∀ n, halvN n ≤ 4 := fun n => by unfold halvN; split <;> decide
    exact h _
  have hbnd : ((sortAsks up ms : Nat) : Int) ≤ (ms.length : Int) * (halvN ms.length : Int) := by
    rw [← Int.natCast_mul]
    exact Int.ofNat_le.mpr (sortAsks_bound ms hlen)
  k_steps
  unfold Hold
  rename News _ _ _ _ => N5
  refine ro_use (halv_call w _ (n := ms.length) hlen) (by k_asm) (by k_asm) (by k_asm) N5 (by k_asm) rfl (by ktr_room) (by ktr_units) ?_
  intro r6 h6 tk6 F6 N6 e6
  obtain ⟨t6, e6⟩ := e6
  subst e6
  clear N5
  k_steps
  clear hbnd hh4
  have hz1 : ms.length ≤ 1000 := by omega
  obtain ⟨hrl, hrp⟩ := heard_rev hp
  have hz2 : (sortM up ms.reverse).length ≤ 1000 := by omega
  have hs10 : ∀ x ∈ (sortM up ms.reverse).reverse, x ∈ ms := fun x hx => hrp x (List.mem_reverse.mp hx)
  unfold Hold
  rename News _ _ _ _ => N5
  refine new_use (sorted_pure (up_ok w ms) (by repeat (first | exact fun _ h => h | refine sub_c ?_)) (xs := sortM up ms) (n₁ := n2) (by k_mem) (by omega) hin) (by k_asm) (by k_asm) (by k_asm) N5 (by k_asm) rfl (by ktr_room) (by ktr_units) ?_
  intro a8 n8 h8 tk8 F8 N8 l8
  rw [again hp] at N8
  clear N5
  k_steps
  unfold Hold
  rename News _ _ _ _ => N5
  refine new_use (sorted_pure (down_ok w ms) (by repeat (first | exact fun _ h => h | refine sub_c ?_)) (xs := ms) (n₁ := n1) (by k_mem) (by omega) (fun x hx => hx)) (by k_asm) (by k_asm) (by k_asm) N5 (by k_asm) rfl (by ktr_room) (by ktr_units) ?_
  intro a9 n9 h9 tk9 F9 N9 l9
  rw [backward hp] at N9
  clear N5
  k_steps
  unfold Hold
  rename News _ _ _ _ => N5
  (try rw [slice_rev] at N5)
  refine new_use (sorted_pure (up_ok w ms) (by repeat (first | exact fun _ h => h | refine sub_c ?_)) (xs := ms.reverse) (n₁ := 0) (by k_mem) (by rw [List.length_reverse]; omega) (fun x hx => List.mem_reverse.mp hx)) (by k_asm) (by k_asm) (by k_asm) N5 (by k_asm) rfl (by ktr_room) (by ktr_units) ?_
  intro a10 n10 h10 tk10 F10 N10 l10
  clear N5
  k_steps
  unfold Hold
  refine rev_L (val := mval) (xs := sortM up ms.reverse) (n := n10) F10 N10 (.head _) hz2 ?_ (by with_unfolding_all rfl)
  intro b11 h11 F11 N11 l11
  clear N10
  k_steps
  unfold Hold
  rename News _ _ _ _ => N5
  have N6 := news_sub N5 sub_cut
  clear N5
  refine scoop_use (k := 0 + 1 + ms.length) (by k_asm) (by k_asm) (by k_asm) N6 (by k_asm) rfl (by assumption) hI (by have h := h63; simp at h; omega) hj1 (hap_cut ha2 ha1 (Nat.ne_of_lt lc.1) (Nat.ne_of_lt lc.2.1) (Nat.ne_of_lt lc.2.2) hne1) (by omega) (by omega) (by omega) (by ktr_room) (by ktr_units) ?_
  intro v12 t12 oj12 h12 tk12 hv12 hj12 F12 N12
  clear N6
  have hv : v12 ≤ ms.length := by omega
  obtain ⟨hf1, hf2, hf3⟩ := half_facts hp v12
  have hz16 : (sortM up (ms.take v12)).length + (sortM up (ms.drop v12)).length ≤ 1000 := by omega
  k_steps
  unfold Hold
  rename News _ _ _ _ => N5
  (try rw [slice_upto hv] at N5)
  refine new_use (sorted_pure (up_ok w ms) (by repeat (first | exact fun _ h => h | refine sub_c ?_)) (xs := ms.take v12) (n₁ := 0) (by k_mem) (by rw [List.length_take]; omega) (fun x hx => List.mem_of_mem_take hx)) (by k_asm) (by k_asm) (by k_asm) N5 (by k_asm) rfl (by ktr_room) (by ktr_units) ?_
  intro a13 n13 h13 tk13 F13 N13 l13
  clear N5
  k_steps
  unfold Hold
  rename News _ _ _ _ => N5
  (try rw [slice_from hv] at N5)
  refine new_use (sorted_pure (up_ok w ms) (by repeat (first | exact fun _ h => h | refine sub_c ?_)) (xs := ms.drop v12) (n₁ := 0) (by k_mem) (by rw [List.length_drop]; omega) (fun x hx => List.mem_of_mem_drop hx)) (by k_asm) (by k_asm) (by k_asm) N5 (by k_asm) rfl (by ktr_room) (by ktr_units) ?_
  intro a14 n14 h14 tk14 F14 N14 l14
  clear N5
  k_steps
  unfold Hold
  rename News _ _ _ _ => N5
  refine new_use (merged_pure (up_ok w ms) (by repeat (first | exact fun _ h => h | refine sub_c ?_)) (xs := sortM up (ms.take v12)) (ys := sortM up (ms.drop v12)) (n₁ := n13) (n₂ := n14) (by k_mem) (by k_mem) (by omega) hf1 hf2) (by k_asm) (by k_asm) (by k_asm) N5 (by k_asm) rfl (by ktr_room) (by ktr_units) ?_
  intro a15 n15 h15 tk15 F15 N15 l15
  rw [halves_merge hp v12] at N15
  clear N5
  k_steps
  unfold Hold
  rename News _ _ _ _ => N5
  refine new_use (sorted_pure (up_ok w ms) (by repeat (first | exact fun _ h => h | refine sub_c ?_)) (xs := sortM up (ms.take v12) ++ sortM up (ms.drop v12)) (n₁ := 0) (by k_mem) (by rw [List.length_append]; omega) (fun x hx => (List.mem_append.mp hx).elim (hf1 x) (hf2 x))) (by k_asm) (by k_asm) (by k_asm) N5 (by k_asm) rfl (by ktr_room) (by ktr_units) ?_
  intro a16 n16 h16 tk16 F16 N16 l16
  rw [halves_sort hp v12] at N16
  clear N5
  k_steps
  unfold Hold
  rename IsRange _ _ _ _ _ _ _ _ => hr9
  rename News _ _ _ _ => N5
  have N6 := news_sub N5 sub_val
  clear N5
  refine values_src (k := 0 + 1 + ms.length + 1) (by rfl) (by k_asm) N6 hr9 hlen hj12 (List.forall_mem_cons.mpr ⟨Nat.ne_of_lt lc.1, List.forall_mem_cons.mpr ⟨Nat.ne_of_lt lc.2.1, List.forall_mem_cons.mpr ⟨Nat.ne_of_lt lc.2.2, List.forall_mem_nil _⟩⟩⟩) ?trnV ?finV
  case trnV =>
    intro g i xs t9 oj' I oI C oC D m₂ h tk E' hi9 hl9 hx9 hj9 hC9 hx2 F9 N9 hap9
    clear N6
    k_steps
    unfold Hold
    refine scoop_use (k := 0 + 1 + ms.length + 1 + i) (by k_asm) F9 (by k_asm) N9 (by k_asm) rfl (by assumption) hI (by have h := h63; simp at h; omega) hj9 hap9 (by decide) (by decide) (by omega) (by ktr_room) (by ktr_units) ?_
    intro v t oj'' h' tk' hv9 hj'' F' N'
    k_steps
    exact VPost.intro hv9 hj'' (by k_asm) (by k_asm)
  case finV =>
    intro g xs oj' hxl hx9 hj9
    clear N6 hj12
    obtain ⟨hta, htp⟩ := text_sort hx9
    have htl : (sortM tord xs).length = ms.length := by rw [htp.length_eq, hxl]
    have htx : ∀ x ∈ sortM tord xs, x < 9 := fun x hx => hx9 x (htp.mem_iff.mp hx)
    have hrx : ∀ x ∈ xs.reverse, x < 9 := fun x hx => hx9 x (List.mem_reverse.mp hx)
    have hrl9 : xs.reverse.length ≤ 20 := by rw [List.length_reverse]; omega
    have hrz : xs.length ≤ 1000 := by omega
    have hx20 : xs.length ≤ 20 := by omega
    obtain ⟨_, htp2⟩ := text_sort hrx
    have htx2 : ∀ x ∈ sortM tord xs.reverse, x < 9 := fun x hx => hrx x (htp2.mem_iff.mp hx)
    have htl2 : (sortM tord xs.reverse).length ≤ 20 := by rw [htp2.length_eq]; exact hrl9
    k_steps
    unfold Hold
    rename News _ _ _ _ => N5
    refine texts_src (xs := sortM tord xs) (by rfl) (by k_asm) N5 (by k_mem) htx (by omega) ?trnT ?finT
    case trnT =>
      intro g z I oI C oC D oD m₂ h tk E' hz hz9 hC9 hx2 F9 N9
      k_steps
      unfold Hold
      refine ro_use (wtext w _ z hz9) (by k_asm) F9 (by k_asm) N9 (by k_asm) rfl (by ktr_room) (by ktr_units) ?_
      rintro r h' tk' F' N' ⟨tt, rfl⟩
      exact TPost.intro F' N'
    case finT =>
      intro g ysT DT
      k_steps
      rename News _ _ _ _ => N7
      refine store_cell5 (by k_asm) N7 rfl (by with_reducible assumption) (Nat.ne_of_gt lc.1) (Nat.ne_of_lt (Nat.lt_succ_self _)) (Nat.ne_of_lt (Nat.lt_succ_of_lt (Nat.lt_succ_of_lt l0))) ?_ rfl rfl
      intro h6 ot6 F6 N6 d6
      clear N7
      k_steps
      unfold Hold
      rename News _ _ _ _ => N7
      refine ro_use (issorted_call w (text_ok w) _ (fun _ h => nomatch h) (xs := sortM tord xs) (n₁ := _) (by k_mem) (by omega) htx (text_adj hx9)) (by k_asm) (by k_asm) (by k_asm) N7 (by k_asm) rfl (by ktr_room) (by ktr_units) ?_
      intro r7 h7 tk7 F7 N8 e7
      subst e7
      clear N7
      k_steps
      unfold Hold
      rename News _ _ _ _ => N7
      refine texts_src (xs := sortM tord xs.reverse) (by rfl) (by k_asm) N7 (by k_mem) htx2 htl2 ?trnU ?finU
      case trnU =>
        intro g z I oI C oC D oD m₂ h tk E' hz hz9 hC9 hx2 F9 N9
        k_steps
        unfold Hold
        refine ro_use (wtext w _ z hz9) (by k_asm) F9 (by k_asm) N9 (by k_asm) rfl (by ktr_room) (by ktr_units) ?_
        rintro r h' tk' F' N' ⟨tt, rfl⟩
        exact TPost.intro F' N'
      case finU =>
        intro g ysU DU
        k_steps
        unfold Hold
        rename News _ _ _ _ => N9
        refine neT_same N9 (by k_mem) (by k_mem) DT DU (text_dat hx9) (ok_dstr htx) (by ktr_units) ?_
        k_steps
        unfold Hold
        rename News _ _ _ _ => N10
        refine none_src (xs := xs) (by rfl) (by k_asm) N10 (by k_mem) hx9 hx20 ?trnN ?finN
        case trnN =>
          intro g z I oI C oC D oD m₂ h tk E' hz hz9 hC9 hx2 F9 N11
          k_steps
          unfold Hold
          refine ro_use (wtext w _ z hz9) (by k_asm) F9 (by k_asm) N11 (by k_asm) rfl (by ktr_room) (by ktr_units) ?_
          rintro r h' tk' F' N' ⟨tt, rfl⟩
          k_steps
          unfold Hold
          refine notinT N' (by k_mem) DT (List.mem_map_of_mem (f := dstr) (htp.mem_iff.mpr hz)) (ok_dstr htx) (by ktr_units) ?_
          k_steps
          exact NPost.intro (by k_asm) (by k_asm)
        case finN =>
          intro g
          k_steps
          all_goals (k_end; wrow_close))
end Mine

theorem PySem.Challenge.cw_sa0530_01_holds : PySem.Challenge.rw_sa0530_01.Holds :=
  Mine.law0
