import PyProof.Rows.All
import Wide.All
import OpenK.AllK
import Wide.FinOn
import PySem.Challenge.RW_nt0595_01
open PySem PySem.W PyProof.Rows
set_option Elab.async false
set_option maxRecDepth 100000
set_option compiler.extract_closed false
namespace Mine
noncomputable def topG (thr ok : Thread → Bool) (st : SharedT → Thread → Option (SharedT × Thread)) (n : Nat) : SharedT → Thread → Option SharedT :=
  @Nat.rec (fun _ => SharedT → Thread → Option SharedT) (fun _ _ => none) (fun _ ih s t => match thr t with
    | true => some s
    | false => match ok t with
      | false => none
      | true => match st s t with
        | some (s', t') => ih s' t'
        | none => none) n
theorem top_of {tb : String → Option Builtin} {p : Program} {w : World} {n₀ : Nat} {ann : Option Value} : ∀ {n : Nat} {s s' : SharedT} {t : Thread}, topG through (stepOk n₀ ann) (stepT (denote tb) p w) n s t = some s' → topRun tb p w n₀ ann n s.abs t = some s'.abs
  | 0, _, _, _, h => nomatch (show none = some _ from h)
  | n + 1, s, s', t, h => by
    replace h : (match through t with
      | true => some s
      | false => match stepOk n₀ ann t with
        | false => none
        | true => match stepT (denote tb) p w s t with
          | some (s', t') => topG through (stepOk n₀ ann) (stepT (denote tb) p w) n s' t'
          | none => none) = some s' := h
    unfold topRun
    cases he : through t with
    | true => rw [he] at h; cases h; rfl
    | false =>
      rw [he] at h
      cases hk : stepOk n₀ ann t with
      | false => rw [hk] at h; cases h
      | true =>
        rw [hk] at h
        cases hs : stepT (denote tb) p w s t with
        | none => rw [hs] at h; cases h
        | some r => obtain ⟨s₂, t₂⟩ := r; rw [hs] at h; rw [stepT_spec hs]; exact top_of h
noncomputable def btOf (l : List Obj) : BT := (@List.rec Obj (fun _ => Nat → BT → BT) (fun _ T => T) (fun o _ ih i T => ih (i + 1) (T.ins i o)) l) 0 .nil
theorem left_tree0 {p q : Program} {loose : List Str} {Xt : Shared → Bool} {α : Type} {Yf : Shared → α} {Ya : World → α} {N : Nat} {g0 : Bool} {H₀ : Params → Heap} {gs₀ : Array GenState} {d₀ : Drawn} {k₀ : Nat}
    (open_ : ∀ w : World, (fencedOpening treeTable p w N).map (fun s => (s.heap, s.gens, s.drawn, s.toks)) = some (H₀ w.params, gs₀, d₀, k₀)) {n₀ : Nat} {ann : Option Value}
    (hT : ∀ P, absHeap (btOf (H₀ P).objs.toList) n₀ (H₀ P).life = H₀ P)
    (size : ∀ w : World, ((H₀ w.params).isNs mainGlobals && gs₀.size == 0, (H₀ w.params).objs.size, (H₀ w.params).nsMap mainGlobals "__annotations__") = (true, n₀, ann))
    (main : ∀ w : World, (fun os => (topG through (stepOk n₀ ann) (stepT (denote treeTable) p w) N ⟨btOf (H₀ w.params).objs.toList, n₀, (H₀ w.params).life, gs₀, d₀, k₀, os⟩ (topStub p)).map fun s =>
      ((staticsOk (importedModules p.main.body) (H₀ w.params) s.abs.heap && namesBound p s.abs.heap && gensDone s.abs && laidKept (H₀ w.params) s.abs.heap), openSeen q loose (importedModules p.main.body) Xt g0 s.abs, Yf s.abs)) = fun _ => some (true, openGood q loose, Ya w)) : LeftO p q loose Xt Yf Ya N g0 := fun w => by
  obtain ⟨⟨h, gs, d, k, os⟩, e, e'⟩ := Option.map_eq_some_iff.mp (open_ w)
  obtain ⟨rfl, rfl, rfl, rfl⟩ : h = H₀ w.params ∧ gs = gs₀ ∧ d = d₀ ∧ k = k₀ := by simpa using e'
  obtain ⟨z1, z2, z3⟩ : _ ∧ _ ∧ _ := by simpa only [Prod.mk.injEq] using size w
  obtain ⟨s, hr, hv⟩ := Option.map_eq_some_iff.mp (congrFun (main w) os)
  obtain ⟨l1, l2, l3⟩ : _ ∧ _ ∧ _ := by simpa only [Prod.mk.injEq] using hv
  have r : topRun treeTable p w n₀ ann N ⟨absHeap (btOf (H₀ w.params).objs.toList) n₀ (H₀ w.params).life, gs, d, k, os⟩ (topStub p) = some s.abs := top_of hr
  rw [hT] at r
  have t : topFrom treeTable p w N ⟨H₀ w.params, gs, d, k, os⟩ = some s.abs := by
    unfold topFrom
    dsimp only
    rw [z1, z2, z3, r]
    show (match staticsOk (importedModules p.main.body) (H₀ w.params) s.abs.heap && namesBound p s.abs.heap && gensDone s.abs && laidKept (H₀ w.params) s.abs.heap with | true => _ | false => _) = _
    rw [l1]
  unfold openEnds
  rw [e]
  show (topFrom treeTable p w N _).map _ = _
  rw [t]
  exact congrArg some (Prod.ext l2 l3)
theorem left_tree {p q : Program} {loose : List Str} {Xt : Shared → Bool} {α : Type} {Yf : Shared → α} {Ya : World → α} {N : Nat} {g0 : Bool} {H₀ : Params → Heap} {gs₀ : Array GenState} {d₀ : Drawn} {k₀ : Nat}
    (open_ : ∀ w : World, (fencedOpening treeTable p w N).map (fun s => (s.heap, s.gens, s.drawn, s.toks)) = some (H₀ w.params, gs₀, d₀, k₀)) {n₀ : Nat} {ann : Option Value}
    (hT : ∀ P, absHeap (btOf (H₀ P).objs.toList) n₀ (H₀ P).life = H₀ P)
    (size : ∀ w : World, ((H₀ w.params).isNs mainGlobals && gs₀.size == 0, (H₀ w.params).objs.size, (H₀ w.params).nsMap mainGlobals "__annotations__") = (true, n₀, ann))
    (main : ∀ w : World, (fun os => (topG through (Fast.tw6613529449190102663 n₀ ann) (Fast.tw10156331382660048174 (Fast.tw11892475500146522536 Fast.tw14364793385576792824) p w) N ⟨btOf (H₀ w.params).objs.toList, n₀, (H₀ w.params).life, gs₀, d₀, k₀, os⟩ (topStub p)).map fun s =>
      ((staticsOk (importedModules p.main.body) (H₀ w.params) s.abs.heap && namesBound p s.abs.heap && gensDone s.abs && laidKept (H₀ w.params) s.abs.heap), Fast.tw4187177175401517315 q loose (importedModules p.main.body) Xt g0 s.abs, Yf s.abs)) = fun _ => some (true, openGood q loose, Ya w)) : LeftO p q loose Xt Yf Ya N g0 := by
  refine left_tree0 open_ hT size fun w => ?_
  rw [Fast.te6613529449190102663, Fast.te10156331382660048174, Fast.te11892475500146522536, Fast.te14364793385576792824, Fast.te4187177175401517315]
  exact main w
section
local macro_rules | `(tactic| o_law) => `(tactic| refine holds_law (by ((repeat' (first | with_reducible refine look_both ?_ ?_ | unfold OpenLaw.wellSaid | unfold OpenRow.wellSaid | unfold OpenRow.partSaid | unfold OpenScript.wellSaid | unfold looksOpen)) <;> decide +kernel)) fun said => ?_)
local macro_rules | `(tactic| k_qdec) => `(tactic| decide +kernel)
local macro_rules | `(tactic| refine $f:ident (q := $q) (loose := $l) (Xt := $x) (XP := $xp) (Yf := $yf) (Ya := $ya) (YP := $yp) (N := $n) ?$h:ident $rest*) => `(tactic| (refine ($f:ident (q := $q) (loose := $l) (Xt := $x) (XP := $xp) (Yf := $yf) (Ya := $ya) (YP := $yp) (N := $n) ?hl0 $rest*); (case hl0 => (refine left_tree (n₀ := 11) (ann := some (Value.ref 6)) (boot_open (by kernel_rfl) (by decide +kernel) (fun _ => by kernel_rfl)) (fun _ => by kernel_rfl) (fun _ => by kernel_rfl) ?_; intro w; kernel_rfl))))
set_option maxHeartbeats 8000000 in
open_top hd for PySem.Challenge.rw_nt0595_01
end
section
open PyProof.V PySem.Spec PySem.Calls
section
theorem freshB0 : True := by
  w_top off
  trivial
noncomputable def ent (P : Params) (n : Str) (t : Tok) (a : Addr) : DictEntry := ⟨PyData.keyHash P n, .str n t, .ref a⟩
structure TA where
  T : Addr
  dT : Addr
  kL : Addr
  sL : Addr
  nL : Addr
  aL : Addr
  xL : Addr
  pL : Addr
  cL : Addr
  oD : Addr
  k : Nat → Tok
noncomputable abbrev tEs (P : Params) (a : TA) : List DictEntry :=
  [⟨PyData.keyHash P (Str.ofString "kinds"), .str (Str.ofString "kinds") (a.k 0), .ref a.kL⟩,
   ⟨PyData.keyHash P (Str.ofString "spaces"), .str (Str.ofString "spaces") (a.k 1), .ref a.sL⟩,
   ⟨PyData.keyHash P (Str.ofString "names"), .str (Str.ofString "names") (a.k 2), .ref a.nL⟩,
   ⟨PyData.keyHash P (Str.ofString "attrs"), .str (Str.ofString "attrs") (a.k 3), .ref a.aL⟩,
   ⟨PyData.keyHash P (Str.ofString "texts"), .str (Str.ofString "texts") (a.k 4), .ref a.xL⟩,
   ⟨PyData.keyHash P (Str.ofString "parents"), .str (Str.ofString "parents") (a.k 5), .ref a.pL⟩,
   ⟨PyData.keyHash P (Str.ofString "children"), .str (Str.ofString "children") (a.k 6), .ref a.cL⟩,
   ⟨PyData.keyHash P (Str.ofString "contents"), .str (Str.ofString "contents") (a.k 7), .ref a.oD⟩]
structure RA where
  R : Addr
  dR : Addr
  iL : Addr
  k : Nat → Tok
noncomputable abbrev rEs (P : Params) (r : RA) (T : Addr) : List DictEntry :=
  [⟨PyData.keyHash P (Str.ofString "tree"), .str (Str.ofString "tree") (r.k 0), .ref T⟩,
   ⟨PyData.keyHash P (Str.ofString "items"), .str (Str.ofString "items") (r.k 1), .ref r.iL⟩]

/-- what a call of a def of the text asks of the place where it stands -/
structure Cx (w : World) (A₀ A : Around) (s : Shared) (L : Addr) (h₀ base : Heap) (m mg mb : Str → Option Value) (news : List (Addr × Obj)) (p : Program) (loose : List Str) (mean : ExcName → Option Value) (env : Env) (outer : List Env) (n : Nat) : Prop where
  X : (hd.heap_39 w.params).In h₀
  B : Below A₀ base outer h₀
  F : Fr h₀ L s.heap m
  N : News h₀ L s.heap news
  T : Top p loose mean mg mb h₀
  fr : A.frames = some (env :: outer)
  fm : env.frame = some L
  kd : env.scope.kind = .function
  hh : A.handled = none
  dp : A.depth ≤ n
  un : A.units ≤ 10 * n
theorem mem_ca {α : Type} {x a : α} {l l' : List α} (h : x ∈ a :: (l ++ l')) : x ∈ (a :: l) ++ l' := h
end
section
theorem freshB1 : True := by
  w_top off
  trivial
section
variable {prog : Program} {w : World} {A : Around} {E : Value → Shared → Prop} {s : Shared} {h₀ : Heap} {L D : Addr} {m : Str → Option Value} {news news' : List (Addr × Obj)}
theorem newsSub {h : Heap} (N : News h₀ L h news) (hs : ∀ p ∈ news', p ∈ news) : News h₀ L h news' := fun p hp => N p (hs p hp)
theorem g_iter {M A E s Q a} (h : wpAny M A (pyIter (Value.ref a)) Q E s) : wpAny M A (pyIter (Value.ref a)) Q E s := h
theorem g_while {M A E s Q a b c d env} (h : wpAny M A (exec (Stmt.While a b c d) env) Q E s) : wpAny M A (exec (Stmt.While a b c d) env) Q E s := h
theorem g_lc {M A E s Q a b c d env} (h : wpAny M A (eval (Expr.ListComp a b c d) env) Q E s) : wpAny M A (eval (Expr.ListComp a b c d) env) Q E s := h
theorem g_alc {M A E s Q t x a b c d env} (h : wpAny M A (exec (Stmt.Assign t (Expr.ListComp a b c d) x) env) Q E s) : wpAny M A (exec (Stmt.Assign t (Expr.ListComp a b c d) x) env) Q E s := h
theorem g_cs {a1 a2 a3 a4 a5 a6 a7 a8 a9 b1 b2 b3 b4 b5} (h : LCg.CompSrc a1 a2 a3 a4 a5 a6 a7 a8 a9 b1 b2 b3 b4 b5) : LCg.CompSrc a1 a2 a3 a4 a5 a6 a7 a8 a9 b1 b2 b3 b4 b5 := h
theorem g_cst {a1 a2 a3 a4 a5 a6 a7 a8 a9 b1 b2 b3 b4 b5 b6} (h : LCt.CompSrcT a1 a2 a3 a4 a5 a6 a7 a8 a9 b1 b2 b3 b4 b5 b6) : LCt.CompSrcT a1 a2 a3 a4 a5 a6 a7 a8 a9 b1 b2 b3 b4 b5 b6 := h
theorem g_ce {a1 a2 a3 a4 a5 a6 a7 a8 a9 b1 b2 b3 b4 b5} (h : LCg.CompEnd a1 a2 a3 a4 a5 a6 a7 a8 a9 b1 b2 b3 b4 b5) : LCg.CompEnd a1 a2 a3 a4 a5 a6 a7 a8 a9 b1 b2 b3 b4 b5 := h
theorem g_ref {M A E s Q a as kw} (h : wpAny M A (call (Value.ref a) as kw) Q E s) : wpAny M A (call (Value.ref a) as kw) Q E s := h
theorem g_app {M A E s Q as kw} (h : wpAny M A (call (Value.builtin "list.append") as kw) Q E s) : wpAny M A (call (Value.builtin "list.append") as kw) Q E s := h
theorem g_rem {M A E s Q as kw} (h : wpAny M A (call (Value.builtin "list.remove") as kw) Q E s) : wpAny M A (call (Value.builtin "list.remove") as kw) Q E s := h
theorem g_ins {M A E s Q as kw} (h : wpAny M A (call (Value.builtin "list.insert") as kw) Q E s) : wpAny M A (call (Value.builtin "list.insert") as kw) Q E s := h
theorem gm_index {its : Array Value} {n : Nat} {pl : Sem Bool} {Q : Value × List Value → Shared → Prop} (N : News h₀ L s.heap news) (hm : (D, PySem.W.listOf its n) ∈ news) (h : Q (.builtin "list.index", [.ref D]) s) : wpAny (model prog w) A (getMethod (.ref D) (Str.ofString "index") pl) Q E s := kl_method N hm PySem.F.slot_list_index PySem.F.type_list_index h
theorem gm_remove {its : Array Value} {n : Nat} {pl : Sem Bool} {Q : Value × List Value → Shared → Prop} (N : News h₀ L s.heap news) (hm : (D, PySem.W.listOf its n) ∈ news) (h : Q (.builtin "list.remove", [.ref D]) s) : wpAny (model prog w) A (getMethod (.ref D) (Str.ofString "remove") pl) Q E s := kl_method N hm PySem.F.slot_list_remove PySem.F.type_list_remove h
theorem gm_insert {its : Array Value} {n : Nat} {pl : Sem Bool} {Q : Value × List Value → Shared → Prop} (N : News h₀ L s.heap news) (hm : (D, PySem.W.listOf its n) ∈ news) (h : Q (.builtin "list.insert", [.ref D]) s) : wpAny (model prog w) A (getMethod (.ref D) (Str.ofString "insert") pl) Q E s := kl_method N hm PySem.F.slot_list_insert PySem.F.type_list_insert h
theorem r_in {vs : List Value} {n : Nat} {ns : List Int} {x : Int} {t : Tok} {Q : Value → Shared → Prop} (N : News h₀ L s.heap news) (hm : (D, PySem.W.listOf vs.toArray n) ∈ news) (hi : IntsAre vs ns)
    (h : Q (.bool (decide (x ∈ ns))) s) : wpAny (model prog w) A (compareOp .In (.int x t) (.ref D)) Q E s := by
  refine in_list_ints (N.isList hm) hi ?_
  have e : (ns.any (· == x)) = decide (x ∈ ns) := by
    rw [Bool.eq_iff_iff]; simp
  rw [e]; exact h
theorem r_index {vs : List Value} {n : Nat} {ns : List Int} {x : Int} {t : Tok} {Q : Value → Shared → Prop} (N : News h₀ L s.heap news) (hm : (D, PySem.W.listOf vs.toArray n) ∈ news) (hi : IntsAre vs ns) (hl : ns.length ≤ 1000)
    (hx : x ∈ ns) (h : Q (.int (ns.idxOf x : Nat) s.toks) { s with toks := s.toks + 1 }) : wpAny (model prog w) A (call (.builtin "list.index") [.ref D, .int x t]) Q E s := by
  have hlen := hi.length
  have hj : ns.idxOf x < ns.length := List.idxOf_lt_length_iff.mpr hx
  have hj' : ns.idxOf x < vs.toArray.size := by simpa [hlen] using hj
  refine call_meets PySem.F.slot_list_index ⟨_, N.get hm, rfl⟩ PySem.F.entry_list_index (PySem.F.args_list_index_2 _ _) (MeetsSeq.list_index D vs.toArray n (.int x t) (isInt x) (fun y hy => eq_isInt x t hi y (by simpa using hy)) (ns.idxOf x) hj' (by omega) ?_ ?_) ⟨N.get hm, h⟩
  · have := isInt_at x hi (ns.idxOf x) (by omega) hj
    simp only [List.getElem_toArray]
    rw [this]; simp
  · intro k hk hlt
    have := isInt_at x hi k (by simpa using hk) (by omega)
    simp only [List.getElem_toArray]
    rw [this]
    exact ne_of_lt_idxOf hlt _
theorem r_remove {vs : List Value} {n : Nat} {ns : List Int} {x : Int} {t : Tok} {Q : Value → Shared → Prop} {rest : List (Addr × Obj)} (F : Fr h₀ L s.heap m) (N : News h₀ L s.heap ((D, PySem.W.listOf vs.toArray n) :: rest)) (ho : ∀ p ∈ rest, p.1 ≠ D) (hi : IntsAre vs ns) (hl : ns.length ≤ 1000)
    (hx : x ∈ ns) (h : ∀ h' vs' n', Fr h₀ L h' m → News h₀ L h' ((D, PySem.W.listOf vs'.toArray n') :: rest) → IntsAre vs' (ns.erase x) → Q .none { s with heap := h' }) : wpAny (model prog w) A (call (.builtin "list.remove") [.ref D, .int x t]) Q E s := by
  have hlen := hi.length
  have hj : ns.idxOf x < ns.length := List.idxOf_lt_length_iff.mpr hx
  have hj' : ns.idxOf x < vs.toArray.size := by simpa [hlen] using hj
  have z := N _ (.head _)
  refine call_meets PySem.F.slot_list_remove ⟨_, z.1, rfl⟩ PySem.F.entry_list_remove (PySem.F.args_list_remove_2 _ _) (MeetsSeq.list_remove D vs.toArray n (.int x t) (isInt x) (fun y hy => eq_isInt x t hi y (by simpa using hy)) (ns.idxOf x) hj' ?_ ?_ (by rw [sizeLine_eq, List.size_toArray]; omega)) ⟨z.1, ?_⟩
  · have := isInt_at x hi (ns.idxOf x) (by omega) hj
    simp only [List.getElem_toArray]
    rw [this]; simp
  · intro k hk hlt
    have := isInt_at x hi k (by simpa using hk) (by omega)
    simp only [List.getElem_toArray]
    rw [this]
    exact ne_of_lt_idxOf hlt _
  · refine h _ (vs.eraseIdx (ns.idxOf x)) (n + 1) (F.change (Heap.SameBut.update ..) z.2.1 z.2.2) (kl_turn (pre := []) _ N (fun _ h => nomatch h) ho ?_ ?_) ?_
    · unfold Array.eraseIdxIfInBounds
      rw [dif_pos hj']
      apply Array.toList_inj.mp
      simp
    · simp only [List.size_toArray, List.length_eraseIdx]
      split <;> omega
    · rw [List.erase_eq_eraseIdx_of_idxOf (i := ns.idxOf x) rfl]
      clear h z N F hj hj' hlen
      generalize ns.idxOf x = j
      clear hx hl
      induction hi generalizing j with
      | nil => exact .nil
      | cons a b hh ih =>
        cases j with
        | zero => exact hh
        | succ j => exact .cons a b (ih j)
theorem r_set {vs : List Value} {n : Nat} {ns : List Int} {k x : Int} {t u : Tok} {Q : Unit → Shared → Prop} {rest : List (Addr × Obj)} (F : Fr h₀ L s.heap m) (N : News h₀ L s.heap ((D, PySem.W.listOf vs.toArray n) :: rest)) (ho : ∀ p ∈ rest, p.1 ≠ D) (hi : IntsAre vs ns) (hl : ns.length ≤ 1000)
    (h0 : 0 ≤ k) (h1 : k < ns.length) (h : ∀ h' vs' n', Fr h₀ L h' m → News h₀ L h' ((D, PySem.W.listOf vs'.toArray n') :: rest) → IntsAre vs' (ns.set k.toNat x) → Q () { s with heap := h' }) :
    wpAny (model prog w) A (setItem (.ref D) (.int k t) (.int x u)) Q E s :=
  ksa_set F N (.head ho) hi h0 h1 (by omega) fun h' F' N' hi' _ _ => h h' _ _ F' N' hi'
theorem r_insert {vs : List Value} {n : Nat} {ns : List Int} {k x : Int} {t u : Tok} {Q : Value → Shared → Prop} {rest : List (Addr × Obj)} (F : Fr h₀ L s.heap m) (N : News h₀ L s.heap ((D, PySem.W.listOf vs.toArray n) :: rest)) (ho : ∀ p ∈ rest, p.1 ≠ D) (hi : IntsAre vs ns) (hl : ns.length ≤ 1000)
    (h0 : 0 ≤ k) (h1 : k ≤ ns.length) (h : ∀ h' vs' n', Fr h₀ L h' m → News h₀ L h' ((D, PySem.W.listOf vs'.toArray n') :: rest) → IntsAre vs' (ns.take k.toNat ++ x :: ns.drop k.toNat) → Q .none { s with heap := h' }) :
    wpAny (model prog w) A (call (.builtin "list.insert") [.ref D, .int k t, .int x u]) Q E s := by
  have hlen := hi.length
  refine kl_insert F N ?_ rfl (.head ho) (by rw [sizeLine_eq]; simp; omega) fun h' F' N' => h h' _ _ F' N' ?_
  · simp [Builtin.List.listFitsIndex]; omega
  · unfold kl_ins
    have e : (if k < 0 then (k + (vs.toArray.toList.length : Int)).toNat else min k.toNat vs.toArray.toList.length) = k.toNat := by
      rw [if_neg (by omega)]
      simp; omega
    rw [e]
    exact (hi.take _).append (.cons x u (hi.drop _))
theorem r_append {vs : List Value} {n : Nat} {x : Value} {Q : Value → Shared → Prop} (F : Fr h₀ L s.heap m) (N : News h₀ L s.heap news) (U : Upd D (PySem.W.listOf vs.toArray n) (PySem.W.listOf (vs ++ [x]).toArray (n + 1)) news news') (hl : vs.length ≤ 2000)
    (h : ∀ h', Fr h₀ L h' m → News h₀ L h' news' → Q .none { s with heap := h' }) : wpAny (model prog w) A (call (.builtin "list.append") [.ref D, x]) Q E s :=
  append_K F N (by rw [List.push_toArray]; exact U) h (by rw [sizeLine_eq, List.size_toArray]; omega)
theorem len_le {vs : List Value} {ns : List Int} (h : IntsAre vs ns) (hl : ns.length ≤ 1000) : vs.length ≤ 2000 := by rw [h.length]; omega
end
end
section
theorem freshB2 : True := by
  w_top off
  trivial
noncomputable def RdEnd (h₀ : Heap) (L : Addr) (news own : List (Addr × Obj)) (P : (Str → Option Value) → Prop) (s₁ s₂ : Shared) : Prop :=
  ∃ h' tk m' news', s₂ = { s₁ with heap := h', toks := tk } ∧ Fr h₀ L h' m' ∧ News h₀ L h' news' ∧ (∀ p ∈ news, p ∈ news') ∧ (∀ p ∈ own, p ∈ news') ∧ P m'
noncomputable def RdPost (h₀ : Heap) (L : Addr) (news own : List (Addr × Obj)) (P : (Str → Option Value) → Prop) (s₁ : Shared) (Q : Flow → Shared → Prop) (f : Flow) (s₂ : Shared) : Prop :=
  match f with
  | .ret v => Q (.ret v) s₂
  | .brk => Q .next s₂
  | _ => RdEnd h₀ L news own P s₁ s₂
theorem RdEnd.intro {h₀ h' : Heap} {L : Addr} {news own news' : List (Addr × Obj)} {P : (Str → Option Value) → Prop} {s₁ : Shared} {m' : Str → Option Value} {tk : Nat} (F : Fr h₀ L h' m') (N : News h₀ L h' news') (h1 : ∀ p ∈ news, p ∈ news') (h2 : ∀ p ∈ own, p ∈ news') (hP : P m') :
    RdEnd h₀ L news own P s₁ { s₁ with heap := h', toks := tk } := ⟨h', tk, m', news', rfl, F, N, h1, h2, hP⟩
section
variable {prog : Program} {w : World} {A : Around} {E : Value → Shared → Prop} {s : Shared} {env : Env} {h₀ : Heap} {x : Str} {body : List Stmt} {Q : Flow → Shared → Prop} {m₀ : Str → Option Value} {news : List (Addr × Obj)}
theorem rg_loop {r : Addr} {a b c : Int} {t u v : Tok} {n : Nat} (J : Nat → (Str → Option Value) → List (Addr × Obj) → Prop)
    (hh : A.handled = none) (hr : IsRange s.heap r a b c t u v) (hsmall : Builtin.Range.small a b c = true) (hsz : Builtin.Range.rangeSize a b c = (n : Int)) (F : Fr h₀ env.locals s.heap m₀) (N : News h₀ env.locals s.heap news) (hj : J 0 m₀ news)
    (turn : ∀ i t m₁ nx h tk own, i < n → OwnOff own (nx.map (·.1)) → J i m₁ nx → Fr h₀ env.locals h (fun y => if y = x then some (.int (a + i * c) t) else m₁ y) → News h₀ env.locals h (nx ++ own) →
      wpAny (model prog w) A (execs body env) (InvPostG h₀ env.locals (J (i + 1)) own { s with heap := h, toks := tk } Q) E { s with heap := h, toks := tk })
    (done : ∀ m₁ nx h tk, J n m₁ nx → Fr h₀ env.locals h m₁ → News h₀ env.locals h nx → Q .next { s with heap := h, toks := tk }) :
    wpAny (model prog w) A (pyIter (.ref r)) (fun it s₂ => LoopAtV prog w A h₀ env x body Q E it s₂) E s := by
  refine wpAny_pyIter_range hr hsmall ?_
  have W : Walks prog w A s.heap.objs.size [s.heap.objs.size] [s.heap.objs.size] n (fun i v => i < n ∧ ∃ t, v = .int (a + i * c) t)
      (fun i h => IsRangeIter h s.heap.objs.size (a + (i : Nat) * c) ((n : Int) - (i : Nat)) c) := (Walks.range hh _ a c n).bound
  refine kdr_loop J W (fun _ h => h) (fun _ h => h) ?_ ?_ ?_ ?_ (by show IsRangeIter _ _ _ _ _; rw [hsz]; simpa using Heap.get?_push_size _ rfl) (F.push _) (fun p hp => ⟨Heap.get?_push_of_some _ (N p hp).1, (N p hp).2⟩) hj ?_ done
  · intro i h hi b hb
    rw [List.mem_singleton.mp hb]
    exact ⟨_, hi⟩
  · intro hm
    exact absurd F.ns.lt ((List.mem_singleton.mp hm) ▸ Nat.lt_irrefl _)
  · intro b hb
    rw [List.mem_singleton.mp hb]
    exact next_is_new F
  · intro p hp hI
    exact absurd (Heap.lt_size (N p hp).1) ((List.mem_singleton.mp hI) ▸ Nat.lt_irrefl _)
  · rintro i v m₁ nx h tk own hi ⟨_, t, rfl⟩ hoff hJ F₁ N₁
    exact turn i t m₁ nx h tk own hi hoff hJ F₁ N₁
theorem RdPost.toG {L : Addr} {own : List (Addr × Obj)} {P : (Str → Option Value) → Prop} {s₁ s₂ : Shared} {f : Flow} {J : (Str → Option Value) → List (Addr × Obj) → Prop} (ho : OwnOff own (news.map (·.1))) (hJ : ∀ m, P m → J m news) (h : RdPost h₀ L news own P s₁ Q f s₂) :
    InvPostG h₀ L J own s₁ Q f s₂ := by
  have e : RdEnd h₀ L news own P s₁ s₂ → InvEndG h₀ L J own s₁ s₂ := fun ⟨h', tk, m', news', e, F, N, h1, h2, hP⟩ => ⟨h', tk, m', news', news, e, F, N, h1, h2, ho, hJ _ hP⟩
  cases f with
  | ret v => exact h
  | brk => exact h
  | next => exact e h
  | cont => exact e h
theorem rd_range {r : Addr} {a b c : Int} {t u v : Tok} {n : Nat} (P : Nat → (Str → Option Value) → Prop)
    (hh : A.handled = none) (hr : IsRange s.heap r a b c t u v) (hsmall : Builtin.Range.small a b c = true) (hsz : Builtin.Range.rangeSize a b c = (n : Int)) (F : Fr h₀ env.locals s.heap m₀) (N : News h₀ env.locals s.heap news) (hj : P 0 m₀)
    (turn : ∀ i t m₁ h tk own, i < n → P i m₁ → Fr h₀ env.locals h (fun y => if y = x then some (.int (a + i * c) t) else m₁ y) → News h₀ env.locals h (news ++ own) →
      wpAny (model prog w) A (execs body env) (RdPost h₀ env.locals news own (P (i + 1)) { s with heap := h, toks := tk } Q) E { s with heap := h, toks := tk })
    (done : ∀ m₁ h tk, P n m₁ → Fr h₀ env.locals h m₁ → News h₀ env.locals h news → Q .next { s with heap := h, toks := tk }) :
    wpAny (model prog w) A (pyIter (.ref r)) (fun it s₂ => LoopAtV prog w A h₀ env x body Q E it s₂) E s := by
  refine rg_loop (fun i m nx => nx = news ∧ P i m) hh hr hsmall hsz F N ⟨rfl, hj⟩ ?_ ?_
  · rintro i t m₁ nx h tk own hi ho ⟨rfl, hP⟩ F₁ N₁
    exact wpAny_mono (turn i t m₁ h tk own hi hP F₁ N₁) (fun f s₂ h₂ => RdPost.toG ho (fun m hm => ⟨rfl, hm⟩) h₂) fun _ _ x => x
  · rintro m₁ nx h tk ⟨rfl, hP⟩ F₁ N₁
    exact done m₁ h tk hP F₁ N₁
theorem rd_list {l : Addr} {vs : List Value} {nn : Nat} (P : Nat → (Str → Option Value) → Prop)
    (hh : A.handled = none) (hl : (l, PySem.W.listOf vs.toArray nn) ∈ news) (F : Fr h₀ env.locals s.heap m₀) (N : News h₀ env.locals s.heap news) (hj : P 0 m₀)
    (turn : ∀ i v m₁ h tk own, vs[i]? = some v → P i m₁ → Fr h₀ env.locals h (fun y => if y = x then some v else m₁ y) → News h₀ env.locals h (news ++ own) →
      wpAny (model prog w) A (execs body env) (RdPost h₀ env.locals news own (P (i + 1)) { s with heap := h, toks := tk } Q) E { s with heap := h, toks := tk })
    (done : ∀ m₁ h tk, P vs.length m₁ → Fr h₀ env.locals h m₁ → News h₀ env.locals h news → Q .next { s with heap := h, toks := tk }) :
    wpAny (model prog w) A (pyIter (.ref l)) (fun it s₂ => LoopAtV prog w A h₀ env x body Q E it s₂) E s := by
  refine kdl_iter (fun i m nx => nx = news ∧ P i m) hh hl F N ⟨rfl, hj⟩ ?_ ?_
  · rintro i v m₁ nx h tk own hv ho _ ⟨rfl, hP⟩ F₁ N₁
    exact wpAny_mono (turn i v m₁ h tk own hv hP F₁ N₁) (fun f s₂ h₂ => RdPost.toG ho (fun m hm => ⟨hl, rfl, hm⟩) h₂) fun _ _ x => x
  · rintro m₁ nx h tk ⟨rfl, hP⟩ F₁ N₁
    exact done m₁ h tk hP F₁ N₁

noncomputable def RsEnd {σ : Type} (h₀ : Heap) (L : Addr) (Led : σ → List (Addr × Obj)) (own : List (Addr × Obj)) (ps : σ → List (Str × Value)) (x : Str) (stored : List Str) (m₀ : Str → Option Value) (P : σ → Prop) (s₁ s₂ : Shared) : Prop :=
  ∃ c h' tk m' news', s₂ = { s₁ with heap := h', toks := tk } ∧ Fr h₀ L h' m' ∧ News h₀ L h' news' ∧ (∀ p ∈ Led c, p ∈ news') ∧ (∀ p ∈ own, p ∈ news') ∧ OwnOff own ((Led c).map (·.1)) ∧ (∀ p ∈ ps c, m' p.1 = some p.2) ∧
    (∀ z, z ≠ x → (∀ p ∈ ps c, z ≠ p.1) → stored.contains z = false → m' z = m₀ z) ∧ P c
noncomputable def RsPost {σ : Type} (h₀ : Heap) (L : Addr) (Led : σ → List (Addr × Obj)) (own : List (Addr × Obj)) (ps : σ → List (Str × Value)) (x : Str) (stored : List Str) (m₀ : Str → Option Value) (P : σ → Prop) (s₁ : Shared) (Q : Flow → Shared → Prop) (f : Flow) (s₂ : Shared) : Prop :=
  match f with
  | .ret v => Q (.ret v) s₂
  | .brk => Q .next s₂
  | _ => RsEnd h₀ L Led own ps x stored m₀ P s₁ s₂
theorem RsEnd.intro {σ : Type} {h₀ h' : Heap} {L : Addr} {Led : σ → List (Addr × Obj)} {own news' : List (Addr × Obj)} {ps : σ → List (Str × Value)} {x : Str} {stored : List Str} {m₀ m' : Str → Option Value} {P : σ → Prop} {s₁ : Shared} {tk : Nat} (c : σ) (F : Fr h₀ L h' m') (N : News h₀ L h' news')
    (h1 : ∀ p ∈ Led c, p ∈ news') (h2 : ∀ p ∈ own, p ∈ news') (h3 : OwnOff own ((Led c).map (·.1))) (hk : ∀ p ∈ ps c, m' p.1 = some p.2) (hr : ∀ z, z ≠ x → (∀ p ∈ ps c, z ≠ p.1) → stored.contains z = false → m' z = m₀ z) (hP : P c) :
    RsEnd h₀ L Led own ps x stored m₀ P s₁ { s₁ with heap := h', toks := tk } := ⟨c, h', tk, m', news', rfl, F, N, h1, h2, h3, hk, hr, hP⟩
noncomputable def RsJ {σ : Type} (Led : σ → List (Addr × Obj)) (ps : σ → List (Str × Value)) (x : Str) (stored : List Str) (m₀ : Str → Option Value) (P : σ → Prop) (m : Str → Option Value) (nx : List (Addr × Obj)) : Prop :=
  ∃ c, nx = Led c ∧ (∀ p ∈ ps c, m p.1 = some p.2) ∧ (∀ z, z ≠ x → (∀ p ∈ ps c, z ≠ p.1) → stored.contains z = false → m z = m₀ z) ∧ P c
theorem RsPost.toG {σ : Type} {L : Addr} {Led : σ → List (Addr × Obj)} {own : List (Addr × Obj)} {ps : σ → List (Str × Value)} {stored : List Str} {P : σ → Prop} {s₁ s₂ : Shared} {f : Flow} (h : RsPost h₀ L Led own ps x stored m₀ P s₁ Q f s₂) :
    InvPostG h₀ L (RsJ Led ps x stored m₀ P) own s₁ Q f s₂ := by
  have e : RsEnd h₀ L Led own ps x stored m₀ P s₁ s₂ → InvEndG h₀ L (RsJ Led ps x stored m₀ P) own s₁ s₂ := fun ⟨c, h', tk, m', news', e, F, N, h1, h2, h3, hk, hr, hP⟩ => ⟨h', tk, m', news', Led c, e, F, N, h1, h2, h3, c, rfl, hk, hr, hP⟩
  cases f with
  | ret v => exact h
  | brk => exact h
  | next => exact e h
  | cont => exact e h
theorem rs_range {σ : Type} (Led : σ → List (Addr × Obj)) (ps : σ → List (Str × Value)) (stored : List Str) (P : Nat → σ → Prop) (c₀ : σ) {r : Addr} {a b c : Int} {t u v : Tok} {n : Nat}
    {L : Addr} (hL : env.locals = L) (hh : A.handled = none) (hr : IsRange s.heap r a b c t u v) (hsmall : Builtin.Range.small a b c = true) (hsz : Builtin.Range.rangeSize a b c = (n : Int)) (F : Fr h₀ L s.heap m₀) (N : News h₀ L s.heap news) (hled : ∀ p ∈ Led c₀, p ∈ news) (hk : ∀ p ∈ ps c₀, m₀ p.1 = some p.2) (hj : P 0 c₀)
    (turn : ∀ i t c₁ (u : Str → Option Value) h tk own, i < n → OwnOff own ((Led c₁).map (·.1)) → P i c₁ → Fr h₀ L h (fun y => if y = x then some (.int (a + i * c) t) else kstB (fun z => if stored.contains z then u z else m₀ z) (ps c₁) y) → News h₀ L h (Led c₁ ++ own) →
      wpAny (model prog w) A (execs body env) (RsPost h₀ L Led own ps x stored m₀ (P (i + 1)) { s with heap := h, toks := tk } Q) E { s with heap := h, toks := tk })
    (done : ∀ c₁ (u : Str → Option Value) h tk, P n c₁ → Fr h₀ L h (fun y => if y = x then u y else kstB (fun z => if stored.contains z then u z else m₀ z) (ps c₁) y) → News h₀ L h (Led c₁) → Q .next { s with heap := h, toks := tk }) :
    wpAny (model prog w) A (pyIter (.ref r)) (fun it s₂ => LoopAtV prog w A h₀ env x body Q E it s₂) E s := by
  subst hL
  refine rg_loop (fun i => RsJ Led ps x stored m₀ (P i)) hh hr hsmall hsz F (newsSub N hled) ⟨c₀, rfl, hk, fun _ _ _ _ => rfl, hj⟩ ?_ ?_
  · rintro i t m₁ nx h tk own hi ho ⟨c₁, rfl, h1, h2, hP⟩ F₁ N₁
    exact wpAny_mono (turn i t c₁ m₁ h tk own hi ho hP (kst_fr h1 h2 F₁) N₁) (fun f s₂ h₂ => RsPost.toG h₂) fun _ _ x => x
  · rintro m₁ nx h tk ⟨c₁, rfl, h1, h2, hP⟩ F₁ N₁
    exact done c₁ m₁ h tk hP (kst_frOut h1 h2 F₁) N₁
theorem rs_list {σ : Type} (Led : σ → List (Addr × Obj)) (ps : σ → List (Str × Value)) (stored : List Str) (P : Nat → σ → Prop) (c₀ : σ) {l : Addr} {vs : List Value} {nn : Nat}
    {L : Addr} (hL : env.locals = L) (hh : A.handled = none) (hl : ∀ c, (l, PySem.W.listOf vs.toArray nn) ∈ Led c) (F : Fr h₀ L s.heap m₀) (N : News h₀ L s.heap news) (hled : ∀ p ∈ Led c₀, p ∈ news) (hk : ∀ p ∈ ps c₀, m₀ p.1 = some p.2) (hj : P 0 c₀)
    (turn : ∀ i v c₁ (u : Str → Option Value) h tk own, vs[i]? = some v → OwnOff own ((Led c₁).map (·.1)) → P i c₁ → Fr h₀ L h (fun y => if y = x then some v else kstB (fun z => if stored.contains z then u z else m₀ z) (ps c₁) y) → News h₀ L h (Led c₁ ++ own) →
      wpAny (model prog w) A (execs body env) (RsPost h₀ L Led own ps x stored m₀ (P (i + 1)) { s with heap := h, toks := tk } Q) E { s with heap := h, toks := tk })
    (done : ∀ c₁ (u : Str → Option Value) h tk, P vs.length c₁ → Fr h₀ L h (fun y => if y = x then u y else kstB (fun z => if stored.contains z then u z else m₀ z) (ps c₁) y) → News h₀ L h (Led c₁) → Q .next { s with heap := h, toks := tk }) :
    wpAny (model prog w) A (pyIter (.ref l)) (fun it s₂ => LoopAtV prog w A h₀ env x body Q E it s₂) E s := by
  subst hL
  refine kdl_iter (fun i => RsJ Led ps x stored m₀ (P i)) hh (hl c₀) F (newsSub N hled) ⟨c₀, rfl, hk, fun _ _ _ _ => rfl, hj⟩ ?_ ?_
  · rintro i v m₁ nx h tk own hv ho _ ⟨c₁, rfl, h1, h2, hP⟩ F₁ N₁
    refine wpAny_mono (turn i v c₁ m₁ h tk own hv ho hP (kst_fr h1 h2 F₁) N₁) (fun f s₂ h₂ => ?_) fun _ _ x => x
    have h₃ := RsPost.toG h₂
    have up : InvEndG h₀ env.locals (RsJ Led ps x stored m₀ (P (i + 1))) own { s with heap := h, toks := tk } s₂ → InvEndG h₀ env.locals (fun m' nx => (l, PySem.W.listOf vs.toArray nn) ∈ nx ∧ RsJ Led ps x stored m₀ (P (i + 1)) m' nx) own { s with heap := h, toks := tk } s₂ := by
      rintro ⟨h', tk', m', news', nx', e', F', N', hn', ho', ha, hS⟩
      refine ⟨h', tk', m', news', nx', e', F', N', hn', ho', ha, ?_, hS⟩
      obtain ⟨c', rfl, _⟩ := hS
      exact hl c'
    cases f with
    | ret v => exact h₃
    | brk => exact h₃
    | next => exact up h₃
    | cont => exact up h₃
  · rintro m₁ nx h tk ⟨c₁, rfl, h1, h2, hP⟩ F₁ N₁
    exact done c₁ m₁ h tk hP (kst_frOut h1 h2 F₁) N₁
theorem r_len {vs : List Value} {D : Addr} {L : Addr} {n k : Nat} {Q : Value → Shared → Prop} (N : News h₀ L s.heap news) (hm : (D, PySem.W.listOf vs.toArray n) ∈ news) (hl : vs.length = k) (hk : k ≤ 2000) (h : ∀ t tk, Q (.int k t) { s with toks := tk }) :
    wpAny (model prog w) A (call (.builtin "len") [.ref D]) Q E s := by
  refine len_list (N.isList hm) (by simp; omega) ?_
  have e : (vs.toArray.size : Int) = k := by simp [hl]
  rw [e]; exact h _ _
noncomputable def StrsAt (vs : List Value) (xs : List Str) : Prop := vs.length = xs.length ∧ ∀ (i : Nat) (x : Str), xs[i]? = some x → ∃ t, vs[i]? = some (Value.str x t)
theorem r_str {vs : List Value} {xs : List Str} {D L : Addr} {n : Nat} {k : Int} {u : Tok} {value slice : PySem.Expr} {Q : Value → Shared → Prop} (N : News h₀ L s.heap news) (hm : (D, PySem.W.listOf vs.toArray n) ∈ news) (hs : StrsAt vs xs) (h0 : 0 ≤ k) (h1 : k < xs.length) (hb : k ≤ 2000)
    (h : ∀ t, Q (.str (xs.getD k.toNat Str.empty) t) s) (he : subscripted slice false (.ref D) (.int k u) = operate [.ref D, .int k u] (getItem (.ref D) (.int k u)) := by with_unfolding_all rfl) :
    wpAny (model prog w) A (subscriptTail value slice (.ref D) (.int k u)) Q E s := by
  obtain ⟨t, ht⟩ := hs.2 k.toNat (xs.getD k.toNat Str.empty) (by
    have : k.toNat < xs.length := by omega
    simp [List.getD, this])
  have hL := N.isList hm
  exact tail_any hL.typeIs slot_list_getitem.lookup (wpAny_getItem_list hL h0 (by omega) (by simpa using ht) (h t)) he
theorem r_item {vs : List Value} {D L : Addr} {n : Nat} {k : Int} {u : Tok} {v : Value} {value slice : PySem.Expr} {Q : Value → Shared → Prop} (N : News h₀ L s.heap news) (hm : (D, PySem.W.listOf vs.toArray n) ∈ news) (hv : vs[k.toNat]? = some v) (h0 : 0 ≤ k) (hb : k ≤ 2000)
    (h : Q v s) (he : subscripted slice false (.ref D) (.int k u) = operate [.ref D, .int k u] (getItem (.ref D) (.int k u)) := by with_unfolding_all rfl) :
    wpAny (model prog w) A (subscriptTail value slice (.ref D) (.int k u)) Q E s := by
  have hL := N.isList hm
  exact tail_any hL.typeIs slot_list_getitem.lookup (wpAny_getItem_list hL h0 (by omega) (by simpa using hv) h) he
end
noncomputable def attrD (ps : List (Str × Str)) : Dat := .list (ps.map fun p => .tuple [.str p.1, .str p.2])
theorem attr_at {cst : List (Addr × Obj)} {avs : List Value} {as : List (List (Str × Str))} (h : DatAll cst avs (as.map attrD)) {k : Int} (h0 : 0 ≤ k) (h1 : k < as.length) :
    ∃ al pvs n, avs[k.toNat]? = some (.ref al) ∧ (al, PySem.W.listOf pvs.toArray n) ∈ cst ∧ DatAll cst pvs ((as.getD k.toNat []).map fun p => .tuple [.str p.1, .str p.2]) ∧ pvs.length = (as.getD k.toNat []).length := by
  have hk : k.toNat < (as.map attrD).length := by simp; omega
  obtain ⟨v, hv, hd⟩ := h.get hk
  have e : (as.map attrD)[k.toNat] = attrD (as.getD k.toNat []) := by
    have : k.toNat < as.length := by omega
    simp [List.getD, this]
  rw [e, attrD] at hd
  cases hd with
  | list hm hall => exact ⟨_, _, _, hv, hm, hall, by simpa using hall.length⟩
theorem pair_at {cst : List (Addr × Obj)} {pvs : List Value} {ps : List (Str × Str)} (h : DatAll cst pvs (ps.map fun p => .tuple [.str p.1, .str p.2])) {i : Nat} {v : Value} (hv : pvs[i]? = some v) :
    ∃ a b at' t1 t2 n, ps[i]? = some (a, b) ∧ v = .ref at' ∧ (at', ({ cls := .type "tuple", data := .seq #[.str a t1, .str b t2] n } : Obj)) ∈ cst := by
  have hi : i < ps.length := by
    have := h.length
    have h2 := (List.getElem?_eq_some_iff.mp hv).1
    simp at this; omega
  obtain ⟨v', hv', hd⟩ := h.get (k := i) (by simpa using hi)
  rw [hv'] at hv
  cases hv
  rw [List.getElem_map] at hd
  cases hd with
  | tuple hm hall =>
    cases hall with
    | cons h1 r =>
      cases r with
      | cons h2 r =>
        cases r
        cases h1
        cases h2
        exact ⟨_, _, _, _, _, _, List.getElem?_eq_getElem hi, rfl, hm⟩
noncomputable def valR (nm : Str) : List (Str × Str) → Option Str
  | [] => none
  | p :: r => if p.1 = nm then some p.2 else valR nm r
noncomputable def alikeB (na sa : Str) (as : List (Str × Str)) (nb sb : Str) (bs : List (Str × Str)) : Bool := na == nb && sa == sb && as.length == bs.length && as.all fun p => valR p.1 bs == some p.2
section
variable {prog : Program} {w : World} {A : Around} {E : Value → Shared → Prop} {s : Shared} {h₀ : Heap} {L D : Addr} {m : Str → Option Value} {news news' : List (Addr × Obj)}
theorem ints_erase : ∀ {vs : List Value} {ns : List Int}, IntsAre vs ns → ∀ j : Nat, IntsAre (vs.eraseIdx j) (ns.eraseIdx j)
  | _, _, .nil, _ => .nil
  | _, _, .cons a b h, 0 => h
  | _, _, .cons a b h, j + 1 => .cons a b (ints_erase h j)
theorem r_popAt {vs : List Value} {n : Nat} {ns : List Int} {k : Int} {t : Tok} {Q : Value → Shared → Prop} {rest : List (Addr × Obj)} (F : Fr h₀ L s.heap m) (N : News h₀ L s.heap ((D, PySem.W.listOf vs.toArray n) :: rest)) (ho : ∀ p ∈ rest, p.1 ≠ D) (hi : IntsAre vs ns) (hl : ns.length ≤ 1000)
    (h0 : 0 ≤ k) (h1 : k < ns.length) (h : ∀ h' vs' n' t, Fr h₀ L h' m → News h₀ L h' ((D, PySem.W.listOf vs'.toArray n') :: rest) → IntsAre vs' (ns.eraseIdx k.toNat) → vs'.length ≤ 2000 → Q (.int (ns.getD k.toNat 0) t) { s with heap := h' }) :
    wpAny (model prog w) A (call (.builtin "list.pop") [.ref D, .int k t]) Q E s := by
  have hlen := hi.length
  have z := N _ (.head _)
  have hj : k.toNat < vs.length := by omega
  obtain ⟨u, hx⟩ := hi.get k.toNat (ns.getD k.toNat 0) (by
    have : k.toNat < ns.length := by omega
    simp [List.getD, this])
  refine call_meets PySem.F.slot_list_pop ⟨_, z.1, rfl⟩ PySem.F.entry_list_pop (PySem.F.args_list_pop_2 _ _) (MeetsSeq.list_pop_at D vs.toArray n k t k.toNat (.int (ns.getD k.toNat 0) u) ?_ ?_ (by simpa using hx) (by rw [sizeLine_eq, List.size_toArray]; omega)) ⟨z.1, ?_⟩
  · simp [Builtin.List.listFitsIndex]; omega
  · unfold seqIndex?
    simp [show ¬ k < 0 by omega]; omega
  · refine h _ (vs.eraseIdx k.toNat) (n + 1) u (F.change (Heap.SameBut.update ..) z.2.1 z.2.2) (kl_turn (pre := []) _ N (fun _ h => nomatch h) ho ?_ ?_) (ints_erase hi _) (by rw [List.length_eraseIdx]; split <;> omega)
    · unfold Array.eraseIdxIfInBounds
      rw [dif_pos (by simpa using hj)]
      apply Array.toList_inj.mp
      simp
    · simp only [List.size_toArray, List.length_eraseIdx]
      split <;> omega
end
noncomputable def scanR (al : Int → Bool) : Int → Int → List Int → Int × Int
  | c, e, [] => (c, e)
  | c, e, n :: r => if n = -1 then (c, e) else if al n = true then scanR al (c + 1) r.length r else scanR al c e r
theorem getD_mem' {ns : List Int} {k : Nat} (h : k < ns.length) : ns.getD k 0 ∈ ns := by
  have e : ns.getD k 0 = ns[k] := by simp [List.getD, h]
  rw [e]; exact List.getElem_mem h
theorem rev_drop {ns : List Int} {i : Nat} (hi : i < ns.length) : ns.reverse.drop i = ns.getD ((ns.length : Int) - 1 + i * (-1)).toNat 0 :: ns.reverse.drop (i + 1) := by
  have e : ((ns.length : Int) - 1 + i * (-1)).toNat = ns.length - 1 - i := by omega
  rw [e, List.drop_eq_getElem_cons (by simpa using hi)]
  congr 1
  rw [List.getElem_reverse]
  simp [List.getD, show ns.length - 1 - i < ns.length by omega]
end
section
theorem freshB3 : True := by
  w_top off
  trivial
open LCg LCt in
section
variable {prog : Program} {w : World} {A : Around} {E : Value → Shared → Prop} {s : Shared} {h₀ : Heap} {L : Addr} {m : Str → Option Value} {env : Env} {news : List (Addr × Obj)}
theorem lc_restU {elt : Expr} {x : Str} {scope : Scope} {cl : List (Str × Addr)} {S : List (Addr × Obj) → Prop} {P : Nat → Value → Prop} {Fin : List Value → List (Addr × Obj) → Prop} {n : Nat} (J : Nat → List Value → List (Addr × Obj) → Prop)
    (step : ∀ i ys nx v I oI C oC D m₂ h tk (E' : Value → Shared → Prop), i < n → J i ys nx → P i v → NsObj oC m₂ → m₂ x = some v → Fr h₀ L h m → News h₀ L h ((I, oI) :: (C, oC) :: (D, lst ys) :: nx) → Off3 I C D nx → ((@Ne Nat I C) ∧ (@Ne Nat I D) ∧ (@Ne Nat C D)) →
      wpAny (model prog w) A (eval elt (compEnvC scope cl C env)) (CompEnd h₀ L m { s with heap := h, toks := tk } I oI C oC D (lst ys) S (fun y news' => J (i + 1) (ys ++ [y]) news')) E' { s with heap := h, toks := tk })
    (fin : ∀ ys nx, J n ys nx → Fin ys nx) : ∀ k i ys nx, i + k = n → J i ys nx → CompRest prog w A h₀ L m env elt x scope cl s S P Fin k i ys nx
  | 0, i, ys, nx, e, hj => by
    have e' : i = n := e
    subst e'
    exact fin _ _ hj
  | k + 1, i, ys, nx, e, hj => CompRest.succ fun v I oI C oC D m₂ h tk E' hP hC hx F N o3 ne =>
    wpAny_mono (step i ys nx v I oI C oC D m₂ h tk E' (by omega) hj hP hC hx F N o3 ne) (fun y s₂ ⟨h', tk', news', e1, F', N', o', hS, hJ⟩ => ⟨h', tk', news', e1, F', N', o', hS, lc_restU J step fin k (i + 1) _ _ (by omega) hJ⟩) fun _ _ x => x
theorem lc_restT {ct elt : Expr} {x : Str} {scope : Scope} {cl : List (Str × Addr)} {S : List (Addr × Obj) → Prop} {P : Nat → Value → Prop} {Fin : List Value → List (Addr × Obj) → Prop} {n : Nat} (J : Nat → List Value → List (Addr × Obj) → Prop)
    (step : ∀ i ys nx v I oI C oC D m₂ h tk (E' : Value → Shared → Prop), i < n → J i ys nx → P i v → NsObj oC m₂ → m₂ x = some v → Fr h₀ L h m → News h₀ L h ((I, oI) :: (C, oC) :: (D, lst ys) :: nx) → Off3 I C D nx → ((@Ne Nat I C) ∧ (@Ne Nat I D) ∧ (@Ne Nat C D)) →
      wpAny (model prog w) A (isTrue ct (compEnvC scope cl C env) (eval ct (compEnvC scope cl C env))) (fun ok s' => if ok = true then
        wpAny (model prog w) A (eval elt (compEnvC scope cl C env)) (CompEnd h₀ L m { s with heap := h, toks := tk } I oI C oC D (lst ys) S (fun y news' => J (i + 1) (ys ++ [y]) news')) E' s'
        else CompEnd h₀ L m { s with heap := h, toks := tk } I oI C oC D (lst ys) S (fun _ news' => J (i + 1) ys news') Value.none s') E' { s with heap := h, toks := tk })
    (fin : ∀ ys nx, J n ys nx → Fin ys nx) : ∀ k i ys nx, i + k = n → J i ys nx → CompRestT prog w A h₀ L m env ct elt x scope cl s S P Fin k i ys nx
  | 0, i, ys, nx, e, hj => by
    have e' : i = n := e
    subst e'
    exact fin _ _ hj
  | k + 1, i, ys, nx, e, hj => CompRestT.succ fun v I oI C oC D m₂ h tk E' hP hC hx F N o3 ne =>
    wpAny_mono (step i ys nx v I oI C oC D m₂ h tk E' (by omega) hj hP hC hx F N o3 ne) (fun ok s₂ h₂ => by
      by_cases hok : ok = true
      · rw [if_pos hok] at h₂ ⊢
        exact wpAny_mono h₂ (fun y s₃ ⟨h', tk', news', e1, F', N', o', hS, hJ⟩ => ⟨h', tk', news', e1, F', N', o', hS, lc_restT J step fin k (i + 1) _ _ (by omega) hJ⟩) fun _ _ x => x
      · rw [if_neg hok] at h₂ ⊢
        obtain ⟨h', tk', news', e1, F', N', o', hS, hJ⟩ := h₂
        exact ⟨h', tk', news', e1, F', N', o', hS, lc_restT J step fin k (i + 1) _ _ (by omega) hJ⟩) fun _ _ x => x
theorem lcU_list {elt : Expr} {x : Str} {scope : Scope} {cl : List (Str × Addr)} {Fin : Shared → List Value → List (Addr × Obj) → Prop} {s₁ : Shared} {ax : Addr} {its : Array Value} {k : Nat} (J : Nat → List Value → Prop)
    (hh : A.handled = none) (F : Fr h₀ L s₁.heap m) (N : News h₀ L s₁.heap news) (hm : (ax, ({ cls := .type "list", data := .seq its k } : Obj)) ∈ news) (hsz : its.size ≤ 2000) (h0 : J 0 [])
    (step : ∀ i ys v I oI C oC D m₂ h tk (E' : Value → Shared → Prop), i < its.size → J i ys → its[i]? = some v → NsObj oC m₂ → m₂ x = some v → Fr h₀ L h m → News h₀ L h ((I, oI) :: (C, oC) :: (D, lst ys) :: news) → Off3 I C D news → ((@Ne Nat I C) ∧ (@Ne Nat I D) ∧ (@Ne Nat C D)) →
      wpAny (model prog w) A (eval elt (compEnvC scope cl C env)) (CompEnd h₀ L m { s₁ with heap := h, toks := tk } I oI C oC D (lst ys) (SrcAt h₀ ax its) (fun y news' => news' = news ∧ J (i + 1) (ys ++ [y]))) E' { s₁ with heap := h, toks := tk })
    (fin : ∀ g ys, J its.size ys → Fin { s₁ with heap := g } ys news) :
    CompSrc prog w A h₀ L m env elt x scope cl Fin (.ref ax) s₁ :=
  CompSrc.ledger hh F N hm (by rw [sizeLine_eq]; omega) fun g => lc_restU (n := its.size) (fun i ys nx => nx = news ∧ J i ys) (by
    rintro i ys nx v I oI C oC D m₂ h tk E' hi ⟨rfl, hJ⟩ hP hC hx F' N' o3 ne
    exact step i ys v I oI C oC D m₂ h tk E' hi hJ hP hC hx F' N' o3 ne) (by
    rintro ys nx ⟨rfl, hJ⟩
    exact fin g ys hJ) _ 0 [] _ (Nat.zero_add _) ⟨rfl, h0⟩
theorem lcT_list {ct elt : Expr} {x : Str} {scope : Scope} {cl : List (Str × Addr)} {Fin : Shared → List Value → List (Addr × Obj) → Prop} {s₁ : Shared} {ax : Addr} {its : Array Value} {k : Nat} (J : Nat → List Value → Prop)
    (hh : A.handled = none) (F : Fr h₀ L s₁.heap m) (N : News h₀ L s₁.heap news) (hm : (ax, ({ cls := .type "list", data := .seq its k } : Obj)) ∈ news) (hsz : its.size ≤ 2000) (h0 : J 0 [])
    (step : ∀ i ys v I oI C oC D m₂ h tk (E' : Value → Shared → Prop), i < its.size → J i ys → its[i]? = some v → NsObj oC m₂ → m₂ x = some v → Fr h₀ L h m → News h₀ L h ((I, oI) :: (C, oC) :: (D, lst ys) :: news) → Off3 I C D news → ((@Ne Nat I C) ∧ (@Ne Nat I D) ∧ (@Ne Nat C D)) →
      wpAny (model prog w) A (isTrue ct (compEnvC scope cl C env) (eval ct (compEnvC scope cl C env))) (fun ok s' => if ok = true then
        wpAny (model prog w) A (eval elt (compEnvC scope cl C env)) (CompEnd h₀ L m { s₁ with heap := h, toks := tk } I oI C oC D (lst ys) (SrcAt h₀ ax its) (fun y news' => news' = news ∧ J (i + 1) (ys ++ [y]))) E' s'
        else CompEnd h₀ L m { s₁ with heap := h, toks := tk } I oI C oC D (lst ys) (SrcAt h₀ ax its) (fun _ news' => news' = news ∧ J (i + 1) ys) Value.none s') E' { s₁ with heap := h, toks := tk })
    (fin : ∀ g ys, J its.size ys → Fin { s₁ with heap := g } ys news) :
    CompSrcT prog w A h₀ L m env ct elt x scope cl Fin (.ref ax) s₁ :=
  CompSrcT.ledger hh F N hm (by rw [sizeLine_eq]; omega) fun g => lc_restT (n := its.size) (fun i ys nx => nx = news ∧ J i ys) (by
    rintro i ys nx v I oI C oC D m₂ h tk E' hi ⟨rfl, hJ⟩ hP hC hx F' N' o3 ne
    exact step i ys v I oI C oC D m₂ h tk E' hi hJ hP hC hx F' N' o3 ne) (by
    rintro ys nx ⟨rfl, hJ⟩
    exact fin g ys hJ) _ 0 [] _ (Nat.zero_add _) ⟨rfl, h0⟩
theorem lcT_range {ct elt : Expr} {x : Str} {scope : Scope} {cl : List (Str × Addr)} {Fin : Shared → List Value → List (Addr × Obj) → Prop} {s₁ : Shared} {ax : Addr} {a b : Int} {t u v : Tok} {n : Nat} (J : Nat → List Value → Prop)
    (hh : A.handled = none) (F : Fr h₀ L s₁.heap m) (N : News h₀ L s₁.heap news) (hr : IsRange s₁.heap ax a b 1 t u v) (hsm : Builtin.Range.small a b 1 = true) (hn : Builtin.Range.rangeSize a b 1 = ((n : Nat) : Int)) (hsz : n ≤ 2000) (h0 : J 0 [])
    (step : ∀ i ys v I oI C oC D m₂ h tk (E' : Value → Shared → Prop), i < n → J i ys → (∃ t, v = .int (a + (i : Int)) t) → NsObj oC m₂ → m₂ x = some v → Fr h₀ L h m → News h₀ L h ((I, oI) :: (C, oC) :: (D, lst ys) :: news) → Off3 I C D news → ((@Ne Nat I C) ∧ (@Ne Nat I D) ∧ (@Ne Nat C D)) →
      wpAny (model prog w) A (isTrue ct (compEnvC scope cl C env) (eval ct (compEnvC scope cl C env))) (fun ok s' => if ok = true then
        wpAny (model prog w) A (eval elt (compEnvC scope cl C env)) (CompEnd h₀ L m { s₁ with heap := h, toks := tk } I oI C oC D (lst ys) (fun _ => True) (fun y news' => news' = news ∧ J (i + 1) (ys ++ [y]))) E' s'
        else CompEnd h₀ L m { s₁ with heap := h, toks := tk } I oI C oC D (lst ys) (fun _ => True) (fun _ news' => news' = news ∧ J (i + 1) ys) Value.none s') E' { s₁ with heap := h, toks := tk })
    (fin : ∀ g ys, J n ys → Fin { s₁ with heap := g } ys news) :
    CompSrcT prog w A h₀ L m env ct elt x scope cl Fin (.ref ax) s₁ :=
  CompSrcT.range hh F N hr hsm hn (by rw [sizeLine_eq]; omega) fun g => lc_restT (n := n) (fun i ys nx => nx = news ∧ J i ys) (by
    rintro i ys nx v I oI C oC D m₂ h tk E' hi ⟨rfl, hJ⟩ hP hC hx F' N' o3 ne
    exact step i ys v I oI C oC D m₂ h tk E' hi hJ hP hC hx F' N' o3 ne) (by
    rintro ys nx ⟨rfl, hJ⟩
    exact fin g ys hJ) _ 0 [] _ (Nat.zero_add _) ⟨rfl, h0⟩
end
noncomputable abbrev tupO (vs : List Value) (n : Nat) : Obj := { cls := .type "tuple", data := .seq vs.toArray n }
noncomputable def entD (e : Int × Int) : Dat := .tuple [.int e.1, .int e.2]
theorem ent_at {cst : List (Addr × Obj)} {evs : List Value} {es : List (Int × Int)} (h : DatAll cst evs (es.map entD)) {i : Nat} {v : Value} (hv : evs[i]? = some v) :
    ∃ n k a t1 t2 j, es[i]? = some (n, k) ∧ v = .ref a ∧ (a, tupO [.int n t1, .int k t2] j) ∈ cst := by
  have hi : i < es.length := by
    have := h.length
    have h2 := (List.getElem?_eq_some_iff.mp hv).1
    simp at this; omega
  obtain ⟨v', hv', hd⟩ := h.get (k := i) (by simpa using hi)
  rw [hv'] at hv
  cases hv
  rw [List.getElem_map] at hd
  cases hd with
  | tuple hm hall =>
    cases hall with
    | cons h1 r =>
      cases r with
      | cons h2 r =>
        cases r
        cases h1
        cases h2
        exact ⟨_, _, _, _, _, _, List.getElem?_eq_getElem hi, rfl, hm⟩
noncomputable abbrev Kd := Str × Str × List (Str × Str)
noncomputable def kindD (k : Kd) : Dat := .tuple [.str k.1, .str k.2.1, .tuple (k.2.2.map fun p => .tuple [.str p.1, .str p.2])]
noncomputable def kd0 : Kd := (Str.empty, Str.empty, [])
theorem kind_at {cst : List (Addr × Obj)} {kvs : List Value} {ks : List Kd} (h : DatAll cst kvs (ks.map kindD)) {k : Int} (h0 : 0 ≤ k) (h1 : k < ks.length) :
    ∃ a b t1 t2 n pvs n', kvs[k.toNat]? = some (.ref a) ∧ (a, tupO [.str (ks.getD k.toNat kd0).1 t1, .str (ks.getD k.toNat kd0).2.1 t2, .ref b] n) ∈ cst ∧ (b, tupO pvs n') ∈ cst ∧ DatAll cst pvs ((ks.getD k.toNat kd0).2.2.map fun p => .tuple [.str p.1, .str p.2]) ∧ pvs.length = (ks.getD k.toNat kd0).2.2.length := by
  have hk : k.toNat < (ks.map kindD).length := by simp; omega
  obtain ⟨v, hv, hd⟩ := h.get hk
  have e : (ks.map kindD)[k.toNat] = kindD (ks.getD k.toNat kd0) := by
    have : k.toNat < ks.length := by omega
    simp [List.getD, this]
  rw [e, kindD] at hd
  cases hd with
  | tuple hm hall =>
    cases hall with
    | cons h1 r =>
      cases r with
      | cons h2 r =>
        cases r with
        | cons h3 r =>
          cases r
          cases h1
          cases h2
          cases h3 with
          | tuple hm3 hall3 => exact ⟨_, _, _, _, _, _, _, hv, hm, hm3, hall3, by simpa using hall3.length⟩
section
variable {prog : Program} {w : World} {A : Around} {E : Value → Shared → Prop} {s : Shared} {h₀ : Heap} {L D : Addr} {m : Str → Option Value} {news news' : List (Addr × Obj)}
theorem r_itemT {vs : List Value} {n : Nat} {k : Int} {u : Tok} {v : Value} {value slice : PySem.Expr} {Q : Value → Shared → Prop} (N : News h₀ L s.heap news) (hm : (D, tupO vs n) ∈ news) (hv : vs[k.toNat]? = some v) (h0 : 0 ≤ k) (hb : k ≤ 2000)
    (h : Q v s) (he : subscripted slice false (.ref D) (.int k u) = operate [.ref D, .int k u] (getItem (.ref D) (.int k u)) := by with_unfolding_all rfl) :
    wpAny (model prog w) A (subscriptTail value slice (.ref D) (.int k u)) Q E s := by
  have hlt := (List.getElem?_eq_some_iff.mp hv).1
  exact item_tupleT (N.isTup hm) (by omega) (by omega) (j := k.toNat) (by unfold seqIndex?; simp [show ¬ k < 0 by omega]; omega) (by simpa using hv) h he
theorem r_lastV {vs : List Value} {n : Nat} {u : Tok} {v : Value} {value slice : PySem.Expr} {Q : Value → Shared → Prop} (N : News h₀ L s.heap news) (hm : (D, PySem.W.listOf vs.toArray n) ∈ news) (hv : vs.getLast? = some v)
    (h : Q v s) (he : subscripted slice false (.ref D) (.int (-1) u) = operate [.ref D, .int (-1) u] (getItem (.ref D) (.int (-1) u)) := by with_unfolding_all rfl) :
    wpAny (model prog w) A (subscriptTail value slice (.ref D) (.int (-1) u)) Q E s := by
  have hL := N.isList hm
  rw [List.getLast?_eq_getElem?] at hv
  have hlt := (List.getElem?_eq_some_iff.mp hv).1
  refine tail_any hL.typeIs slot_list_getitem.lookup (wpAny_getItem_list_neg hL (by omega) (by simp; omega) (by omega) ?_ h) he
  have e : (-1 + (vs.toArray.size : Int)).toNat = vs.length - 1 := by simp; omega
  rw [e]
  simpa using hv
theorem ints_last {vs : List Value} {ns : List Int} (hi : IntsAre vs ns) (h0 : 0 < ns.length) : ∃ t, vs.getLast? = some (.int (ns.getLastD 0) t) := by
  have hlen := hi.length
  obtain ⟨t, ht⟩ := hi.get (ns.length - 1) (ns.getLastD 0) (by
    rw [List.getLastD_eq_getLast?, List.getLast?_eq_getElem?]
    have : ns.length - 1 < ns.length := by omega
    simp [this])
  exact ⟨t, by rw [List.getLast?_eq_getElem?, hlen]; exact ht⟩
theorem r_lastI {vs : List Value} {n : Nat} {ns : List Int} {u : Tok} {value slice : PySem.Expr} {Q : Value → Shared → Prop} (N : News h₀ L s.heap news) (hm : (D, PySem.W.listOf vs.toArray n) ∈ news) (hi : IntsAre vs ns) (h0 : 0 < ns.length)
    (h : ∀ t, Q (.int (ns.getLastD 0) t) s) (he : subscripted slice false (.ref D) (.int (-1) u) = operate [.ref D, .int (-1) u] (getItem (.ref D) (.int (-1) u)) := by with_unfolding_all rfl) :
    wpAny (model prog w) A (subscriptTail value slice (.ref D) (.int (-1) u)) Q E s := by
  obtain ⟨t, ht⟩ := ints_last hi h0
  exact r_lastV N hm ht (h t) he
end
inductive PartsAt (news cst : List (Addr × Obj)) : List Value → List (List (Int × Int)) → Prop
  | nil : PartsAt news cst [] []
  | cons {a : Addr} {evs : List Value} {n : Nat} {es : List (Int × Int)} {pvs : List Value} {ps : List (List (Int × Int))} : (a, PySem.W.listOf evs.toArray n) ∈ news → DatAll cst evs (es.map entD) → PartsAt news cst pvs ps → PartsAt news cst (.ref a :: pvs) (es :: ps)
theorem PartsAt.length {news cst : List (Addr × Obj)} {pvs : List Value} {ps : List (List (Int × Int))} (h : PartsAt news cst pvs ps) : pvs.length = ps.length := by
  induction h with
  | nil => rfl
  | cons _ _ _ ih => rw [List.length_cons, List.length_cons, ih]
theorem PartsAt.get {news cst : List (Addr × Obj)} {pvs : List Value} {ps : List (List (Int × Int))} (h : PartsAt news cst pvs ps) {i : Nat} {v : Value} (hv : pvs[i]? = some v) :
    ∃ pa evs n, v = .ref pa ∧ i < ps.length ∧ (pa, PySem.W.listOf evs.toArray n) ∈ news ∧ DatAll cst evs ((ps.getD i []).map entD) := by
  induction h generalizing i with
  | nil => simp at hv
  | cons hm hd _ ih =>
    cases i with
    | zero => simp at hv; exact ⟨_, _, _, hv.symm, by simp, hm, by simpa using hd⟩
    | succ i =>
      obtain ⟨pa, evs, n, e, hi, h1, h2⟩ := ih (by simpa using hv)
      exact ⟨pa, evs, n, e, by simpa using hi, h1, by simpa using h2⟩
theorem allLt_mem {d : Addr} {l : List (Addr × Obj)} (h : AllLt d l) : ∀ p ∈ l, @LT.lt Nat _ p.1 d := by
  induction l with
  | nil => intro p hp; cases hp
  | cons a l ih =>
    intro p hp
    rcases List.mem_cons.mp hp with rfl | hp
    · exact h.1
    · exact ih h.2 p hp
noncomputable def lineR (ps : List (List (Int × Int))) : List Int := ps.flatMap fun es => -1 :: es.map fun e => e.1
theorem small_up {b : Int} (h0 : 0 ≤ b) (h1 : b < 2 ^ 62) : Builtin.Range.small 0 b 1 = true := by
  unfold Builtin.Range.small
  rw [rangeSize_one]
  simp only [Builtin.Range.rangeFitsLong, Bool.and_eq_true, Bool.or_eq_true, decide_eq_true_eq, beq_iff_eq, show ((1 : Int) > 0) by decide, if_true]
  split <;> omega
end
section
theorem freshB4 : True := by
  w_top off
  trivial
mutual
inductive LitE (G : List (Str × Value × Dat)) : PySem.Expr → Dat → Prop
  | str (x : Str) {k : Nat} {pos : Pos} : LitE G (.Constant (.str x) k pos) (.str x)
  | name {x : Str} {v : Value} {d : Dat} {pos : Pos} : (x, v, d) ∈ G → LitE G (.Name x pos) d
  | tup {es : List PySem.Expr} {ds : List Dat} {k : Nat} {pos : Pos} : LitAll G es ds → es.length ≤ 100 → LitE G (.Tuple es k pos) (.tuple ds)
inductive LitAll (G : List (Str × Value × Dat)) : List PySem.Expr → List Dat → Prop
  | nil : LitAll G [] []
  | cons {e : PySem.Expr} {es : List PySem.Expr} {d : Dat} {ds : List Dat} : LitE G e d → LitAll G es ds → LitAll G (e :: es) (d :: ds)
end
section
variable {G : List (Str × Value × Dat)}
theorem LitAll.length : ∀ {es : List PySem.Expr} {ds : List Dat}, LitAll G es ds → es.length = ds.length
  | _, _, .nil => rfl
  | _, _, .cons _ r => congrArg Nat.succ (LitAll.length r)
theorem LitE.star {e : PySem.Expr} {d : Dat} {env : Env} {rest : List PySem.Expr} (h : LitE G e d) : starEach (e :: rest) env = (false, eval e env) :: starEach rest env := by
  cases h <;> rfl
end
section
variable {prog : Program} {w : World} {A : Around} {E : Value → Shared → Prop} {h₀ : Heap} {L : Addr} {m : Str → Option Value} {env : Env} {G : List (Str × Value × Dat)} {base : List (Addr × Obj)}
  (hG : ∀ x v d, (x, v, d) ∈ G → DatIn base v d ∧ ∀ (s : Shared) (Q : Value → Shared → Prop) (pos : Pos), Fr h₀ L s.heap m → Q v s → wpAny (model prog w) A (eval (.Name x pos) env) Q E s)
include hG
mutual
theorem LitE.run {e : PySem.Expr} {d : Dat} : LitE G e d → ∀ {s : Shared} {news : List (Addr × Obj)} {Q : Value → Shared → Prop}, Fr h₀ L s.heap m → News h₀ L s.heap news →
    (∀ h' tk own v, Fr h₀ L h' m → News h₀ L h' (own ++ news) → (∀ p ∈ own, ∃ vs n, p.2 = tupO vs n) → DatIn (own ++ base) v d → Q v {s with heap := h', toks := tk}) → wpAny (model prog w) A (eval e env) Q E s
  | .str x, s, _, _, F, N, h => wpAny_Constant_str (h s.heap (s.toks + 1) [] (.str x s.toks) F N (fun _ hp => nomatch hp) (.str ..))
  | .name hm, s, _, _, F, N, h => (hG _ _ _ hm).2 s _ _ F (h s.heap s.toks [] _ F N (fun _ hp => nomatch hp) (hG _ _ _ hm).1)
  | .tup hs hl, s, news, Q, F, N, h => Tuple_ (LitAll.run hs F N fun h' tk own vs F' N' ho hd => newTuple_N F' N' (fun h'' F'' N'' => h h'' tk (_ :: own) _ F'' N''
      (fun p hp => (List.mem_cons.mp hp).elim (fun e => ⟨vs, 0, congrArg Prod.snd e⟩) (ho p)) (.tuple List.mem_cons_self (hd.mono fun _ hp => List.mem_cons_of_mem _ hp)))
      (by rw [DatAll.length hd, ← hs.length, sizeLine_eq]; omega))
theorem LitAll.run {es : List PySem.Expr} {ds : List Dat} : LitAll G es ds → ∀ {s : Shared} {news : List (Addr × Obj)} {pos : Pos} {Q : List Value → Shared → Prop}, Fr h₀ L s.heap m → News h₀ L s.heap news →
    (∀ h' tk own vs, Fr h₀ L h' m → News h₀ L h' (own ++ news) → (∀ p ∈ own, ∃ vs n, p.2 = tupO vs n) → DatAll (own ++ base) vs ds → Q vs {s with heap := h', toks := tk}) → wpAny (model prog w) A (spliced (backTo pos (starEach es env))) Q E s
  | .nil, s, _, _, _, F, N, h => wpAny_items_nil (h s.heap s.toks [] [] F N (fun _ hp => nomatch hp) .nil)
  | .cons he hs, s, news, pos, Q, F, N, h => wpAny_items_cons (LitE.run he F N fun h1 tk1 own1 v F1 N1 ho1 hd1 => LitAll.run hs F1 N1 fun h2 tk2 own2 vs F2 N2 ho2 hd2 =>
      h h2 tk2 (own2 ++ own1) (v :: vs) F2 (by rw [List.append_assoc]; exact N2) (fun p hp => (List.mem_append.mp hp).elim (ho2 p) (ho1 p))
        (.cons (hd1.mono fun _ hp => by rw [List.append_assoc]; exact List.mem_append_right _ hp) (hd2.mono fun _ hp => by rw [List.append_assoc]; exact (List.mem_append.mp hp).elim (fun q => List.mem_append_left _ q) fun q => List.mem_append_right _ (List.mem_append_right _ q)))) he.star
end
end
end
section
local macro_rules | `(tactic| k_mem) => `(tactic| ((repeat (first | with_reducible exact List.mem_cons_self | with_reducible assumption | with_reducible exact List.mem_append_left _ (by with_reducible assumption) | with_reducible refine' List.mem_cons_of_mem _ ?_ | with_reducible refine' mem_ca ?_ | with_reducible refine' List.mem_append_right _ ?_)); done))
local macro_rules | `(tactic| k_ne) => `(tactic| (refine neN ?_; (try dsimp only); first | exact Nat.ne_of_lt (by assumption) | exact Nat.ne_of_gt (by assumption) | omega))
local macro_rules | `(tactic| k_lt $h) => `(tactic| (replace $h := allLt_of $h; (simp only [AllLt, and_true] at $h:ident); (have q9 := $h); (repeat ((have := And.left q9); (replace q9 := And.right q9))); (replace $h := $h)))
local macro_rules | `(tactic| k_room) => `(tactic| (simp only [depth_under_make, depth_under_kw, depth_in1, depth_deeper, depth_caller, recursionLimit]; omega))
local macro_rules | `(tactic| k_units) => `(tactic| (simp only [units_in1, units_deeper, Around.mark_units, units_caller, cLine_is]; omega))
local macro_rules | `(tactic| k_enter) => `(tactic| first | ((refine' code_def ?k1 ?k2 ?k3 ?k4 ?k5 ?kA ?kF ?kK ?k6 ?k7 ?k8 ?k9 ?kB ?_ ?c2 ?c3 ?c4 ?c5); (case kA => first | exact rfl | with_reducible assumption | exact Around.frames_deeper (by with_reducible assumption) | ((with_reducible rename Around.frames _ = some (_ :: _) => hfr9); first | exact hfr9 | exact Around.frames_deeper hfr9)); (case kF => first | exact rfl | with_reducible assumption); (case kK => first | exact rfl | with_reducible assumption); (case k1 => k_asm); (case k2 => k_asm); (case k3 => k_asm); (case k4 => k_asm); (case k5 => k_asm); (case k6 => k_is); (case k7 => k_is); (case k8 => k_room); (case k9 => first | exact BindsTo.of_eq rfl | exact binds_K (by k_in) rfl (by k_is) rfl rfl rfl); (case c5 => decide); (case kB => exact locs rfl); (case c2 => exact rfl); (case c3 => exact rfl); (case c4 => exact rfl); k_whole; intro g' L' h' FG' F' N' B' X' T'; (try dsimp only); (try k_lift B'); (try k_fold)) | ((refine' code_defC ?k1 ?k2 ?k3 ?k4 ?k5 ?kA ?kF ?kK ?k6 ?k7 ?k8 ?k9 ?kB ?kD ?_ ?c2 ?c3 ?c4); (case kA => first | exact rfl | with_reducible assumption | exact Around.frames_deeper (by with_reducible assumption) | ((with_reducible rename Around.frames _ = some (_ :: _) => hfr9); first | exact hfr9 | exact Around.frames_deeper hfr9)); (case kF => first | exact rfl | with_reducible assumption); (case kK => first | exact rfl | with_reducible assumption); (case k1 => k_asm); (case k2 => k_asm); (case k3 => k_asm); (case k4 => k_asm); (case k5 => k_asm); (case k6 => k_is); (case k7 => k_is); (case k8 => k_room); (case k9 => first | exact BindsTo.of_eq rfl | exact binds_K (by k_in) rfl (by k_is) rfl rfl rfl); (case kB => exact rfl); (case kD => decide +kernel); (case c2 => exact rfl); (case c3 => exact rfl); (case c4 => exact rfl); k_whole; intro g' L' h' tk' cells' FG' F' N' Y' B' X' T' l1; (try k_lt l1); k_cells Y'; (try simp only [List.cons_append, List.nil_append] at N'); (try dsimp only); (try k_lift B'); (try k_fold)))
local macro_rules | `(tactic| walk_at "compareOp In int ref") => `(tactic| (refine' r_in ?N ?m ?i ?_; (case N => k_asm); (case m => k_mem); (case i => assumption)))
local macro_rules | `(tactic| walk_at "getMethod ref") => `(tactic| (k_here; (with_reducible show wpAny _ _ (getMethod (Value.ref _) (PySem.Str.ofString "index") _) _ _ _); k_dflt (refine' kl_method ?N ?m PySem.F.slot_list_index PySem.F.type_list_index ?_; (case N => k_asm); (case m => k_mem))))
local macro_rules | `(tactic| walk_at "getMethod ref") => `(tactic| (k_here; (with_reducible show wpAny _ _ (getMethod (Value.ref _) (PySem.Str.ofString "remove") _) _ _ _); k_dflt (refine' kl_method ?N ?m PySem.F.slot_list_remove PySem.F.type_list_remove ?_; (case N => k_asm); (case m => k_mem))))
local macro_rules | `(tactic| walk_at "getMethod ref") => `(tactic| (k_here; (with_reducible show wpAny _ _ (getMethod (Value.ref _) (PySem.Str.ofString "insert") _) _ _ _); k_dflt (refine' kl_method ?N ?m PySem.F.slot_list_insert PySem.F.type_list_insert ?_; (case N => k_asm); (case m => k_mem))))
local macro_rules | `(tactic| walk_at "call builtin:list.index") => `(tactic| (refine' r_index ?N ?m ?i ?l ?x ?_; (case N => k_asm); (case m => k_mem); (case i => assumption); (case l => assumption); (case x => first | assumption | (simp_all; done))))
local macro_rules | `(tactic| walk_at "call builtin:list.remove") => `(tactic| (refine' r_remove ?F ?N ?o ?i ?l ?x ?_; (case F => k_asm); (case N => k_asm); (case o => assumption); (case i => assumption); (case l => assumption); (case x => first | assumption | (simp_all; done)); k_whole; intro h' vs' n' F' N' hi'))
local macro_rules | `(tactic| walk_at "setItem ref int") => `(tactic| (refine' r_set ?F ?N ?o ?i ?l ?x ?y ?_; (case F => k_asm); (case N => k_asm); (case o => assumption); (case i => assumption); (case l => assumption); (case x => omega); (case y => first | omega | assumption | solve_by_elim); k_whole; intro h' vs' n' F' N' hi'))
local macro_rules | `(tactic| walk_at "call builtin:list.insert") => `(tactic| (refine' r_insert ?F ?N ?o ?i ?l ?x ?y ?_; (case F => k_asm); (case N => k_asm); (case o => assumption); (case i => assumption); (case l => assumption); (case x => first | assumption | omega); (case y => first | assumption | omega); k_whole; intro h' vs' n' F' N' hi'))
local macro_rules | `(tactic| k_all) => `(tactic| with_reducible assumption)
local macro_rules | `(tactic| walk_at "call builtin:list.append") => `(tactic| (k_dflt (refine' r_append ?k1 ?k2 ?k3 ?z ?_; (case k1 => k_asm); (case k2 => k_asm); (case k3 => k_upd); (case z => first | assumption | exact len_le (by assumption) (by assumption)); k_whole); intro h' F' N'; (try k_sweep)))
local macro_rules | `(tactic| k_steps) => `(tactic| repeat' ((fail_if_success (with_reducible first | refine g_iter ?_ | refine g_while ?_ | refine g_lc ?_ | refine g_cs ?_ | refine g_cst ?_ | refine g_alc ?_ | refine g_ce ?_)); first | (k_unfold; (try dsimp only)) | walk1 | (dsimp only; walk1) | fail "no step"))
local macro_rules | `(tactic| walk_at "exec For Name Call cons nil") => `(tactic| (k_here; (rename Fr _ _ _ _ => lF'); (with_unfolding_all refine' For_invVF lF' ?k1 ?k2 ?_; (case k1 => exact rfl); (case k2 => exact rfl); k_whole)))
local macro_rules | `(tactic| walk_at "exec For Name Subscript cons nil") => `(tactic| (k_here; (rename Fr _ _ _ _ => lF'); (with_unfolding_all refine' For_invVF lF' ?k1 ?k2 ?_; (case k1 => exact rfl); (case k2 => exact rfl); k_whole)))
local macro_rules | `(tactic| walk_at "exec For Name Name cons nil") => `(tactic| (k_here; (rename Fr _ _ _ _ => lF'); (with_unfolding_all refine' For_invVF lF' ?k1 ?k2 ?_; (case k1 => exact rfl); (case k2 => exact rfl); k_whole)))
local macro_rules | `(tactic| walk_at "call builtin:len") => `(tactic| ((with_reducible show wpAny _ _ (call (Value.builtin "len") [Value.ref _]) _ _ _); (refine' r_len ?N ?m ?l ?k ?_; (case N => k_asm); (case m => k_mem); (case l => first | assumption | exact IntsAre.length (by assumption) | exact DatAll.length (by assumption) | exact rfl); (case k => first | omega | (simp only [List.length_append, List.length_cons, List.length_nil]; omega)); k_whole); intro t' tk'))
local macro_rules | `(tactic| walk_at "RsPost") => `(tactic| (dsimp only [RsPost]))
local macro_rules | `(tactic| walk_at "subscriptTail") => `(tactic| (k_here; (with_reducible show wpAny _ _ (subscriptTail _ _ (Value.ref _) (Value.int _ _)) _ _ _); k_dflt (refine' r_str ?k1 ?k2 ?k3 ?k4 ?k5 ?k6 ?_ ?k7; (case k1 => k_asm); (case k2 => k_mem); (case k3 => assumption); (case k4 => omega); (case k5 => omega); (case k6 => omega); (case k7 => with_unfolding_all rfl); k_whole); intro _))
local macro_rules | `(tactic| k_same2) => `(tactic| (intro z h1 h2 h3; (simp only [List.contains_cons, List.contains_nil, Bool.or_false, Bool.or_eq_false_iff, beq_eq_false_iff_ne, ne_eq] at h3); (try simp only [List.forall_mem_cons, List.not_mem_nil, false_implies, implies_true, and_true, ne_eq] at h2); simp [h1, h2, h3, kstB]))
local macro_rules | `(tactic| k_same2) => `(tactic| (intro z h1 h2 h3; clear h2 h3; (simp [h1, kstB]; done)))
local macro_rules | `(tactic| k_same2) => `(tactic| (intro z h1 h2 h3; rfl))
local macro_rules | `(tactic| k_sub) => `(tactic| first | (intro p9 hp9; k_mem) | (intro p9 hp9; (rename ∀ p ∈ _, p ∈ _ => hsub9); (have hp8 := hsub9 _ hp9); clear hp9; k_mem) | (intro p9 hp9; (repeat' (rcases List.mem_cons.mp hp9 with hp9 | hp9)) <;> first | (subst hp9; k_mem) | k_mem))
local macro_rules | `(tactic| walk_at "subscriptTail") => `(tactic| (k_here; (with_reducible show wpAny _ _ (subscriptTail _ _ (Value.ref _) (Value.int _ _)) _ _ _); k_dflt (refine' r_item ?k1 ?k2 ?k3 ?k4 ?k5 ?_ ?k7; (case k1 => k_asm); (case k2 => k_mem); (case k3 => assumption); (case k4 => omega); (case k5 => omega); (case k7 => with_unfolding_all rfl); k_whole)))
local macro_rules | `(tactic| walk_at "call builtin:list.pop") => `(tactic| ((with_reducible show wpAny _ _ (call (Value.builtin _) [Value.ref _, Value.int _ _]) _ _ _); (refine' r_popAt ?F ?N ?o ?i ?l ?x ?y ?_; (case F => k_asm); (case N => k_asm); (case o => assumption); (case i => assumption); (case l => assumption); (case x => first | assumption | omega); (case y => first | assumption | omega); k_whole; intro h' vs' n' t' F' N' hi' hl')))
local macro_rules | `(tactic| walk_at "call type:list") => `(tactic| (k_here; (with_reducible show wpAny _ _ (call (Value.type _) [Value.ref _]) _ _ _); (refine' list_copyKT ?k1 ?k2 ?k3 ?_ ?z; (case k1 => k_asm); (case k2 => k_asm); (case k3 => exact News.isTup (by k_asm) (by k_mem)); (case z => rw [sizeLine_eq, List.size_toArray]; omega); k_whole); intro D' c' h' F' N' l1; (try k_lt l1); (try k_sweep)))
local macro_rules | `(tactic| walk_at "call ref") => `(tactic| (k_here; k_dflt (first
  | (refine' call_cls0 ?k1 ?k2 ?k3 ?k4 ?k5 ?_; (case k1 => k_asm); (case k2 => k_asm); (case k3 => k_asm); (case k4 => k_is); (case k5 => k_is); k_whole; intro x' d' h' F' N' l1 l2; (try k_lt l1); (try k_lt2 l2); (try k_sweep))
  | (refine' call_cls ?k1 ?k2 ?k3 ?k4 ?k5 ?k6 ?_; (case k1 => k_asm); (case k2 => k_asm); (case k3 => k_asm); (case k4 => k_is); (case k5 => k_is); (case k6 => k_is); k_whole; intro x' d' h' F' N' l1 l2; (try k_lt l1); (try k_lt2 l2); (try k_sweep); k_enter)
  | (refine wpAny_call ?_; k_enter))))
section
theorem freshC1 : True := by
  w_top off
  trivial
section
variable {w : World} {A A₀ : Around} {E : Value → Shared → Prop} {s : Shared} {L : Addr} {h₀ base : Heap} {m mg mb : Str → Option Value} {news : List (Addr × Obj)} {p : Program} {loose : List Str} {mean : ExcName → Option Value} {env : Env} {outer : List Env}
set_option maxHeartbeats 4000000 in
theorem has_K {r : RA} {T : Addr} {ivs : List Value} {n : Nat} {ns : List Int} {x : Int} {tx : Tok} {Q : Value → Shared → Prop}
    (C : Cx w A₀ A s L h₀ base m mg mb news p loose mean env outer 500) (hR : (r.R, instObj 101 r.dR) ∈ news) (hdR : (r.dR, dictOf (rEs w.params r T) 2) ∈ news) (hiL : (r.iL, PySem.W.listOf ivs.toArray n) ∈ news) (hi : IntsAre ivs ns)
    (hQ : ∀ h' tk, Fr h₀ L h' m → News h₀ L h' news → Q (.bool (decide (x ∈ ns))) {s with heap := h', toks := tk}) :
    wpAny (model PySem.Challenge.rw_nt0595_01.row.prog w) A (call (.ref 70) [.ref r.R, .int x tx]) Q E s := by
  obtain ⟨X₀, B, F, N, TT, hA, hf, hke, hh, hd, hu⟩ := C
  revert X₀
  k_fill
  intro X₀
  refine wpAny_call ?_
  k_enter
  k_steps
  all_goals exact hQ _ _ (by assumption) (by assumption)
end
end
section
theorem freshC2 : True := by
  w_top off
  trivial
section
variable {w : World} {A A₀ : Around} {E : Value → Shared → Prop} {s : Shared} {L : Addr} {h₀ base : Heap} {m mg mb : Str → Option Value} {news rest : List (Addr × Obj)} {p : Program} {loose : List Str} {mean : ExcName → Option Value} {env : Env} {outer : List Env}
set_option maxHeartbeats 4000000 in
theorem place_K {r : RA} {T : Addr} {ivs : List Value} {n : Nat} {ns : List Int} {x : Int} {tx : Tok} {Q : Value → Shared → Prop}
    (C : Cx w A₀ A s L h₀ base m mg mb news p loose mean env outer 500) (hR : (r.R, instObj 101 r.dR) ∈ news) (hdR : (r.dR, dictOf (rEs w.params r T) 2) ∈ news) (hiL : (r.iL, PySem.W.listOf ivs.toArray n) ∈ news) (hi : IntsAre ivs ns) (hl : ns.length ≤ 1000)
    (hQ : x ∈ ns → ∀ h' tk t, Fr h₀ L h' m → News h₀ L h' news → Q (.int (ns.idxOf x : Nat) t) {s with heap := h', toks := tk})
    (hQ' : ¬ x ∈ ns → ∀ h' tk t, Fr h₀ L h' m → News h₀ L h' news → Q (.int (-1) t) {s with heap := h', toks := tk}) :
    wpAny (model PySem.Challenge.rw_nt0595_01.row.prog w) A (call (.ref 77) [.ref r.R, .int x tx]) Q E s := by
  obtain ⟨X₀, B, F, N, TT, hA, hf, hke, hh, hd, hu⟩ := C
  revert X₀
  k_fill
  intro X₀
  refine wpAny_call ?_
  k_enter
  k_steps
  · exact hQ (by assumption) _ _ _ (by assumption) (by assumption)
  · exact hQ' (by assumption) _ _ _ (by assumption) (by assumption)
set_option maxHeartbeats 4000000 in
theorem remove_K {r : RA} {T : Addr} {ivs : List Value} {n : Nat} {ns : List Int} {x : Int} {tx : Tok} {Q : Value → Shared → Prop}
    (C : Cx w A₀ A s L h₀ base m mg mb ((r.iL, PySem.W.listOf ivs.toArray n) :: rest) p loose mean env outer 500) (hR : (r.R, instObj 101 r.dR) ∈ rest) (hdR : (r.dR, dictOf (rEs w.params r T) 2) ∈ rest) (ho : ∀ p ∈ rest, p.1 ≠ r.iL) (hi : IntsAre ivs ns) (hl : ns.length ≤ 1000)
    (hQ : ∀ h' tk vs' n', Fr h₀ L h' m → News h₀ L h' ((r.iL, PySem.W.listOf vs'.toArray n') :: rest) → IntsAre vs' (ns.erase x) → Q .none {s with heap := h', toks := tk}) :
    wpAny (model PySem.Challenge.rw_nt0595_01.row.prog w) A (call (.ref 84) [.ref r.R, .int x tx]) Q E s := by
  obtain ⟨X₀, B, F, N, TT, hA, hf, hke, hh, hd, hu⟩ := C
  revert X₀
  k_fill
  intro X₀
  refine wpAny_call ?_
  k_enter
  k_steps
  · exact hQ _ _ _ _ (by assumption) (by assumption) (by assumption)
  · exact hQ _ _ _ _ (by assumption) (by assumption) (by rw [List.erase_of_not_mem (by assumption)]; assumption)
set_option maxHeartbeats 4000000 in
theorem replace_K {r : RA} {T : Addr} {ivs : List Value} {n : Nat} {ns : List Int} {x y : Int} {tx ty : Tok} {Q : Value → Shared → Prop}
    (C : Cx w A₀ A s L h₀ base m mg mb ((r.iL, PySem.W.listOf ivs.toArray n) :: rest) p loose mean env outer 500) (hR : (r.R, instObj 101 r.dR) ∈ rest) (hdR : (r.dR, dictOf (rEs w.params r T) 2) ∈ rest) (ho : ∀ p ∈ rest, p.1 ≠ r.iL) (hi : IntsAre ivs ns) (hl : ns.length ≤ 1000)
    (hQ : ∀ h' tk vs' n', Fr h₀ L h' m → News h₀ L h' ((r.iL, PySem.W.listOf vs'.toArray n') :: rest) → IntsAre vs' (if x ∈ ns then ns.set (ns.idxOf x) y else ns) → Q .none {s with heap := h', toks := tk}) :
    wpAny (model PySem.Challenge.rw_nt0595_01.row.prog w) A (call (.ref 91) [.ref r.R, .int x tx, .int y ty]) Q E s := by
  obtain ⟨X₀, B, F, N, TT, hA, hf, hke, hh, hd, hu⟩ := C
  revert X₀
  k_fill
  intro X₀
  have hix : x ∈ ns → ((ns.idxOf x : Nat) : Int) < ns.length := fun hx => by have := List.idxOf_lt_length_iff.mpr hx; omega
  refine wpAny_call ?_
  k_enter
  k_steps
  · exact hQ _ _ _ _ (by assumption) (by assumption) (by rw [if_pos (by assumption)]; assumption)
  · exact hQ _ _ _ _ (by assumption) (by assumption) (by rw [if_neg (by assumption)]; assumption)
set_option maxHeartbeats 4000000 in
theorem put_K {r : RA} {T : Addr} {ivs : List Value} {n : Nat} {ns : List Int} {k y : Int} {tk ty : Tok} {Q : Value → Shared → Prop}
    (C : Cx w A₀ A s L h₀ base m mg mb ((r.iL, PySem.W.listOf ivs.toArray n) :: rest) p loose mean env outer 500) (hR : (r.R, instObj 101 r.dR) ∈ rest) (hdR : (r.dR, dictOf (rEs w.params r T) 2) ∈ rest) (ho : ∀ p ∈ rest, p.1 ≠ r.iL) (hi : IntsAre ivs ns) (hl : ns.length ≤ 1000)
    (hk0 : 0 ≤ k) (hk1 : k ≤ ns.length)
    (hQ : ∀ h' tk vs' n', Fr h₀ L h' m → News h₀ L h' ((r.iL, PySem.W.listOf vs'.toArray n') :: rest) → IntsAre vs' (ns.take k.toNat ++ y :: ns.drop k.toNat) → Q .none {s with heap := h', toks := tk}) :
    wpAny (model PySem.Challenge.rw_nt0595_01.row.prog w) A (call (.ref 98) [.ref r.R, .int k tk, .int y ty]) Q E s := by
  obtain ⟨X₀, B, F, N, TT, hA, hf, hke, hh, hd, hu⟩ := C
  revert X₀
  k_fill
  intro X₀
  refine wpAny_call ?_
  k_enter
  k_steps
  exact hQ _ _ _ _ (by assumption) (by assumption) (by assumption)
set_option maxHeartbeats 4000000 in
theorem mark_K {r : RA} {T : Addr} {ivs : List Value} {n : Nat} {ns : List Int} {Q : Value → Shared → Prop}
    (C : Cx w A₀ A s L h₀ base m mg mb ((r.iL, PySem.W.listOf ivs.toArray n) :: rest) p loose mean env outer 500) (hR : (r.R, instObj 101 r.dR) ∈ rest) (hdR : (r.dR, dictOf (rEs w.params r T) 2) ∈ rest) (ho : ∀ p ∈ rest, p.1 ≠ r.iL) (hi : IntsAre ivs ns) (hl : ns.length ≤ 1000)
    (hQ : ∀ h' tk vs' n', Fr h₀ L h' m → News h₀ L h' ((r.iL, PySem.W.listOf vs'.toArray n') :: rest) → IntsAre vs' (ns ++ [-1]) → Q .none {s with heap := h', toks := tk}) :
    wpAny (model PySem.Challenge.rw_nt0595_01.row.prog w) A (call (.ref 49) [.ref r.R]) Q E s := by
  obtain ⟨X₀, B, F, N, TT, hA, hf, hke, hh, hd, hu⟩ := C
  revert X₀
  k_fill
  intro X₀
  refine wpAny_call ?_
  k_enter
  k_steps
  exact hQ _ _ _ _ (by assumption) (by assumption) (hi.append (.cons _ _ .nil))
end
end
section
theorem freshC3 : True := by
  w_top off
  trivial
section
variable {w : World} {A A₀ : Around} {E : Value → Shared → Prop} {s : Shared} {L : Addr} {h₀ base : Heap} {m mg mb : Str → Option Value} {news rest : List (Addr × Obj)} {p : Program} {loose : List Str} {mean : ExcName → Option Value} {env : Env} {outer : List Env}
noncomputable def findR (nms : List Str) (nm : Str) : List Int → Int
  | [] => -1
  | n :: r => if n = -1 then -1 else if nms.getD n.toNat Str.empty = nm then n else findR nms nm r
set_option maxHeartbeats 4000000 in
theorem find_K {r : RA} {ta : TA} {ivs nvs : List Value} {n nn : Nat} {ns : List Int} {nms : List Str} {nm : Str} {tx : Tok} {Q : Value → Shared → Prop}
    (C : Cx w A₀ A s L h₀ base m mg mb news p loose mean env outer 500) (hR : (r.R, instObj 101 r.dR) ∈ news) (hdR : (r.dR, dictOf (rEs w.params r ta.T) 2) ∈ news) (hiL : (r.iL, PySem.W.listOf ivs.toArray n) ∈ news) (hi : IntsAre ivs ns) (hl : ns.length ≤ 1000)
    (hT : (ta.T, instObj 257 ta.dT) ∈ news) (hdT : (ta.dT, dictOf (tEs w.params ta) 8) ∈ news) (hnL : (ta.nL, PySem.W.listOf nvs.toArray nn) ∈ news) (hs : StrsAt nvs nms) (hnl : nms.length ≤ 1000)
    (hns : ∀ x ∈ ns, x = -1 ∨ (0 ≤ x ∧ x < nms.length))
    (hQ : ∀ h' tk t, Fr h₀ L h' m → News h₀ L h' news → Q (.int (findR nms nm ns.reverse) t) {s with heap := h', toks := tk}) :
    wpAny (model PySem.Challenge.rw_nt0595_01.row.prog w) A (call (.ref 63) [.ref r.R, .str nm tx]) Q E s := by
  obtain ⟨X₀, B, F, N, TT, hA, hf, hke, hh, hd, hu⟩ := C
  revert X₀
  k_fill
  intro X₀
  refine wpAny_call ?_
  k_enter
  k_steps
  refine rs_range (σ := Unit) (n := ns.length) (fun _ => news) (fun _ => []) [Str.ofString "node"] (fun i _ => findR nms nm (ns.reverse.drop i) = findR nms nm ns.reverse) () rfl hh (by assumption) ?_ ?_ (by assumption) (by assumption) (fun _ h => h) (fun _ h => nomatch h) rfl ?_ ?_
  · exact small_down (by omega) (by omega) (by omega) (by omega)
  · rw [rangeSize_downNat]; omega
  · intro i t c₁ u h tk own hi' hoff hP F₁ N₁
    dsimp only at hP F₁ N₁
    have hr := rev_drop hi'
    have hx := hns _ (getD_mem' (ns := ns) (k := ((ns.length : Int) - 1 + i * (-1)).toNat) (by omega))
    rw [hr, findR] at hP
    k_steps
    · rw [if_pos (by assumption)] at hP
      rw [← hP] at hQ
      exact hQ _ _ _ (by assumption) (newsSub (by assumption) (by k_sub))
    · rw [if_neg (by assumption), if_pos (beq_iff_eq.mp (by assumption))] at hP
      rw [← hP] at hQ
      exact hQ _ _ _ (by assumption) (newsSub (by assumption) (by k_sub))
    · rw [if_neg (by assumption), if_neg (ne_of_beq_false (by assumption))] at hP
      exact RsEnd.intro () (by assumption) (by assumption) (by k_sub) (by k_sub) hoff (fun _ h => nomatch h) (by k_same2) hP
  · intro c₁ u h tk hP F₁ N₁
    dsimp only at hP F₁ N₁
    rw [List.drop_of_length_le (by simp)] at hP
    k_steps
    rw [findR] at hP
    rw [← hP] at hQ
    exact hQ _ _ _ (by assumption) (by assumption)
noncomputable def clearR : List Int → List Int
  | [] => []
  | n :: r => if n = -1 then r else clearR r
theorem clr_step {ns : List Int} (h : 0 < ns.length) : clearR ns.reverse = if ns.getLastD 0 = -1 then ns.dropLast.reverse else clearR ns.dropLast.reverse := by
  have hne : ns ≠ [] := fun e => by rw [e] at h; exact absurd h (Nat.lt_irrefl _)
  have e : ns = ns.dropLast ++ [ns.getLastD 0] := by
    have e1 := List.dropLast_concat_getLast hne
    have e2 : ns.getLastD 0 = ns.getLast hne := by simp [List.getLastD_eq_getLast?, List.getLast?_eq_some_getLast hne]
    rw [e2]; exact e1.symm
  have e3 : ns.reverse = ns.getLastD 0 :: ns.dropLast.reverse := by
    conv => lhs; rw [e]
    rw [List.reverse_append]; rfl
  rw [e3, clearR]
set_option maxHeartbeats 4000000 in
theorem clear_K {r : RA} {T : Addr} {ivs : List Value} {n : Nat} {ns : List Int} {Q : Value → Shared → Prop}
    (C : Cx w A₀ A s L h₀ base m mg mb ((r.iL, PySem.W.listOf ivs.toArray n) :: rest) p loose mean env outer 500) (hR : (r.R, instObj 101 r.dR) ∈ rest) (hdR : (r.dR, dictOf (rEs w.params r T) 2) ∈ rest) (ho : ∀ p ∈ rest, p.1 ≠ r.iL) (hi : IntsAre ivs ns) (hl : ns.length ≤ 1000)
    (hQ : ∀ h' tk vs' n', Fr h₀ L h' m → News h₀ L h' ((r.iL, PySem.W.listOf vs'.toArray n') :: rest) → IntsAre vs' (clearR ns.reverse).reverse → Q .none {s with heap := h', toks := tk}) :
    wpAny (model PySem.Challenge.rw_nt0595_01.row.prog w) A (call (.ref 56) [.ref r.R]) Q E s := by
  obtain ⟨X₀, B, F, N, TT, hA, hf, hke, hh, hd, hu⟩ := C
  revert X₀
  k_fill
  intro X₀
  refine wpAny_call ?_
  k_enter
  k_steps
  (rename Fr _ _ _ _ => F')
  (rename News _ _ _ _ => N')
  refine While_inv2 (fun k m nx => ∃ ivs' j ns', nx = (r.iL, PySem.W.listOf ivs'.toArray j) :: rest ∧ IntsAre ivs' ns' ∧ ns'.length = k ∧ ns'.length ≤ 1000 ∧ clearR ns'.reverse = clearR ns.reverse ∧ m = _) F' N' ⟨ivs, n, ns, rfl, hi, rfl, hl, rfl, rfl⟩ ?_
  rintro k m₁ nx h tk F₁ N₁ ⟨ivs', j, ns', rfl, hi', rfl, hl', hc, rfl⟩
  have hlen := hi'.length
  k_steps
  · dsimp only [WhileStep2]
    k_steps
    rw [clr_step (by omega), if_pos (by assumption)] at hc
    exact hQ _ _ _ _ (by assumption) (by assumption) (by rw [← hc, List.reverse_reverse]; assumption)
  · rw [clr_step (by omega), if_neg (by assumption)] at hc
    exact ⟨_, _, _, _, (ns'.dropLast).length, rfl, by assumption, by assumption, by rw [List.length_dropLast]; omega, _, _, _, rfl, by assumption, rfl, by rw [List.length_dropLast]; omega, hc, rfl⟩
  · have e : ns' = [] := List.length_eq_zero_iff.mp (by omega)
    rw [e] at hc hi'
    rw [← hc] at hQ
    exact hQ _ _ _ _ (by assumption) (by assumption) hi'
end
end
section
theorem freshC4 : True := by
  w_top off
  trivial
section
variable {w : World} {A A₀ : Around} {E : Value → Shared → Prop} {s : Shared} {L : Addr} {h₀ base : Heap} {m mg mb : Str → Option Value} {news rest cst : List (Addr × Obj)} {p : Program} {loose : List Str} {mean : ExcName → Option Value} {env : Env} {outer : List Env}
set_option maxHeartbeats 4000000 in
theorem value_K {ta : TA} {avs : List Value} {as : List (List (Str × Str))} {an : Nat} {k : Int} {tk : Tok} {nm : Str} {tn : Tok} {Q : Value → Shared → Prop}
    (C : Cx w A₀ A s L h₀ base m mg mb news p loose mean env outer 700) (hsub : ∀ p ∈ cst, p ∈ news)
    (hT : (ta.T, instObj 257 ta.dT) ∈ news) (hdT : (ta.dT, dictOf (tEs w.params ta) 8) ∈ news) (haL : (ta.aL, PySem.W.listOf avs.toArray an) ∈ news) (has : DatAll cst avs (as.map attrD)) (hal : as.length ≤ 1000) (h0 : 0 ≤ k) (h1 : k < as.length)
    (hQ : ∀ h' tk b t, valR nm (as.getD k.toNat []) = some b → Fr h₀ L h' m → News h₀ L h' news → Q (.str b t) {s with heap := h', toks := tk})
    (hQ' : ∀ h' tk, valR nm (as.getD k.toNat []) = none → Fr h₀ L h' m → News h₀ L h' news → Q .none {s with heap := h', toks := tk}) :
    wpAny (model PySem.Challenge.rw_nt0595_01.row.prog w) A (call (.ref 247) [.ref ta.T, .int k tk, .str nm tn]) Q E s := by
  obtain ⟨X₀, B, F, N, TT, hA, hf, hke, hh, hd, hu⟩ := C
  revert X₀
  k_fill
  intro X₀
  obtain ⟨al, pvs, n, hav, hm, hall, hpl⟩ := attr_at has h0 h1
  have hm' := hsub _ hm
  refine wpAny_call ?_
  k_enter
  k_steps
  refine rs_list (σ := Unit) (fun _ => news) (fun _ => []) [] (fun i _ => valR nm ((as.getD k.toNat []).drop i) = valR nm (as.getD k.toNat [])) () rfl hh (fun _ => hm') (by assumption) (by assumption) (fun _ h => h) (fun _ h => nomatch h) rfl ?_ ?_
  · intro i v c₁ u h tk own hi' hoff hP F₁ N₁
    dsimp only at hP F₁ N₁
    obtain ⟨x, y, at', t1, t2, n2, hps, rfl, hpt⟩ := pair_at hall hi'
    have hpt' := hsub _ hpt
    have hlt := (List.getElem?_eq_some_iff.mp hps).1
    rw [List.drop_eq_getElem_cons hlt, (List.getElem?_eq_some_iff.mp hps).2, valR] at hP
    dsimp only at hP
    k_steps
    · rw [if_pos (beq_iff_eq.mp (by assumption))] at hP
      exact hQ _ _ _ _ hP.symm (by assumption) (newsSub (by assumption) (by k_sub))
    · rw [if_neg (ne_of_beq_false (by assumption))] at hP
      exact RsEnd.intro () (by assumption) (by assumption) (by k_sub) (by k_sub) hoff (fun _ h => nomatch h) (by k_same2) hP
  · intro c₁ u h tk hP F₁ N₁
    dsimp only at hP F₁ N₁
    rw [List.drop_of_length_le (by omega)] at hP
    k_steps
    exact hQ' _ _ hP.symm (by assumption) (by assumption)
end
end
section
theorem freshC7 : True := by
  w_top off
  trivial
section
variable {w : World} {A A₀ : Around} {E : Value → Shared → Prop} {s : Shared} {L : Addr} {h₀ base : Heap} {m mg mb : Str → Option Value} {news rest cst : List (Addr × Obj)} {p : Program} {loose : List Str} {mean : ExcName → Option Value} {env : Env} {outer : List Env}
structure Ord7 (ta : TA) : Prop where
  a : @LT.lt Nat _ ta.kL ta.sL
  b : @LT.lt Nat _ ta.sL ta.nL
  c : @LT.lt Nat _ ta.nL ta.aL
  d : @LT.lt Nat _ ta.aL ta.xL
  e : @LT.lt Nat _ ta.xL ta.pL
  f : @LT.lt Nat _ ta.pL ta.cL
structure Off7 (ta : TA) (rest : List (Addr × Obj)) : Prop where
  a : ∀ p ∈ rest, p.1 ≠ ta.kL
  b : ∀ p ∈ rest, p.1 ≠ ta.sL
  c : ∀ p ∈ rest, p.1 ≠ ta.nL
  d : ∀ p ∈ rest, p.1 ≠ ta.aL
  e : ∀ p ∈ rest, p.1 ≠ ta.xL
  f : ∀ p ∈ rest, p.1 ≠ ta.pL
  g : ∀ p ∈ rest, p.1 ≠ ta.cL
noncomputable abbrev led7 (ta : TA) (kvs svs nvs avs xvs pvs cvs : List Value) (k0 k1 k2 k3 k4 k5 k6 : Nat) : List (Addr × Obj) :=
  [(ta.kL, PySem.W.listOf kvs.toArray k0), (ta.sL, PySem.W.listOf svs.toArray k1), (ta.nL, PySem.W.listOf nvs.toArray k2), (ta.aL, PySem.W.listOf avs.toArray k3), (ta.xL, PySem.W.listOf xvs.toArray k4), (ta.pL, PySem.W.listOf pvs.toArray k5), (ta.cL, PySem.W.listOf cvs.toArray k6)]
set_option maxHeartbeats 4000000 in
theorem element_K {ta : TA} {kvs svs nvs avs xvs pvs cvs its : List Value} {k0 k1 k2 k3 k4 k5 k6 : Nat} {nm sp : Str} {t1 t2 : Tok} {at' : Addr} {tn : Nat} {Q : Value → Shared → Prop}
    (C : Cx w A₀ A s L h₀ base m mg mb (led7 ta kvs svs nvs avs xvs pvs cvs k0 k1 k2 k3 k4 k5 k6 ++ rest) p loose mean env outer 500) (ho : Off7 ta rest) (hd : Ord7 ta)
    (hT : (ta.T, instObj 257 ta.dT) ∈ rest) (hdT : (ta.dT, dictOf (tEs w.params ta) 8) ∈ rest) (hat : (at', ({ cls := .type "tuple", data := .seq its.toArray tn } : Obj)) ∈ rest) (hits : its.length ≤ 1000)
    (h1 : kvs.length ≤ 1000) (h2 : svs.length ≤ 1000) (h3 : nvs.length ≤ 1000) (h4 : avs.length ≤ 1000) (h5 : xvs.length ≤ 1000) (h6 : pvs.length ≤ 1000) (h7 : cvs.length ≤ 1000) (hnt : (nm == Str.ofString "template") = false)
    (hQ : ∀ h' tk i ti tt ta1 ta2 al cl ac j0 j1 j2 j3 j4 j5 j6, i = (kvs.length : Int) → @LT.lt Nat _ ta.cL al → @LT.lt Nat _ al cl → AllLt al rest → AllLt cl rest → Fr h₀ L h' m →
      News h₀ L h' (led7 ta (kvs ++ [.str (Str.ofString "element") ta1]) (svs ++ [.str sp t2]) (nvs ++ [.str nm t1]) (avs ++ [.ref al]) (xvs ++ [tt]) (pvs ++ [.int (-1) ta2]) (cvs ++ [.ref cl]) j0 j1 j2 j3 j4 j5 j6 ++ ((al, PySem.W.listOf its.toArray ac) :: (cl, PySem.W.listOf #[] 0) :: rest)) → Q (.int i ti) {s with heap := h', toks := tk}) :
    wpAny (model PySem.Challenge.rw_nt0595_01.row.prog w) A (call (.ref 176) [.ref ta.T, .str nm t1, .str sp t2, .ref at']) Q E s := by
  obtain ⟨X₀, B, F, N, TT, hA, hf, hke, hh, hd, hu⟩ := C
  revert X₀
  k_fill
  intro X₀
  obtain ⟨o1, o2, o3, o4, o5, o6, o7⟩ := ho
  obtain ⟨d1, d2, d3, d4, d5, d6⟩ := ‹Ord7 ta›
  have g1 : kvs.length ≤ 2000 := by omega
  have g2 : svs.length ≤ 2000 := by omega
  have g3 : nvs.length ≤ 2000 := by omega
  have g4 : avs.length ≤ 2000 := by omega
  have g5 : xvs.length ≤ 2000 := by omega
  have g6 : pvs.length ≤ 2000 := by omega
  have g7 : cvs.length ≤ 2000 := by omega
  rw [List.cons_append, List.cons_append, List.cons_append, List.cons_append, List.cons_append, List.cons_append, List.cons_append, List.nil_append] at N
  refine wpAny_call ?_
  k_enter
  k_steps
  all_goals
    (rename AllLt _ rest => q2)
    revert q2
    (rename AllLt _ rest => q1)
    intro q2
    refine' hQ _ _ _ _ _ _ _ _ _ _ _ _ _ _ _ _ _ ?qa (by assumption) (by assumption) q1 q2 (by assumption) (newsSub (by assumption) ?qb)
    (case qb =>
      simp only [List.cons_append, List.nil_append, List.forall_mem_cons]
      refine ⟨by k_mem, by k_mem, by k_mem, by k_mem, by k_mem, by k_mem, by k_mem, by k_mem, by k_mem, fun p hp => by k_mem⟩)
    (case qa => simp)
end
end
section
local macro_rules | `(tactic| walk_at "call ref") => `(tactic| ((with_reducible show wpAny _ _ (call (Value.ref 247) _ _) _ _ _); refine' value_K ⟨?X, ?B, ?F, ?N, ?T, ?f1, ?f2, ?f3, ?hh, ?d, ?u⟩ ?s ?t ?dt ?al ?as ?l1 ?l2 ?l3 ?_ ?_; (case F => k_asm); (case N => k_asm); (case B => k_asm); (case X => k_in); (case T => k_asm); (case f1 => exact Around.frames_deeper (by assumption)); (case f2 => first | exact rfl | with_unfolding_all exact rfl); (case f3 => first | exact rfl | with_unfolding_all exact rfl); (case hh => first | assumption | with_unfolding_all assumption); (case d => (simp only [depth_deeper]; omega)); (case u => (simp only [units_deeper]; omega)); (case t => k_mem); (case dt => k_mem); (case al => k_mem); (case as => assumption); (case s => first | assumption | k_sub); (case l1 => assumption); (case l2 => assumption); (case l3 => assumption); k_whole))
section
theorem freshC5 : True := by
  w_top off
  trivial
section
variable {w : World} {A A₀ : Around} {E : Value → Shared → Prop} {s : Shared} {L : Addr} {h₀ base : Heap} {m mg mb : Str → Option Value} {news rest cst : List (Addr × Obj)} {p : Program} {loose : List Str} {mean : ExcName → Option Value} {env : Env} {outer : List Env}
set_option maxHeartbeats 4000000 in
theorem alike_K {ta : TA} {avs nvs svs : List Value} {as : List (List (Str × Str))} {nms sps : List Str} {an nn sn : Nat} {a b : Int} {t1 t2 : Tok} {Q : Value → Shared → Prop}
    (C : Cx w A₀ A s L h₀ base m mg mb news p loose mean env outer 600) (hsub : ∀ p ∈ cst, p ∈ news)
    (hT : (ta.T, instObj 257 ta.dT) ∈ news) (hdT : (ta.dT, dictOf (tEs w.params ta) 8) ∈ news) (haL : (ta.aL, PySem.W.listOf avs.toArray an) ∈ news) (has : DatAll cst avs (as.map attrD)) (hal : as.length ≤ 1000)
    (hnL : (ta.nL, PySem.W.listOf nvs.toArray nn) ∈ news) (hns : StrsAt nvs nms) (hsL : (ta.sL, PySem.W.listOf svs.toArray sn) ∈ news) (hss : StrsAt svs sps) (hnl : nms.length = as.length) (hsl : sps.length = as.length)
    (ha0 : 0 ≤ a) (ha1 : a < as.length) (hb0 : 0 ≤ b) (hb1 : b < as.length) (hsm : ∀ x ∈ as, x.length ≤ 1000)
    (hQ : ∀ h' tk, Fr h₀ L h' m → News h₀ L h' news → Q (.bool (alikeB (nms.getD a.toNat Str.empty) (sps.getD a.toNat Str.empty) (as.getD a.toNat []) (nms.getD b.toNat Str.empty) (sps.getD b.toNat Str.empty) (as.getD b.toNat []))) {s with heap := h', toks := tk}) :
    wpAny (model PySem.Challenge.rw_nt0595_01.row.prog w) A (call (.ref 112) [.ref ta.T, .int a t1, .int b t2]) Q E s := by
  obtain ⟨X₀, B, F, N, TT, hA, hf, hke, hh, hd, hu⟩ := C
  revert X₀
  k_fill
  intro X₀
  obtain ⟨al, pvs, n, hav, hm, hall, hpl⟩ := attr_at has ha0 ha1
  have hm' := hsub _ hm
  obtain ⟨bl, qvs, n', hbv, hbm, hball, hbl⟩ := attr_at has hb0 hb1
  have hbm' := hsub _ hbm
  have hx1 : (as.getD a.toNat []).length ≤ 1000 := hsm _ (by have : a.toNat < as.length := by omega
                                                             simp [List.getD, this])
  have hx2 : (as.getD b.toNat []).length ≤ 1000 := hsm _ (by have : b.toNat < as.length := by omega
                                                             simp [List.getD, this])
  refine wpAny_call ?_
  k_enter
  k_steps
  · have e : alikeB (nms.getD a.toNat Str.empty) (sps.getD a.toNat Str.empty) (as.getD a.toNat []) (nms.getD b.toNat Str.empty) (sps.getD b.toNat Str.empty) (as.getD b.toNat []) = false := by
      unfold alikeB; simp_all
    rw [e] at hQ
    exact hQ _ _ (by assumption) (by assumption)
  · have e : alikeB (nms.getD a.toNat Str.empty) (sps.getD a.toNat Str.empty) (as.getD a.toNat []) (nms.getD b.toNat Str.empty) (sps.getD b.toNat Str.empty) (as.getD b.toNat []) = false := by
      unfold alikeB; simp_all
    rw [e] at hQ
    exact hQ _ _ (by assumption) (by assumption)
  · have hne : ((as.getD a.toNat []).length == (as.getD b.toNat []).length) = false := by
      rw [beq_eq_false_iff_ne]; omega
    have e : alikeB (nms.getD a.toNat Str.empty) (sps.getD a.toNat Str.empty) (as.getD a.toNat []) (nms.getD b.toNat Str.empty) (sps.getD b.toNat Str.empty) (as.getD b.toNat []) = false := by
      unfold alikeB; rw [hne]; simp
    rw [e] at hQ
    exact hQ _ _ (by assumption) (by assumption)
  have e : alikeB (nms.getD a.toNat Str.empty) (sps.getD a.toNat Str.empty) (as.getD a.toNat []) (nms.getD b.toNat Str.empty) (sps.getD b.toNat Str.empty) (as.getD b.toNat []) = (as.getD a.toNat []).all (fun p => valR p.1 (as.getD b.toNat []) == some p.2) := by
    have h1 : (nms.getD a.toNat Str.empty == nms.getD b.toNat Str.empty) = true := by
      rename (nms.getD a.toNat Str.empty != nms.getD b.toNat Str.empty) = false => q; simpa using q
    have h2 : (sps.getD a.toNat Str.empty == sps.getD b.toNat Str.empty) = true := by
      rename (sps.getD a.toNat Str.empty != sps.getD b.toNat Str.empty) = false => q; simpa using q
    have h3 : ((as.getD a.toNat []).length == (as.getD b.toNat []).length) = true := by
      rw [beq_iff_eq]; omega
    unfold alikeB; rw [h1, h2, h3]; rfl
  rw [e] at hQ
  refine rs_list (σ := Unit) (fun _ => news) (fun _ => []) [] (fun i _ => ((as.getD a.toNat []).drop i).all (fun p => valR p.1 (as.getD b.toNat []) == some p.2) = (as.getD a.toNat []).all (fun p => valR p.1 (as.getD b.toNat []) == some p.2)) () rfl hh (fun _ => hm') (by assumption) (by assumption) (fun _ h => h) (fun _ h => nomatch h) rfl ?_ ?_
  · intro i v c₁ u h tk own hi' hoff hP F₁ N₁
    dsimp only at hP F₁ N₁
    obtain ⟨x, y, at', t1, t2, n2, hps, rfl, hpt⟩ := pair_at hall hi'
    have hpt' := hsub _ hpt
    have hlt := (List.getElem?_eq_some_iff.mp hps).1
    rw [List.drop_eq_getElem_cons hlt, (List.getElem?_eq_some_iff.mp hps).2, List.all_cons] at hP
    dsimp only at hP
    k_steps
    · rename valR x _ = some _ => hv
      rename (_ != y) = true => hy
      have e3 : (valR x (as.getD b.toNat []) == some y) = false := by
        rw [hv]; simpa using hy
      rw [e3, Bool.false_and] at hP
      rw [← hP] at hQ
      exact hQ _ _ (by assumption) (newsSub (by assumption) (by k_sub))
    · rename valR x _ = some _ => hv
      rename (_ != y) = false => hy
      have e3 : (valR x (as.getD b.toNat []) == some y) = true := by
        rw [hv]; simpa using hy
      rw [e3, Bool.true_and] at hP
      exact RsEnd.intro () (by assumption) (by assumption) (by k_sub) (by k_sub) hoff (fun _ h => nomatch h) (by k_same2) hP
    · rename valR x _ = none => hv
      have e3 : (valR x (as.getD b.toNat []) == some y) = false := by
        rw [hv]; rfl
      rw [e3, Bool.false_and] at hP
      rw [← hP] at hQ
      exact hQ _ _ (by assumption) (newsSub (by assumption) (by k_sub))
  · intro c₁ u h tk hP F₁ N₁
    dsimp only at hP F₁ N₁
    rw [List.drop_of_length_le (by omega), List.all_nil] at hP
    rw [← hP] at hQ
    k_steps
    exact hQ _ _ (by assumption) (by assumption)
end
end
section
local macro_rules | `(tactic| walk_at "call ref") => `(tactic| ((with_reducible show wpAny _ _ (call (Value.ref 112) _ _) _ _ _); refine' alike_K ⟨?X, ?B, ?F, ?N, ?T, ?f1, ?f2, ?f3, ?hh, ?d, ?u⟩ ?s ?t ?dt ?al ?as ?l1 ?nl ?ns ?sl ?ss ?e1 ?e2 ?a0 ?a1 ?b0 ?b1 ?sm ?_; (case F => k_asm); (case N => k_asm); (case B => k_asm); (case X => k_in); (case T => k_asm); (case f1 => exact Around.frames_deeper (by assumption)); (case f2 => first | exact rfl | with_unfolding_all exact rfl); (case f3 => first | exact rfl | with_unfolding_all exact rfl); (case hh => first | assumption | with_unfolding_all assumption); (case d => (simp only [depth_deeper]; omega)); (case u => (simp only [units_deeper]; omega)); (case t => k_mem); (case dt => k_mem); (case al => k_mem); (case nl => k_mem); (case sl => k_mem); (case as => assumption); (case s => first | assumption | k_sub); (case l1 => assumption); (case ns => assumption); (case ss => assumption); (case e1 => assumption); (case e2 => assumption); (case a0 => omega); (case a1 => omega); (case b0 => omega); (case b1 => omega); (case sm => assumption); k_whole; intro h' tk' F' N'))
section
theorem freshC6 : True := by
  w_top off
  trivial
section
variable {w : World} {A A₀ : Around} {E : Value → Shared → Prop} {s : Shared} {L : Addr} {h₀ base : Heap} {m mg mb : Str → Option Value} {news rest cst : List (Addr × Obj)} {p : Program} {loose : List Str} {mean : ExcName → Option Value} {env : Env} {outer : List Env}
set_option maxHeartbeats 4000000 in
theorem push_K {r : RA} {ta : TA} {ivs avs nvs svs : List Value} {n an nn sn : Nat} {ns : List Int} {as : List (List (Str × Str))} {nms sps : List Str} {x : Int} {tx : Tok} {Q : Value → Shared → Prop}
    (C : Cx w A₀ A s L h₀ base m mg mb ((r.iL, PySem.W.listOf ivs.toArray n) :: rest) p loose mean env outer 500) (hR : (r.R, instObj 101 r.dR) ∈ rest) (hdR : (r.dR, dictOf (rEs w.params r ta.T) 2) ∈ rest) (ho : ∀ p ∈ rest, p.1 ≠ r.iL) (hi : IntsAre ivs ns) (hl : ns.length ≤ 900)
    (hsub : ∀ p ∈ cst, p ∈ rest) (hT : (ta.T, instObj 257 ta.dT) ∈ rest) (hdT : (ta.dT, dictOf (tEs w.params ta) 8) ∈ rest) (haL : (ta.aL, PySem.W.listOf avs.toArray an) ∈ rest) (has : DatAll cst avs (as.map attrD)) (hal : as.length ≤ 1000)
    (hnL : (ta.nL, PySem.W.listOf nvs.toArray nn) ∈ rest) (hns : StrsAt nvs nms) (hsL : (ta.sL, PySem.W.listOf svs.toArray sn) ∈ rest) (hss : StrsAt svs sps) (hnl : nms.length = as.length) (hsl : sps.length = as.length)
    (hx0 : 0 ≤ x) (hx1 : x < as.length) (hsm : ∀ x ∈ as, x.length ≤ 1000) (hin : ∀ y ∈ ns, y = -1 ∨ (0 ≤ y ∧ y < as.length))
    (al : Int → Bool) (hal' : ∀ y, al y = alikeB (nms.getD y.toNat Str.empty) (sps.getD y.toNat Str.empty) (as.getD y.toNat []) (nms.getD x.toNat Str.empty) (sps.getD x.toNat Str.empty) (as.getD x.toNat []))
    (hQ : ∀ h' tk vs' n', Fr h₀ L h' m → News h₀ L h' ((r.iL, PySem.W.listOf vs'.toArray n') :: rest) → IntsAre vs' ((if (scanR al 0 (-1) ns.reverse).1 ≥ 3 then ns.eraseIdx (scanR al 0 (-1) ns.reverse).2.toNat else ns) ++ [x]) → Q .none {s with heap := h', toks := tk}) :
    wpAny (model PySem.Challenge.rw_nt0595_01.row.prog w) A (call (.ref 42) [.ref r.R, .int x tx]) Q E s := by
  obtain ⟨X₀, B, F, N, TT, hA, hf, hke, hh, hd, hu⟩ := C
  revert X₀
  k_fill
  intro X₀
  have hl' : ns.length ≤ 1000 := by omega
  refine wpAny_call ?_
  k_enter
  k_steps
  refine rs_range (σ := Int × Tok × Int × Tok) (n := ns.length) (fun _ => (r.iL, PySem.W.listOf ivs.toArray n) :: rest) (fun c => [(Str.ofString "count", .int c.1 c.2.1), (Str.ofString "earliest", .int c.2.2.1 c.2.2.2)]) [] (fun i c => scanR al c.1 c.2.2.1 (ns.reverse.drop i) = scanR al 0 (-1) ns.reverse ∧ 0 ≤ c.1 ∧ c.1 ≤ i ∧ -1 ≤ c.2.2.1 ∧ c.2.2.1 < ns.length ∧ (0 < c.1 → 0 ≤ c.2.2.1)) (0, _, -1, _) rfl hh (by assumption) ?_ ?_ (by assumption) (by assumption) (fun _ h => h) (by intro p hp; rcases List.mem_cons.mp hp with rfl | hp; rfl; rcases List.mem_cons.mp hp with rfl | hp; rfl; cases hp) ⟨rfl, by simp, by simp, by simp, by simp; omega, by simp⟩ ?_ ?_
  · exact small_down (by omega) (by omega) (by omega) (by omega)
  · rw [rangeSize_downNat]; omega
  · rintro i t ⟨c, tc, e, te⟩ u h tk own hi' hoff ⟨hP, hc0, hc1, he0, he1, hce⟩ F₁ N₁
    dsimp only at hP hc0 hc1 he0 he1 hce F₁ N₁
    have hr := rev_drop hi'
    have hy := hin _ (getD_mem' (ns := ns) (k := ((ns.length : Int) - 1 + i * (-1)).toNat) (by omega))
    have ho2 : ∀ p ∈ rest ++ own, p.1 ≠ r.iL := by
      intro p hp
      rcases List.mem_append.mp hp with hp | hp
      · exact ho p hp
      · exact hoff p hp _ (by simp)
    rw [List.cons_append] at N₁
    rw [hr, scanR] at hP
    have hlen : ((ns.reverse.drop (i + 1)).length : Int) = (ns.length : Int) - 1 + i * (-1) := by
      rw [List.length_drop, List.length_reverse]; omega
    k_steps
    · rw [if_pos (by assumption)] at hP
      rw [← hP] at hQ
      dsimp only at hQ
      rw [if_pos (by assumption)] at hQ
      exact hQ _ _ _ _ (by assumption) (newsSub (by assumption) (by k_sub)) (IntsAre.append (by assumption) (.cons _ _ .nil))
    · rw [if_pos (by assumption)] at hP
      rw [← hP] at hQ
      dsimp only at hQ
      rw [if_neg (by assumption)] at hQ
      exact hQ _ _ _ _ (by assumption) (newsSub (by assumption) (by k_sub)) (IntsAre.append (by assumption) (.cons _ _ .nil))
    · rw [if_neg (by assumption), if_pos (by rw [hal']; assumption), hlen] at hP
      exact RsEnd.intro (c + 1, _, _, _) (by assumption) (by assumption) (by k_sub) (by k_sub) hoff (by intro p hp; rcases List.mem_cons.mp hp with rfl | hp; rfl; rcases List.mem_cons.mp hp with rfl | hp; rfl; cases hp) (by k_same2) ⟨hP, by dsimp only; omega, by dsimp only; omega, by dsimp only; omega, by dsimp only; omega, by dsimp only; omega⟩
    · rw [if_neg (by assumption), if_neg (by rw [hal']; simp_all)] at hP
      exact RsEnd.intro (c, _, e, _) (by assumption) (by assumption) (by k_sub) (by k_sub) hoff (by intro p hp; rcases List.mem_cons.mp hp with rfl | hp; rfl; rcases List.mem_cons.mp hp with rfl | hp; rfl; cases hp) (by k_same2) ⟨hP, by dsimp only; omega, by dsimp only; omega, by dsimp only; omega, by dsimp only; omega, by dsimp only; omega⟩
  · rintro ⟨c, tc, e, te⟩ u h tk ⟨hP, hc0, hc1, he0, he1, hce⟩ F₁ N₁
    dsimp only at hP hc0 hc1 he0 he1 hce F₁ N₁
    rw [List.drop_of_length_le (by simp), scanR] at hP
    rw [← hP] at hQ
    dsimp only at hQ
    k_steps
    · rw [if_pos (by assumption)] at hQ
      exact hQ _ _ _ _ (by assumption) (newsSub (by assumption) (by k_sub)) (IntsAre.append (by assumption) (.cons _ _ .nil))
    · rw [if_neg (by assumption)] at hQ
      exact hQ _ _ _ _ (by assumption) (newsSub (by assumption) (by k_sub)) (IntsAre.append (by assumption) (.cons _ _ .nil))
end
end
end
end
section
local macro_rules | `(tactic| walk_at "subscriptTail") => `(tactic| (k_here; (with_reducible show wpAny _ _ (subscriptTail _ _ (Value.ref _) (Value.int _ _)) _ _ _); k_dflt (refine' r_itemT ?k1 ?k2 ?k3 ?k4 ?k5 ?_ ?k7; (case k1 => k_asm); (case k2 => k_mem); (case k3 => assumption); (case k4 => omega); (case k5 => omega); (case k7 => with_unfolding_all rfl); k_whole)))
local macro_rules | `(tactic| walk_at "subscriptTail") => `(tactic| (k_here; (with_reducible show wpAny _ _ (subscriptTail _ _ (Value.ref _) (Value.int (-1) _)) _ _ _); k_dflt (refine' r_lastI ?k1 ?k2 ?k3 ?k4 ?_ ?k7; (case k1 => k_asm); (case k2 => k_mem); (case k3 => assumption); (case k4 => first | omega | (simp only [List.length_append, List.length_cons, List.length_nil]; omega)); (case k7 => with_unfolding_all rfl); k_whole); intro _))
local macro_rules | `(tactic| walk_at "subscriptTail") => `(tactic| (k_here; (with_reducible show wpAny _ _ (subscriptTail _ _ (Value.ref _) (Value.int (-1) _)) _ _ _); k_dflt (refine' r_lastV ?k1 ?k2 ?k3 ?_ ?k7; (case k1 => k_asm); (case k2 => k_mem); (case k3 => assumption); (case k7 => with_unfolding_all rfl); k_whole)))
local macro_rules | `(tactic| l_ints) => `(tactic| first | assumption | exact IntsAre.nil | exact IntsAre.cons _ _ (by l_ints))
local macro_rules | `(tactic| walk_at "binaryOp Add ref ref") => `(tactic| (k_here; (with_reducible show wpAny _ _ (binaryOp _ (Value.ref _) (Value.ref _)) _ _ _); k_dflt (refine' kmk_add_ints ?F ?N ?a ?b ?i ?j ?_ ?z; (case F => k_asm); (case N => k_asm); (case a => exact News.isList (by k_asm) (by k_mem)); (case b => exact News.isList (by k_asm) (by k_mem)); (case i => l_ints); (case j => l_ints); (case z => (rw [sizeLine_eq]; (try simp only [List.length_append, List.length_cons, List.length_nil]); omega))); intro D' ws' h' F' N' l1 hI'; (try k_lt l1); (try k_sweep)))
local macro_rules | `(tactic| walk_at "setItem ref int") => `(tactic| (k_here; k_dflt (refine' setItem_K PyProof.V.same_int (intKind_is _ _ _ _) ?v ?F ?N ?U ?d ?f ?_ ?z; (case F => k_asm); (case N => k_asm); (case U => k_updF); (case d => assumption); (case f => assumption); (case z => (rw [sizeLine_eq]; omega)); (case v => exact PyProof.V.Flat.int _ _)); intro h' o' F' N' hd' hf'; (try dsimp only at N'); (try k_sweep)))
section
theorem freshC8 : True := by
  w_top off
  trivial
section
variable {w : World} {A A₀ : Around} {E : Value → Shared → Prop} {s : Shared} {L : Addr} {h₀ base : Heap} {m mg mb : Str → Option Value} {news rest cst : List (Addr × Obj)} {p : Program} {loose : List Str} {mean : ExcName → Option Value} {env : Env} {outer : List Env}
set_option maxHeartbeats 4000000 in
theorem last_K {kvs evs : List Value} {ks : List Kd} {es : List (Int × Int)} {ka pa : Addr} {kn pn : Nat} {nm : Str} {t : Tok} {Q : Value → Shared → Prop}
    (C : Cx w A₀ A s L h₀ base m mg mb news p loose mean env outer 500) (hsub : ∀ p ∈ cst, p ∈ news) (hka : (ka, tupO kvs kn) ∈ news) (hks : DatAll cst kvs (ks.map kindD)) (hpa : (pa, PySem.W.listOf evs.toArray pn) ∈ news) (hes : DatAll cst evs (es.map entD))
    (hin : ∀ e ∈ es, 0 ≤ e.2 ∧ e.2 < ks.length) (hl : es.length ≤ 900) (hkl : ks.length ≤ 900)
    (hQ : ∀ h' tk t, Fr h₀ L h' m → News h₀ L h' news → Q (.int (([-1] ++ (es.filter fun e : Int × Int => (ks.getD e.2.toNat kd0).2.1 == nm).map fun e : Int × Int => e.1).getLastD 0) t) {s with heap := h', toks := tk}) :
    wpAny (model PySem.Challenge.rw_nt0595_01.row.prog w) A (call (.ref 299) [.ref pa, .ref ka, .str nm t]) Q E s := by
  obtain ⟨X₀, B, F, N, TT, hA, hf, hke, hh, hd, hu⟩ := C
  revert X₀
  k_fill
  intro X₀
  refine wpAny_call ?_
  k_enter
  k_steps
  (rename Fr _ _ _ _ => F')
  refine' LCt.ListComp_T F' ?a ?b ?c ?d ?e ?_
  (case a => exact rfl)
  (case b => decide)
  (case c => exact rfl)
  (case d => decide)
  (case e => exact rfl)
  k_steps
  have hlen := hes.length
  rw [List.length_map] at hlen
  refine' lcT_list (fun i ys => IntsAre ys (((es.take i).filter fun e : Int × Int => (ks.getD e.2.toNat kd0).2.1 == nm).map fun e : Int × Int => e.1)) ?hh ?F ?N ?m ?z .nil ?step ?fin
  (case hh => assumption)
  (case F => k_asm)
  (case N => k_asm)
  (case m => k_mem)
  (case z => (simp only [List.size_toArray]; omega))
  (case step =>
    intro i ys v I oI C oC D m₂ h tk E' hi hJ hP hC hx F₁ N₁ o3 ne
    obtain ⟨nd, kk, a, t1, t2, j, he, rfl, hma⟩ := ent_at hes (by simpa using hP)
    have hma' := hsub _ hma
    have hee := List.mem_of_getElem? he
    have hk := hin _ hee
    obtain ⟨b, c, t3, t4, n3, pvs, n4, hkv, hmb, _, _, _⟩ := kind_at hks hk.1 hk.2
    have hmb' := hsub _ hmb
    have htk : es.take (i + 1) = es.take i ++ [(nd, kk)] := by rw [List.take_add_one, he]; rfl
    dsimp only at hk hkv
    k_steps
    · refine LCg.CompEnd.intro (by assumption) (by assumption) _ (by k_sub) o3 (.inr ⟨_, by k_mem, rfl, _, rfl⟩) ⟨rfl, ?_⟩
      rename (_ == nm) = true => hb
      rw [htk, List.filter_append, List.map_append]
      refine hJ.append ?_
      have e1 : ([(nd, kk)].filter fun e : Int × Int => (ks.getD e.2.toNat kd0).2.1 == nm) = [(nd, kk)] := by
        rw [List.filter_cons, if_pos hb]; rfl
      rw [e1]
      exact .cons _ _ .nil
    · refine LCg.CompEnd.intro (by assumption) (by assumption) _ (by k_sub) o3 (.inr ⟨_, by k_mem, rfl, _, rfl⟩) ⟨rfl, ?_⟩
      rename (_ == nm) = false => hb
      have e1 : ([(nd, kk)].filter fun e : Int × Int => (ks.getD e.2.toNat kd0).2.1 == nm) = [] := by
        rw [List.filter_cons, if_neg (by rw [hb]; exact Bool.false_ne_true)]; rfl
      rw [htk, List.filter_append, List.map_append, e1, List.map_nil, List.append_nil]
      exact hJ)
  (case fin =>
    intro g ys hJ D h tk F₁ N₁ o1
    rw [List.take_of_length_le (by simp; omega)] at hJ
    have hfl : ((es.filter fun e : Int × Int => (ks.getD e.2.toNat kd0).2.1 == nm).map fun e : Int × Int => e.1).length ≤ 900 := by
      rw [List.length_map]
      exact Nat.le_trans (List.length_filter_le _ _) hl
    dsimp only
    k_steps
    exact hQ _ _ _ (by assumption) (newsSub (by assumption) (by k_sub)))
end
end
section
theorem freshC9 : True := by
  w_top off
  trivial
section
variable {w : World} {A A₀ : Around} {E : Value → Shared → Prop} {s : Shared} {L : Addr} {h₀ base : Heap} {m mg mb : Str → Option Value} {news rest cst : List (Addr × Obj)} {p : Program} {loose : List Str} {mean : ExcName → Option Value} {env : Env} {outer : List Env}
set_option maxHeartbeats 4000000 in
theorem line_K {pvs : List Value} {ps : List (List (Int × Int))} {pL : Addr} {pn : Nat} {Q : Value → Shared → Prop}
    (C : Cx w A₀ A s L h₀ base m mg mb news p loose mean env outer 500) (hsub : ∀ p ∈ cst, p ∈ news) (hpL : (pL, PySem.W.listOf pvs.toArray pn) ∈ news) (hps : PartsAt news cst pvs ps) (hl : (lineR ps).length ≤ 900) (hpl : ps.length ≤ 900)
    (hQ : ∀ h' tk D lvs n, Fr h₀ L h' m → News h₀ L h' ((D, PySem.W.listOf (List.toArray lvs) n) :: news) → IntsAre lvs ((lineR ps).drop 1) → (∀ p ∈ news, @LT.lt Nat _ p.1 D) → Q (.ref D) {s with heap := h', toks := tk}) :
    wpAny (model PySem.Challenge.rw_nt0595_01.row.prog w) A (call (.ref 287) [.ref pL]) Q E s := by
  obtain ⟨X₀, B, F, N, TT, hA, hf, hke, hh, hd, hu⟩ := C
  revert X₀
  k_fill
  intro X₀
  have hplen := hps.length
  refine wpAny_call ?_
  k_enter
  k_steps
  refine' rs_list (σ := Addr × List Value × Nat) (fun c => (c.1, PySem.W.listOf c.2.1.toArray c.2.2) :: news) (fun c => [(Str.ofString "line", .ref c.1)]) [] (fun i c => IntsAre c.2.1 (lineR (ps.take i)) ∧ ∀ p ∈ news, @LT.lt Nat _ p.1 c.1) (_, [], 0) rfl hh (fun c => .tail _ hpL) (by assumption) (by assumption) (by k_sub) (by intro p hp; rcases List.mem_cons.mp hp with rfl | hp; rfl; cases hp) ⟨.nil, ?_⟩ ?_ ?_
  · assumption
  · rintro i v ⟨D, lvs, n⟩ u h tk own hi' hoff ⟨hJ, hlt⟩ F₁ N₁
    dsimp only at hJ F₁ N₁ hlt
    obtain ⟨pa, evs, k, rfl, hi2, hmp, hdp⟩ := hps.get hi'
    have hst : lineR (ps.take (i + 1)) = lineR (ps.take i) ++ (-1 :: (ps.getD i []).map fun e => e.1) := by
      have e1 : ps.take (i + 1) = ps.take i ++ [ps.getD i []] := by
        rw [List.take_add_one, List.getElem?_eq_getElem hi2]
        simp [List.getD, hi2]
      unfold lineR
      rw [e1, List.flatMap_append, List.flatMap_cons, List.flatMap_nil, List.append_nil]
    have hle : (lineR (ps.take (i + 1))).length ≤ 900 := by
      refine Nat.le_trans ?_ hl
      have e2 : lineR ps = lineR (ps.take (i + 1)) ++ lineR (ps.drop (i + 1)) := by
        unfold lineR
        rw [← List.flatMap_append, List.take_append_drop]
      rw [e2, List.length_append]
      omega
    have hle2 := hle
    rw [hst, List.length_append, List.length_cons, List.length_map] at hle2
    have hln := hdp.length
    rw [List.length_map] at hln
    have hown : ∀ p ∈ own, @LT.lt Nat _ p.1 D ∨ True := fun _ _ => .inr trivial
    k_steps
    (rename Fr _ _ _ _ => F')
    refine' LCg.ListComp_U F' ?a ?b ?c ?d ?e ?_
    (case a => exact rfl)
    (case b => decide)
    (case c => exact rfl)
    (case d => decide)
    (case e => exact rfl)
    k_steps
    refine' lcU_list (fun i' ys => IntsAre ys (((ps.getD i []).take i').map fun e : Int × Int => e.1)) ?hh ?F ?N ?m ?z .nil ?step ?fin
    (case hh => assumption)
    (case F => k_asm)
    (case N => k_asm)
    (case m => k_mem)
    (case z => (simp only [List.size_toArray]; omega))
    (case step =>
      intro i' ys v I oI C oC D' m₂ h' tk' E' hi3 hJ' hP hC hx F₂ N₂ o3 ne
      obtain ⟨nd, kk, a, t1, t2, j, he, rfl, hma⟩ := ent_at hdp (by simpa using hP)
      have hma' := hsub _ hma
      have htk : (ps.getD i []).take (i' + 1) = (ps.getD i []).take i' ++ [(nd, kk)] := by rw [List.take_add_one, he]; rfl
      k_steps
      refine LCg.CompEnd.intro (by assumption) (by assumption) _ (by k_sub) o3 (.inr ⟨_, by k_mem, rfl, _, rfl⟩) ⟨rfl, ?_⟩
      rw [htk, List.map_append]
      exact hJ'.append (.cons _ _ .nil))
    (case fin =>
      intro g ys hJ' D' h' tk' F₂ N₂ o1
      rw [List.take_of_length_le (by rw [List.size_toArray, hln]; exact Nat.le_refl _)] at hJ'
      have hfl : ((ps.getD i []).map fun e : Int × Int => e.1).length ≤ 900 := by rw [List.length_map]; omega
      dsimp only
      k_steps
      (rename _ ∧ _ ∧ _ ∧ AllLt _ ((D, _) :: news ++ own) => q)
      refine' RsEnd.intro (_, _, _) (by assumption) (by assumption) ?h1 ?h2 ?h3 ?hk ?hr ?hP
      (case hk => (intro p hp; rcases List.mem_cons.mp hp with rfl | hp; rfl; cases hp))
      (case h1 => k_sub)
      (case h2 => k_sub)
      (case h3 =>
        intro p hp b hb
        rcases List.mem_cons.mp hb with rfl | hb
        · exact Nat.ne_of_lt (allLt_mem q.2.2.2 p (by k_mem))
        · exact hoff p hp b (.tail _ hb))
      (case hr => k_same2)
      (case hP => exact ⟨by rw [hst]; simpa using ‹IntsAre _ (lineR (ps.take i) ++ [-1] ++ _)›, fun p hp => allLt_mem q.2.2.2 p (by k_mem)⟩))
  · rintro ⟨D, lvs, n⟩ u h tk ⟨hJ, hlt⟩ F₁ N₁
    dsimp only at hJ F₁ N₁ hlt
    rw [hplen, List.take_length] at hJ
    k_steps
    rename _ ∧ AllLt _ news => q
    exact hQ _ _ _ _ _ (by assumption) (newsSub (by assumption) (by k_sub)) (by assumption) (allLt_mem q.2)
end
end
section
theorem freshC10 : True := by
  w_top off
  trivial
section
variable {w : World} {A A₀ : Around} {E : Value → Shared → Prop} {s : Shared} {L : Addr} {h₀ base : Heap} {m mg mb : Str → Option Value} {news rest cst : List (Addr × Obj)} {p : Program} {loose : List Str} {mean : ExcName → Option Value} {env : Env} {outer : List Env}
noncomputable def Apart (ns : List Int) : Prop := ∀ k i, k < i → i < ns.length → ns.getD k 0 = ns.getD i 0 → ns.getD i 0 = -1
theorem idx_apart {ns : List Int} (h : Apart ns) {k : Nat} (hk : k < ns.length) (hn : ns.getD k 0 ≠ -1) : ns.idxOf (ns.getD k 0) = k := by
  have hm : ns.getD k 0 ∈ ns := getD_mem' hk
  have h1 : ns.idxOf (ns.getD k 0) < ns.length := List.idxOf_lt_length_iff.mpr hm
  have h2 : ns.getD (ns.idxOf (ns.getD k 0)) 0 = ns.getD k 0 := by
    have e1 : ns[ns.idxOf (ns.getD k 0)] = ns.getD k 0 := List.getElem_idxOf h1
    have e2 : ns.getD (ns.idxOf (ns.getD k 0)) 0 = ns[ns.idxOf (ns.getD k 0)] := by
      rw [List.getD_eq_getElem?_getD, List.getElem?_eq_getElem h1]; rfl
    rw [e2, e1]
  rcases Nat.lt_trichotomy (ns.idxOf (ns.getD k 0)) k with hlt | he | hgt
  · exact absurd (h _ _ hlt hk h2) hn
  · exact he
  · exact absurd (h2 ▸ h _ _ hgt h1 h2.symm) hn
theorem take_mem {ns : List Int} {k : Nat} {i : Int} (hk : k < ns.length) : i ∈ ns.take (k + 1) ↔ i ∈ ns.take k ∨ i = ns.getD k 0 := by
  have e : ns.take (k + 1) = ns.take k ++ [ns.getD k 0] := by
    rw [List.take_add_one, List.getElem?_eq_getElem hk]
    simp [List.getD, hk]
  rw [e, List.mem_append, List.mem_singleton]
set_option maxHeartbeats 4000000 in
theorem seats_K {lvs : List Value} {ns : List Int} {D : Addr} {n : Nat} {Q : Value → Shared → Prop}
    (C : Cx w A₀ A s L h₀ base m mg mb news p loose mean env outer 500) (hD : (D, PySem.W.listOf lvs.toArray n) ∈ news) (hi : IntsAre lvs ns) (hl : ns.length ≤ 900) (hap : Apart ns)
    (hQ : ∀ h' tk d o kvs T, Fr h₀ L h' m → News h₀ L h' ((d, o) :: news) → (∀ p ∈ news, @LT.lt Nat _ p.1 d) → (d == sysModules) = false → o.IsDictOf (intKind PySem.Challenge.rw_nt0595_01.row.prog w) kvs → FlatPairs PyData.int kvs T →
      (∀ i, i ≠ -1 → Spec.lookup (.int i) T = if i ∈ ns then some (.int (ns.idxOf i : Nat)) else none) → Q (.ref d) {s with heap := h', toks := tk}) :
    wpAny (model PySem.Challenge.rw_nt0595_01.row.prog w) A (call (.ref 294) [.ref D]) Q E s := by
  obtain ⟨X₀, B, F, N, TT, hA, hf, hke, hh, hd, hu⟩ := C
  revert X₀
  k_fill
  intro X₀
  refine wpAny_call ?_
  k_enter
  k_steps
  (rename Obj.IsDictOf (intKind _ _) _ _ => hi0)
  (rename FlatPairs PyData.int _ _ => fi0)
  (rename (_ == sysModules) = false => lo0)
  (rename ∀ p ∈ news, p.1 < _ => l0)
  have hoff0 := fun p hp => Nat.ne_of_lt (l0 p hp)
  refine rs_range (σ := Obj × List (Int × Value) × List (PyData × PyData)) (n := ns.length) (fun c => (_, c.1) :: news) (fun _ => []) [] (fun k c => Obj.IsDictOf (intKind PySem.Challenge.rw_nt0595_01.row.prog w) c.1 c.2.1 ∧ FlatPairs PyData.int c.2.1 c.2.2 ∧ c.2.2.length ≤ k ∧ ∀ i, i ≠ -1 → Spec.lookup (.int i) c.2.2 = if i ∈ ns.take k then some (.int (ns.idxOf i : Nat)) else none) (_, [], []) rfl hh (by assumption) ?_ ?_ (by assumption) (by assumption) (fun _ h => h) (fun _ h => nomatch h) ⟨hi0, fi0, Nat.le_refl _, fun i _ => by rw [List.take_zero, if_neg List.not_mem_nil]; rfl⟩ ?_ ?_
  · exact small_up (by omega) (by omega)
  · rw [rangeSize_one]; split <;> omega
  · rintro i t ⟨o, kvs, T⟩ u h tk own hi' hoff ⟨hd1, hd2, hd3, hd4⟩ F₁ N₁
    dsimp only at hd1 hd2 hd3 hd4 F₁ N₁
    have e0 : (0 : Int) + (i : Int) * 1 = (i : Int) := by omega
    rw [e0] at F₁
    have ho2 := fun (p : Addr × Obj) (hp : p ∈ news ++ own) => (List.mem_append.mp hp).elim (fun hp => hoff0 p hp) (fun hp => hoff p hp _ (.head _))
    rw [List.cons_append] at N₁
    k_steps
    · rename ns.getD (Int.toNat (i : Int)) 0 ≠ -1 => hne
      rename Obj.IsDictOf _ _ (stored _ _ _) => hd5
      rename FlatPairs _ _ (putD _ _ _) => hd6
      refine RsEnd.intro (_, stored kvs (ns.getD (Int.toNat (i : Int)) 0) (.int (i : Int) t), putD (.int (ns.getD (Int.toNat (i : Int)) 0)) (.int (i : Int)) T) (by assumption) (by assumption) (by k_sub) (by k_sub) (by exact hoff) (fun _ h => nomatch h) (by k_same2) ⟨by exact hd5, by exact hd6, ?_, ?_⟩
      · exact Nat.le_trans (putD_length_le _ _ _) (by omega)
      · intro j hj
        dsimp only
        rw [lookup_putD_int, hd4 j hj]
        have e1 : (i : Int).toNat = i := rfl
        rw [e1] at hne ⊢
        by_cases hji : j = ns.getD i 0
        · rw [if_pos hji, if_pos ((take_mem hi').mpr (.inr hji)), hji, idx_apart hap hi' hne]
        · rw [if_neg hji]
          by_cases hjm : j ∈ ns.take i
          · rw [if_pos hjm, if_pos ((take_mem hi').mpr (.inl hjm))]
          · rw [if_neg hjm, if_neg (fun q => ((take_mem hi').mp q).elim hjm hji)]
    · rename ns.getD (Int.toNat (i : Int)) 0 = -1 => hne
      refine RsEnd.intro (o, kvs, T) (by assumption) (by assumption) (by k_sub) (by k_sub) hoff (fun _ h => nomatch h) (by k_same2) ⟨hd1, hd2, ?_, ?_⟩
      · exact Nat.le_succ_of_le hd3
      · intro j hj
        dsimp only
        rw [hd4 j hj]
        have e1 : (i : Int).toNat = i := rfl
        rw [e1] at hne
        have hji : j ≠ ns.getD i 0 := fun q => hj (q.trans hne)
        by_cases hjm : j ∈ ns.take i
        · rw [if_pos hjm, if_pos ((take_mem hi').mpr (.inl hjm))]
        · rw [if_neg hjm, if_neg (fun q => ((take_mem hi').mp q).elim hjm hji)]
  · rintro ⟨o, kvs, T⟩ u h tk ⟨hd1, hd2, hd3, hd4⟩ F₁ N₁
    dsimp only at hd1 hd2 hd3 hd4 F₁ N₁
    rw [List.take_length] at hd4
    k_steps
    exact hQ _ _ _ _ _ _ (by assumption) (by assumption) l0 lo0 hd1 hd2 hd4
end
end
section
local macro_rules | `(tactic| walk_at "call type:list") => `(tactic| (k_here; (with_reducible show wpAny _ _ (call (Value.type _) [Value.ref _]) _ _ _); (refine' list_copyKT ?k1 ?k2 ?k3 ?_ ?z; (case k1 => k_asm); (case k2 => k_asm); (case k3 => exact tupK (by k_in) (by k_is)); (case z => exact Nat.le_of_ble_eq_true rfl); k_whole); intro D' c' h' F' N' l1; (try k_lt l1); (try k_sweep)))
local macro_rules | `(tactic| walk_at "dat") => `(tactic| first | exact DatAll.nil | exact DatIn.str _ _ | exact DatIn.int _ _ | refine DatAll.cons ?_ ?_ | (refine' DatIn.tuple ?hm ?hr; (case' hm => k_mem)) | (refine' DatIn.list ?hm ?hr; (case' hm => k_mem)))
section
theorem freshC12 : True := by
  w_top off
  trivial
section
variable {w : World} {A A₀ : Around} {E : Value → Shared → Prop} {s : Shared} {L : Addr} {h₀ base : Heap} {m mg mb : Str → Option Value} {news rest cst : List (Addr × Obj)} {p : Program} {loose : List Str} {mean : ExcName → Option Value} {env : Env} {outer : List Env}
noncomputable abbrev tk8 (a b c d e f g h : Tok) : Nat → Tok
  | 0 => a
  | 1 => b
  | 2 => c
  | 3 => d
  | 4 => e
  | 5 => f
  | 6 => g
  | _ => h
set_option maxHeartbeats 4000000 in
theorem tree_K {Q : Value → Shared → Prop} (C : Cx w A₀ A s L h₀ base m mg mb news p loose mean env outer 400)
    (hQ : ∀ h' tk (ta : TA) (t0 t1 t2 t3 t4 : Tok) al cl ac j0 j1 j2 j3 j4 j5 j6, AllLt ta.kL news → Ord7 ta → @LT.lt Nat _ ta.cL al → AllLt al news → Fr h₀ L h' m →
      News h₀ L h' (led7 ta [.str (Str.ofString "document") t0] [.str (Str.ofString "") t1] [.str (Str.ofString "") t2] [.ref al] [.str (Str.ofString "") t3] [.int (-1) t4] [.ref cl] j0 j1 j2 j3 j4 j5 j6 ++ ((ta.T, instObj 257 ta.dT) :: (ta.dT, dictOf (tEs w.params ta) 8) :: (al, PySem.W.listOf #[] ac) :: news)) → Q (.ref ta.T) {s with heap := h', toks := tk}) :
    wpAny (model PySem.Challenge.rw_nt0595_01.row.prog w) A (call (.ref 257) []) Q E s := by
  obtain ⟨X₀, B, F, N, TT, hA, hf, hke, hh, hd, hu⟩ := C
  revert X₀
  k_fill
  intro X₀
  walk1
  k_steps
  refine' hQ _ _ ⟨_, _, _, _, _, _, _, _, _, _, tk8 _ _ _ _ _ _ _ _⟩ _ _ _ _ _ _ _ _ _ _ _ _ _ _ _ ?o1 ?o2 ?o3 ?o4 (by assumption) (newsSub (by assumption) ?sub)
  (case sub =>
    simp only [List.cons_append, List.nil_append, List.forall_mem_cons]
    refine ⟨?m1, ?m2, ?m3, ?m4, ?m5, ?m6, ?m7, ?m8, ?m9, ?m10, fun p hp => by k_mem⟩
    (case m8 => k_mem)
    (case m9 => k_mem)
    (case m1 => k_mem)
    (case m2 => k_mem)
    (case m3 => k_mem)
    (case m4 => k_mem)
    (case m5 => k_mem)
    (case m6 => k_mem)
    (case m7 => k_mem)
    (case m10 => k_mem))
  (case o1 => with_reducible assumption)
  (case o2 => constructor <;> assumption)
  (case o3 => assumption)
  (case o4 => with_reducible assumption)
end
end
section
theorem freshC13 : True := by
  w_top off
  trivial
section
variable {w : World} {A A₀ : Around} {E : Value → Shared → Prop} {s : Shared} {L : Addr} {h₀ base : Heap} {m mg mb : Str → Option Value} {news rest cst : List (Addr × Obj)} {p : Program} {loose : List Str} {mean : ExcName → Option Value} {env : Env} {outer : List Env}
noncomputable abbrev sx (x : String) : Str := Str.ofString x
noncomputable def KS : List Kd :=
  [(sx "html", sx "a", [(sx "x", sx "1"), (sx "y", sx "2")]),
   (sx "html", sx "a", [(sx "y", sx "2"), (sx "x", sx "1")]),
   (sx "html", sx "a", [(sx "x", sx "1"), (sx "y", sx "2")]),
   (sx "html", sx "a", [(sx "x", sx "1")]),
   (sx "html", sx "a", []),
   (sx "html", sx "b", [(sx "x", sx "1"), (sx "y", sx "2")]),
   (sx "svg", sx "a", [(sx "x", sx "1"), (sx "y", sx "2")]),
   (sx "html", sx "a", [(sx "x", sx "1"), (sx "y", sx "1")]),
   (sx "html", sx "a", [(sx "x", sx "1"), (sx "z", sx "2")]),
   (sx "html", sx "b", []),
   (sx "html", sx "a", [(sx "x", sx "1"), (sx "y", sx "2"), (sx "z", sx "3")]),
   (sx "html", sx "i", [(sx "x", sx "")])]
noncomputable def BS : List Int := [0, 1, 5, 6, 7, 8, 2, 0, 169, 12, 4, 4, 4, 3, 4, 201, 14, 219, 15, 13, 10, 12, 0, 13, 13, 13, 9, 11, 12]
theorem News.cut {h₀ h : Heap} {L : Addr} {big cst news : List (Addr × Obj)} (N : News h₀ L h big) (e : big = cst ++ news) : News h₀ L h (cst ++ news) := e ▸ N
noncomputable def oneD : Dat := .tuple [.str (sx "x"), .str (sx "1")]
noncomputable def twoD : Dat := .tuple [.str (sx "y"), .str (sx "2")]
theorem kinds_lit {D1 D2 : Addr} {t1 t2 t3 t4 : Tok} {n1 n2 : Nat} {e : PySem.Expr} {Q : Value → Shared → Prop} (F : Fr h₀ L s.heap m)
    (N : News h₀ L s.heap ((D2, tupO [.str (sx "y") t3, .str (sx "2") t4] n2) :: (D1, tupO [.str (sx "x") t1, .str (sx "1") t2] n1) :: news))
    (h1 : ∀ (s : Shared) (Q : Value → Shared → Prop) (pos : Pos), Fr h₀ L s.heap m → Q (.ref D1) s → wpAny (model PySem.Challenge.rw_nt0595_01.row.prog w) A (eval (.Name (sx "one") pos) env) Q E s)
    (h2 : ∀ (s : Shared) (Q : Value → Shared → Prop) (pos : Pos), Fr h₀ L s.heap m → Q (.ref D2) s → wpAny (model PySem.Challenge.rw_nt0595_01.row.prog w) A (eval (.Name (sx "two") pos) env) Q E s)
    (l : LitE [(sx "one", .ref D1, oneD), (sx "two", .ref D2, twoD)] e (.tuple (KS.map kindD)))
    (hQ : ∀ h' tk ka kvs kn cst, Fr h₀ L h' m → News h₀ L h' (cst ++ news) → (∀ p ∈ cst, ∃ vs n, p.2 = tupO vs n) → (ka, tupO kvs kn) ∈ cst → DatAll cst kvs (KS.map kindD) → Q (.ref ka) {s with heap := h', toks := tk}) :
    wpAny (model PySem.Challenge.rw_nt0595_01.row.prog w) A (eval e env) Q E s := by
  refine LitE.run (base := [(D2, tupO [.str (sx "y") t3, .str (sx "2") t4] n2), (D1, tupO [.str (sx "x") t1, .str (sx "1") t2] n1)]) ?hG l F N ?_
  · intro x v d hm
    rcases List.mem_cons.mp hm with e | hm
    · injection e with e1 e2; injection e2 with e2 e3; subst e1 e2 e3
      exact ⟨.tuple (List.mem_cons_of_mem _ List.mem_cons_self) (.cons (.str ..) (.cons (.str ..) .nil)), h1⟩
    rcases List.mem_cons.mp hm with e | hm
    · injection e with e1 e2; injection e2 with e2 e3; subst e1 e2 e3
      exact ⟨.tuple List.mem_cons_self (.cons (.str ..) (.cons (.str ..) .nil)), h2⟩
    · cases hm
  · intro h' tk own v F' N' ho hd
    cases hd with
    | tuple hm hr =>
      refine hQ _ _ _ _ _ _ F' (News.cut N' (by rw [List.append_assoc]; rfl)) ?_ hm hr
      intro p hp
      rcases List.mem_append.mp hp with q | q
      · exact ho p q
      · rcases List.mem_cons.mp q with rfl | q
        · exact ⟨_, _, rfl⟩
        · rcases List.mem_cons.mp q with rfl | q
          · exact ⟨_, _, rfl⟩
          · cases q
set_option maxHeartbeats 4000000 in
theorem kinds_K {Q : Value → Shared → Prop} (C : Cx w A₀ A s L h₀ base m mg mb news p loose mean env outer 500)
    (hQ : ∀ h' tk ka kvs kn cst, Fr h₀ L h' m → News h₀ L h' (cst ++ news) → (∀ p ∈ cst, ∃ vs n, p.2 = tupO vs n) → (ka, tupO kvs kn) ∈ cst → DatAll cst kvs (KS.map kindD) → Q (.ref ka) {s with heap := h', toks := tk}) :
    wpAny (model PySem.Challenge.rw_nt0595_01.row.prog w) A (call (.ref 275) []) Q E s := by
  obtain ⟨X₀, B, F, N, TT, hA, hf, hke, hh, hd, hu⟩ := C
  revert X₀
  k_fill
  intro X₀
  refine wpAny_call ?_
  k_enter
  repeat' ((fail_if_success (with_reducible show wpAny _ _ (eval (PySem.Expr.Tuple (PySem.Expr.Tuple _ _ _ :: _) _ _) _) _ _ _)); first | (k_unfold; (try dsimp only)) | walk1 | (dsimp only; walk1) | fail "no step")
  (rename News _ _ _ (_ :: _ :: _) => NN)
  (rename Fr _ _ _ _ => FF)
  refine kinds_lit FF NN (fun s Q pos F h => ?h1) (fun s Q pos F h => ?h2) ?l ?_
  (case h1 => walk1; exact h)
  (case h2 => walk1; exact h)
  (case l =>
    unfold KS oneD twoD
    simp only [List.map, kindD]
    repeat' (first | exact LitE.str _ | exact LitE.name List.mem_cons_self | exact LitE.name (List.mem_cons_of_mem _ List.mem_cons_self) | refine LitE.tup ?_ (by decide) | exact LitAll.nil | refine LitAll.cons ?_ ?_))
  intro h9 tk9 ka kvs kn cst F9 N9 ho9 hm8 hd8
  k_steps
  exact hQ _ _ _ _ _ _ (by assumption) (by assumption) (by assumption) hm8 hd8
set_option maxHeartbeats 4000000 in
theorem base_K {Q : Value → Shared → Prop} (C : Cx w A₀ A s L h₀ base m mg mb news p loose mean env outer 500)
    (hQ : ∀ h' tk ba bvs bn, Fr h₀ L h' m → News h₀ L h' ((ba, tupO bvs bn) :: news) → IntsAre bvs BS → Q (.ref ba) {s with heap := h', toks := tk}) :
    wpAny (model PySem.Challenge.rw_nt0595_01.row.prog w) A (call (.ref 282) []) Q E s := by
  obtain ⟨X₀, B, F, N, TT, hA, hf, hke, hh, hd, hu⟩ := C
  revert X₀
  k_fill
  intro X₀
  refine wpAny_call ?_
  k_enter
  k_steps
  refine hQ _ _ _ _ _ (by assumption) (by assumption) ?_
  unfold BS
  repeat' (first | exact IntsAre.nil | refine' IntsAre.cons _ _ ?_)
end
end
section
theorem freshC14 : True := by
  w_top off
  trivial
section
variable {w : World} {A A₀ : Around} {E : Value → Shared → Prop} {s : Shared} {L : Addr} {h₀ base : Heap} {m mg mb : Str → Option Value} {news rest cst : List (Addr × Obj)} {p : Program} {loose : List Str} {mean : ExcName → Option Value} {env : Env} {outer : List Env}
set_option maxHeartbeats 4000000 in
theorem row_K {T : Addr} {Q : Value → Shared → Prop} (C : Cx w A₀ A s L h₀ base m mg mb news p loose mean env outer 400)
    (hQ : ∀ h' tk (r : RA) j, AllLt r.dR news → @LT.lt Nat _ r.dR r.R → AllLt r.iL news → @LT.lt Nat _ r.R r.iL → Fr h₀ L h' m →
      News h₀ L h' ((r.iL, PySem.W.listOf #[] j) :: (r.R, instObj 101 r.dR) :: (r.dR, dictOf (rEs w.params r T) 2) :: news) → Q (.ref r.R) {s with heap := h', toks := tk}) :
    wpAny (model PySem.Challenge.rw_nt0595_01.row.prog w) A (call (.ref 101) [.ref T]) Q E s := by
  obtain ⟨X₀, B, F, N, TT, hA, hf, hke, hh, hd, hu⟩ := C
  revert X₀
  k_fill
  intro X₀
  walk1
  k_steps
  refine' hQ _ _ ⟨_, _, _, tk8 _ _ 0 0 0 0 0 0⟩ _ ?o1 ?o2 ?o3 ?o4 (by assumption) (newsSub (by assumption) ?sub)
  (case sub =>
    simp only [List.forall_mem_cons]
    refine ⟨?m1, ?m2, ?m3, fun p hp => by k_mem⟩
    (case m2 => k_mem)
    (case m3 => k_mem)
    (case m1 => k_mem))
  (case o1 =>
    refine allLt_of ?_
    assumption)
  (case o2 => assumption)
  (case o3 => with_reducible assumption)
  (case o4 => assumption)
end
end
section
theorem freshD1 : True := by
  w_top off
  trivial
noncomputable abbrev Part := Addr × List Value × Nat
noncomputable def pvsOf (prs : List Part) : List Value := prs.map fun p => .ref p.1
noncomputable def pmOf (prs : List Part) : List (Addr × Obj) := prs.map fun p => (p.1, PySem.W.listOf p.2.1.toArray p.2.2)
noncomputable def kOf (k : Int) : Kd := KS.getD k.toNat kd0
noncomputable def nmsOf (ws : List Int) : List Str := sx "" :: ws.map fun w => (kOf w).2.1
noncomputable def spsOf (ws : List Int) : List Str := sx "" :: ws.map fun w => (kOf w).1
noncomputable def attOf (ws : List Int) : List (List (Str × Str)) := [] :: ws.map fun w => (kOf w).2.2
noncomputable def keyD (k : Kd) : Dat := .tuple [.str k.1, .str k.2.1, .list (k.2.2.map fun p => .tuple [.str p.1, .str p.2])]
noncomputable def YS : List Kd := KS.set 1 (sx "html", sx "a", [(sx "x", sx "1"), (sx "y", sx "2")])
structure CA where
  ta : TA
  r : RA
  ka : Addr
  kvs : List Value
  kn : Nat
  ys : Addr
  yvs : List Value
  yn : Nat
  ba : Addr
  bvs : List Value
  bn : Nat
  mL : Addr
structure SV where
  cst : List (Addr × Obj)
  own : List (Addr × Obj)
  pL : Addr
  p0 : Nat
  prs : List Part
  ivs : List Value
  i0 : Nat
  mvs : List Value
  m0 : Nat
  kvs : List Value
  svs : List Value
  nvs : List Value
  avs : List Value
  xvs : List Value
  pvs : List Value
  cvs : List Value
  k0 : Nat
  k1 : Nat
  k2 : Nat
  k3 : Nat
  k4 : Nat
  k5 : Nat
  k6 : Nat
  oN : Obj
  oO : Obj
  oW : Obj
  oP : Obj
  oK : Obj
noncomputable abbrev cel (L : Addr) (v : SV) : List (Addr × Obj) := [(L + 1 + 1 + 1 + 1 + 1, v.oN), (L + 1 + 1 + 1 + 1, v.oO), (L + 1 + 1 + 1, v.oW), (L + 1 + 1, v.oP), (L + 1, v.oK)]
noncomputable abbrev led7v (c : CA) (v : SV) : List (Addr × Obj) := led7 c.ta v.kvs v.svs v.nvs v.avs v.xvs v.pvs v.cvs v.k0 v.k1 v.k2 v.k3 v.k4 v.k5 v.k6
noncomputable abbrev iO (c : CA) (v : SV) : Addr × Obj := (c.r.iL, PySem.W.listOf v.ivs.toArray v.i0)
noncomputable abbrev mO (c : CA) (v : SV) : Addr × Obj := (c.mL, PySem.W.listOf v.mvs.toArray v.m0)
noncomputable abbrev pO (v : SV) : Addr × Obj := (v.pL, PySem.W.listOf (pvsOf v.prs).toArray v.p0)
noncomputable abbrev muts (c : CA) (v : SV) : List (Addr × Obj) := iO c v :: mO c v :: pO v :: (led7v c v ++ pmOf v.prs)
noncomputable abbrev Led (L : Addr) (c : CA) (v : SV) : List (Addr × Obj) := cel L v ++ (muts c v ++ (v.cst ++ v.own))
noncomputable abbrev cadr (L : Addr) : List Addr := [L + 1 + 1 + 1 + 1 + 1, L + 1 + 1 + 1 + 1, L + 1 + 1 + 1, L + 1 + 1, L + 1]
noncomputable abbrev adr7 (t : TA) : List Addr := [t.kL, t.sL, t.nL, t.aL, t.xL, t.pL, t.cL]
noncomputable abbrev adr (c : CA) (v : SV) : List Addr := c.r.iL :: c.mL :: v.pL :: (adr7 c.ta ++ v.prs.map (·.1))
inductive PartsOk (cst : List (Addr × Obj)) : List Part → List (List (Int × Int)) → Prop
  | nil : PartsOk cst [] []
  | cons {p : Part} {prs : List Part} {es : List (Int × Int)} {ps : List (List (Int × Int))} : DatAll cst p.2.1 (es.map entD) → PartsOk cst prs ps → PartsOk cst (p :: prs) (es :: ps)
structure Rep (w : World) (L : Addr) (c : CA) (v : SV) (ws : List Int) (md : List (Int × Int)) (ps : List (List (Int × Int))) (ns : List Int) : Prop where
  hT : (c.ta.T, instObj 257 c.ta.dT) ∈ v.cst
  hdT : (c.ta.dT, dictOf (tEs w.params c.ta) 8) ∈ v.cst
  hR : (c.r.R, instObj 101 c.r.dR) ∈ v.cst
  hdR : (c.r.dR, dictOf (rEs w.params c.r c.ta.T) 2) ∈ v.cst
  hka : (c.ka, tupO c.kvs c.kn) ∈ v.cst
  hks : DatAll v.cst c.kvs (KS.map kindD)
  hys : (c.ys, PySem.W.listOf c.yvs.toArray c.yn) ∈ v.cst
  hyk : DatAll v.cst c.yvs (YS.map keyD)
  hba : (c.ba, tupO c.bvs c.bn) ∈ v.cst
  hbs : IntsAre c.bvs BS
  dK : v.oK.data = .cell (some (.ref c.ys))
  dP : v.oP.data = .cell (some (.ref v.pL))
  dW : ∃ x, v.oW.data = .cell x
  dO : ∃ x, v.oO.data = .cell x
  dN : ∃ x, v.oN.data = .cell x
  has : DatAll v.cst v.avs ((attOf ws).map attrD)
  hns : StrsAt v.nvs (nmsOf ws)
  hss : StrsAt v.svs (spsOf ws)
  l0 : v.kvs.length = ws.length + 1
  l4 : v.xvs.length = ws.length + 1
  l5 : v.pvs.length = ws.length + 1
  l6 : v.cvs.length = ws.length + 1
  hmd : DatAll v.cst v.mvs (md.map entD)
  hps : PartsOk v.cst v.prs ps
  hit : IntsAre v.ivs ns
  ord : Ord7 c.ta
  low : ∀ a ∈ adr c v, a ∉ cadr L
  lowc : ∀ p ∈ v.cst, ∀ a ∈ cadr L, p.1 ≠ a
  nd : (adr c v).Nodup
  off : ∀ p ∈ v.cst, p.2.cls = .type "list" → p.1 ∉ adr c v
  ow1 : ∀ p ∈ v.own, ∀ a ∈ cadr L, p.1 ≠ a
  ow2 : ∀ p ∈ v.own, p.1 ∉ adr c v
  ow3 : ∀ p ∈ v.own, ∀ q ∈ v.cst, p.1 ≠ q.1
theorem muts_adr (c : CA) (v : SV) : (muts c v).map (·.1) = adr c v := by
  simp [pmOf, Function.comp_def]
theorem cel_adr {L : Addr} {v : SV} {p : Addr × Obj} (h : p ∈ cel L v) : p.1 ∈ cadr L := by
  simp only [List.mem_cons, List.not_mem_nil, or_false] at h
  rcases h with rfl | rfl | rfl | rfl | rfl <;> simp
theorem not_cadr {L D : Addr} {c : CA} {v : SV} (hD : ∀ p ∈ Led L c v, p.1 ≠ D) : D ∉ cadr L := by
  intro h
  simp only [List.mem_cons, List.not_mem_nil, or_false] at h
  rcases h with h | h | h | h | h
  · exact hD (_, v.oN) (by simp) h.symm
  · exact hD (_, v.oO) (by simp) h.symm
  · exact hD (_, v.oW) (by simp) h.symm
  · exact hD (_, v.oP) (by simp) h.symm
  · exact hD (_, v.oK) (by simp) h.symm
theorem PartsOk.mono {cst cst' : List (Addr × Obj)} (hs : ∀ p ∈ cst, p ∈ cst') : ∀ {prs : List Part} {ps : List (List (Int × Int))}, PartsOk cst prs ps → PartsOk cst' prs ps
  | _, _, .nil => .nil
  | _, _, .cons h r => .cons (DatAll.mono hs h) (r.mono hs)
theorem PartsOk.length {cst : List (Addr × Obj)} : ∀ {prs : List Part} {ps : List (List (Int × Int))}, PartsOk cst prs ps → prs.length = ps.length
  | _, _, .nil => rfl
  | _, _, .cons _ r => by rw [List.length_cons, List.length_cons, r.length]
theorem PartsOk.at {cst : List (Addr × Obj)} : ∀ {prs : List Part} {ps : List (List (Int × Int))}, PartsOk cst prs ps → ∀ {i : Nat} {es : List (Int × Int)}, ps[i]? = some es → ∃ p, prs[i]? = some p ∧ DatAll cst p.2.1 (es.map entD)
  | _, _, .nil, i, es, h => by simp at h
  | _, _, .cons h r, 0, es, e => by simp at e; subst e; exact ⟨_, rfl, h⟩
  | _, _, .cons h r, i + 1, es, e => by
    obtain ⟨p, h1, h2⟩ := r.at (i := i) (by simpa using e)
    exact ⟨p, by simpa using h1, h2⟩
theorem PartsOk.set {cst : List (Addr × Obj)} {q : Part} {es : List (Int × Int)} (hq : DatAll cst q.2.1 (es.map entD)) : ∀ {prs : List Part} {ps : List (List (Int × Int))}, PartsOk cst prs ps → ∀ (i : Nat), PartsOk cst (prs.set i q) (ps.set i es)
  | _, _, .nil, _ => .nil
  | _, _, .cons _ r, 0 => .cons hq r
  | _, _, .cons h r, i + 1 => .cons h (r.set hq i)
theorem PartsOk.append {cst : List (Addr × Obj)} {prs' : List Part} {ps' : List (List (Int × Int))} (h' : PartsOk cst prs' ps') : ∀ {prs : List Part} {ps : List (List (Int × Int))}, PartsOk cst prs ps → PartsOk cst (prs ++ prs') (ps ++ ps')
  | _, _, .nil => h'
  | _, _, .cons h r => .cons h (PartsOk.append h' r)
theorem sub_nil {α : Type} {c : List α} : ∀ q ∈ ([] : List α), q ∈ c := fun _ h => nomatch h
theorem sub_cons {α : Type} {x : α} {a c : List α} (h : x ∈ c) (t : ∀ q ∈ a, q ∈ c) : ∀ q ∈ x :: a, q ∈ c := List.forall_mem_cons.mpr ⟨h, t⟩
theorem sub_app {α : Type} {a b c : List α} (h : ∀ q ∈ a, q ∈ c) (t : ∀ q ∈ b, q ∈ c) : ∀ q ∈ a ++ b, q ∈ c := fun q hq => (List.mem_append.mp hq).elim (h q) (t q)
theorem mem_up {α : Type} {a b c : List α} {x q : α} : q ∈ a ++ (b ++ x :: c) ↔ q ∈ x :: (a ++ (b ++ c)) := by
  rw [← List.append_assoc, ← List.append_assoc]
  exact List.perm_middle.mem_iff
theorem mem_in {α : Type} {a pre post c : List α} {x q : α} : q ∈ a ++ ((pre ++ x :: post) ++ c) ↔ q ∈ x :: (a ++ (pre ++ post ++ c)) := by
  rw [List.append_assoc pre, List.append_assoc pre, List.cons_append]
  exact mem_up
theorem mem_sv {α : Type} {s a d c : List α} {i m o q : α} : q ∈ s ++ (a ++ (i :: m :: o :: d) ++ c) ↔ q ∈ a ++ ((i :: m :: o :: (s ++ d)) ++ c) := by
  simp only [List.mem_append, List.mem_cons]
  exact iff_of_eq (by ac_rfl)
theorem mem_pa {α : Type} {s a d c : List α} {i m o x q : α} : q ∈ a ++ ((i :: m :: o :: (s ++ (d ++ [x]))) ++ c) ↔ q ∈ o :: x :: (a ++ ([i, m] ++ (s ++ d) ++ c)) := by
  simp only [List.mem_append, List.mem_cons, List.not_mem_nil, or_false]
  exact iff_of_eq (by ac_rfl)
section
variable {w : World} {h₀ h : Heap} {L : Addr} {c : CA} {v : SV} {ws : List Int} {md : List (Int × Int)} {ps : List (List (Int × Int))} {ns : List Int}
theorem Rep.outer (R : Rep w L c v ws md ps ns) (N : News h₀ L h (Led L c v)) {pre post : List (Addr × Obj)} {D : Addr} {vs : List Value} {n : Nat} (e : muts c v = pre ++ (D, PySem.W.listOf vs.toArray n) :: post) :
    News h₀ L h ((D, PySem.W.listOf vs.toArray n) :: (cel L v ++ (pre ++ post ++ (v.cst ++ v.own)))) ∧ ∀ p ∈ cel L v ++ (pre ++ post ++ (v.cst ++ v.own)), p.1 ≠ D := by
  have N' : News h₀ L h ((D, PySem.W.listOf vs.toArray n) :: (cel L v ++ (pre ++ post ++ (v.cst ++ v.own)))) := by
    refine newsSub N fun p hp => ?_
    rw [Led, e]
    exact mem_in.mpr hp
  refine ⟨N', fun p hp hd => ?_⟩
  have nd := R.nd
  rw [← muts_adr, e, List.map_append, List.map_cons, List.nodup_append] at nd
  have hD : D ∈ adr c v := by rw [← muts_adr, e]; simp
  rcases List.mem_append.mp hp with hc | hp
  · exact R.low D hD (hd ▸ cel_adr hc)
  · rcases List.mem_append.mp hp with hp | hp
    · obtain ⟨n1, n2, n3⟩ := nd
      rcases List.mem_append.mp hp with hp | hp
      · exact n3 p.1 (List.mem_map.mpr ⟨p, hp, rfl⟩) D (by simp) hd
      · exact (List.nodup_cons.mp n2).1 (List.mem_map.mpr ⟨p, hp, hd⟩)
    · have q := (N' p (List.mem_cons_of_mem _ (List.mem_append_right _ (List.mem_append_right _ hp)))).1
      have q' := (N' _ (List.mem_cons_self)).1
      rw [hd] at q
      have : p.2 = PySem.W.listOf vs.toArray n := by
        rw [q'] at q; exact (Option.some.inj q).symm
      rcases List.mem_append.mp hp with hp | hp
      · exact R.off p hp (by rw [this]) (hd ▸ hD)
      · exact R.ow2 p hp (hd ▸ hD)
theorem news_back {h' : Heap} {pre post cs cst : List (Addr × Obj)} {p : Addr × Obj} (N : News h₀ L h' (p :: (cs ++ (pre ++ post ++ cst)))) : News h₀ L h' (cs ++ ((pre ++ p :: post) ++ cst)) :=
  newsSub N fun _ hq => mem_in.mp hq
theorem Rep.grow (R : Rep w L c v ws md ps ns) {D : Addr} {o : Obj} (hD : ∀ p ∈ Led L c v, p.1 ≠ D) : Rep w L c { v with cst := (D, o) :: v.cst } ws md ps ns := by
  have sub : ∀ p ∈ v.cst, p ∈ (D, o) :: v.cst := fun p hp => List.mem_cons_of_mem _ hp
  exact { R with
    hT := sub _ R.hT, hdT := sub _ R.hdT, hR := sub _ R.hR, hdR := sub _ R.hdR, hka := sub _ R.hka, hks := DatAll.mono sub R.hks, hys := sub _ R.hys, hyk := DatAll.mono sub R.hyk, hba := sub _ R.hba
    has := DatAll.mono sub R.has, hmd := DatAll.mono sub R.hmd, hps := R.hps.mono sub
    lowc := fun p hp => by
      rcases List.mem_cons.mp hp with rfl | hp
      · intro a ha e
        have q : ∃ o, (a, o) ∈ cel L v := by
          simp only [cadr, List.mem_cons, List.not_mem_nil, or_false] at ha
          rcases ha with rfl | rfl | rfl | rfl | rfl
          · exact ⟨v.oN, by simp⟩
          · exact ⟨v.oO, by simp⟩
          · exact ⟨v.oW, by simp⟩
          · exact ⟨v.oP, by simp⟩
          · exact ⟨v.oK, by simp⟩
        obtain ⟨o', ho'⟩ := q
        exact hD _ (List.mem_append_left _ ho') e.symm
      · exact R.lowc p hp
    ow3 := fun p hp q hq => by
      rcases List.mem_cons.mp hq with rfl | hq
      · exact hD p (List.mem_append_right _ (List.mem_append_right _ (List.mem_append_right _ hp)))
      · exact R.ow3 p hp q hq
    off := fun p hp hc => by
      rcases List.mem_cons.mp hp with rfl | hp
      · intro ha
        have ha' : D ∈ adr c v := ha
        rw [← muts_adr] at ha'
        obtain ⟨q, hq, e⟩ := List.mem_map.mp ha'
        exact hD q (List.mem_append_right _ (List.mem_append_left _ hq)) e
      · exact R.off p hp hc }
theorem news_grow {D : Addr} {o : Obj} (N : News h₀ L h ((D, o) :: Led L c v)) : News h₀ L h (Led L c { v with cst := (D, o) :: v.cst }) :=
  newsSub N fun _ hq => mem_up.mp hq
end
end
section
theorem freshD2 : True := by
  w_top off
  trivial
section
variable {w : World} {A A₀ : Around} {E : Value → Shared → Prop} {s : Shared} {L : Addr} {h₀ base : Heap} {m mg mb : Str → Option Value} {news news' : List (Addr × Obj)} {p : Program} {loose : List Str} {mean : ExcName → Option Value} {env : Env} {outer : List Env}
theorem Cx.to {n n' : Nat} (C : Cx w A₀ A s L h₀ base m mg mb news p loose mean env outer n) (N : News h₀ L s.heap news') (hn : n ≤ n') : Cx w A₀ A s L h₀ base m mg mb news' p loose mean env outer n' :=
  ⟨C.X, C.B, C.F, N, C.T, C.fr, C.fm, C.kd, C.hh, Nat.le_trans C.dp hn, Nat.le_trans C.un (Nat.mul_le_mul_left _ hn)⟩
noncomputable def alk (ws : List Int) (x y : Int) : Bool := alikeB ((nmsOf ws).getD y.toNat Str.empty) ((spsOf ws).getD y.toNat Str.empty) ((attOf ws).getD y.toNat []) ((nmsOf ws).getD x.toNat Str.empty) ((spsOf ws).getD x.toNat Str.empty) ((attOf ws).getD x.toNat [])
noncomputable def pushR (ws : List Int) (x : Int) (ns : List Int) : List Int := (if (scanR (alk ws x) 0 (-1) ns.reverse).1 ≥ 3 then ns.eraseIdx (scanR (alk ws x) 0 (-1) ns.reverse).2.toNat else ns) ++ [x]
theorem att_len (ws : List Int) : (attOf ws).length = ws.length + 1 := by simp [attOf]
theorem nms_len (ws : List Int) : (nmsOf ws).length = ws.length + 1 := by simp [nmsOf]
theorem sps_len (ws : List Int) : (spsOf ws).length = ws.length + 1 := by simp [spsOf]
theorem kOf_small (k : Int) : (kOf k).2.2.length ≤ 3 := by
  unfold kOf
  rcases Nat.lt_or_ge k.toNat 12 with h | h
  · have : ∀ i < 12, (KS.getD i kd0).2.2.length ≤ 3 := by decide
    exact this _ h
  · have e : KS.getD k.toNat kd0 = kd0 := by
      have hl : KS.length ≤ k.toNat := h
      simp [List.getD, List.getElem?_eq_none hl]
    rw [e]; decide
theorem att_small (ws : List Int) : ∀ x ∈ attOf ws, x.length ≤ 1000 := by
  intro x hx
  simp only [attOf, List.mem_cons, List.mem_map] at hx
  rcases hx with rfl | ⟨k, _, rfl⟩
  · simp
  · exact Nat.le_trans (kOf_small k) (by decide)
variable {c : CA} {v : SV} {ws : List Int} {md : List (Int × Int)} {ps : List (List (Int × Int))} {ns : List Int}
theorem op_push {x : Int} {tx : Tok} {Q : Value → Shared → Prop} (C : Cx w A₀ A s L h₀ base m mg mb (Led L c v) p loose mean env outer 400) (R : Rep w L c v ws md ps ns) (hl : ns.length ≤ 900) (hw : ws.length ≤ 900)
    (hx0 : 0 ≤ x) (hx1 : x ≤ ws.length) (hin : ∀ y ∈ ns, y = -1 ∨ (0 ≤ y ∧ y ≤ ws.length))
    (hQ : ∀ h' tk vs' n', Fr h₀ L h' m → News h₀ L h' (Led L c { v with ivs := vs', i0 := n' }) → Rep w L c { v with ivs := vs', i0 := n' } ws md ps (pushR ws x ns) → Q .none {s with heap := h', toks := tk}) :
    wpAny (model PySem.Challenge.rw_nt0595_01.row.prog w) A (call (.ref 42) [.ref c.r.R, .int x tx]) Q E s := by
  obtain ⟨N', ho⟩ := R.outer C.N (pre := []) (post := mO c v :: pO v :: (led7v c v ++ pmOf v.prs)) rfl
  have al := att_len ws
  have hc : ∀ p ∈ v.cst, p ∈ cel L v ++ ([] ++ (mO c v :: pO v :: (led7v c v ++ pmOf v.prs)) ++ (v.cst ++ v.own)) := fun p hp => List.mem_append_right _ (List.mem_append_right _ (List.mem_append_left _ hp))
  refine push_K (cst := v.cst) (C.to N' (by decide)) (hc _ R.hR) (hc _ R.hdR) ho R.hit hl hc (hc _ R.hT) (hc _ R.hdT) (avs := v.avs) (an := v.k3) (List.mem_append_right _ (List.mem_append_left _ (.tail _ (.tail _ (List.mem_append_left _ (.tail _ (.tail _ (.tail _ (.head _))))))))) R.has (by omega) (nvs := v.nvs) (nn := v.k2) (List.mem_append_right _ (List.mem_append_left _ (.tail _ (.tail _ (List.mem_append_left _ (.tail _ (.tail _ (.head _)))))))) R.hns (svs := v.svs) (sn := v.k1) (List.mem_append_right _ (List.mem_append_left _ (.tail _ (.tail _ (List.mem_append_left _ (.tail _ (.head _))))))) R.hss (by rw [nms_len, al]) (by rw [sps_len, al]) hx0 (by omega) (att_small ws) (fun y hy => by have := hin y hy; omega) (alk ws x) (fun y => rfl) ?_
  intro h' tk vs' n' F' N1 hi'
  exact hQ h' tk vs' n' F' (news_back (pre := []) N1) { R with hit := hi' }
theorem op_mark {Q : Value → Shared → Prop} (C : Cx w A₀ A s L h₀ base m mg mb (Led L c v) p loose mean env outer 400) (R : Rep w L c v ws md ps ns) (hl : ns.length ≤ 900)
    (hQ : ∀ h' tk vs' n', Fr h₀ L h' m → News h₀ L h' (Led L c { v with ivs := vs', i0 := n' }) → Rep w L c { v with ivs := vs', i0 := n' } ws md ps (ns ++ [-1]) → Q .none {s with heap := h', toks := tk}) :
    wpAny (model PySem.Challenge.rw_nt0595_01.row.prog w) A (call (.ref 49) [.ref c.r.R]) Q E s := by
  obtain ⟨N', ho⟩ := R.outer C.N (pre := []) (post := mO c v :: pO v :: (led7v c v ++ pmOf v.prs)) rfl
  have hc : ∀ p ∈ v.cst, p ∈ cel L v ++ ([] ++ (mO c v :: pO v :: (led7v c v ++ pmOf v.prs)) ++ (v.cst ++ v.own)) := fun p hp => List.mem_append_right _ (List.mem_append_right _ (List.mem_append_left _ hp))
  refine mark_K (C.to N' (by decide)) (hc _ R.hR) (hc _ R.hdR) ho R.hit (by omega) ?_
  intro h' tk vs' n' F' N1 hi'
  exact hQ h' tk vs' n' F' (news_back (pre := []) N1) { R with hit := hi' }
theorem op_clear {Q : Value → Shared → Prop} (C : Cx w A₀ A s L h₀ base m mg mb (Led L c v) p loose mean env outer 400) (R : Rep w L c v ws md ps ns) (hl : ns.length ≤ 900)
    (hQ : ∀ h' tk vs' n', Fr h₀ L h' m → News h₀ L h' (Led L c { v with ivs := vs', i0 := n' }) → Rep w L c { v with ivs := vs', i0 := n' } ws md ps (clearR ns.reverse).reverse → Q .none {s with heap := h', toks := tk}) :
    wpAny (model PySem.Challenge.rw_nt0595_01.row.prog w) A (call (.ref 56) [.ref c.r.R]) Q E s := by
  obtain ⟨N', ho⟩ := R.outer C.N (pre := []) (post := mO c v :: pO v :: (led7v c v ++ pmOf v.prs)) rfl
  have hc : ∀ p ∈ v.cst, p ∈ cel L v ++ ([] ++ (mO c v :: pO v :: (led7v c v ++ pmOf v.prs)) ++ (v.cst ++ v.own)) := fun p hp => List.mem_append_right _ (List.mem_append_right _ (List.mem_append_left _ hp))
  refine clear_K (C.to N' (by decide)) (hc _ R.hR) (hc _ R.hdR) ho R.hit (by omega) ?_
  intro h' tk vs' n' F' N1 hi'
  exact hQ h' tk vs' n' F' (news_back (pre := []) N1) { R with hit := hi' }
theorem op_remove {x : Int} {tx : Tok} {Q : Value → Shared → Prop} (C : Cx w A₀ A s L h₀ base m mg mb (Led L c v) p loose mean env outer 400) (R : Rep w L c v ws md ps ns) (hl : ns.length ≤ 900)
    (hQ : ∀ h' tk vs' n', Fr h₀ L h' m → News h₀ L h' (Led L c { v with ivs := vs', i0 := n' }) → Rep w L c { v with ivs := vs', i0 := n' } ws md ps (ns.erase x) → Q .none {s with heap := h', toks := tk}) :
    wpAny (model PySem.Challenge.rw_nt0595_01.row.prog w) A (call (.ref 84) [.ref c.r.R, .int x tx]) Q E s := by
  obtain ⟨N', ho⟩ := R.outer C.N (pre := []) (post := mO c v :: pO v :: (led7v c v ++ pmOf v.prs)) rfl
  have hc : ∀ p ∈ v.cst, p ∈ cel L v ++ ([] ++ (mO c v :: pO v :: (led7v c v ++ pmOf v.prs)) ++ (v.cst ++ v.own)) := fun p hp => List.mem_append_right _ (List.mem_append_right _ (List.mem_append_left _ hp))
  refine remove_K (C.to N' (by decide)) (hc _ R.hR) (hc _ R.hdR) ho R.hit (by omega) ?_
  intro h' tk vs' n' F' N1 hi'
  exact hQ h' tk vs' n' F' (news_back (pre := []) N1) { R with hit := hi' }
theorem op_replace {x y : Int} {tx ty : Tok} {Q : Value → Shared → Prop} (C : Cx w A₀ A s L h₀ base m mg mb (Led L c v) p loose mean env outer 400) (R : Rep w L c v ws md ps ns) (hl : ns.length ≤ 900)
    (hQ : ∀ h' tk vs' n', Fr h₀ L h' m → News h₀ L h' (Led L c { v with ivs := vs', i0 := n' }) → Rep w L c { v with ivs := vs', i0 := n' } ws md ps (if x ∈ ns then ns.set (ns.idxOf x) y else ns) → Q .none {s with heap := h', toks := tk}) :
    wpAny (model PySem.Challenge.rw_nt0595_01.row.prog w) A (call (.ref 91) [.ref c.r.R, .int x tx, .int y ty]) Q E s := by
  obtain ⟨N', ho⟩ := R.outer C.N (pre := []) (post := mO c v :: pO v :: (led7v c v ++ pmOf v.prs)) rfl
  have hc : ∀ p ∈ v.cst, p ∈ cel L v ++ ([] ++ (mO c v :: pO v :: (led7v c v ++ pmOf v.prs)) ++ (v.cst ++ v.own)) := fun p hp => List.mem_append_right _ (List.mem_append_right _ (List.mem_append_left _ hp))
  refine replace_K (C.to N' (by decide)) (hc _ R.hR) (hc _ R.hdR) ho R.hit (by omega) ?_
  intro h' tk vs' n' F' N1 hi'
  exact hQ h' tk vs' n' F' (news_back (pre := []) N1) { R with hit := hi' }
theorem op_put {k y : Int} {tk ty : Tok} {Q : Value → Shared → Prop} (C : Cx w A₀ A s L h₀ base m mg mb (Led L c v) p loose mean env outer 400) (R : Rep w L c v ws md ps ns) (hl : ns.length ≤ 900) (hk0 : 0 ≤ k) (hk1 : k ≤ ns.length)
    (hQ : ∀ h' tk vs' n', Fr h₀ L h' m → News h₀ L h' (Led L c { v with ivs := vs', i0 := n' }) → Rep w L c { v with ivs := vs', i0 := n' } ws md ps (ns.take k.toNat ++ y :: ns.drop k.toNat) → Q .none {s with heap := h', toks := tk}) :
    wpAny (model PySem.Challenge.rw_nt0595_01.row.prog w) A (call (.ref 98) [.ref c.r.R, .int k tk, .int y ty]) Q E s := by
  obtain ⟨N', ho⟩ := R.outer C.N (pre := []) (post := mO c v :: pO v :: (led7v c v ++ pmOf v.prs)) rfl
  have hc : ∀ p ∈ v.cst, p ∈ cel L v ++ ([] ++ (mO c v :: pO v :: (led7v c v ++ pmOf v.prs)) ++ (v.cst ++ v.own)) := fun p hp => List.mem_append_right _ (List.mem_append_right _ (List.mem_append_left _ hp))
  refine put_K (C.to N' (by decide)) (hc _ R.hR) (hc _ R.hdR) ho R.hit (by omega) hk0 hk1 ?_
  intro h' tk vs' n' F' N1 hi'
  exact hQ h' tk vs' n' F' (news_back (pre := []) N1) { R with hit := hi' }
theorem op_has {x : Int} {tx : Tok} {Q : Value → Shared → Prop} (C : Cx w A₀ A s L h₀ base m mg mb news p loose mean env outer 400) (hs : ∀ p ∈ Led L c v, p ∈ news) (R : Rep w L c v ws md ps ns)
    (hQ : ∀ h' tk, Fr h₀ L h' m → News h₀ L h' news → Q (.bool (decide (x ∈ ns))) {s with heap := h', toks := tk}) :
    wpAny (model PySem.Challenge.rw_nt0595_01.row.prog w) A (call (.ref 70) [.ref c.r.R, .int x tx]) Q E s := by
  have hc : ∀ p ∈ v.cst, p ∈ news := fun p hp => hs _ (List.mem_append_right _ (List.mem_append_right _ (List.mem_append_left _ hp)))
  exact has_K (C.to C.N (by decide)) (hc _ R.hR) (hc _ R.hdR) (hs _ (List.mem_append_right _ (List.mem_cons_self))) R.hit hQ
theorem op_place {x : Int} {tx : Tok} {Q : Value → Shared → Prop} (C : Cx w A₀ A s L h₀ base m mg mb news p loose mean env outer 400) (hs : ∀ p ∈ Led L c v, p ∈ news) (R : Rep w L c v ws md ps ns) (hl : ns.length ≤ 900)
    (hQ : ∀ h' tk t, Fr h₀ L h' m → News h₀ L h' news → Q (.int (if x ∈ ns then (ns.idxOf x : Nat) else -1) t) {s with heap := h', toks := tk}) :
    wpAny (model PySem.Challenge.rw_nt0595_01.row.prog w) A (call (.ref 77) [.ref c.r.R, .int x tx]) Q E s := by
  have hc : ∀ p ∈ v.cst, p ∈ news := fun p hp => hs _ (List.mem_append_right _ (List.mem_append_right _ (List.mem_append_left _ hp)))
  refine place_K (C.to C.N (by decide)) (hc _ R.hR) (hc _ R.hdR) (hs _ (List.mem_append_right _ (List.mem_cons_self))) R.hit (by omega) (fun hx h' tk t F' N' => ?_) (fun hx h' tk t F' N' => ?_)
  · have := hQ h' tk t F' N'
    rwa [if_pos hx] at this
  · have := hQ h' tk t F' N'
    rwa [if_neg hx] at this
theorem op_find {nm : Str} {tx : Tok} {Q : Value → Shared → Prop} (C : Cx w A₀ A s L h₀ base m mg mb news p loose mean env outer 400) (hs : ∀ p ∈ Led L c v, p ∈ news) (R : Rep w L c v ws md ps ns) (hl : ns.length ≤ 900) (hw : ws.length ≤ 900) (hin : ∀ y ∈ ns, y = -1 ∨ (0 ≤ y ∧ y ≤ ws.length))
    (hQ : ∀ h' tk t, Fr h₀ L h' m → News h₀ L h' news → Q (.int (findR (nmsOf ws) nm ns.reverse) t) {s with heap := h', toks := tk}) :
    wpAny (model PySem.Challenge.rw_nt0595_01.row.prog w) A (call (.ref 63) [.ref c.r.R, .str nm tx]) Q E s := by
  have hc : ∀ p ∈ v.cst, p ∈ news := fun p hp => hs _ (List.mem_append_right _ (List.mem_append_right _ (List.mem_append_left _ hp)))
  have nl := nms_len ws
  refine find_K (C.to C.N (by decide)) (hc _ R.hR) (hc _ R.hdR) (hs _ (List.mem_append_right _ (List.mem_cons_self))) R.hit (by omega) (hc _ R.hT) (hc _ R.hdT) (nvs := v.nvs) (nn := v.k2) (hs _ (List.mem_append_right _ (List.mem_append_left _ (.tail _ (.tail _ (.tail _ (List.mem_append_left _ (.tail _ (.tail _ (.head _)))))))))) R.hns (by omega) (fun y hy => by have := hin y hy; omega) hQ
theorem op_alike {a b : Int} {t1 t2 : Tok} {Q : Value → Shared → Prop} (C : Cx w A₀ A s L h₀ base m mg mb news p loose mean env outer 400) (hs : ∀ p ∈ Led L c v, p ∈ news) (R : Rep w L c v ws md ps ns) (hw : ws.length ≤ 900)
    (ha0 : 0 ≤ a) (ha1 : a ≤ ws.length) (hb0 : 0 ≤ b) (hb1 : b ≤ ws.length)
    (hQ : ∀ h' tk, Fr h₀ L h' m → News h₀ L h' news → Q (.bool (alk ws b a)) {s with heap := h', toks := tk}) :
    wpAny (model PySem.Challenge.rw_nt0595_01.row.prog w) A (call (.ref 112) [.ref c.ta.T, .int a t1, .int b t2]) Q E s := by
  have hc : ∀ p ∈ v.cst, p ∈ news := fun p hp => hs _ (List.mem_append_right _ (List.mem_append_right _ (List.mem_append_left _ hp)))
  have al := att_len ws
  exact alike_K (cst := v.cst) (C.to C.N (by decide)) hc (hc _ R.hT) (hc _ R.hdT) (avs := v.avs) (an := v.k3) (hs _ (List.mem_append_right _ (List.mem_append_left _ (.tail _ (.tail _ (.tail _ (List.mem_append_left _ (.tail _ (.tail _ (.tail _ (.head _))))))))))) R.has (by omega) (nvs := v.nvs) (nn := v.k2) (hs _ (List.mem_append_right _ (List.mem_append_left _ (.tail _ (.tail _ (.tail _ (List.mem_append_left _ (.tail _ (.tail _ (.head _)))))))))) R.hns (svs := v.svs) (sn := v.k1) (hs _ (List.mem_append_right _ (List.mem_append_left _ (.tail _ (.tail _ (.tail _ (List.mem_append_left _ (.tail _ (.head _))))))))) R.hss (by rw [nms_len, al]) (by rw [sps_len, al]) ha0 (by omega) hb0 (by omega) (att_small ws) hQ
theorem StrsAt.snoc {vs : List Value} {xs : List Str} (h : StrsAt vs xs) (x : Str) (t : Tok) : StrsAt (vs ++ [.str x t]) (xs ++ [x]) := by
  obtain ⟨h1, h2⟩ := h
  refine ⟨by simp [h1], fun i y hy => ?_⟩
  rcases Nat.lt_or_ge i xs.length with hi | hi
  · rw [List.getElem?_append_left hi] at hy
    obtain ⟨t', ht⟩ := h2 i y hy
    exact ⟨t', by rw [List.getElem?_append_left (by omega)]; exact ht⟩
  · rw [List.getElem?_append_right hi] at hy
    have hi0 : i - xs.length = 0 := by
      rcases Nat.eq_zero_or_pos (i - xs.length) with h | h
      · exact h
      · rw [List.getElem?_eq_none (by simp; omega)] at hy; cases hy
    rw [hi0] at hy
    simp at hy
    subst hy
    exact ⟨t, by rw [List.getElem?_append_right (by omega), h1, hi0]; rfl⟩
theorem all_app {α : Type} {P : α → Prop} {a b : List α} (h : ∀ q ∈ a, P q) (t : ∀ q ∈ b, P q) : ∀ q ∈ a ++ b, P q := fun q hq => (List.mem_append.mp hq).elim (h q) (t q)
theorem all_cons {α : Type} {P : α → Prop} {x : α} {a : List α} (h : P x) (t : ∀ q ∈ a, P q) : ∀ q ∈ x :: a, P q := List.forall_mem_cons.mpr ⟨h, t⟩
theorem ord_lt {ta : TA} {al : Addr} (o : Ord7 ta) (h : @LT.lt Nat _ ta.cL al) : ∀ a ∈ adr7 ta, @LT.lt Nat _ a al :=
  have c5 := Nat.lt_trans o.f h
  have c4 := Nat.lt_trans o.e c5
  have c3 := Nat.lt_trans o.d c4
  have c2 := Nat.lt_trans o.c c3
  have c1 := Nat.lt_trans o.b c2
  all_cons (Nat.lt_trans o.a c1) (all_cons c1 (all_cons c2 (all_cons c3 (all_cons c4 (all_cons c5 (all_cons h fun _ h => nomatch h))))))
theorem op_element {k : Int} {t1 t2 : Tok} {at' : Addr} {its : List Value} {tn : Nat} {Q : Value → Shared → Prop} (C : Cx w A₀ A s L h₀ base m mg mb (Led L c v) p loose mean env outer 400) (R : Rep w L c v ws md ps ns) (hw : ws.length ≤ 900) (hk0 : 0 ≤ k) (hk1 : k < 12)
    (hat : (at', tupO its tn) ∈ v.cst) (hits : DatAll v.cst its ((kOf k).2.2.map fun p => .tuple [.str p.1, .str p.2]))
    (hQ : ∀ h' tk v' ti, Fr h₀ L h' m → News h₀ L h' (Led L c v') → Rep w L c v' (ws ++ [k]) md ps ns → (∀ p ∈ v.cst, p ∈ v'.cst) → v'.oN = v.oN → v'.oO = v.oO → v'.oW = v.oW → v'.mvs = v.mvs → v'.prs = v.prs → v'.pL = v.pL → v'.own = v.own → Q (.int (ws.length + 1 : Nat) ti) {s with heap := h', toks := tk}) :
    wpAny (model PySem.Challenge.rw_nt0595_01.row.prog w) A (call (.ref 176) [.ref c.ta.T, .str (kOf k).2.1 t1, .str (kOf k).1 t2, .ref at']) Q E s := by
  have al := att_len ws
  have nl := nms_len ws
  have sl := sps_len ws
  have l1 := R.l0
  have l2 := R.hss.1
  have l3 := R.hns.1
  have l4 := R.has.length
  rw [List.length_map] at l4
  have l5 := R.l4
  have l6 := R.l5
  have l7 := R.l6
  have N1 : News h₀ L s.heap (led7v c v ++ (cel L v ++ (iO c v :: mO c v :: pO v :: pmOf v.prs) ++ (v.cst ++ v.own))) := by
    exact newsSub C.N fun _ hq => mem_sv.mp hq
  have off : ∀ D ∈ adr7 c.ta, ∀ p ∈ cel L v ++ (iO c v :: mO c v :: pO v :: pmOf v.prs) ++ (v.cst ++ v.own), p.1 ≠ D := by
    intro D hD p hp hd
    have hDa : D ∈ adr c v := List.mem_cons_of_mem _ (List.mem_cons_of_mem _ (List.mem_cons_of_mem _ (List.mem_append_left _ hD)))
    rcases List.mem_append.mp hp with hp | hp
    · rcases List.mem_append.mp hp with hc | hp
      · exact R.low D hDa (hd ▸ cel_adr hc)
      · have nd := R.nd
        have e : ∀ q ∈ iO c v :: mO c v :: pO v :: pmOf v.prs, q.1 ∈ c.r.iL :: c.mL :: v.pL :: v.prs.map (·.1) := by
          intro q hq
          simp only [List.mem_cons, pmOf, List.mem_map] at hq ⊢
          rcases hq with rfl | rfl | rfl | ⟨a, ha, rfl⟩
          · simp
          · simp
          · simp
          · exact .inr (.inr (.inr ⟨a, ha, rfl⟩))
        have hq := e p hp
        rw [hd] at hq
        have pm : (c.r.iL :: c.mL :: v.pL :: (adr7 c.ta ++ v.prs.map (·.1))).Perm (adr7 c.ta ++ (c.r.iL :: c.mL :: v.pL :: v.prs.map (·.1))) := by
          have := @List.perm_middle _ c.r.iL (adr7 c.ta) (c.mL :: v.pL :: v.prs.map (·.1))
          have h2 := @List.perm_middle _ c.mL (adr7 c.ta) (v.pL :: v.prs.map (·.1))
          have h3 := @List.perm_middle _ v.pL (adr7 c.ta) (v.prs.map (·.1))
          exact ((((h3.symm).cons _).trans h2.symm).cons _).trans this.symm
        have nd2 := pm.nodup_iff.mp nd
        rw [List.nodup_append] at nd2
        exact nd2.2.2 D hD D hq rfl
    · refine (List.mem_append.mp hp).elim (fun hp => ?_) (fun hp => R.ow2 p hp (hd ▸ hDa))
      have q := (C.N p (List.mem_append_right _ (List.mem_append_right _ (List.mem_append_left _ hp)))).1
      rw [← muts_adr] at hDa
      obtain ⟨p2, hp2, e⟩ := List.mem_map.mp hDa
      have hl : p2.2.cls = .type "list" := by
        simp only [muts, led7v, led7, List.mem_cons, List.mem_append, pmOf, List.mem_map, List.not_mem_nil, or_false] at hp2
        rcases hp2 with rfl | rfl | rfl | (rfl | rfl | rfl | rfl | rfl | rfl | rfl) | ⟨a, _, rfl⟩ <;> rfl
      have q2 := (C.N p2 (List.mem_append_right _ (List.mem_append_left _ hp2))).1
      rw [e, ← hd, q] at q2
      rw [← Option.some.inj q2] at hl
      exact R.off p hp hl (by rw [← muts_adr, hd]; exact hDa)
  have hc : ∀ p ∈ v.cst, p ∈ cel L v ++ (iO c v :: mO c v :: pO v :: pmOf v.prs) ++ (v.cst ++ v.own) := fun p hp => List.mem_append_right _ (List.mem_append_left _ hp)
  have le1 : ∀ n : Nat, n = ws.length + 1 → n ≤ 1000 := fun n h => h ▸ Nat.le_trans (Nat.add_le_add_right hw 1) (by decide)
  have hnt : ((kOf k).2.1 == Str.ofString "template") = false := by
    unfold kOf
    have : ∀ i < 12, ((KS.getD i kd0).2.1 == Str.ofString "template") = false := by decide
    exact this _ (by omega)
  have hit := hits.length
  rw [List.length_map] at hit
  have hsm := kOf_small k
  refine element_K (C.to N1 (by decide)) ⟨off _ (.head _), off _ (.tail _ (.head _)), off _ (.tail _ (.tail _ (.head _))), off _ (.tail _ (.tail _ (.tail _ (.head _)))), off _ (.tail _ (.tail _ (.tail _ (.tail _ (.head _))))), off _ (.tail _ (.tail _ (.tail _ (.tail _ (.tail _ (.head _)))))), off _ (.tail _ (.tail _ (.tail _ (.tail _ (.tail _ (.tail _ (.head _))))))) ⟩ R.ord (hc _ R.hT) (hc _ R.hdT) (hc _ hat) (by rw [hit]; exact Nat.le_trans hsm (by decide)) (le1 _ l1) (le1 _ (l2.trans sl)) (le1 _ (l3.trans nl)) (le1 _ (l4.trans al)) (le1 _ l5) (le1 _ l6) (le1 _ l7) hnt ?_
  intro h' tk i ti tt ta1 ta2 al cl ac j0 j1 j2 j3 j4 j5 j6 hi hca hac hla hlc F' N2
  subst hi
  have e : (v.kvs.length : Int) = ((ws.length + 1 : Nat) : Int) := by rw [l1]
  rw [e]
  have lowA : ∀ p ∈ Led L c v, @LT.lt Nat _ p.1 al := by
    have hl := allLt_mem hla
    exact all_app (fun p hp => hl p (List.mem_append_left _ (List.mem_append_left _ hp)))
      (all_app (all_cons (hl _ (List.mem_append_left _ (List.mem_append_right _ (.head _)))) (all_cons (hl _ (List.mem_append_left _ (List.mem_append_right _ (.tail _ (.head _))))) (all_cons (hl _ (List.mem_append_left _ (List.mem_append_right _ (.tail _ (.tail _ (.head _))))))
        (all_app (fun p hp => ord_lt R.ord hca p.1 (List.mem_map_of_mem (f := fun q : Addr × Obj => q.1) hp)) fun p hp => hl p (List.mem_append_left _ (List.mem_append_right _ (.tail _ (.tail _ (.tail _ hp)))))))))
        fun p hp => hl p (List.mem_append_right _ hp))
  have R1 := R.grow (o := PySem.W.listOf its.toArray ac) fun p hp => Nat.ne_of_lt (lowA p hp)
  have sub : ∀ p ∈ v.cst, p ∈ (al, PySem.W.listOf its.toArray ac) :: v.cst := fun p hp => List.mem_cons_of_mem _ hp
  refine hQ h' tk { v with cst := (al, PySem.W.listOf its.toArray ac) :: v.cst, kvs := v.kvs ++ [.str (Str.ofString "element") ta1], svs := v.svs ++ [.str (kOf k).1 t2], nvs := v.nvs ++ [.str (kOf k).2.1 t1], avs := v.avs ++ [.ref al], xvs := v.xvs ++ [tt], pvs := v.pvs ++ [.int (-1) ta2], cvs := v.cvs ++ [.ref cl], k0 := j0, k1 := j1, k2 := j2, k3 := j3, k4 := j4, k5 := j5, k6 := j6 } ti F' ?_ ?_ sub rfl rfl rfl rfl rfl rfl rfl
  · refine newsSub N2 fun q hq => ?_
    rcases List.mem_cons.mp (mem_up.mp hq) with rfl | hq
    · exact List.mem_append_right _ List.mem_cons_self
    · exact (List.mem_append.mp (mem_sv.mpr hq)).elim (List.mem_append_left _) fun h => List.mem_append_right _ (List.mem_cons_of_mem _ (List.mem_cons_of_mem _ h))
  · exact { R1 with
      has := by
        have e1 : (attOf (ws ++ [k])).map attrD = (attOf ws).map attrD ++ [attrD (kOf k).2.2] := by simp [attOf]
        rw [e1]
        exact (DatAll.mono sub R.has).append (.one (.list (List.mem_cons_self) (DatAll.mono sub hits)))
      hns := by
        have e1 : nmsOf (ws ++ [k]) = nmsOf ws ++ [(kOf k).2.1] := by simp [nmsOf]
        rw [e1]; exact R.hns.snoc _ _
      hss := by
        have e1 : spsOf (ws ++ [k]) = spsOf ws ++ [(kOf k).1] := by simp [spsOf]
        rw [e1]; exact R.hss.snoc _ _
      l0 := by simp [R.l0]
      l4 := by simp [R.l4]
      l5 := by simp [R.l5]
      l6 := by simp [R.l6] }
end
end
section
theorem freshD3 : True := by
  w_top off
  trivial
open PySem.SeqAt PySem.MeetsSeq AutoSeq1 in
theorem remove_loopAt (l : Addr) (items : Array Value) (n : Nat) (x : Value) (e : Value → Bool) (j : Nat) (hj : j < items.size) (hit : e items[j] = true) (k : Nat) (hs1 : items.size ≤ sizeLine) :
    ∀ i : Nat, j - i = k → i ≤ j → (∀ m (hm : m < items.size), i ≤ m → m < j → e items[m] = false) → Meets (Builtin.«list.remove.loop» ⟨[.ref l, x, rawInt i], []⟩)
      (fun A R s => s.heap.get? l = some { cls := .type "list", dict := none, data := .seq items n, slots := #[] } ∧ (∀ y, y ∈ items → EqAt A.in1 s y x (e y)) ∧ R (.ok (.ret .none)) { s with heap := s.heap.update l (Obj.mapSeq fun xs => xs.eraseIdxIfInBounds j) }) := by
  induction k with
  | zero =>
    intro i hk hij hno prog w A R s h
    obtain ⟨hp, g, d, tk, os⟩ := s; obtain ⟨hl, he, h⟩ := h
    have hij' : i = j := by omega
    subst hij'
    wp_walk using wpAny_loadPart' hl
    have hi : items[((i : Nat) : Int).toNat]? = some items[i] := by simp [hj]
    rw [hi]
    refine wpAny_bind (he _ (Array.getElem_mem hj) prog w _ _ ?_)
    rw [hit]
    have hz' : (items.eraseIdxIfInBounds i).size ≤ sizeLine + 1 := Nat.le_trans (size_erased items _) (Nat.le_succ_of_le hs1)
    wp_walk using (wpAny_updateSeq hl rfl (hz := hs1) (_hz' := hz')), wpAny_loadPart' hl
    simpa using h
  | succ k ih =>
    intro i hk hij hno prog w A R s h
    obtain ⟨hp, g, d, tk, os⟩ := s; obtain ⟨hl, he, h⟩ := h
    have hlt : i < items.size := by omega
    wp_walk using wpAny_loadPart' hl
    have hi : items[((i : Nat) : Int).toNat]? = some items[i] := by simp [hlt]
    have hc : ((i : Int) + 1) = ((i + 1 : Nat) : Int) := by push_cast; rfl
    rw [hi]
    refine wpAny_bind (he _ (Array.getElem_mem hlt) prog w _ _ ?_)
    rw [hno i hlt (Nat.le_refl _) (by omega)]
    wp_walk
    rw [hc]
    exact ⟨plainId_quiet plain_remove_loop _, codeAny_builtin entry_remove_loop (by
      rw [Around.under_plainId plain_remove_loop _]
      exact ih (i + 1) (by omega) (by omega) (fun m hm h1 h2 => hno m hm (by omega) h2) prog w A R _ ⟨hl, he, h⟩)⟩
open PySem.SeqAt PySem.MeetsSeq AutoSeq1 in
theorem list_removeAt (l : Addr) (items : Array Value) (n : Nat) (x : Value) (e : Value → Bool) (j : Nat) (hj : j < items.size)
    (hit : e items[j] = true) (hno : ∀ m (hm : m < items.size), m < j → e items[m] = false) (hs1 : items.size ≤ sizeLine) :
    Meets (Builtin.«list.remove» ⟨[.ref l, x], []⟩)
      (fun A R s => s.heap.get? l = some { cls := .type "list", dict := none, data := .seq items n, slots := #[] } ∧ (∀ y, y ∈ items → EqAt A.in1 s y x (e y)) ∧ R (.ok (.ret .none)) { s with heap := s.heap.update l (Obj.mapSeq fun xs => xs.eraseIdxIfInBounds j) }) := by
  intro prog w A R s h
  obtain ⟨hp, g, d, tk, os⟩ := s; obtain ⟨hl, he, h⟩ := h
  wp_walk using wpAny_loadPart' hl
  exact ⟨plainId_quiet plain_remove_loop _, codeAny_builtin entry_remove_loop (by
    rw [Around.under_plainId plain_remove_loop _]
    exact remove_loopAt l items n x e j hj hit _ hs1 0 rfl (Nat.zero_le _) (fun m hm _ h2 => hno m hm h2) prog w A R _ ⟨hl, he, h⟩)⟩
theorem kqdPs_map : ∀ ds : List Dat, kqdPs ds = ds.map kqdP
  | [] => rfl
  | d :: ds => by rw [kqdPs, kqdPs_map ds, List.map_cons]
theorem ent_inj {a b : Int × Int} : entD a = entD b ↔ a = b := by
  constructor
  · intro h
    simp only [entD, Dat.tuple.injEq, List.cons.injEq, Dat.int.injEq, and_true] at h
    exact Prod.ext h.1 h.2
  · intro h; rw [h]
theorem ent_eqv (a b : Int × Int) : PyData.eqv (kqdP (entD a)) (kqdP (entD b)) = decide (a = b) := by
  have q := kqd_eqv 8 (entD a) (entD b) 8 rfl rfl
  rw [ent_inj] at q
  by_cases h : a = b
  · rw [decide_eq_true h]; exact q.mpr h
  · rw [decide_eq_false h]; exact Bool.eq_false_iff.mpr fun x => h (q.mp x)
theorem da_eraseIdx {cst : List (Addr × Obj)} : ∀ {vs : List Value} {ds : List Dat}, DatAll cst vs ds → ∀ j : Nat, DatAll cst (vs.eraseIdx j) (ds.eraseIdx j)
  | _, _, .nil, _ => .nil
  | _, _, .cons a h, 0 => h
  | _, _, .cons a h, j + 1 => .cons a (da_eraseIdx h j)
theorem da_take {cst : List (Addr × Obj)} : ∀ {vs : List Value} {ds : List Dat}, DatAll cst vs ds → ∀ j : Nat, DatAll cst (vs.take j) (ds.take j)
  | _, _, .nil, _ => by simp only [List.take_nil]; exact .nil
  | _, _, .cons a h, 0 => .nil
  | _, _, .cons a h, j + 1 => .cons a (da_take h j)
theorem da_drop {cst : List (Addr × Obj)} : ∀ {vs : List Value} {ds : List Dat}, DatAll cst vs ds → ∀ j : Nat, DatAll cst (vs.drop j) (ds.drop j)
  | _, _, .nil, _ => by simp only [List.drop_nil]; exact .nil
  | _, _, .cons a h, 0 => .cons a h
  | _, _, .cons a h, j + 1 => da_drop h j
theorem er_map {α β : Type} {f : α → β} : ∀ (l : List α) (j : Nat), (l.map f).eraseIdx j = (l.eraseIdx j).map f
  | [], _ => rfl
  | _ :: _, 0 => rfl
  | a :: l, j + 1 => by
    show f a :: (l.map f).eraseIdx j = f a :: (l.eraseIdx j).map f
    rw [er_map l j]
section
variable {prog : Program} {w : World} {A : Around} {E : Value → Shared → Prop} {s : Shared} {h₀ : Heap} {L D : Addr} {m : Str → Option Value} {news cst : List (Addr × Obj)}
theorem r_removeD {evs : List Value} {n : Nat} {es : List (Int × Int)} {x : Value} {e : Int × Int} {Q : Value → Shared → Prop} {rest : List (Addr × Obj)} (F : Fr h₀ L s.heap m) (N : News h₀ L s.heap ((D, PySem.W.listOf evs.toArray n) :: rest)) (ho : ∀ p ∈ rest, p.1 ≠ D)
    (hd : DatAll cst evs (es.map entD)) (hx : DatIn cst x (entD e)) (sub : ∀ p ∈ cst, p ∈ rest) (hl : es.length ≤ 1000) (he : e ∈ es) (hu : A.units + 64 < cLine)
    (h : ∀ h' evs' n', Fr h₀ L h' m → News h₀ L h' ((D, PySem.W.listOf evs'.toArray n') :: rest) → DatAll cst evs' ((es.erase e).map entD) → Q .none { s with heap := h' }) : wpAny (model prog w) A (call (.builtin "list.remove") [.ref D, x]) Q E s := by
  have hlen := hd.length
  rw [List.length_map] at hlen
  have sub' : ∀ p ∈ cst, p ∈ (D, PySem.W.listOf evs.toArray n) :: rest := fun p hp => List.mem_cons_of_mem _ (sub p hp)
  have hj : es.idxOf e < es.length := List.idxOf_lt_length_iff.mpr he
  have hj' : es.idxOf e < evs.toArray.size := by simpa [hlen] using hj
  have z := N _ (.head _)
  have ok : ∀ d ∈ es.map entD, kqdOk 8 d = true := by
    intro d hd
    obtain ⟨y, _, rfl⟩ := List.mem_map.mp hd
    rfl
  obtain ⟨as, ra⟩ := kqd_all N 8 (DatAll.mono sub' hd) ok
  obtain ⟨bs, rx⟩ := kqd_in N 8 (DatIn.mono sub' hx) rfl
  have lay := kqd_layL ok
  have layx := kqd_lay 8 (entD e) rfl
  have mp := PySem.SeqAt.readsAll_map _ _ _ lay.1 ra
  have ev : ∀ (i : Nat) (hi : i < evs.toArray.size), PyData.eqv (PySem.SeqAt.readOf s.heap evs.toArray[i]) (kqdP (entD e)) = decide (es[i]'(by simp at hi; omega) = e) := by
    intro i hi
    have hi' : i < evs.length := by simpa using hi
    have q : (evs.map (PySem.SeqAt.readOf s.heap))[i]'(by simpa using hi') = kqdP (entD (es[i]'(by omega))) := by
      have q1 : (evs.map (PySem.SeqAt.readOf s.heap))[i]? = some (kqdP (entD (es[i]'(by omega)))) := by
        rw [mp, kqdPs_map]
        simp [show i < es.length by omega]
      exact (List.getElem?_eq_some_iff.mp q1).2
    rw [List.getElem_map] at q
    rw [List.getElem_toArray, q, ent_eqv]
  refine call_meets PySem.F.slot_list_remove ⟨_, z.1, rfl⟩ PySem.F.entry_list_remove (PySem.F.args_list_remove_2 _ _) (list_removeAt D evs.toArray n x (fun y => PyData.eqv (PySem.SeqAt.readOf s.heap y) (kqdP (entD e))) (es.idxOf e) hj' ?_ ?_ (by rw [sizeLine_eq, List.size_toArray]; omega)) ⟨z.1, ?_, ?_⟩
  · rw [ev _ hj', decide_eq_true_iff]
    exact List.getElem_idxOf hj
  · intro i hi hlt
    rw [ev _ hi, decide_eq_false_iff_not]
    intro heq
    have q := List.not_of_lt_findIdx (p := fun a => a == e) (xs := es) (i := i) (by simpa [List.idxOf] using hlt)
    simp [heq] at q
  · exact PySem.SeqAt.items_eqAt (by simpa using ra) rx lay.1 layx.1 (by
      have l2 := layx.2
      have l1 := lay.2
      have := Nat.min_le_right (PyData.depthAll (kqdPs (es.map entD))) (kqdP (entD e)).depth
      show A.units + 1 + _ < cLine
      omega)
  · refine h _ (evs.eraseIdx (es.idxOf e)) (n + 1) (F.change (Heap.SameBut.update ..) z.2.1 z.2.2) (kl_turn (pre := []) _ N (fun _ h => nomatch h) ho ?_ ?_) ?_
    · unfold Array.eraseIdxIfInBounds
      rw [dif_pos hj']
      apply Array.toList_inj.mp
      simp
    · simp only [List.size_toArray, List.length_eraseIdx]
      split <;> omega
    · rw [List.erase_eq_eraseIdx_of_idxOf (i := es.idxOf e) rfl]
      have q := da_eraseIdx hd (es.idxOf e)
      have e2 : (es.map entD).eraseIdx (es.idxOf e) = (es.eraseIdx (es.idxOf e)).map entD := by
        exact er_map _ _
      rw [e2] at q
      exact q
open Classical in
theorem kqd_eqD {n₁ n₂ : List (Addr × Obj)} {x y : Value} {d e : Dat} {Q : Value → Shared → Prop} (N : News h₀ L s.heap news) (Dx : DatIn n₁ x d) (sx : ∀ p ∈ n₁, p ∈ news) (Dy : DatIn n₂ y e) (sy : ∀ p ∈ n₂, p ∈ news)
    (hd : kqdOk 8 d = true) (he : kqdOk 8 e = true) (hu : A.units + 64 < cLine) (h : Q (.bool (decide (d = e))) s) : wpAny (model prog w) A (compareOp .Eq x y) Q E s := by
  obtain ⟨as, ra⟩ := kqd_in N 8 (Dx.mono sx) hd
  obtain ⟨bs, rb⟩ := kqd_in N 8 (Dy.mono sy) he
  have la := kqd_lay 8 d hd
  have lb := kqd_lay 8 e he
  have e1 : PyData.eqv (kqdP d) (kqdP e) = decide (d = e) := by
    have q := kqd_eqv 8 d e 8 hd he
    by_cases hq : d = e
    · rw [decide_eq_true hq]; exact q.mpr hq
    · rw [decide_eq_false hq]; exact Bool.eq_false_iff.mpr fun x => hq (q.mp x)
  refine eq_dataH ra rb ?_ ?_ hu (by rw [e1]; exact h)
  · unfold SeqAt.shaped; rw [la.1, Bool.true_and]; exact decide_eq_true (Nat.le_trans la.2 (by decide))
  · unfold SeqAt.shaped; rw [lb.1, Bool.true_and]; exact decide_eq_true (Nat.le_trans lb.2 (by decide))
end
end
section
theorem freshD4 : True := by
  w_top off
  trivial
theorem set_fst {q p : Part} : ∀ {prs : List Part} {i : Nat}, prs[i]? = some p → q.1 = p.1 → (prs.set i q).map (·.1) = prs.map (·.1)
  | [], i, h, _ => by simp at h
  | a :: r, 0, h, e => by simp at h; subst h; simp [e]
  | a :: r, i + 1, h, e => by simp at h; simp [set_fst (prs := r) h e]
theorem pm_split {p : Part} : ∀ {prs : List Part} {i : Nat}, prs[i]? = some p → pmOf prs = pmOf (prs.take i) ++ (p.1, PySem.W.listOf p.2.1.toArray p.2.2) :: pmOf (prs.drop (i + 1)) ∧ ∀ q : Part, pmOf (prs.set i q) = pmOf (prs.take i) ++ (q.1, PySem.W.listOf q.2.1.toArray q.2.2) :: pmOf (prs.drop (i + 1))
  | [], i, h => by simp at h
  | a :: r, 0, h => by simp at h; subst h; simp [pmOf]
  | a :: r, i + 1, h => by
    simp at h
    have ih := pm_split (prs := r) h
    constructor
    · have := ih.1
      simp only [pmOf, List.map_cons, List.take_succ_cons, List.drop_succ_cons, List.cons_append] at this ⊢
      rw [this]
    · intro q
      have := ih.2 q
      simp only [pmOf, List.map_cons, List.take_succ_cons, List.drop_succ_cons, List.cons_append, List.set_cons_succ] at this ⊢
      rw [this]
section
variable {w : World} {h₀ h : Heap} {L : Addr} {c : CA} {v : SV} {ws : List Int} {md : List (Int × Int)} {ps : List (List (Int × Int))} {ns : List Int}
theorem Rep.part {p : Part} {i : Nat} (R : Rep w L c v ws md ps ns) (N : News h₀ L h (Led L c v)) (hi : v.prs[i]? = some p) :
    ∃ rest, News h₀ L h ((p.1, PySem.W.listOf p.2.1.toArray p.2.2) :: rest) ∧ (∀ q ∈ rest, q.1 ≠ p.1) ∧ (∀ q ∈ v.cst, q ∈ rest) ∧
      ∀ h' evs' n' es', News h₀ L h' ((p.1, PySem.W.listOf evs'.toArray n') :: rest) → DatAll v.cst evs' (es'.map entD) →
        News h₀ L h' (Led L c { v with prs := v.prs.set i (p.1, evs', n') }) ∧ Rep w L c { v with prs := v.prs.set i (p.1, evs', n') } ws md (ps.set i es') ns := by
  obtain ⟨e1, e2⟩ := pm_split hi
  obtain ⟨N', ho⟩ := R.outer N (D := p.1) (vs := p.2.1) (n := p.2.2) (pre := iO c v :: mO c v :: pO v :: (led7v c v ++ pmOf (v.prs.take i))) (post := pmOf (v.prs.drop (i + 1))) (by
    show _ :: _ :: _ :: (led7v c v ++ pmOf v.prs) = _
    rw [e1]
    simp)
  refine ⟨_, N', ho, fun q hq => List.mem_append_right _ (List.mem_append_right _ (List.mem_append_left _ hq)), fun h' evs' n' es' N2 hd => ?_⟩
  have e3 := e2 (p.1, evs', n')
  have ea : adr c { v with prs := v.prs.set i (p.1, evs', n') } = adr c v := by
    unfold adr
    dsimp only
    rw [set_fst (q := (p.1, evs', n')) hi rfl]
  have ep : pvsOf (v.prs.set i (p.1, evs', n')) = pvsOf v.prs := by
    have q := congrArg (List.map Value.ref) (set_fst (q := (p.1, evs', n')) hi rfl)
    simpa [pvsOf, Function.comp_def] using q
  constructor
  · have N3 := news_back N2
    unfold Led muts pO
    dsimp only
    rw [e3, ep]
    simpa only [List.cons_append, List.append_assoc] using N3
  · exact { R with
      hps := R.hps.set hd i
      low := fun a ha => R.low a (ea ▸ ha)
      nd := by rw [ea]; exact R.nd
      off := fun q hq hc => by rw [ea]; exact R.off q hq hc
      ow2 := fun q hq => by rw [ea]; exact R.ow2 q hq }
end
section
variable {prog : Program} {w : World} {A : Around} {E : Value → Shared → Prop} {s : Shared} {h₀ : Heap} {L D : Addr} {m : Str → Option Value} {c : CA} {v : SV} {ws : List Int} {md : List (Int × Int)} {ps : List (List (Int × Int))} {ns : List Int}
theorem op_made {x : Value} {e : Int × Int} {Q : Value → Shared → Prop} (F : Fr h₀ L s.heap m) (N : News h₀ L s.heap (Led L c v)) (R : Rep w L c v ws md ps ns) (hx : DatIn v.cst x (entD e)) (hl : md.length ≤ 900)
    (hQ : ∀ h' vs' n', Fr h₀ L h' m → News h₀ L h' (Led L c { v with mvs := vs', m0 := n' }) → Rep w L c { v with mvs := vs', m0 := n' } ws (md ++ [e]) ps ns → Q .none {s with heap := h'}) :
    wpAny (model prog w) A (call (.builtin "list.append") [.ref c.mL, x]) Q E s := by
  obtain ⟨N', ho⟩ := R.outer N (pre := [iO c v]) (post := pO v :: (led7v c v ++ pmOf v.prs)) rfl
  have hlen := R.hmd.length
  rw [List.length_map] at hlen
  refine r_append F N' (.head ho) (by omega) fun h' F' N2 => ?_
  exact hQ h' (v.mvs ++ [x]) (v.m0 + 1) F' (news_back (pre := [iO c v]) N2) { R with
    hmd := by
      rw [List.map_append]
      exact R.hmd.append (.one hx) }
theorem op_partAppend {i : Nat} {p : Part} {x : Value} {e : Int × Int} {es : List (Int × Int)} {Q : Value → Shared → Prop} (F : Fr h₀ L s.heap m) (N : News h₀ L s.heap (Led L c v)) (R : Rep w L c v ws md ps ns) (hi : v.prs[i]? = some p) (he : ps[i]? = some es)
    (hx : DatIn v.cst x (entD e)) (hl : es.length ≤ 900)
    (hQ : ∀ h' evs' n', Fr h₀ L h' m → News h₀ L h' (Led L c { v with prs := v.prs.set i (p.1, evs', n') }) → Rep w L c { v with prs := v.prs.set i (p.1, evs', n') } ws md (ps.set i (es ++ [e])) ns → Q .none {s with heap := h'}) :
    wpAny (model prog w) A (call (.builtin "list.append") [.ref p.1, x]) Q E s := by
  obtain ⟨rest, N', ho, hc, back⟩ := R.part N hi
  obtain ⟨p', hp', hd⟩ := R.hps.at he
  rw [hi] at hp'
  cases hp'
  have hlen := hd.length
  rw [List.length_map] at hlen
  refine r_append F N' (.head ho) (by omega) fun h' F' N2 => ?_
  obtain ⟨a, b⟩ := back h' _ _ (es ++ [e]) N2 (by rw [List.map_append]; exact hd.append (.one hx))
  exact hQ h' _ _ F' a b
theorem op_partRemove {i : Nat} {p : Part} {x : Value} {e : Int × Int} {es : List (Int × Int)} {Q : Value → Shared → Prop} (F : Fr h₀ L s.heap m) (N : News h₀ L s.heap (Led L c v)) (R : Rep w L c v ws md ps ns) (hi : v.prs[i]? = some p) (he : ps[i]? = some es)
    (hx : DatIn v.cst x (entD e)) (hl : es.length ≤ 900) (hm : e ∈ es) (hu : A.units + 64 < cLine)
    (hQ : ∀ h' evs' n', Fr h₀ L h' m → News h₀ L h' (Led L c { v with prs := v.prs.set i (p.1, evs', n') }) → Rep w L c { v with prs := v.prs.set i (p.1, evs', n') } ws md (ps.set i (es.erase e)) ns → Q .none {s with heap := h'}) :
    wpAny (model prog w) A (call (.builtin "list.remove") [.ref p.1, x]) Q E s := by
  obtain ⟨rest, N', ho, hc, back⟩ := R.part N hi
  obtain ⟨p', hp', hd⟩ := R.hps.at he
  rw [hi] at hp'
  cases hp'
  refine r_removeD F N' ho hd hx hc (by omega) hm hu fun h' evs' n' F' N2 hd' => ?_
  obtain ⟨a, b⟩ := back h' _ _ (es.erase e) N2 hd'
  exact hQ h' _ _ F' a b
theorem op_partInsert {i : Nat} {p : Part} {x : Value} {k : Int} {t : Tok} {e : Int × Int} {es : List (Int × Int)} {Q : Value → Shared → Prop} (F : Fr h₀ L s.heap m) (N : News h₀ L s.heap (Led L c v)) (R : Rep w L c v ws md ps ns) (hi : v.prs[i]? = some p) (he : ps[i]? = some es)
    (hx : DatIn v.cst x (entD e)) (hl : es.length ≤ 900) (h0 : 0 ≤ k) (h1 : k ≤ es.length)
    (hQ : ∀ h' evs' n', Fr h₀ L h' m → News h₀ L h' (Led L c { v with prs := v.prs.set i (p.1, evs', n') }) → Rep w L c { v with prs := v.prs.set i (p.1, evs', n') } ws md (ps.set i (es.take k.toNat ++ e :: es.drop k.toNat)) ns → Q .none {s with heap := h'}) :
    wpAny (model prog w) A (call (.builtin "list.insert") [.ref p.1, .int k t, x]) Q E s := by
  obtain ⟨rest, N', ho, hc, back⟩ := R.part N hi
  obtain ⟨p', hp', hd⟩ := R.hps.at he
  rw [hi] at hp'
  cases hp'
  have hlen := hd.length
  rw [List.length_map] at hlen
  refine kl_insert F N' ?_ rfl (.head ho) (by rw [sizeLine_eq]; simp; omega) fun h' F' N2 => ?_
  · simp [Builtin.List.listFitsIndex]; omega
  · obtain ⟨a, b⟩ := back h' _ _ (es.take k.toNat ++ e :: es.drop k.toNat) N2 (by
      unfold kl_ins
      have e : (if k < 0 then (k + (p.2.1.toArray.toList.length : Int)).toNat else min k.toNat p.2.1.toArray.toList.length) = k.toNat := by
        rw [if_neg (by omega)]
        simp; omega
      rw [e, List.map_append, List.map_cons]
      rw [List.map_take, List.map_drop]
      exact (da_take hd _).append (.cons hx (da_drop hd _)))
    exact hQ h' _ _ F' a b
theorem op_partsAppend {Q : Value → Shared → Prop} (F : Fr h₀ L s.heap m) (N : News h₀ L s.heap ((D, PySem.W.listOf #[] 0) :: Led L c v)) (R : Rep w L c v ws md ps ns) (hD : ∀ p ∈ Led L c v, @LT.lt Nat _ p.1 D) (hl : ps.length ≤ 900)
    (hQ : ∀ h' n', Fr h₀ L h' m → News h₀ L h' (Led L c { v with prs := v.prs ++ [(D, [], 0)], p0 := n' }) → Rep w L c { v with prs := v.prs ++ [(D, [], 0)], p0 := n' } ws md (ps ++ [[]]) ns → Q .none {s with heap := h'}) :
    wpAny (model prog w) A (call (.builtin "list.append") [.ref v.pL, .ref D]) Q E s := by
  obtain ⟨N', ho⟩ := R.outer (newsSub N fun q hq => List.mem_cons_of_mem _ hq) (pre := [iO c v, mO c v]) (post := led7v c v ++ pmOf v.prs) rfl
  have hp := hD (pO v) (by simp)
  have N1 : News h₀ L s.heap (pO v :: (D, PySem.W.listOf #[] 0) :: (cel L v ++ ([iO c v, mO c v] ++ (led7v c v ++ pmOf v.prs) ++ (v.cst ++ v.own)))) := by
    intro q hq
    rcases List.mem_cons.mp hq with rfl | hq
    · exact N' _ (List.mem_cons_self)
    · rcases List.mem_cons.mp hq with rfl | hq
      · exact N _ (List.mem_cons_self)
      · exact N' _ (List.mem_cons_of_mem _ hq)
  have hlen := R.hps.length
  refine r_append F N1 (.head fun q hq => ?_) (by simp [pvsOf]; omega) fun h' F' N2 => ?_
  · rcases List.mem_cons.mp hq with rfl | hq
    · exact Nat.ne_of_gt hp
    · exact ho q hq
  · have hDa : ∀ a ∈ adr c v, @LT.lt Nat _ a D := by
      intro a ha
      rw [← muts_adr] at ha
      obtain ⟨q, hq, rfl⟩ := List.mem_map.mp ha
      exact hD q (List.mem_append_right _ (List.mem_append_left _ hq))
    have ea : adr c { v with prs := v.prs ++ [(D, [], 0)], p0 := v.p0 + 1 } = adr c v ++ [D] := by
      simp [adr]
    refine hQ h' (v.p0 + 1) F' ?_ { R with
      hps := .append (.cons .nil .nil) R.hps
      low := fun a ha => by
        rw [ea] at ha
        rcases List.mem_append.mp ha with ha | ha
        · exact R.low a ha
        · rw [List.mem_singleton.mp ha]
          exact not_cadr fun p hp => Nat.ne_of_lt (hD p hp)
      nd := by
        rw [ea, List.nodup_append]
        exact ⟨R.nd, by simp, fun a ha b hb e => by
          rw [List.mem_singleton.mp hb] at e
          exact Nat.ne_of_lt (hDa a ha) e⟩
      off := fun q hq hc ha => by
        rw [ea] at ha
        rcases List.mem_append.mp ha with ha | ha
        · exact R.off q hq hc ha
        · exact Nat.ne_of_lt (hD q (List.mem_append_right _ (List.mem_append_right _ (List.mem_append_left _ hq)))) (List.mem_singleton.mp ha)
      ow2 := fun q hq ha => by
        rw [ea] at ha
        rcases List.mem_append.mp ha with ha | ha
        · exact R.ow2 q hq ha
        · exact Nat.ne_of_lt (hD q (List.mem_append_right _ (List.mem_append_right _ (List.mem_append_right _ hq)))) (List.mem_singleton.mp ha) }
    refine newsSub N2 fun q hq => ?_
    simp only [Led, muts, pO, pvsOf, pmOf, List.map_append, List.map_cons, List.map_nil] at hq ⊢
    exact mem_pa.mp hq
end
end
section
theorem freshE0 : True := by
  w_top off
  trivial
noncomputable def lawDef : List Stmt × Scope := match PySem.Challenge.pw_nt0595_01.main.body.getLast? with
  | some (.FunctionDef _ _ b _ _ _ sc _ _ _) => (b, sc)
  | _ => ([], default)
noncomputable def lawBody : List Stmt := lawDef.1
noncomputable def lawScope : Scope := lawDef.2
noncomputable abbrev lawEnv (L fa : Addr) (cd : Value) : Env := envOfC (Str.ofString "law") lawScope L fa cd
noncomputable def bodyOf : Stmt → List Stmt
  | .If _ b _ _ => b
  | .For _ _ b _ _ => b
  | _ => []
noncomputable def elseOf : Stmt → List Stmt
  | .If _ _ e _ => e
  | _ => []
noncomputable def nth : List Stmt → Nat → Stmt
  | [], _ => .Pass ⟨0, 0, 0, 0⟩
  | a :: _, 0 => a
  | _ :: r, i + 1 => nth r i
noncomputable def turnL : List Stmt := bodyOf (nth lawBody 7)
noncomputable def chainS : Stmt := nth turnL 4
noncomputable def pushL : List Stmt := bodyOf chainS
noncomputable def markS : Stmt := nth (elseOf chainS) 0
noncomputable def markL : List Stmt := bodyOf markS
noncomputable def clearS : Stmt := nth (elseOf markS) 0
noncomputable def clearL : List Stmt := bodyOf clearS
noncomputable def elseL : List Stmt := elseOf clearS
noncomputable def if14 : Stmt := nth elseL 2
noncomputable def removeL : List Stmt := bodyOf if14
noncomputable def moveL : List Stmt := elseOf if14
noncomputable def if15 : Stmt := nth moveL 3
noncomputable def replaceL : List Stmt := bodyOf if15
noncomputable def ifPut : Stmt := nth (elseOf if15) 0
noncomputable def putL : List Stmt := bodyOf ifPut
theorem lawCx {w : World} {s : Shared} {L fa : Addr} {cd : Value} {h₀ : Heap} {m mg mb : Str → Option Value} {news : List (Addr × Obj)} {p : Program} {loose : List Str} {mean : ExcName → Option Value}
    (X : (hd.heap_39 w.params).In h₀) (B : Below callerA h₀ [] h₀) (T : Top p loose mean mg mb h₀) (F : Fr h₀ L s.heap m) (N : News h₀ L s.heap news) :
    Cx w callerA (callerA.deeper (lawEnv L fa cd)) s L h₀ h₀ m mg mb news p loose mean (lawEnv L fa cd) [] 400 :=
  ⟨X, B, F, N, T, Around.frames_deeper rfl, rfl, rfl, rfl, by simp only [depth_deeper, depth_caller]; omega, by simp only [units_deeper, units_caller]; omega⟩
noncomputable def rst (c : CA) (v : SV) : List (Addr × Obj) := muts c v ++ (v.cst ++ v.own)
structure Mems (w : World) (c : CA) (v : SV) : Prop where
  sub : ∀ q ∈ v.cst, q ∈ rst c v
  hT : (c.ta.T, instObj 257 c.ta.dT) ∈ rst c v
  hdT : (c.ta.dT, dictOf (tEs w.params c.ta) 8) ∈ rst c v
  hR : (c.r.R, instObj 101 c.r.dR) ∈ rst c v
  hdR : (c.r.dR, dictOf (rEs w.params c.r c.ta.T) 2) ∈ rst c v
  hka : (c.ka, tupO c.kvs c.kn) ∈ rst c v
  hys : (c.ys, PySem.W.listOf c.yvs.toArray c.yn) ∈ rst c v
  hba : (c.ba, tupO c.bvs c.bn) ∈ rst c v
  mI : iO c v ∈ rst c v
  mM : mO c v ∈ rst c v
  mP : pO v ∈ rst c v
section
variable {w : World} {h₀ h : Heap} {L : Addr} {c : CA} {v : SV} {ws : List Int} {md : List (Int × Int)} {ps : List (List (Int × Int))} {ns : List Int}
theorem Rep.mems (R : Rep w L c v ws md ps ns) : Mems w c v := by
  have sub : ∀ q ∈ v.cst, q ∈ rst c v := fun q hq => List.mem_append_right _ (List.mem_append_left _ hq)
  exact ⟨sub, sub _ R.hT, sub _ R.hdT, sub _ R.hR, sub _ R.hdR, sub _ R.hka, sub _ R.hys, sub _ R.hba, List.mem_append_left _ (List.mem_cons_self), List.mem_append_left _ (List.mem_cons_of_mem _ (List.mem_cons_self)), List.mem_append_left _ (List.mem_cons_of_mem _ (List.mem_cons_of_mem _ (List.mem_cons_self)))⟩
noncomputable abbrev Ldx (L : Addr) (c : CA) (v : SV) : List (Addr × Obj) := (L + 1 + 1 + 1 + 1 + 1, v.oN) :: (L + 1 + 1 + 1 + 1, v.oO) :: (L + 1 + 1 + 1, v.oW) :: (L + 1 + 1, v.oP) :: (L + 1, v.oK) :: rst c v
theorem led_x (N : News h₀ L h (Led L c v)) : News h₀ L h (Ldx L c v) := N
theorem led_y (N : News h₀ L h (Ldx L c v)) : News h₀ L h (Led L c v) := N
theorem led_lt {D : Addr} (h : AllLt D (Ldx L c v)) : ∀ p ∈ Led L c v, @LT.lt Nat _ p.1 D := allLt_mem h
end
end
section
theorem freshD5 : True := by
  w_top off
  trivial
theorem pick_upto {vs : List Value} {y : Int} (h : 0 ≤ y) : (slicePick vs.toArray none (some y) none).toList = vs.take y.toNat := by
  obtain ⟨k, rfl⟩ := Int.eq_ofNat_of_zero_le h
  have e : sliceBounds none (some (k : Int)) none vs.toArray.size = (((0 : Nat) : Int), ((min k vs.toArray.size : Nat) : Int), 1) := by
    simp only [sliceBounds, Option.getD_none, show (1 : Int) > 0 by decide, if_true, if_neg (Int.not_lt.mpr h)]
    congr 1
    congr 1
    rcases Nat.le_total k vs.toArray.size with q | q
    · rw [Nat.min_eq_left q, Int.min_eq_left (Int.ofNat_le.mpr q)]
      exact Int.max_eq_right h
    · rw [Nat.min_eq_right q, Int.min_eq_right (Int.ofNat_le.mpr q)]
      exact Int.max_eq_right (Int.natCast_nonneg _)
  rw [kmk_pick_nat _ e]
  show (vs.drop 0).take (min k vs.toArray.size - 0) = _
  rw [List.drop_zero, Nat.sub_zero, List.size_toArray, kmk_take_min]
  rfl
theorem pick_last {vs : List Value} : (slicePick vs.toArray none (some (-1)) none).toList = vs.dropLast := by
  have e : sliceBounds none (some (-1)) none vs.toArray.size = (((0 : Nat) : Int), ((vs.toArray.size - 1 : Nat) : Int), 1) := by
    simp only [sliceBounds, Option.getD_none, show (1 : Int) > 0 by decide, if_true, if_pos (show (-1 : Int) < 0 by decide)]
    congr 1
    congr 1
    omega
  rw [kmk_pick_nat _ e]
  show (vs.drop 0).take (vs.toArray.size - 1 - 0) = _
  rw [List.drop_zero, Nat.sub_zero, List.size_toArray, List.dropLast_eq_take]
structure Offc (L : Addr) (l : List (Addr × Obj)) : Prop where
  a : ∀ p ∈ l, p.1 ≠ L + 1 + 1 + 1 + 1 + 1
  b : ∀ p ∈ l, p.1 ≠ L + 1 + 1 + 1 + 1
  c : ∀ p ∈ l, p.1 ≠ L + 1 + 1 + 1
  d : ∀ p ∈ l, p.1 ≠ L + 1 + 1
  e : ∀ p ∈ l, p.1 ≠ L + 1
section
variable {w : World} {h₀ h : Heap} {L : Addr} {c : CA} {v : SV} {ws : List Int} {md : List (Int × Int)} {ps : List (List (Int × Int))} {ns : List Int}
theorem Rep.offc (R : Rep w L c v ws md ps ns) : Offc L (rst c v) := by
  have q : ∀ p ∈ rst c v, ∀ a ∈ cadr L, p.1 ≠ a := by
    intro p hp a ha
    rcases List.mem_append.mp hp with hp | hp
    · have hl := R.low p.1 (by rw [← muts_adr]; exact List.mem_map.mpr ⟨p, hp, rfl⟩)
      exact fun e => hl (e ▸ ha)
    · rcases List.mem_append.mp hp with hp | hp
      · exact R.lowc p hp a ha
      · exact R.ow1 p hp a ha
  exact ⟨fun p hp => q p hp _ (by simp), fun p hp => q p hp _ (by simp), fun p hp => q p hp _ (by simp), fun p hp => q p hp _ (by simp), fun p hp => q p hp _ (by simp)⟩
theorem PartsOk.dropLast {cst : List (Addr × Obj)} {prs : List Part} {ps : List (List (Int × Int))} (h : PartsOk cst prs ps) : PartsOk cst prs.dropLast ps.dropLast := by
  induction h with
  | nil => exact .nil
  | cons h r ih =>
    cases r with
    | nil => exact .nil
    | cons h2 r2 => exact .cons h ih
theorem Rep.newParts (R : Rep w L c v ws md ps ns) {D : Addr} {n : Nat} {prs' : List Part} {ps' : List (List (Int × Int))} {oP' : Obj} (hP : oP'.data = .cell (some (.ref D))) (hok : PartsOk v.cst prs' ps') (hD : ∀ p ∈ Led L c v, p.1 ≠ D)
    (hnd : (prs'.map (·.1)).Nodup) (hmem : ∀ a ∈ prs'.map (·.1), a ∈ v.prs.map (·.1) ∨ ∀ p ∈ Led L c v, p.1 ≠ a) (hne : ∀ a ∈ prs'.map (·.1), a ≠ D) :
    Rep w L c { v with pL := D, p0 := n, prs := prs', oP := oP' } ws md ps' ns := by
  have up : ∀ a ∈ adr c v, ∃ o, (a, o) ∈ Led L c v := by
    intro a ha
    rw [← muts_adr] at ha
    obtain ⟨q, hq, rfl⟩ := List.mem_map.mp ha
    exact ⟨q.2, List.mem_append_right _ (List.mem_append_left _ hq)⟩
  have fresh : ∀ a, (∀ p ∈ Led L c v, p.1 ≠ a) → a ∉ adr c v := by
    intro a h ha
    obtain ⟨o, ho⟩ := up a ha
    exact h _ ho rfl
  have inP : ∀ a ∈ v.prs.map (·.1), a ∈ adr c v := fun a ha => List.mem_cons_of_mem _ (List.mem_cons_of_mem _ (List.mem_cons_of_mem _ (List.mem_append_right _ ha)))
  have ea : adr c { v with pL := D, p0 := n, prs := prs', oP := oP' } = c.r.iL :: c.mL :: D :: (adr7 c.ta ++ prs'.map (·.1)) := rfl
  have nd := R.nd
  have n1 : (c.r.iL :: c.mL :: (adr7 c.ta ++ v.prs.map (·.1))).Nodup := by
    refine nd.sublist ?_
    exact .cons₂ _ (.cons₂ _ (.cons _ (List.Sublist.refl _)))
  have old : ∀ a, a ∈ c.r.iL :: c.mL :: adr7 c.ta → a ∈ adr c v := by
    intro a ha
    rcases List.mem_cons.mp ha with rfl | ha
    · exact List.mem_cons_self
    · rcases List.mem_cons.mp ha with rfl | ha
      · exact List.mem_cons_of_mem _ (List.mem_cons_self)
      · exact List.mem_cons_of_mem _ (List.mem_cons_of_mem _ (List.mem_cons_of_mem _ (List.mem_append_left _ ha)))
  have n2 : ((c.r.iL :: c.mL :: adr7 c.ta) ++ v.prs.map (·.1)).Nodup := n1
  rw [List.nodup_append] at n2
  obtain ⟨n3, _, n5⟩ := n2
  have dis : ∀ a ∈ c.r.iL :: c.mL :: adr7 c.ta, ∀ b ∈ prs'.map (·.1), a ≠ b := by
    intro a ha b hb e
    rcases hmem b hb with hb | hb
    · exact n5 a ha b hb e
    · exact fresh b hb (e ▸ old a ha)
  have hDn := fresh D hD
  have cases3 : ∀ a ∈ c.r.iL :: c.mL :: D :: (adr7 c.ta ++ prs'.map (·.1)), a ∈ adr c v ∨ ∀ p ∈ Led L c v, p.1 ≠ a := by
    intro a ha
    rcases List.mem_cons.mp ha with rfl | ha
    · exact .inl (List.mem_cons_self)
    · rcases List.mem_cons.mp ha with rfl | ha
      · exact .inl (List.mem_cons_of_mem _ (List.mem_cons_self))
      · rcases List.mem_cons.mp ha with rfl | ha
        · exact .inr hD
        · rcases List.mem_append.mp ha with ha | ha
          · exact .inl (old a (List.mem_cons_of_mem _ (List.mem_cons_of_mem _ ha)))
          · exact (hmem a ha).imp (inP a) id
  exact { R with
    dP := hP
    hps := hok
    low := fun a ha => by
      rw [ea] at ha
      rcases cases3 a ha with h | h
      · exact R.low a h
      · exact not_cadr h
    nd := by
      rw [ea]
      have q : ((c.r.iL :: c.mL :: adr7 c.ta) ++ prs'.map (·.1)).Nodup := by
        rw [List.nodup_append]
        exact ⟨n3, hnd, dis⟩
      have q2 : D ∉ (c.r.iL :: c.mL :: adr7 c.ta) ++ prs'.map (·.1) := by
        intro hm
        rcases List.mem_append.mp hm with hm | hm
        · exact hDn (old D hm)
        · exact hne D hm rfl
      have q3 : (D :: ((c.r.iL :: c.mL :: adr7 c.ta) ++ prs'.map (·.1))).Nodup := List.nodup_cons.mpr ⟨q2, q⟩
      have pm : (D :: ((c.r.iL :: c.mL :: adr7 c.ta) ++ prs'.map (·.1))).Perm (c.r.iL :: c.mL :: D :: (adr7 c.ta ++ prs'.map (·.1))) :=
        (List.Perm.swap _ _ _).trans ((List.Perm.swap _ _ _).cons _)
      exact pm.nodup_iff.mp q3
    off := fun q hq hc ha => by
      rw [ea] at ha
      rcases cases3 _ ha with h | h
      · exact R.off q hq hc h
      · exact h q (List.mem_append_right _ (List.mem_append_right _ (List.mem_append_left _ hq))) rfl
    ow2 := fun q hq ha => by
      rw [ea] at ha
      rcases cases3 _ ha with h | h
      · exact R.ow2 q hq h
      · exact h q (List.mem_append_right _ (List.mem_append_right _ (List.mem_append_right _ hq))) rfl }
theorem Rep.prsNodup (R : Rep w L c v ws md ps ns) : (v.prs.map (·.1)).Nodup := by
  have q := R.nd
  refine q.sublist ?_
  exact .cons _ (.cons _ (.cons _ (List.sublist_append_right _ _)))
theorem led_new {D : Addr} {n : Nat} {vs : List Value} {prs' : List Part} {oP' : Obj} {big : List (Addr × Obj)} (N : News h₀ L h big)
    (hb : ∀ q ∈ (D, PySem.W.listOf vs.toArray n) :: (L + 1 + 1 + 1 + 1 + 1, v.oN) :: (L + 1 + 1 + 1 + 1, v.oO) :: (L + 1 + 1 + 1, v.oW) :: (L + 1 + 1, oP') :: (L + 1, v.oK) :: rst c v, q ∈ big)
    (e : vs = pvsOf prs') (hp : ∀ q ∈ pmOf prs', q ∈ big) : News h₀ L h (Led L c { v with pL := D, p0 := n, prs := prs', oP := oP' }) := by
  subst e
  refine newsSub N fun q hq => ?_
  have hr : ∀ q ∈ rst c v, q ∈ big := fun q hq => hb q (.tail _ (.tail _ (.tail _ (.tail _ (.tail _ (.tail _ hq))))))
  exact sub_app (sub_cons (hb _ (.tail _ (.head _))) (sub_cons (hb _ (.tail _ (.tail _ (.head _)))) (sub_cons (hb _ (.tail _ (.tail _ (.tail _ (.head _))))) (sub_cons (hb _ (.tail _ (.tail _ (.tail _ (.tail _ (.head _)))))) (sub_cons (hb _ (.tail _ (.tail _ (.tail _ (.tail _ (.tail _ (.head _))))))) sub_nil)))))
    (sub_app (sub_cons (hr _ (List.mem_append_left _ (.head _))) (sub_cons (hr _ (List.mem_append_left _ (.tail _ (.head _)))) (sub_cons (hb _ (.head _))
      (sub_app (fun q hq => hr _ (List.mem_append_left _ (.tail _ (.tail _ (.tail _ (List.mem_append_left _ hq)))))) hp))))
    fun q hq => hr _ (List.mem_append_right _ hq)) q hq
theorem Rep.clear1 (R : Rep w L c v ws md ps ns) {D : Addr} {n : Nat} {oP' : Obj} (N : News h₀ L h ((D, PySem.W.listOf (pvsOf v.prs).dropLast.toArray n) :: (L + 1 + 1 + 1 + 1 + 1, v.oN) :: (L + 1 + 1 + 1 + 1, v.oO) :: (L + 1 + 1 + 1, v.oW) :: (L + 1 + 1, oP') :: (L + 1, v.oK) :: rst c v))
    (hP : oP'.data = .cell (some (.ref D))) (hD : ∀ p ∈ Led L c v, @LT.lt Nat _ p.1 D) :
    News h₀ L h (Led L c { v with pL := D, p0 := n, prs := v.prs.dropLast, oP := oP' }) ∧ Rep w L c { v with pL := D, p0 := n, prs := v.prs.dropLast, oP := oP' } ws md ps.dropLast ns := by
  have sl : (v.prs.dropLast.map (·.1)).Sublist (v.prs.map (·.1)) := (List.dropLast_sublist _).map _
  refine ⟨led_new N (fun _ h => h) (by simp [pvsOf, List.map_dropLast]) (fun q hq => ?_), R.newParts hP R.hps.dropLast (fun p hp => Nat.ne_of_lt (hD p hp)) (R.prsNodup.sublist sl) (fun a ha => .inl (sl.subset ha)) (fun a ha e => ?_)⟩
  · have q1 : q ∈ pmOf v.prs := (((List.dropLast_sublist v.prs).map _).subset hq : q ∈ v.prs.map fun p => (p.1, PySem.W.listOf p.2.1.toArray p.2.2))
    have q2 : q ∈ rst c v := List.mem_append_left _ (List.mem_cons_of_mem _ (List.mem_cons_of_mem _ (List.mem_cons_of_mem _ (List.mem_append_right _ q1))))
    simp [q2]
  · obtain ⟨pp, hpp, rfl⟩ := List.mem_map.mp (sl.subset ha)
    have q1 : (pp.1, PySem.W.listOf pp.2.1.toArray pp.2.2) ∈ pmOf v.prs := List.mem_map.mpr ⟨pp, hpp, rfl⟩
    have q2 := hD _ (List.mem_append_right _ (List.mem_append_left _ (List.mem_cons_of_mem _ (List.mem_cons_of_mem _ (List.mem_cons_of_mem _ (List.mem_append_right _ q1))))))
    exact Nat.ne_of_lt q2 e
theorem Rep.clear2 (R : Rep w L c v ws md ps ns) {D D2 : Addr} {n : Nat} {oP' : Obj} (N : News h₀ L h ((D, PySem.W.listOf [Value.ref D2].toArray n) :: (D2, PySem.W.listOf #[] 0) :: (L + 1 + 1 + 1 + 1 + 1, v.oN) :: (L + 1 + 1 + 1 + 1, v.oO) :: (L + 1 + 1 + 1, v.oW) :: (L + 1 + 1, oP') :: (L + 1, v.oK) :: rst c v))
    (hP : oP'.data = .cell (some (.ref D))) (hD : ∀ p ∈ Led L c v, @LT.lt Nat _ p.1 D) (hD2 : ∀ p ∈ Led L c v, @LT.lt Nat _ p.1 D2) (hlt : @LT.lt Nat _ D2 D) :
    News h₀ L h (Led L c { v with pL := D, p0 := n, prs := [(D2, [], 0)], oP := oP' }) ∧ Rep w L c { v with pL := D, p0 := n, prs := [(D2, [], 0)], oP := oP' } ws md [[]] ns := by
  refine ⟨led_new (vs := [Value.ref D2]) N (fun q hq => (List.mem_cons.mp hq).elim (fun h => h ▸ .head _) fun h => .tail _ (.tail _ h)) rfl (fun q hq => ?_), R.newParts hP (.cons .nil .nil) (fun p hp => Nat.ne_of_lt (hD p hp)) (by simp) (fun a ha => .inr ?_) (fun a ha e => ?_)⟩
  · simp only [pmOf, List.map_cons, List.map_nil, List.mem_singleton] at hq
    subst hq
    simp
  · simp only [List.map_cons, List.map_nil, List.mem_singleton] at ha
    subst ha
    exact fun p hp => Nat.ne_of_lt (hD2 p hp)
  · simp only [List.map_cons, List.map_nil, List.mem_singleton] at ha
    subst ha
    exact Nat.ne_of_lt hlt e
end
end
section
theorem freshD6 : True := by
  w_top off
  trivial
noncomputable def yOf (k : Int) : Kd := YS.getD k.toNat kd0
theorem key_ok {k : Int} (h0 : 0 ≤ k) (h1 : k < 12) : kqdOk 8 (keyD (yOf k)) = true := by
  unfold yOf
  have : ∀ i < 12, kqdOk 8 (keyD (YS.getD i kd0)) = true := by decide +kernel
  exact this _ (by omega)
theorem key_at {cst : List (Addr × Obj)} {yvs : List Value} (h : DatAll cst yvs (YS.map keyD)) {k : Int} (h0 : 0 ≤ k) (h1 : k < 12) : ∃ a, yvs[k.toNat]? = some (.ref a) ∧ DatIn cst (.ref a) (keyD (yOf k)) := by
  have hk : k.toNat < (YS.map keyD).length := by
    have : YS.length = 12 := rfl
    rw [List.length_map, this]; omega
  obtain ⟨v, hv, hd⟩ := h.get hk
  have e : (YS.map keyD)[k.toNat] = keyD (yOf k) := by
    have h2 : k.toNat < YS.length := by simpa using hk
    rw [List.getElem_map]
    unfold yOf
    rw [List.getD_eq_getElem?_getD, List.getElem?_eq_getElem h2]
    rfl
  rw [e] at hd
  have hd2 := hd
  unfold keyD at hd2
  cases hd2 with
  | tuple hm hall => exact ⟨_, hv, hd⟩
theorem str2_inj : ∀ {a b : List (Str × Str)}, (a.map fun p => Dat.tuple [.str p.1, .str p.2]) = (b.map fun p => Dat.tuple [.str p.1, .str p.2]) → a = b
  | [], [], _ => rfl
  | [], _ :: _, h => by simp at h
  | _ :: _, [], h => by simp at h
  | x :: a, y :: b, h => by
    simp only [List.map_cons, List.cons.injEq, Dat.tuple.injEq, Dat.str.injEq, and_true] at h
    rw [str2_inj h.2, Prod.ext h.1.1 h.1.2]
theorem key_inj {a b : Kd} : keyD a = keyD b ↔ a = b := by
  constructor
  · intro h
    simp only [keyD, Dat.tuple.injEq, List.cons.injEq, Dat.str.injEq, Dat.list.injEq, and_true] at h
    exact Prod.ext h.1 (Prod.ext h.2.1 (str2_inj h.2.2))
  · intro h; rw [h]
theorem dec_t {p : Prop} {i : Decidable p} (h : p) : @decide p i = true := @decide_eq_true p i h
theorem dec_f {p : Prop} {i : Decidable p} (h : ¬ p) : @decide p i = false := @decide_eq_false p i h
theorem r_keyEq {prog : Program} {w : World} {A : Around} {E : Value → Shared → Prop} {s : Shared} {h₀ : Heap} {L : Addr} {news n₁ n₂ : List (Addr × Obj)} {x y : Value} {a b : Int} {Q : Value → Shared → Prop} (N : News h₀ L s.heap news) (Dx : DatIn n₁ x (keyD (yOf a))) (sx : ∀ p ∈ n₁, p ∈ news) (Dy : DatIn n₂ y (keyD (yOf b))) (sy : ∀ p ∈ n₂, p ∈ news)
    (ha0 : 0 ≤ a) (ha1 : a < 12) (hb0 : 0 ≤ b) (hb1 : b < 12) (hu : A.units + 64 < cLine) (h : Q (.bool (decide (yOf a = yOf b))) s) : wpAny (model prog w) A (compareOp .Eq x y) Q E s := by
  refine kqd_eqD N Dx sx Dy sy (key_ok ha0 ha1) (key_ok hb0 hb1) hu ?_
  have e : (open Classical in decide (keyD (yOf a) = keyD (yOf b))) = decide (yOf a = yOf b) := by
    by_cases hq : yOf a = yOf b
    · rw [decide_eq_true hq]; exact dec_t (key_inj.mpr hq)
    · rw [decide_eq_false hq]; exact dec_f fun x => hq (key_inj.mp x)
  rw [e]; exact h
theorem r_entEq {prog : Program} {w : World} {A : Around} {E : Value → Shared → Prop} {s : Shared} {h₀ : Heap} {L : Addr} {news n₁ n₂ : List (Addr × Obj)} {x y : Value} {a b : Int × Int} {Q : Value → Shared → Prop} (N : News h₀ L s.heap news) (Dx : DatIn n₁ x (entD a)) (sx : ∀ p ∈ n₁, p ∈ news) (Dy : DatIn n₂ y (entD b)) (sy : ∀ p ∈ n₂, p ∈ news)
    (hu : A.units + 64 < cLine) (h : Q (.bool (decide (a = b))) s) : wpAny (model prog w) A (compareOp .Eq x y) Q E s := by
  refine kqd_eqD N Dx sx Dy sy rfl rfl hu ?_
  have e : (open Classical in decide (entD a = entD b)) = decide (a = b) := by
    by_cases hq : a = b
    · rw [decide_eq_true hq]; exact dec_t (ent_inj.mpr hq)
    · rw [decide_eq_false hq]; exact dec_f fun x => hq (ent_inj.mp x)
  rw [e]; exact h
theorem r_entIn {prog : Program} {w : World} {A : Around} {E : Value → Shared → Prop} {s : Shared} {h₀ : Heap} {L D : Addr} {news n₁ n₂ : List (Addr × Obj)} {x : Value} {e : Int × Int} {es : List (Int × Int)} {evs : List Value} {n : Nat} {Q : Value → Shared → Prop} (N : News h₀ L s.heap news) (hm : (D, PySem.W.listOf evs.toArray n) ∈ news) (Da : DatAll n₁ evs (es.map entD)) (sa : ∀ p ∈ n₁, p ∈ news) (Dx : DatIn n₂ x (entD e)) (sx : ∀ p ∈ n₂, p ∈ news)
    (hu : A.units + 64 < cLine) (h : Q (.bool (decide (e ∈ es))) s) : wpAny (model prog w) A (compareOp .In x (.ref D)) Q E s := by
  refine kqd_isIn N hm rfl rfl Da sa Dx sx (fun d hd => ?_) rfl hu ?_
  · obtain ⟨y, _, rfl⟩ := List.mem_map.mp hd
    rfl
  have e1 : (open Classical in decide (entD e ∈ es.map entD)) = decide (e ∈ es) := by
    have q : entD e ∈ es.map entD ↔ e ∈ es := by
      constructor
      · intro hm
        obtain ⟨y, hy, he⟩ := List.mem_map.mp hm
        rw [← ent_inj.mp he]; exact hy
      · intro hm; exact List.mem_map.mpr ⟨e, hm, rfl⟩
    by_cases hq : e ∈ es
    · rw [decide_eq_true hq]; exact dec_t (q.mpr hq)
    · rw [decide_eq_false hq]; exact dec_f fun x => hq (q.mp x)
  rw [e1]; exact h
noncomputable def locsL : List Str := [sx "move", sx "pick", sx "node", sx "twins", sx "seat", sx "kind", sx "part", sx "at", sx "line", sx "name", sx "seats"]
noncomputable def Kp (m m' : Str → Option Value) : Prop := ∀ z, locsL.contains z = false → m' z = m z
theorem Kp.refl (m : Str → Option Value) : Kp m m := fun _ _ => rfl
theorem Kp.trans {m m' m'' : Str → Option Value} (h : Kp m m') (h' : Kp m' m'') : Kp m m'' := fun z hz => (h' z hz).trans (h z hz)
theorem Kp.set {m m' : Str → Option Value} (h : Kp m m') {x : Str} {v : Value} (hx : locsL.contains x = true) : Kp m (fun y => if y = x then some v else m' y) := by
  intro z hz
  by_cases e : z = x
  · subst e; rw [hx] at hz; cases hz
  · show (if z = x then some v else m' z) = m z
    rw [if_neg e]; exact h z hz
section
variable {w : World} {h₀ h : Heap} {L : Addr} {c : CA} {v : SV} {ws : List Int} {md : List (Int × Int)} {ps : List (List (Int × Int))} {ns : List Int}
theorem grow2 {D : Addr} {o : Obj} (R : Rep w L c v ws md ps ns) (N : News h₀ L h ((D, o) :: Ldx L c v)) (hD : ∀ p ∈ Led L c v, @LT.lt Nat _ p.1 D) : News h₀ L h (Led L c { v with cst := (D, o) :: v.cst }) ∧ Rep w L c { v with cst := (D, o) :: v.cst } ws md ps ns :=
  ⟨news_grow N, R.grow fun p hp => Nat.ne_of_lt (hD p hp)⟩
theorem off1_mem {D : Addr} : ∀ {l : List (Addr × Obj)}, LCg.Off1 D l → ∀ p ∈ l, p.1 ≠ D
  | [], _, _, h => nomatch h
  | _ :: _, x, p, h => by
    rcases List.mem_cons.mp h with rfl | h
    · exact x.1
    · exact off1_mem x.2 p h
theorem grow3 {D : Addr} {o : Obj} (R : Rep w L c v ws md ps ns) (N : News h₀ L h ((D, o) :: Ldx L c v)) (hD : LCg.Off1 D (Ldx L c v)) : News h₀ L h (Led L c { v with cst := (D, o) :: v.cst }) ∧ Rep w L c { v with cst := (D, o) :: v.cst } ws md ps ns :=
  ⟨news_grow N, R.grow (off1_mem hD)⟩
theorem Rep.lastPart (R : Rep w L c v ws md ps ns) {last : List (Int × Int)} (h : ps.getLast? = some last) : ∃ pp, v.prs[ps.length - 1]? = some pp ∧ ps[ps.length - 1]? = some last ∧ DatAll v.cst pp.2.1 (last.map entD) ∧ (pvsOf v.prs).getLast? = some (.ref pp.1) ∧ (pp.1, PySem.W.listOf pp.2.1.toArray pp.2.2) ∈ rst c v := by
  rw [List.getLast?_eq_getElem?] at h
  obtain ⟨pp, h1, h2⟩ := R.hps.at h
  refine ⟨pp, h1, h, h2, ?_, ?_⟩
  · have hl := R.hps.length
    rw [List.getLast?_eq_getElem?]
    simp [pvsOf, hl, h1]
  · refine List.mem_append_left _ (List.mem_cons_of_mem _ (List.mem_cons_of_mem _ (List.mem_cons_of_mem _ (List.mem_append_right _ ?_))))
    exact List.mem_map.mpr ⟨pp, List.mem_of_getElem? h1, rfl⟩
theorem Rep.atPart (R : Rep w L c v ws md ps ns) {i : Nat} {es : List (Int × Int)} (h : ps[i]? = some es) : ∃ pp, v.prs[i]? = some pp ∧ DatAll v.cst pp.2.1 (es.map entD) ∧ (pvsOf v.prs)[i]? = some (.ref pp.1) ∧ (pp.1, PySem.W.listOf pp.2.1.toArray pp.2.2) ∈ rst c v := by
  obtain ⟨pp, h1, h2⟩ := R.hps.at h
  refine ⟨pp, h1, h2, by simp [pvsOf, h1], ?_⟩
  refine List.mem_append_left _ (List.mem_cons_of_mem _ (List.mem_cons_of_mem _ (List.mem_cons_of_mem _ (List.mem_append_right _ ?_))))
  exact List.mem_map.mpr ⟨pp, List.mem_of_getElem? h1, rfl⟩
end
theorem sub_2 {a b : Addr × Obj} {l : List (Addr × Obj)} : ∀ p ∈ a :: l, p ∈ a :: b :: l := fun p hp => (List.mem_cons.mp hp).elim (fun e => e ▸ List.mem_cons_self) (fun h => List.mem_cons_of_mem _ (List.mem_cons_of_mem _ h))
noncomputable def twinsP (k : Int) (last : List (Int × Int)) : List (Int × Int) := last.filter fun e : Int × Int => decide (yOf e.2 = yOf k)
noncomputable def pushP (n k : Int) (last : List (Int × Int)) : List (Int × Int) := (if (twinsP k last).length > 2 then last.erase ((twinsP k last).getD 0 (0, 0)) else last) ++ [(n, k)]
noncomputable def push2L : List Stmt := [nth pushL 3, nth pushL 4, nth pushL 5]
noncomputable def seatsOf (e : Int × Int) (ps : List (List (Int × Int))) (n : Nat) : List Int := ((List.range n).filter fun i => decide (e ∈ ps.getD i [])).map fun i : Nat => (i : Int)
theorem seats_succ (e : Int × Int) (ps : List (List (Int × Int))) (n : Nat) : seatsOf e ps (n + 1) = seatsOf e ps n ++ (if e ∈ ps.getD n [] then [(n : Int)] else []) := by
  unfold seatsOf
  rw [List.range_succ, List.filter_append, List.map_append]
  congr 1
  by_cases h : e ∈ ps.getD n []
  · rw [if_pos h, List.filter_cons, if_pos (decide_eq_true h)]; rfl
  · rw [if_neg h, List.filter_cons, if_neg (by simpa using h)]; rfl
theorem made_at {cst : List (Addr × Obj)} {mvs : List Value} {md : List (Int × Int)} (h : DatAll cst mvs (md.map entD)) {k : Int} (h0 : 0 ≤ k) (h1 : k < md.length) : ∃ a n w t1 t2 j, mvs[k.toNat]? = some (.ref a) ∧ md.getD k.toNat (0, 0) = (n, w) ∧ (a, tupO [.int n t1, .int w t2] j) ∈ cst ∧ DatIn cst (.ref a) (entD (md.getD k.toNat (0, 0))) := by
  have hk : k.toNat < mvs.length := by
    have := h.length
    rw [List.length_map] at this; omega
  obtain ⟨n, w, a, t1, t2, j, h2, h3, h4⟩ := ent_at h (List.getElem?_eq_getElem hk)
  have e : md.getD k.toNat (0, 0) = (n, w) := by rw [List.getD_eq_getElem?_getD, h2]; rfl
  refine ⟨a, n, w, t1, t2, j, by rw [List.getElem?_eq_getElem hk, h3], e, h4, ?_⟩
  rw [e]
  exact .tuple h4 (.cons (.int _ _) (.cons (.int _ _) .nil))
theorem fmod_bd {a b : Int} (h : 0 < b) : 0 ≤ a.fmod b ∧ a.fmod b < b := by
  rw [Int.fmod_eq_emod_of_nonneg a (by omega)]
  exact ⟨Int.emod_nonneg _ (by omega), Int.emod_lt_of_pos _ h⟩
section
variable {w : World} {h₀ h : Heap} {L : Addr} {c : CA} {v : SV} {ws : List Int} {md : List (Int × Int)} {ps : List (List (Int × Int))} {ns : List Int}
theorem Rep.setO (R : Rep w L c v ws md ps ns) {o' : Obj} {x : Option Value} (d : o'.data = .cell x) : Rep w L c { v with oO := o' } ws md ps ns := { R with dO := ⟨_, d⟩ }
theorem Rep.setN (R : Rep w L c v ws md ps ns) {o' : Obj} {x : Option Value} (d : o'.data = .cell x) : Rep w L c { v with oN := o' } ws md ps ns := { R with dN := ⟨_, d⟩ }
theorem Rep.setW (R : Rep w L c v ws md ps ns) {o' : Obj} {x : Option Value} (d : o'.data = .cell x) : Rep w L c { v with oW := o' } ws md ps ns := { R with dW := ⟨_, d⟩ }
end
noncomputable def remP (e : Int × Int) (ps : List (List (Int × Int))) : List Int → List (List (Int × Int))
  | [] => ps
  | i :: _ => ps.set i.toNat ((ps.getD i.toNat []).erase e)
section
variable {w : World} {h₀ h : Heap} {L : Addr} {c : CA} {v : SV} {ws : List Int} {md : List (Int × Int)} {ps : List (List (Int × Int))} {ns : List Int}
theorem Rep.atThis (R : Rep w L c v ws md ps ns) {i : Nat} {es : List (Int × Int)} {pp : Part} (h : ps[i]? = some es) (hp : v.prs[i]? = some pp) : DatAll v.cst pp.2.1 (es.map entD) ∧ (pvsOf v.prs)[i]? = some (.ref pp.1) ∧ (pp.1, PySem.W.listOf pp.2.1.toArray pp.2.2) ∈ rst c v ∧ pp.2.1.length = es.length := by
  obtain ⟨pp', h1, h2, h3, h4⟩ := R.atPart h
  rw [hp] at h1
  cases h1
  have := h2.length
  rw [List.length_map] at this
  exact ⟨h2, h3, h4, this⟩
end
noncomputable def putS : List Stmt := [nth putL 0, nth putL 1, nth putL 2, nth putL 3, nth putL 4, nth putL 5]
noncomputable def insP (es : List (Int × Int)) (a : Int) (e : Int × Int) : List (Int × Int) := es.take a.toNat ++ e :: es.drop a.toNat
noncomputable def atR (pk : Int) (es : List (Int × Int)) : Int := (pk.fdiv 7).fmod ((es.length : Int) + 1)
noncomputable def putP (ps : List (List (Int × Int))) (i : Int) (es : List (Int × Int)) (e0 e1 : Int × Int) (pk : Int) : List (List (Int × Int)) := ps.set i.toNat (insP (es.erase e0) (atR pk (es.erase e0)) e1)
noncomputable def offR (ps : List (List (Int × Int))) (i : Int) : Int := ((ps.take i.toNat).map fun e => (e.length : Int) + 1).sum
noncomputable def insR (ns : List Int) (k n : Int) : List Int := ns.take k.toNat ++ n :: ns.drop k.toNat
noncomputable def swE (e0 e1 e : Int × Int) : Int × Int := if e = e0 then e1 else e
theorem PartsOk.snoc {cst : List (Addr × Obj)} {prs : List Part} {ps : List (List (Int × Int))} (h : PartsOk cst prs ps) {q : Part} {es : List (Int × Int)} (hq : DatAll cst q.2.1 (es.map entD)) : PartsOk cst (prs ++ [q]) (ps ++ [es]) := .append (.cons hq .nil) h
theorem off3_of1 {I C D D2 : Addr} {oI oC oD o2 : Obj} {l : List (Addr × Obj)} (h : LCg.Off1 D2 ((I, oI) :: (C, oC) :: (D, oD) :: l)) (o3 : LCg.Off3 I C D l) : LCg.Off3 I C D ((D2, o2) :: l) :=
  ⟨⟨Ne.symm h.1, Ne.symm h.2.1, Ne.symm h.2.2.1⟩, o3⟩
theorem pm_snoc (prs : List Part) (q : Part) (base : List (Addr × Obj)) : ∀ p, p ∈ pmOf (prs ++ [q]) ++ base ↔ p = (q.1, PySem.W.listOf q.2.1.toArray q.2.2) ∨ p ∈ pmOf prs ++ base := by
  intro p
  simp only [pmOf, List.map_append, List.map_cons, List.map_nil, List.mem_append, List.mem_singleton]
  constructor
  · rintro ((h | h) | h)
    · exact .inr (.inl h)
    · exact .inl h
    · exact .inr (.inr h)
  · rintro (h | h | h)
    · exact .inl (.inr h)
    · exact .inl (.inl h)
    · exact .inr h
noncomputable def RJ (cst base : List (Addr × Obj)) (ps' : List (List (Int × Int))) (ys : List Value) (nx : List (Addr × Obj)) : Prop :=
  ∃ prs' : List Part, nx = pmOf prs' ++ base ∧ ys = pvsOf prs' ∧ PartsOk cst prs' ps' ∧ (prs'.map (·.1)).Nodup ∧ ∀ a ∈ prs'.map (·.1), ∀ p ∈ base, p.1 ≠ a
theorem pm_addr {prs : List Part} {a : Addr} (h : a ∈ prs.map (·.1)) : ∃ o, (a, o) ∈ pmOf prs := by
  obtain ⟨q, hq, rfl⟩ := List.mem_map.mp h
  exact ⟨_, List.mem_map.mpr ⟨q, hq, rfl⟩⟩
theorem RJ.snoc {cst base : List (Addr × Obj)} {prs' : List Part} {ps' : List (List (Int × Int))} {es : List (Int × Int)} {D2 : Addr} {zs : List Value} (hok : PartsOk cst prs' ps') (hnd : (prs'.map (·.1)).Nodup) (hfr : ∀ a ∈ prs'.map (·.1), ∀ p ∈ base, p.1 ≠ a) (hz : DatAll cst zs (es.map entD)) (o1 : LCg.Off1 D2 (pmOf prs' ++ base)) :
    RJ cst base (ps' ++ [es]) (pvsOf prs' ++ [.ref D2]) (pmOf (prs' ++ [(D2, zs, zs.length)]) ++ base) := by
  refine ⟨prs' ++ [(D2, zs, zs.length)], rfl, by simp [pvsOf], hok.snoc hz, ?_, ?_⟩
  · rw [List.map_append, List.nodup_append]
    refine ⟨hnd, by simp, fun a ha b hb e => ?_⟩
    simp only [List.map_cons, List.map_nil, List.mem_singleton] at hb
    obtain ⟨o, ho⟩ := pm_addr ha
    exact off1_mem o1 _ (List.mem_append_left _ ho) (e.trans hb)
  · intro a ha p hp
    rw [List.map_append] at ha
    rcases List.mem_append.mp ha with ha | ha
    · exact hfr a ha p hp
    · simp only [List.map_cons, List.map_nil, List.mem_singleton] at ha
      subst ha
      exact off1_mem o1 p (List.mem_append_right _ hp)
theorem ints_dat : ∀ {vs : List Value} {ns : List Int}, IntsAre vs ns → DatAll [] vs (ns.map Dat.int)
  | _, _, .nil => .nil
  | _, _, .cons a b h => .cons (.int _ _) (ints_dat h)
theorem r_sameInts {prog : Program} {w : World} {A : Around} {E : Value → Shared → Prop} {s : Shared} {h₀ : Heap} {L a b : Addr} {news : List (Addr × Obj)} {vs us : List Value} {ns : List Int} {n k : Nat} {Q : Value → Shared → Prop} (N : News h₀ L s.heap news) (ma : (a, PySem.W.listOf vs.toArray n) ∈ news) (ia : IntsAre vs ns) (mb : (b, PySem.W.listOf us.toArray k) ∈ news) (ib : IntsAre us ns)
    (hu : A.units + 64 < cLine) (h : Q (.bool false) s) : wpAny (model prog w) A (compareOp .NotEq (.ref a) (.ref b)) Q E s := by
  have ok : ∀ d ∈ ns.map Dat.int, kqdOk 8 d = true := by
    intro d hd
    obtain ⟨y, _, rfl⟩ := List.mem_map.mp hd
    rfl
  refine kqd_ne N ma rfl rfl (ints_dat ia) (fun _ h => nomatch h) mb rfl rfl (ints_dat ib) (fun _ h => nomatch h) ok ok hu ?_
  rw [dec_t rfl]
  exact h
theorem PartsOk.toAt {cst news : List (Addr × Obj)} : ∀ {prs : List Part} {ps : List (List (Int × Int))}, PartsOk cst prs ps → (∀ q ∈ pmOf prs, q ∈ news) → PartsAt news cst (pvsOf prs) ps
  | _, _, .nil, _ => .nil
  | _, _, .cons h r, hs => .cons (hs _ (List.mem_cons_self)) h (r.toAt fun q hq => hs q (List.mem_cons_of_mem _ hq))
theorem pm_rst {c : CA} {v : SV} : ∀ q ∈ pmOf v.prs, q ∈ rst c v := fun q hq => List.mem_append_left _ (List.mem_cons_of_mem _ (List.mem_cons_of_mem _ (List.mem_cons_of_mem _ (List.mem_append_right _ hq))))
theorem rst_x {L : Addr} {c : CA} {v : SV} : ∀ q ∈ rst c v, q ∈ Ldx L c v := fun q hq => List.mem_cons_of_mem _ (List.mem_cons_of_mem _ (List.mem_cons_of_mem _ (List.mem_cons_of_mem _ (List.mem_cons_of_mem _ hq))))
theorem r_neSame {prog : Program} {w : World} {A : Around} {E : Value → Shared → Prop} {s : Shared} {a : Int} {t u : Tok} {Q : Value → Shared → Prop} (h : Q (.bool false) s) : wpAny (model prog w) A (compareOp .NotEq (.int a t) (.int a u)) Q E s := by
  refine ne_int ?_
  rw [bne_self_eq_false]
  exact h
theorem r_neSameB {prog : Program} {w : World} {A : Around} {E : Value → Shared → Prop} {s : Shared} {a : Bool} {Q : Value → Shared → Prop} (h : Q (.bool false) s) : wpAny (model prog w) A (compareOp .NotEq (.bool a) (.bool a)) Q E s := by
  refine ne_bool ?_
  rw [bne_self_eq_false]
  exact h
theorem getD_mem2 {α : Type} {l : List α} {i : Nat} {d : α} (h : i < l.length) : l.getD i d ∈ l := by
  rw [List.getD_eq_getElem?_getD, List.getElem?_eq_getElem h]
  exact List.getElem_mem h
theorem flat_seat (hp : Heap) {v : Value} {T : List (PyData × PyData)} {ns : List Int} {x : Int} (hd : Spec.lookup (.int x) T = if x ∈ ns then some (.int (ns.idxOf x : Nat)) else none) (h : Flat v ((Spec.lookup (.int x) T).getD (.int (-1)))) : ∃ t, v = .int (if x ∈ ns then (ns.idxOf x : Nat) else -1) t := by
  rw [hd] at h
  by_cases hx : x ∈ ns
  · rw [if_pos hx] at h ⊢
    have q : Reads hp v (.int (ns.idxOf x : Nat)) [] := h hp
    cases q
    exact ⟨_, rfl⟩
  · rw [if_neg hx] at h ⊢
    have q : Reads hp v (.int (-1)) [] := h hp
    cases q
    exact ⟨_, rfl⟩
theorem r_lenT {prog : Program} {w : World} {A : Around} {E : Value → Shared → Prop} {s : Shared} {h₀ : Heap} {L D : Addr} {news : List (Addr × Obj)} {vs : List Value} {n k : Nat} {Q : Value → Shared → Prop} (N : News h₀ L s.heap news) (hm : (D, tupO vs n) ∈ news) (hl : vs.length = k) (hk : k ≤ 2000) (h : ∀ t tk, Q (.int k t) { s with toks := tk }) :
    wpAny (model prog w) A (call (.builtin "len") [.ref D]) Q E s := by
  refine len_tuple (N.isTup hm) (by simp; omega) ?_
  have e : (vs.toArray.size : Int) = k := by simp [hl]
  rw [e]; exact h _ _
end
section
theorem freshD7 : True := by
  w_top off
  trivial
noncomputable def mdOf (ws : List Int) : List (Int × Int) := ws.mapIdx fun i w => ((i : Int) + 1, w)
theorem md_len (ws : List Int) : (mdOf ws).length = ws.length := by simp [mdOf]
theorem md_snoc (ws : List Int) (w : Int) : mdOf (ws ++ [w]) = mdOf ws ++ [(((ws.length + 1 : Nat) : Int), w)] := by
  simp [mdOf, List.mapIdx_append]
theorem md_getD {ws : List Int} {i : Nat} (h : i < ws.length) : (mdOf ws).getD i (0, 0) = ((i : Int) + 1, ws.getD i 0) := by
  simp [mdOf, List.getD, h]
theorem md_mem {ws : List Int} {e : Int × Int} (h : e ∈ mdOf ws) : 1 ≤ e.1 ∧ e.1 ≤ ws.length ∧ ws.getD (e.1 - 1).toNat 0 = e.2 := by
  obtain ⟨i, hi, rfl⟩ := List.getElem_of_mem h
  rw [md_len] at hi
  have e := md_getD hi
  rw [List.getD_eq_getElem?_getD, List.getElem?_eq_getElem (by rw [md_len]; exact hi)] at e
  have e' : (mdOf ws)[i]'(by rw [md_len]; exact hi) = ((i : Int) + 1, ws.getD i 0) := e
  rw [e']
  refine ⟨by dsimp only; omega, by dsimp only; omega, ?_⟩
  dsimp only
  rw [show ((i : Int) + 1 - 1).toNat = i by omega]
structure PInv (ws : List Int) (ps : List (List (Int × Int))) (ns : List Int) (k : Nat) : Prop where
  wk : ∀ w ∈ ws, 0 ≤ w ∧ w < 12
  wl : ws.length ≤ k
  pl : ps.length ≤ k + 1
  pne : ps ≠ []
  fl : ps.flatten.length ≤ k
  nd : (ps.flatten.map (·.1)).Nodup
  mem : ∀ e ∈ ps.flatten, 1 ≤ e.1 ∧ e.1 ≤ ws.length ∧ ws.getD (e.1 - 1).toNat 0 = e.2
  line : ns = (lineR ps).drop 1
theorem line_append (A B : List (List (Int × Int))) : lineR (A ++ B) = lineR A ++ lineR B := by simp [lineR, List.flatMap_append]
theorem line_cons (es : List (Int × Int)) (B : List (List (Int × Int))) : lineR (es :: B) = -1 :: (es.map (·.1) ++ lineR B) := by simp [lineR]
theorem line_len (ps : List (List (Int × Int))) : (lineR ps).length = ps.length + ps.flatten.length := by
  induction ps with
  | nil => rfl
  | cons es B ih => rw [line_cons]; simp [ih]; omega
theorem line_mem {ps : List (List (Int × Int))} {y : Int} (h : y ∈ lineR ps) : y = -1 ∨ ∃ e ∈ ps.flatten, e.1 = y := by
  induction ps with
  | nil => simp [lineR] at h
  | cons es B ih =>
    rw [line_cons] at h
    rcases List.mem_cons.mp h with h | h
    · exact .inl h
    · rcases List.mem_append.mp h with h | h
      · obtain ⟨e, he, rfl⟩ := List.mem_map.mp h
        exact .inr ⟨e, by simp [he], rfl⟩
      · rcases ih h with h | ⟨e, he, h⟩
        · exact .inl h
        · exact .inr ⟨e, by rw [List.flatten_cons]; exact List.mem_append_right _ he, h⟩
theorem line_head {ps : List (List (Int × Int))} (h : ps ≠ []) : lineR ps = -1 :: (lineR ps).drop 1 := by
  cases ps with
  | nil => exact absurd rfl h
  | cons es B => rw [line_cons]; rfl
section
variable {ws : List Int} {ps : List (List (Int × Int))} {ns : List Int} {k : Nat}
theorem PInv.lineLen (P : PInv ws ps ns k) : (lineR ps).length ≤ 2 * k + 1 := by
  have := P.pl
  have := P.fl
  rw [line_len]; omega
theorem PInv.nsLen (P : PInv ws ps ns k) : ns.length ≤ 2 * k := by
  have := P.lineLen
  rw [P.line, List.length_drop]; omega
theorem PInv.nsMem (P : PInv ws ps ns k) : ∀ y ∈ ns, y = -1 ∨ ∃ e ∈ ps.flatten, e.1 = y := by
  intro y hy
  rw [P.line] at hy
  exact line_mem (List.mem_of_mem_drop hy)
theorem PInv.nsIn (P : PInv ws ps ns k) : ∀ y ∈ ns, y = -1 ∨ (0 ≤ y ∧ y ≤ ws.length) := by
  intro y hy
  rcases P.nsMem y hy with h | ⟨e, he, rfl⟩
  · exact .inl h
  · have := P.mem e he
    exact .inr ⟨by omega, by omega⟩
theorem PInv.part (P : PInv ws ps ns k) : ∀ es ∈ ps, es.length ≤ k := by
  intro es hes
  have := P.fl
  have h2 : es.length ≤ ps.flatten.length := by
    have := List.sublist_flatten_of_mem hes
    exact this.length_le
  omega
theorem PInv.partIn (P : PInv ws ps ns k) {es : List (Int × Int)} (hes : es ∈ ps) : ∀ e ∈ es, 0 ≤ e.2 ∧ e.2 < 12 := by
  intro e he
  have h := P.mem e (List.mem_flatten.mpr ⟨es, hes, he⟩)
  refine P.wk e.2 ?_
  rw [← h.2.2]
  exact getD_mem2 (by omega)
theorem PInv.uniq (P : PInv ws ps ns k) {e e' : Int × Int} (h : e ∈ mdOf ws) (h' : e' ∈ ps.flatten) (hf : e'.1 = e.1) : e' = e := by
  have a := md_mem h
  have b := P.mem e' h'
  refine Prod.ext hf ?_
  rw [← b.2.2, ← a.2.2, hf]
end
end
section
theorem freshD8 : True := by
  w_top off
  trivial
theorem clr_skip : ∀ {l r : List Int}, (∀ y ∈ l, y ≠ -1) → clearR (l ++ r) = clearR r
  | [], _, _ => rfl
  | y :: l, r, h => by
    rw [List.cons_append, clearR, if_neg (h y (List.mem_cons_self))]
    exact clr_skip fun z hz => h z (List.mem_cons_of_mem _ hz)
theorem scan_skip {al : Int → Bool} {r : List Int} (hr : r = [] ∨ ∃ r', r = -1 :: r') : ∀ (t : List Int) (c e : Int), (∀ y ∈ t, y ≠ -1) → scanR al c e (t ++ r) = (c + (t.countP al : Nat), if t.any al then ((r.length + t.reverse.findIdx al : Nat) : Int) else e)
  | [], c, e, _ => by
    rcases hr with rfl | ⟨r', rfl⟩
    · simp [scanR]
    · simp [scanR]
  | y :: t, c, e, h => by
    have h1 := h y (List.mem_cons_self)
    have h2 : ∀ z ∈ t, z ≠ -1 := fun z hz => h z (List.mem_cons_of_mem _ hz)
    rw [List.cons_append, scanR, if_neg h1]
    by_cases ha : al y = true
    · rw [if_pos ha, scan_skip hr t _ _ h2, List.countP_cons_of_pos ha, List.any_cons, ha, Bool.true_or, if_pos rfl, List.reverse_cons, List.findIdx_append]
      by_cases hany : t.any al = true
      · rw [if_pos hany, if_pos (by
          obtain ⟨x, hx, hx2⟩ := List.any_eq_true.mp hany
          exact List.findIdx_lt_length.mpr ⟨x, List.mem_reverse.mpr hx, hx2⟩)]
        refine Prod.ext ?_ rfl
        show c + 1 + _ = c + _
        omega
      · rw [if_neg hany, if_neg (by
          intro hlt
          obtain ⟨x, hx, hx2⟩ := List.findIdx_lt_length.mp hlt
          exact hany (List.any_eq_true.mpr ⟨x, List.mem_reverse.mp hx, hx2⟩))]
        refine Prod.ext ?_ ?_
        · show c + 1 + _ = c + _
          omega
        · have e0 : [y].findIdx al = 0 := by simp [List.findIdx_cons, ha]
          rw [e0]
          simp
          omega
    · have ha' : al y = false := by simpa using ha
      rw [if_neg ha, scan_skip hr t _ _ h2, List.countP_cons_of_neg ha, List.any_cons, ha', Bool.false_or, List.reverse_cons, List.findIdx_append]
      by_cases hany : t.any al = true
      · rw [if_pos hany, if_pos hany, if_pos (by
          obtain ⟨x, hx, hx2⟩ := List.any_eq_true.mp hany
          exact List.findIdx_lt_length.mpr ⟨x, List.mem_reverse.mpr hx, hx2⟩)]
      · rw [if_neg hany, if_neg hany]
theorem find_map {al : Int → Bool} {P : Int × Int → Bool} : ∀ {l : List (Int × Int)}, (∀ e ∈ l, al e.1 = P e) → (l.map (·.1)).findIdx al = l.findIdx P ∧ (l.map (·.1)).countP al = l.countP P
  | [], _ => ⟨rfl, rfl⟩
  | e :: l, h => by
    have h1 := h e (List.mem_cons_self)
    obtain ⟨i1, i2⟩ := find_map (l := l) fun z hz => h z (List.mem_cons_of_mem _ hz)
    rw [List.map_cons, List.findIdx_cons, List.findIdx_cons, List.countP_cons, List.countP_cons, h1, i1, i2]
    exact ⟨rfl, rfl⟩
theorem erase_first {P : Int × Int → Bool} {d : Int × Int} : ∀ {l : List (Int × Int)}, 0 < (l.filter P).length → l.erase ((l.filter P).getD 0 d) = l.eraseIdx (l.findIdx P)
  | [], h => by simp at h
  | a :: l, h => by
    by_cases ha : P a = true
    · rw [List.filter_cons_of_pos ha, List.findIdx_cons, ha]
      simp
    · have ha' : P a = false := by simpa using ha
      rw [List.filter_cons_of_neg ha] at h ⊢
      have hm : (l.filter P).getD 0 d ∈ l.filter P := getD_mem2 h
      have hp := (List.mem_filter.mp hm).2
      have hne : a ≠ (l.filter P).getD 0 d := fun e => by rw [← e, ha'] at hp; cases hp
      rw [List.erase_cons_tail (by simpa using hne), erase_first h, List.findIdx_cons, ha']
      rfl
theorem alike12 : ∀ a < 12, ∀ b < 12, alikeB (KS.getD a kd0).2.1 (KS.getD a kd0).1 (KS.getD a kd0).2.2 (KS.getD b kd0).2.1 (KS.getD b kd0).1 (KS.getD b kd0).2.2 = decide (YS.getD a kd0 = YS.getD b kd0) := by decide +kernel
theorem nms_at {ws : List Int} {y : Int} (h1 : 1 ≤ y) (h2 : y ≤ ws.length) : (nmsOf ws).getD y.toNat Str.empty = (kOf (ws.getD (y - 1).toNat 0)).2.1 := by
  obtain ⟨j, rfl⟩ : ∃ j : Nat, y = (j : Int) + 1 := ⟨(y - 1).toNat, by omega⟩
  rw [show ((j : Int) + 1).toNat = j + 1 by omega, show ((j : Int) + 1 - 1).toNat = j by omega]
  have : j < ws.length := by omega
  simp [nmsOf, List.getD, this]
theorem sps_at {ws : List Int} {y : Int} (h1 : 1 ≤ y) (h2 : y ≤ ws.length) : (spsOf ws).getD y.toNat Str.empty = (kOf (ws.getD (y - 1).toNat 0)).1 := by
  obtain ⟨j, rfl⟩ : ∃ j : Nat, y = (j : Int) + 1 := ⟨(y - 1).toNat, by omega⟩
  rw [show ((j : Int) + 1).toNat = j + 1 by omega, show ((j : Int) + 1 - 1).toNat = j by omega]
  have : j < ws.length := by omega
  simp [spsOf, List.getD, this]
theorem att_at {ws : List Int} {y : Int} (h1 : 1 ≤ y) (h2 : y ≤ ws.length) : (attOf ws).getD y.toNat [] = (kOf (ws.getD (y - 1).toNat 0)).2.2 := by
  obtain ⟨j, rfl⟩ : ∃ j : Nat, y = (j : Int) + 1 := ⟨(y - 1).toNat, by omega⟩
  rw [show ((j : Int) + 1).toNat = j + 1 by omega, show ((j : Int) + 1 - 1).toNat = j by omega]
  have : j < ws.length := by omega
  simp [attOf, List.getD, this]
theorem alk_eq {ws : List Int} (hw : ∀ w ∈ ws, 0 ≤ w ∧ w < 12) {x y : Int} (hx1 : 1 ≤ x) (hx2 : x ≤ ws.length) (hy1 : 1 ≤ y) (hy2 : y ≤ ws.length) : alk ws x y = decide (yOf (ws.getD (y - 1).toNat 0) = yOf (ws.getD (x - 1).toNat 0)) := by
  have a := hw _ (getD_mem2 (l := ws) (i := (x - 1).toNat) (d := 0) (by omega))
  have b := hw _ (getD_mem2 (l := ws) (i := (y - 1).toNat) (d := 0) (by omega))
  unfold alk
  rw [nms_at hx1 hx2, nms_at hy1 hy2, sps_at hx1 hx2, sps_at hy1 hy2, att_at hx1 hx2, att_at hy1 hy2]
  unfold kOf yOf
  exact alike12 _ (by omega) _ (by omega)
theorem dropLast_eq {ps : List (List (Int × Int))} {last : List (Int × Int)} (h : ps.getLast? = some last) : ps = ps.dropLast ++ [last] := by
  have hne : ps ≠ [] := fun e => by rw [e] at h; cases h
  have e1 := List.dropLast_concat_getLast hne
  rw [List.getLast?_eq_some_getLast hne] at h
  rw [Option.some.inj h] at e1
  exact e1.symm
section
variable {ws : List Int} {ps : List (List (Int × Int))} {ns : List Int} {k : Nat}
theorem PInv.up (P : PInv ws ps ns k) : PInv ws ps ns (k + 1) := { P with wl := Nat.le_succ_of_le P.wl, pl := Nat.le_succ_of_le P.pl, fl := Nat.le_succ_of_le P.fl }
theorem PInv.mark (P : PInv ws ps ns k) : PInv ws (ps ++ [[]]) (ns ++ [-1]) (k + 1) := by
  have hf : (ps ++ [[]]).flatten = ps.flatten := by simp
  refine ⟨P.wk, Nat.le_succ_of_le P.wl, ?_, by simp, ?_, ?_, ?_, ?_⟩
  · have := P.pl
    simp; omega
  · rw [hf]; exact Nat.le_succ_of_le P.fl
  · rw [hf]; exact P.nd
  · rw [hf]; exact P.mem
  · rw [line_append, P.line]
    have h := line_head P.pne
    rw [h]
    simp [line_cons, lineR]
theorem PInv.fst_ne (P : PInv ws ps ns k) {es : List (Int × Int)} (hes : es ∈ ps) : ∀ y ∈ es.map (·.1), y ≠ -1 := by
  intro y hy
  obtain ⟨e, he, rfl⟩ := List.mem_map.mp hy
  have := P.mem e (List.mem_flatten.mpr ⟨es, hes, he⟩)
  omega
theorem PInv.clear (P : PInv ws ps ns k) : PInv ws (if ps.length > 1 then ps.dropLast else [[]]) (clearR ns.reverse).reverse (k + 1) := by
  obtain ⟨last, hl⟩ : ∃ last, ps.getLast? = some last := ⟨_, List.getLast?_eq_some_getLast P.pne⟩
  have e := dropLast_eq hl
  have hlm : last ∈ ps := List.mem_of_getLast? hl
  have hne := P.fst_ne hlm
  generalize hpre : ps.dropLast = pre at e
  have hsub : pre.flatten.Sublist ps.flatten := by
    rw [e]; simp
  have hns := P.line
  rw [e, line_append, line_cons] at hns
  have e2 : lineR ([] : List (List (Int × Int))) = [] := rfl
  rw [e2, List.append_nil] at hns
  by_cases hlen : ps.length > 1
  · rw [if_pos hlen]
    have hpn : pre ≠ [] := by
      intro h
      rw [e, h] at hlen
      simp at hlen
    have hh := line_head hpn
    have hns2 : ns = (lineR pre).drop 1 ++ -1 :: last.map (·.1) := by
      rw [hns, hh]; simp
    refine ⟨P.wk, Nat.le_succ_of_le P.wl, ?_, hpn, ?_, ?_, ?_, ?_⟩
    · have := P.pl
      rw [e] at this
      simp at this; omega
    · exact Nat.le_trans hsub.length_le (Nat.le_succ_of_le P.fl)
    · exact P.nd.sublist (hsub.map _)
    · exact fun x hx => P.mem x (hsub.subset hx)
    · rw [hns2, List.reverse_append, List.reverse_cons, List.append_assoc, clr_skip (by simpa using hne)]
      simp [clearR]
  · rw [if_neg hlen]
    have hpn : pre = [] := by
      rw [e] at hlen
      simp at hlen
      exact hlen
    subst hpn
    have hns2 : ns = last.map (·.1) := by rw [hns]; rfl
    refine ⟨P.wk, Nat.le_succ_of_le P.wl, by simp, by simp, by simp, by simp, by simp, ?_⟩
    have q := clr_skip (l := ns.reverse) (r := []) (by rw [hns2]; simpa using hne)
    rw [List.append_nil] at q
    rw [q]; rfl
end
end
section
theorem freshD9 : True := by
  w_top off
  trivial
theorem part_nd {A B : List (List (Int × Int))} {es es' : List (Int × Int)} (nd : ((A ++ es :: B).flatten.map (·.1)).Nodup) (nd' : (es'.map (·.1)).Nodup) (h : ∀ e ∈ es', e ∈ es ∨ ∀ z ∈ (A ++ es :: B).flatten, z.1 ≠ e.1) : ((A ++ es' :: B).flatten.map (·.1)).Nodup := by
  simp only [List.flatten_append, List.flatten_cons, List.map_append] at nd h ⊢
  rw [List.nodup_append, List.nodup_append] at nd ⊢
  obtain ⟨n1, ⟨n2, n3, n4⟩, n5⟩ := nd
  refine ⟨n1, ⟨nd', n3, ?_⟩, ?_⟩
  · intro a ha b hb
    obtain ⟨e, he, rfl⟩ := List.mem_map.mp ha
    rcases h e he with h1 | h1
    · exact n4 _ (List.mem_map.mpr ⟨e, h1, rfl⟩) b hb
    · obtain ⟨z, hz, rfl⟩ := List.mem_map.mp hb
      exact fun q => h1 z (by simp [hz]) q.symm
  · intro a ha b hb
    obtain ⟨z, hz, rfl⟩ := List.mem_map.mp ha
    rcases List.mem_append.mp hb with hb | hb
    · obtain ⟨e, he, rfl⟩ := List.mem_map.mp hb
      rcases h e he with h1 | h1
      · exact n5 _ (List.mem_map.mpr ⟨z, hz, rfl⟩) _ (List.mem_append_left _ (List.mem_map.mpr ⟨e, h1, rfl⟩))
      · exact h1 z (by simp [hz])
    · exact n5 _ ha b (List.mem_append_right _ hb)
noncomputable def Good (ws : List Int) (e : Int × Int) : Prop := 1 ≤ e.1 ∧ e.1 ≤ ws.length ∧ ws.getD (e.1 - 1).toNat 0 = e.2
theorem Good.ext {ws : List Int} {e : Int × Int} (h : Good ws e) (w : Int) : Good (ws ++ [w]) e := by
  obtain ⟨a, b, c⟩ := h
  refine ⟨a, by simp; omega, ?_⟩
  rw [← c, List.getD_eq_getElem?_getD, List.getD_eq_getElem?_getD, List.getElem?_append_left (by omega)]
theorem Good.new (ws : List Int) (w : Int) : Good (ws ++ [w]) (((ws.length + 1 : Nat) : Int), w) := by
  refine ⟨by dsimp only; omega, by simp, ?_⟩
  dsimp only
  rw [show (((ws.length + 1 : Nat) : Int) - 1).toNat = ws.length by omega, List.getD_eq_getElem?_getD]
  simp
theorem fl_change (A B : List (List (Int × Int))) (es : List (Int × Int)) : (A ++ es :: B).flatten.length = A.flatten.length + es.length + B.flatten.length := by simp; omega
theorem line_drop (A : List (List (Int × Int))) (L : List Int) : (lineR A ++ -1 :: L).drop 1 = (lineR A ++ [-1]).drop 1 ++ L := by
  rw [show lineR A ++ -1 :: L = (lineR A ++ [-1]) ++ L by simp, List.drop_append_of_le_length (by simp)]
theorem line_tail (A : List (List (Int × Int))) : ((lineR A ++ [-1]).drop 1).reverse = [] ∨ ∃ r, ((lineR A ++ [-1]).drop 1).reverse = -1 :: r := by
  by_cases h : A = []
  · subst h; exact .inl rfl
  · have := line_head h
    rw [this]
    exact .inr ⟨((lineR A).drop 1).reverse, by simp⟩
section
variable {ws : List Int} {ps : List (List (Int × Int))} {ns : List Int} {k : Nat}
theorem PInv.ext (P : PInv ws ps ns k) {w : Int} (h0 : 0 ≤ w) (h1 : w < 12) : PInv (ws ++ [w]) ps ns (k + 1) := by
  have := P.wl
  refine ⟨?_, by simp; omega, Nat.le_succ_of_le P.pl, P.pne, Nat.le_succ_of_le P.fl, P.nd, fun e he => Good.ext (P.mem e he) w, P.line⟩
  intro x hx
  rcases List.mem_append.mp hx with hx | hx
  · exact P.wk x hx
  · rw [List.mem_singleton.mp hx]; exact ⟨h0, h1⟩
theorem PInv.fresh (P : PInv ws ps ns k) : ∀ z ∈ ps.flatten, z.1 ≠ ((ws.length + 1 : Nat) : Int) := by
  intro z hz
  have := P.mem z hz
  omega
theorem PInv.push (P : PInv ws ps ns k) {W : Int} (h0 : 0 ≤ W) (h1 : W < 12) {last : List (Int × Int)} (hl : ps.getLast? = some last) :
    PInv (ws ++ [W]) (ps.set (ps.length - 1) (pushP ((ws.length + 1 : Nat) : Int) W last)) (pushR (ws ++ [W]) ((ws.length + 1 : Nat) : Int) ns) (k + 1) := by
  have e := dropLast_eq hl
  have hlm : last ∈ ps := List.mem_of_getLast? hl
  have hne := P.fst_ne hlm
  have PE := P.ext h0 h1
  generalize hpre : ps.dropLast = pre at e
  have hset : ps.set (ps.length - 1) (pushP ((ws.length + 1 : Nat) : Int) W last) = pre ++ [pushP ((ws.length + 1 : Nat) : Int) W last] := by
    rw [e]; simp
  have hlast : (last.map (·.1)).Nodup := by
    have := P.nd
    rw [e] at this
    simp only [List.flatten_append, List.flatten_cons, List.map_append, List.flatten_nil, List.append_nil] at this
    exact (List.nodup_append.mp this).2.1
  have hsubl : (if (twinsP W last).length > 2 then last.erase ((twinsP W last).getD 0 (0, 0)) else last).Sublist last := by
    split
    · exact List.erase_sublist
    · exact List.Sublist.refl _
  have hfr := P.fresh
  have hlf : ∀ z ∈ last, z ∈ ps.flatten := fun z hz => List.mem_flatten.mpr ⟨last, hlm, hz⟩
  rw [hset]
  refine ⟨PE.wk, PE.wl, ?_, by simp, ?_, ?_, ?_, ?_⟩
  · have := P.pl
    rw [e] at this
    simp at this ⊢; omega
  · have h2 := P.fl
    rw [e, fl_change] at h2
    rw [fl_change]
    have h3 := hsubl.length_le
    have h4 : (pushP ((ws.length + 1 : Nat) : Int) W last).length = (if (twinsP W last).length > 2 then last.erase ((twinsP W last).getD 0 (0, 0)) else last).length + 1 := by
      unfold pushP; simp
    omega
  · have nd := P.nd
    rw [e] at nd
    refine part_nd nd ?_ ?_
    · unfold pushP
      rw [List.map_append, List.nodup_append]
      refine ⟨hlast.sublist (hsubl.map _), by simp, fun a ha b hb q => ?_⟩
      simp only [List.map_cons, List.map_nil, List.mem_singleton] at hb
      obtain ⟨z, hz, rfl⟩ := List.mem_map.mp ((hsubl.map _).subset ha)
      exact hfr z (hlf z hz) (q.trans hb)
    · intro z hz
      unfold pushP at hz
      rcases List.mem_append.mp hz with hz | hz
      · exact .inl (hsubl.subset hz)
      · rw [List.mem_singleton.mp hz, ← e]
        exact .inr hfr
  · intro z hz
    simp only [List.flatten_append, List.flatten_cons, List.flatten_nil, List.append_nil, List.mem_append] at hz
    rcases hz with hz | hz
    · refine Good.ext (P.mem z ?_) W
      rw [e]; simp [hz]
    · unfold pushP at hz
      rcases List.mem_append.mp hz with hz | hz
      · exact Good.ext (P.mem z (hlf z (hsubl.subset hz))) W
      · rw [List.mem_singleton.mp hz]
        exact Good.new ws W
  · rw [line_append, line_cons]
    have e2 : lineR ([] : List (List (Int × Int))) = [] := rfl
    rw [e2, List.append_nil, line_drop]
    have hns := P.line
    rw [e, line_append, line_cons, e2, List.append_nil, line_drop] at hns
    have ht := line_tail pre
    generalize (lineR pre ++ [-1]).drop 1 = XX at hns ht
    have hP : ∀ z ∈ last, alk (ws ++ [W]) ((ws.length + 1 : Nat) : Int) z.1 = decide (yOf z.2 = yOf W) := by
      intro z hz
      have g : Good (ws ++ [W]) z := Good.ext (P.mem z (hlf z hz)) W
      have gn := Good.new ws W
      rw [alk_eq PE.wk gn.1 gn.2.1 g.1 g.2.1, g.2.2, gn.2.2]
    obtain ⟨f1, f2⟩ := find_map hP
    have hsc := scan_skip (al := alk (ws ++ [W]) ((ws.length + 1 : Nat) : Int)) ht (last.map (·.1)).reverse 0 (-1) (by simpa using hne)
    rw [List.reverse_reverse, List.countP_reverse, f1, f2, List.length_reverse] at hsc
    have hrev : ns.reverse = (last.map (·.1)).reverse ++ XX.reverse := by rw [hns, List.reverse_append]
    have hcnt : (twinsP W last).length = last.countP fun e : Int × Int => decide (yOf e.2 = yOf W) := by
      unfold twinsP; rw [List.countP_eq_length_filter]
    unfold pushR pushP
    rw [hrev, hsc, ← hcnt]
    dsimp only
    by_cases hc : (twinsP W last).length > 2
    · rw [if_pos hc, if_pos (by omega)]
      have hany : (last.map (·.1)).reverse.any (alk (ws ++ [W]) ((ws.length + 1 : Nat) : Int)) = true := by
        rw [List.any_reverse, List.any_eq_true]
        have : 0 < last.countP fun e : Int × Int => decide (yOf e.2 = yOf W) := by omega
        obtain ⟨z, hz, hz2⟩ := List.countP_pos_iff.mp this
        exact ⟨z.1, List.mem_map.mpr ⟨z, hz, rfl⟩, by rw [hP z hz]; exact hz2⟩
      rw [if_pos hany, Int.toNat_natCast, hns, List.eraseIdx_append_of_length_le (by omega), Nat.add_sub_cancel_left, er_map]
      have q := erase_first (P := fun e : Int × Int => decide (yOf e.2 = yOf W)) (d := (0, 0)) (l := last) (by
        have : (last.filter fun e : Int × Int => decide (yOf e.2 = yOf W)) = twinsP W last := rfl
        rw [this]; omega)
      have q2 : (last.filter fun e : Int × Int => decide (yOf e.2 = yOf W)) = twinsP W last := rfl
      rw [q2] at q
      rw [q, List.map_append, List.append_assoc]
      rfl
    · rw [if_neg hc, if_neg (by omega), hns, List.map_append, List.append_assoc]
      rfl
end
end
section
theorem freshD10 : True := by
  w_top off
  trivial
theorem erase_fst {e : Int × Int} : ∀ {es : List (Int × Int)}, (es.map (·.1)).Nodup → e ∈ es → (es.map (·.1)).erase e.1 = (es.erase e).map (·.1)
  | [], _, h => nomatch h
  | a :: r, nd, h => by
    by_cases ha : a = e
    · subst ha; simp
    · have hr : e ∈ r := (List.mem_cons.mp h).resolve_left fun q => ha q.symm
      rw [List.map_cons, List.nodup_cons] at nd
      have h1 : a.1 ≠ e.1 := fun q => nd.1 (List.mem_map.mpr ⟨e, hr, q.symm⟩)
      rw [List.map_cons, List.erase_cons_tail (by simpa using h1), List.erase_cons_tail (by simpa using ha), erase_fst nd.2 hr, List.map_cons]
theorem line_erase {A B : List (List (Int × Int))} {es : List (Int × Int)} {e : Int × Int} (nd : ((A ++ es :: B).flatten.map (·.1)).Nodup) (he : e ∈ es) (hne : e.1 ≠ -1) : (lineR (A ++ es :: B)).erase e.1 = lineR (A ++ es.erase e :: B) := by
  simp only [List.flatten_append, List.flatten_cons, List.map_append] at nd
  rw [List.nodup_append, List.nodup_append] at nd
  obtain ⟨n1, ⟨n2, n3, n4⟩, n5⟩ := nd
  have hA : e.1 ∉ lineR A := by
    intro h
    rcases line_mem h with h | ⟨z, hz, hz2⟩
    · exact hne h
    · exact n5 _ (List.mem_map.mpr ⟨z, hz, rfl⟩) _ (List.mem_append_left _ (List.mem_map.mpr ⟨e, he, rfl⟩)) hz2
  rw [line_append, line_append, line_cons, line_cons, List.erase_append_right _ hA, List.erase_cons_tail (by simpa using fun q : (-1 : Int) = e.1 => hne q.symm), List.erase_append_left _ (List.mem_map.mpr ⟨e, he, rfl⟩), erase_fst n2 he]
theorem split_at {ps : List (List (Int × Int))} {i : Nat} {es : List (Int × Int)} (h : ps[i]? = some es) : ∃ A B, A.length = i ∧ ps = A ++ es :: B ∧ ∀ X, ps.set i X = A ++ X :: B := by
  obtain ⟨hi, he⟩ := List.getElem?_eq_some_iff.mp h
  refine ⟨ps.take i, ps.drop (i + 1), by rw [List.length_take]; omega, ?_, fun X => ?_⟩
  · have q := List.take_append_drop i ps
    rw [List.drop_eq_getElem_cons hi, he] at q
    exact q.symm
  · rw [List.set_eq_take_append_cons_drop, if_pos hi]
theorem seat_mem {e : Int × Int} {ps : List (List (Int × Int))} {n : Nat} {i : Int} (h : i ∈ seatsOf e ps n) : 0 ≤ i ∧ i < n ∧ e ∈ ps.getD i.toNat [] := by
  unfold seatsOf at h
  obtain ⟨j, hj, rfl⟩ := List.mem_map.mp h
  obtain ⟨h1, h2⟩ := List.mem_filter.mp hj
  have := List.mem_range.mp h1
  exact ⟨by omega, by omega, by simpa using h2⟩
theorem seat_none {e : Int × Int} {ps : List (List (Int × Int))} (h : seatsOf e ps ps.length = []) : e ∉ ps.flatten := by
  intro hm
  obtain ⟨es, hes, he⟩ := List.mem_flatten.mp hm
  obtain ⟨j, hj, rfl⟩ := List.getElem_of_mem hes
  have : (j : Int) ∈ seatsOf e ps ps.length := by
    unfold seatsOf
    refine List.mem_map.mpr ⟨j, List.mem_filter.mpr ⟨List.mem_range.mpr hj, ?_⟩, rfl⟩
    rw [decide_eq_true_iff, List.getD_eq_getElem?_getD, List.getElem?_eq_getElem hj]
    exact he
  rw [h] at this
  cases this
theorem swap_map {a b : Int} : ∀ {l : List Int}, l.count a ≤ 1 → (if a ∈ l then l.set (l.idxOf a) b else l) = l.map fun y => if y = a then b else y
  | [], _ => by simp
  | y :: r, h => by
    by_cases hy : y = a
    · subst hy
      have hr : y ∉ r := by
        rw [List.count_cons_self] at h
        exact List.count_eq_zero.mp (by omega)
      have e : (r.map fun z => if z = y then b else z) = r := by
        conv => rhs; rw [← List.map_id r]
        refine List.map_congr_left fun z hz => ?_
        show (if z = y then b else z) = z
        have hzy : z ≠ y := fun q => hr (by rw [← q]; exact hz)
        exact if_neg hzy
      rw [if_pos (List.mem_cons_self), List.idxOf_cons_self, List.map_cons, if_pos rfl, e]
      rfl
    · have h2 : r.count a ≤ 1 := by
        rw [List.count_cons_of_ne hy] at h; exact h
      have ih := swap_map (b := b) h2
      rw [List.map_cons, if_neg hy, ← ih]
      by_cases ha : a ∈ r
      · rw [if_pos (List.mem_cons_of_mem _ ha), if_pos ha, List.idxOf_cons, show (y == a) = false by simpa using hy]
        rfl
      · rw [if_neg ha, if_neg (fun q => (List.mem_cons.mp q).elim (fun q => hy q.symm) ha)]
theorem line_filter {ps : List (List (Int × Int))} (h : ∀ e ∈ ps.flatten, e.1 ≠ -1) : (lineR ps).filter (fun y => decide (y ≠ -1)) = ps.flatten.map (·.1) := by
  induction ps with
  | nil => rfl
  | cons es B ih =>
    rw [line_cons, List.filter_cons_of_neg (by simp), List.filter_append, ih fun e he => h e (by rw [List.flatten_cons]; exact List.mem_append_right _ he), List.flatten_cons, List.map_append]
    congr 1
    refine List.filter_eq_self.mpr fun y hy => ?_
    obtain ⟨e, he, rfl⟩ := List.mem_map.mp hy
    have := h e (by rw [List.flatten_cons]; exact List.mem_append_left _ he)
    simpa using this
section
variable {ws : List Int} {ps : List (List (Int × Int))} {ns : List Int} {k : Nat}
theorem PInv.ne (P : PInv ws ps ns k) : ∀ e ∈ ps.flatten, e.1 ≠ -1 := fun e he => by
  have := P.mem e he
  omega
theorem PInv.pw (P : PInv ws ps ns k) : ns.Pairwise fun x y => x ≠ -1 → y ≠ -1 → x ≠ y := by
  have h := line_filter P.ne
  have nd := P.nd
  rw [← h] at nd
  have q : (lineR ps).Pairwise fun x y => decide (x ≠ -1) = true → decide (y ≠ -1) = true → x ≠ y := List.pairwise_filter.mp nd
  rw [P.line]
  refine (q.sublist (List.drop_sublist _ _)).imp fun {x y} hxy hx hy => hxy (decide_eq_true hx) (decide_eq_true hy)
theorem PInv.apart (P : PInv ws ps ns k) : Apart ns := by
  intro a b hab hb he
  have q := List.pairwise_iff_getElem.mp P.pw a b (by omega) hb hab
  rw [List.getD_eq_getElem?_getD, List.getD_eq_getElem?_getD, List.getElem?_eq_getElem (by omega), List.getElem?_eq_getElem hb] at he
  rw [List.getD_eq_getElem?_getD, List.getElem?_eq_getElem hb]
  have he' : ns[a] = ns[b] := he
  show ns[b] = -1
  by_cases hn : ns[b] = -1
  · exact hn
  · exact absurd he' (q (by rw [he']; exact hn) hn)
theorem PInv.count (P : PInv ws ps ns k) {a : Int} (ha : a ≠ -1) : ns.count a ≤ 1 := by
  have h := line_filter P.ne
  have nd := P.nd
  rw [← h] at nd
  have q := List.nodup_iff_count.mp nd a
  rw [List.count_filter (by simpa using ha)] at q
  refine Nat.le_trans ?_ q
  rw [P.line]
  exact (List.drop_sublist _ _).count_le _
theorem PInv.mdGood (P : PInv ws ps ns k) {e : Int × Int} (he : e ∈ mdOf ws) : e.1 ≠ -1 ∧ 0 ≤ e.2 ∧ e.2 < 12 := by
  have a := md_mem he
  refine ⟨by omega, ?_⟩
  rw [← a.2.2]
  exact P.wk _ (getD_mem2 (by omega))
theorem PInv.erase (P : PInv ws ps ns k) {A B : List (List (Int × Int))} {es : List (Int × Int)} {e : Int × Int} (h : ps = A ++ es :: B) (he : e ∈ es) : PInv ws (A ++ es.erase e :: B) (ns.erase e.1) (k + 1) := by
  have hf : e ∈ ps.flatten := by rw [h]; simp [he]
  have hne := P.ne e hf
  have nd := P.nd
  rw [h] at nd
  have hsub : (es.erase e).Sublist es := List.erase_sublist
  have hln := P.line
  have hh := line_head P.pne
  have hle := line_erase nd he hne
  refine ⟨P.wk, Nat.le_succ_of_le P.wl, ?_, by simp, ?_, ?_, ?_, ?_⟩
  · have := P.pl
    rw [h] at this
    simp at this ⊢; omega
  · have := P.fl
    rw [h, fl_change] at this
    rw [fl_change]
    have := hsub.length_le
    omega
  · refine part_nd nd ?_ fun z hz => .inl (hsub.subset hz)
    have q : (es.map (·.1)).Nodup := by
      simp only [List.flatten_append, List.flatten_cons, List.map_append] at nd
      rw [List.nodup_append, List.nodup_append] at nd
      exact nd.2.1.1
    exact q.sublist (hsub.map _)
  · intro z hz
    refine P.mem z ?_
    rw [h]
    simp only [List.flatten_append, List.flatten_cons, List.mem_append] at hz ⊢
    rcases hz with hz | hz | hz
    · exact .inl hz
    · exact .inr (.inl (hsub.subset hz))
    · exact .inr (.inr hz)
  · rw [← hle, ← h, hh, ← hln, List.erase_cons_tail (by simpa using fun q : (-1 : Int) = e.1 => hne q.symm)]
    rfl
theorem PInv.remove (P : PInv ws ps ns k) {e : Int × Int} (he : e ∈ mdOf ws) : PInv ws (remP e ps (seatsOf e ps ps.length)) (ns.erase e.1) (k + 1) := by
  cases hs : seatsOf e ps ps.length with
  | nil =>
    have hn : e.1 ∉ ns := by
      intro h
      rcases P.nsMem _ h with h | ⟨z, hz, hz2⟩
      · exact (P.mdGood he).1 h
      · exact seat_none hs (P.uniq he hz hz2 ▸ hz)
    rw [List.erase_of_not_mem hn]
    exact P.up
  | cons i r =>
    have hi := seat_mem (e := e) (ps := ps) (n := ps.length) (i := i) (by rw [hs]; exact List.mem_cons_self)
    have hes : ps[i.toNat]? = some (ps.getD i.toNat []) := by
      rw [List.getD_eq_getElem?_getD, List.getElem?_eq_getElem (by omega)]; rfl
    obtain ⟨A, B, hA, h, hset⟩ := split_at hes
    rw [remP, hset]
    exact P.erase h hi.2.2
theorem sw_fst (P : PInv ws ps ns k) {e : Int × Int} (he : e ∈ mdOf ws) {z : Int × Int} (hz : z ∈ ps.flatten) (n : Int) : (swE e (n, e.2) z).1 = if z.1 = e.1 then n else z.1 := by
  unfold swE
  by_cases h : z = e
  · rw [if_pos h, if_pos (by rw [h])]
  · rw [if_neg h, if_neg fun q => h (P.uniq he hz q)]
theorem line_sw {f : Int × Int → Int × Int} {g : Int → Int} (hg : g (-1) = -1) : ∀ {ps : List (List (Int × Int))}, (∀ z ∈ ps.flatten, (f z).1 = g z.1) → lineR (ps.map fun es => es.map f) = (lineR ps).map g
  | [], _ => rfl
  | es :: B, h => by
    have h1 : ∀ z ∈ es, (f z).1 = g z.1 := fun z hz => h z (by rw [List.flatten_cons]; exact List.mem_append_left _ hz)
    have h2 : ∀ z ∈ B.flatten, (f z).1 = g z.1 := fun z hz => h z (by rw [List.flatten_cons]; exact List.mem_append_right _ hz)
    rw [List.map_cons, line_cons, line_cons, List.map_cons, hg, List.map_append, line_sw hg h2, List.map_map, List.map_map]
    congr 2
    exact List.map_congr_left fun z hz => h1 z hz
theorem PInv.replace (P : PInv ws ps ns k) {e : Int × Int} (he : e ∈ mdOf ws) :
    PInv (ws ++ [e.2]) (ps.map fun es => es.map (swE e (((ws.length + 1 : Nat) : Int), e.2))) (if e.1 ∈ ns then ns.set (ns.idxOf e.1) ((ws.length + 1 : Nat) : Int) else ns) (k + 1) := by
  have g := P.mdGood he
  have PE := P.ext g.2.1 g.2.2
  have hfl : (ps.map fun es => es.map (swE e (((ws.length + 1 : Nat) : Int), e.2))).flatten = ps.flatten.map (swE e (((ws.length + 1 : Nat) : Int), e.2)) := List.map_flatten.symm
  have hfr := P.fresh
  refine ⟨PE.wk, PE.wl, by rw [List.length_map]; exact PE.pl, by simpa using P.pne, ?_, ?_, ?_, ?_⟩
  · rw [hfl, List.length_map]; exact PE.fl
  · rw [hfl, List.map_map]
    have nd : ps.flatten.Pairwise fun a b => a.1 ≠ b.1 := List.pairwise_map.mp P.nd
    refine List.pairwise_map.mpr (nd.imp_of_mem fun {a b} ha hb hab => ?_)
    show (swE e (((ws.length + 1 : Nat) : Int), e.2) a).1 ≠ (swE e (((ws.length + 1 : Nat) : Int), e.2) b).1
    rw [sw_fst P he ha, sw_fst P he hb]
    have h1 := hfr a ha
    have h2 := hfr b hb
    split <;> split <;> omega
  · rw [hfl]
    intro z hz
    obtain ⟨y, hy, rfl⟩ := List.mem_map.mp hz
    unfold swE
    by_cases h : y = e
    · rw [if_pos h]
      exact Good.new ws e.2
    · rw [if_neg h]
      exact Good.ext (P.mem y hy) e.2
  · rw [swap_map (P.count g.1)]
    have q := line_sw (f := swE e (((ws.length + 1 : Nat) : Int), e.2)) (g := fun y => if y = e.1 then ((ws.length + 1 : Nat) : Int) else y) (if_neg fun q => g.1 q.symm) (ps := ps) fun z hz => sw_fst P he hz _
    rw [q, ← List.map_drop, ← P.line]
theorem PInv.put (P : PInv ws ps ns k) {e : Int × Int} (he : e ∈ mdOf ws) {i : Int} {es : List (Int × Int)} (hes : ps[i.toNat]? = some es) (hie : e ∈ es) (pk : Int) :
    PInv (ws ++ [e.2]) (putP ps i es e (((ws.length + 1 : Nat) : Int), e.2) pk) (insR (ns.erase e.1) (offR (putP ps i es e (((ws.length + 1 : Nat) : Int), e.2) pk) i + atR pk (es.erase e)) ((ws.length + 1 : Nat) : Int)) (k + 1) ∧
      0 ≤ offR (putP ps i es e (((ws.length + 1 : Nat) : Int), e.2) pk) i + atR pk (es.erase e) ∧ offR (putP ps i es e (((ws.length + 1 : Nat) : Int), e.2) pk) i + atR pk (es.erase e) ≤ (ns.erase e.1).length := by
  have g := P.mdGood he
  have PE := P.ext g.2.1 g.2.2
  obtain ⟨A, B, hA, h, hset⟩ := split_at hes
  have PR := P.erase h hie
  have hln := PR.line
  have hfr := P.fresh
  have hesm : es ∈ ps := List.mem_of_getElem? hes
  have hsub : (es.erase e).Sublist es := List.erase_sublist
  have ha := fmod_bd (a := pk.fdiv 7) (b := ((es.erase e).length : Int) + 1) (by omega)
  have hat : atR pk (es.erase e) = (pk.fdiv 7).fmod (((es.erase e).length : Int) + 1) := rfl
  rw [← hat] at ha
  have hput : putP ps i es e (((ws.length + 1 : Nat) : Int), e.2) pk = A ++ insP (es.erase e) (atR pk (es.erase e)) (((ws.length + 1 : Nat) : Int), e.2) :: B := hset _
  rw [hput]
  generalize atR pk (es.erase e) = a at ha ⊢
  have hoff : offR (A ++ insP (es.erase e) a (((ws.length + 1 : Nat) : Int), e.2) :: B) i = (lineR A).length := by
    unfold offR
    rw [← hA, List.take_left]
    clear hput hset hA h PR hln
    induction A with
    | nil => rfl
    | cons x A ih =>
      rw [List.map_cons, List.sum_cons, ih, line_cons]
      simp
      omega
  rw [hoff]
  have hXX : ((lineR A ++ [-1]).drop 1).length = (lineR A).length := by simp
  have hln2 : ns.erase e.1 = (lineR A ++ [-1]).drop 1 ++ ((es.erase e).map (·.1) ++ lineR B) := by
    rw [hln, line_append, line_cons, line_drop]
  have hal : a.toNat ≤ ((es.erase e).map (·.1)).length := by rw [List.length_map]; omega
  have hinsf : (insP (es.erase e) a (((ws.length + 1 : Nat) : Int), e.2)).map (·.1) = ((es.erase e).map (·.1)).take a.toNat ++ ((ws.length + 1 : Nat) : Int) :: ((es.erase e).map (·.1)).drop a.toNat := by
    unfold insP
    rw [List.map_append, List.map_cons, List.map_take, List.map_drop]
  have hinsm : ∀ z ∈ insP (es.erase e) a (((ws.length + 1 : Nat) : Int), e.2), z ∈ es ∨ z = (((ws.length + 1 : Nat) : Int), e.2) := by
    intro z hz
    unfold insP at hz
    rcases List.mem_append.mp hz with hz | hz
    · exact .inl (hsub.subset (List.mem_of_mem_take hz))
    · rcases List.mem_cons.mp hz with hz | hz
      · exact .inr hz
      · exact .inl (hsub.subset (List.mem_of_mem_drop hz))
  refine ⟨⟨PE.wk, PE.wl, ?_, by simp, ?_, ?_, ?_, ?_⟩, by omega, ?_⟩
  · have := P.pl
    rw [h] at this
    simp at this ⊢; omega
  · have h1 := P.fl
    rw [h, fl_change] at h1
    rw [fl_change]
    have h2 := hsub.length_le
    have h3 : (insP (es.erase e) a (((ws.length + 1 : Nat) : Int), e.2)).length = (es.erase e).length + 1 := by
      unfold insP
      simp only [List.length_append, List.length_cons, List.length_take, List.length_drop]
      omega
    omega
  · have nd := P.nd
    rw [h] at nd
    refine part_nd nd ?_ ?_
    · have q : (es.map (·.1)).Nodup := by
        simp only [List.flatten_append, List.flatten_cons, List.map_append] at nd
        rw [List.nodup_append, List.nodup_append] at nd
        exact nd.2.1.1
      have q2 := q.sublist (hsub.map (·.1))
      rw [hinsf]
      have q3 : ((ws.length + 1 : Nat) : Int) ∉ (es.erase e).map (·.1) := by
        intro hm
        obtain ⟨z, hz, hz2⟩ := List.mem_map.mp hm
        exact hfr z (List.mem_flatten.mpr ⟨es, hesm, hsub.subset hz⟩) hz2
      have q4 : (((ws.length + 1 : Nat) : Int) :: (((es.erase e).map (·.1)).take a.toNat ++ ((es.erase e).map (·.1)).drop a.toNat)).Nodup := by
        rw [List.take_append_drop]
        exact List.nodup_cons.mpr ⟨q3, q2⟩
      exact (List.perm_middle.nodup_iff).mpr q4
    · intro z hz
      rcases hinsm z hz with hz | hz
      · exact .inl hz
      · rw [hz, ← h]; exact .inr hfr
  · intro z hz
    simp only [List.flatten_append, List.flatten_cons, List.mem_append] at hz
    rcases hz with hz | hz | hz
    · exact Good.ext (P.mem z (by rw [h]; simp [hz])) e.2
    · rcases hinsm z hz with hz | hz
      · exact Good.ext (P.mem z (List.mem_flatten.mpr ⟨es, hesm, hz⟩)) e.2
      · rw [hz]; exact Good.new ws e.2
    · exact Good.ext (P.mem z (by rw [h]; simp [hz])) e.2
  · rw [line_append, line_cons, line_drop, hinsf]
    unfold insR
    have ek : ((lineR A).length + a).toNat = ((lineR A ++ [-1]).drop 1).length + a.toNat := by rw [hXX]; omega
    rw [ek, hln2, List.take_length_add_append, List.drop_length_add_append, List.take_append_of_le_length hal, List.drop_append_of_le_length hal]
    simp
  · rw [hln2, List.length_append, hXX, List.length_append]
    omega
end
end
section
theorem freshD11 : True := by
  w_top off
  trivial
theorem find_skip {nms : List Str} {nm : Str} {Qp : Int × Int → Bool} {r : List Int} (hr : r = [] ∨ ∃ r', r = -1 :: r') : ∀ {u : List (Int × Int)}, (∀ e ∈ u, e.1 ≠ -1 ∧ (nms.getD e.1.toNat Str.empty = nm ↔ Qp e = true)) → findR nms nm (u.map (·.1) ++ r) = (((u.filter Qp).map (·.1)).head?).getD (-1)
  | [], _ => by
    rcases hr with rfl | ⟨r', rfl⟩
    · rfl
    · simp [findR]
  | e :: u, h => by
    obtain ⟨h1, h2⟩ := h e (List.mem_cons_self)
    rw [List.map_cons, List.cons_append, findR, if_neg h1]
    by_cases hq : Qp e = true
    · rw [if_pos (h2.mpr hq), List.filter_cons_of_pos hq]
      rfl
    · rw [if_neg (fun q => hq (h2.mp q)), List.filter_cons_of_neg hq]
      exact find_skip hr fun z hz => h z (List.mem_cons_of_mem _ hz)
section
variable {ws : List Int} {ps : List (List (Int × Int))} {ns : List Int} {k : Nat}
theorem PInv.find (P : PInv ws ps ns k) {last : List (Int × Int)} (hl : ps.getLast? = some last) (nm : Str) : findR (nmsOf ws) nm ns.reverse = ([-1] ++ (last.filter fun e : Int × Int => (KS.getD e.2.toNat kd0).2.1 == nm).map fun e : Int × Int => e.1).getLastD 0 := by
  have e := dropLast_eq hl
  have hlm : last ∈ ps := List.mem_of_getLast? hl
  have hne := P.fst_ne hlm
  have hns := P.line
  have e2 : lineR ([] : List (List (Int × Int))) = [] := rfl
  rw [e, line_append, line_cons, e2, List.append_nil, line_drop] at hns
  have ht := line_tail ps.dropLast
  rw [hns, List.reverse_append, ← List.map_reverse, find_skip (Qp := fun e : Int × Int => (KS.getD e.2.toNat kd0).2.1 == nm) ht (fun z hz => ?_), List.filter_reverse, List.map_reverse, List.head?_reverse, List.getLastD_eq_getLast?, List.getLast?_append]
  · cases ((last.filter fun e : Int × Int => (KS.getD e.2.toNat kd0).2.1 == nm).map (·.1)).getLast? <;> rfl
  · have hz' : z ∈ last := List.mem_reverse.mp hz
    have g := P.mem z (List.mem_flatten.mpr ⟨last, hlm, hz'⟩)
    refine ⟨by omega, ?_⟩
    rw [nms_at g.1 g.2.1, g.2.2, beq_iff_eq]
    rfl
theorem PInv.lastOf (P : PInv ws ps ns k) : ∃ last, ps.getLast? = some last := ⟨_, List.getLast?_eq_some_getLast P.pne⟩
end
end
section
theorem freshD12 : True := by
  w_top off
  trivial
section
variable {prog : Program} {w : World} {A : Around} {E : Value → Shared → Prop} {s : Shared} {env : Env} {h₀ : Heap} {body : List Stmt} {Q : Flow → Shared → Prop} {m₀ : Str → Option Value} {news : List (Addr × Obj)}
theorem rt_list {target : Expr} {l : Addr} {vs : List Value} {nn : Nat} (J : Nat → (Str → Option Value) → List (Addr × Obj) → Prop)
    (hh : A.handled = none) (hl : (l, PySem.W.listOf vs.toArray nn) ∈ news) (F : Fr h₀ env.locals s.heap m₀) (N : News h₀ env.locals s.heap news) (hj : J 0 m₀ news) (hmem : ∀ i m nx, J i m nx → (l, PySem.W.listOf vs.toArray nn) ∈ nx)
    (turn : ∀ i v m₁ nx h tk own, vs[i]? = some v → OwnOff own (nx.map (·.1)) → J i m₁ nx → Fr h₀ env.locals h m₁ → News h₀ env.locals h (nx ++ own) →
      wpAny (model prog w) A (assign target env v) (fun _ s₃ => wpAny (model prog w) A (execs body env) (InvPostG h₀ env.locals (J (i + 1)) own { s with heap := h, toks := tk } Q) E s₃) E { s with heap := h, toks := tk })
    (done : ∀ m₁ nx h tk, J vs.length m₁ nx → Fr h₀ env.locals h m₁ → News h₀ env.locals h nx → Q .next { s with heap := h, toks := tk }) :
    wpAny (model prog w) A (pyIter (.ref l)) (fun it s₂ => TurnsAt prog w A h₀ env target body Q E it s₂) E s := by
  have hget : s.heap.get? l = some (PySem.W.listOf vs.toArray nn) := N.get hl
  have isl : s.heap.IsList l vs.toArray := N.isList hl
  have hne : l ≠ s.heap.objs.size := Nat.ne_of_lt (Heap.lt_size hget)
  have hI0 : h₀.get? s.heap.objs.size = none := next_is_new F
  refine wpAny_pyIter_list isl ?_
  have W := KTurns.ofWalks (target := target) (Walks.list (prog := prog) (w := w) hh s.heap.objs.size l hne vs.toArray) fun i v s Q E st q => letGo_listiter st.1 q
  have hsz : vs.toArray.size = vs.length := by simp
  rw [hsz] at W
  refine ⟨_, _, _, vs.length, _, _, _, m₀, news, J, rfl, W, ?_, ?_, ?_, ⟨⟨_, Heap.get?_push_size _ rfl, rfl, rfl⟩, isl.at fun o e => Heap.get?_push_of_some _ e⟩, F.push _, (fun p hp => ⟨Heap.get?_push_of_some _ (N p hp).1, (N p hp).2⟩), hj, ?_, ?_⟩
  · intro hm
    simp only [List.mem_cons, List.not_mem_nil, or_false] at hm
    rcases hm with e | e
    · exact absurd F.ns.lt (e ▸ Nat.lt_irrefl _)
    · exact (N _ hl).2.1 e.symm
  · intro b hb
    rw [List.mem_singleton.mp hb]
    exact hI0
  · intro p hp hI
    exact absurd (Heap.lt_size (N p hp).1) ((List.mem_singleton.mp hI) ▸ Nat.lt_irrefl _)
  · intro i v m₁ nx h₁ tk₁ own hin hP hJ hoff hown hgets hfp hst F₁ N₁
    have hv : vs[i]? = some v := by simpa using hP
    have hlx := hmem i m₁ nx hJ
    have hlo : h₁.get? l = some (PySem.W.listOf vs.toArray nn) := N₁.get (List.mem_append_right _ hlx)
    obtain ⟨⟨oI, hoI, _⟩, _⟩ := id hst
    have hIown : (s.heap.objs.size, oI) ∈ own := hfp _ (List.mem_cons_self) hI0 _ hoI
    let own' := own.filter fun p => decide (p.1 = s.heap.objs.size)
    have own_sub : ∀ p ∈ own', p ∈ own ∧ p.1 = s.heap.objs.size := fun p hp => ⟨(List.mem_filter.mp hp).1, by simpa using (List.mem_filter.mp hp).2⟩
    have hIo : (s.heap.objs.size, oI) ∈ own' := List.mem_filter.mpr ⟨hIown, by simp⟩
    have sep : OwnOff own' (nx.map (·.1)) := by
      intro p hp b hb e
      obtain ⟨q, hq, rfl⟩ := List.mem_map.mp hb
      exact hoff q hq (List.mem_singleton.mpr (e ▸ (own_sub p hp).2))
    have N₂ : News h₀ env.locals h₁ (nx ++ own') := newsSub N₁ fun p hp => (List.mem_append.mp hp).elim (fun h => List.mem_append_right _ h) fun h => List.mem_append_left _ (own_sub p h).1
    have fin : ∀ s₂, InvEndG h₀ env.locals (J (i + 1)) own' { s with heap := h₁, toks := tk₁ } s₂ → LoopStepU h₀ env.locals [s.heap.objs.size] own (J (i + 1)) { s with heap := h₁, toks := tk₁ } .next s₂ := by
      rintro s₂ ⟨h', tk, m', news', nx', e, F', N', hn, ho, ha, hm⟩
      refine ⟨rfl, h', tk, m', nx', e, F', fun p hp => ?_, fun p hp hq => ?_, hm⟩
      · rcases List.mem_append.mp hp with h | h
        · have hin2 := hown p h
          simp only [List.mem_cons, List.not_mem_nil, or_false] at hin2
          rcases hin2 with h1 | h1
          · exact N' p (ho p (List.mem_filter.mpr ⟨h, by simpa using h1⟩))
          · have h2 := hgets p h
            rw [h1, hlo] at h2
            have h3 : p = (l, PySem.W.listOf vs.toArray nn) := Prod.ext h1 (Option.some.inj h2).symm
            rw [h3]
            exact N' _ (hn _ (hmem _ _ _ hm))
        · exact N' p (hn p h)
      · exact ha _ hIo p.1 (List.mem_map.mpr ⟨p, hp, rfl⟩) (List.mem_singleton.mp hq).symm
    refine wpAny_mono (turn i v m₁ nx h₁ tk₁ own' hv sep hJ F₁ N₂) (fun _ s₃ h₃ => wpAny_mono h₃ (fun f s₂ p => ?_) fun _ _ e => e) fun _ _ e => e
    cases f with
    | ret v => exact .ret p
    | brk => exact .brk p
    | next => exact .next (fin _ p)
    | cont => exact .cont (fin _ p)
  · intro h' tk m' news' F' N' _ hJ
    exact done m' news' h' tk hJ F' N'
end
end
section
theorem freshD13 : True := by
  w_top off
  trivial
section
variable {prog : Program} {w : World} {A : Around} {E : Value → Shared → Prop} {s : Shared} {h₀ : Heap} {L a : Addr} {m : Str → Option Value} {news : List (Addr × Obj)} {vs : List Value}
theorem sort_short {n : Nat} {P : PySem.Fin → Shared → Prop} (F : Fr h₀ L s.heap m) (N : News h₀ L s.heap news) (ho : s.heap.get? a = some (seqObj "list" vs.toArray n)) (haL : a ≠ L) (ha0 : h₀.get? a = none) (hna : ∀ p ∈ news, p.1 ≠ a) (h2 : vs.length < 2)
    (h : ∀ e1 h', Fr h₀ L h' m → News h₀ L h' ((a, seqObj "list" vs.toArray e1) :: news) → P (.done (.ret .none)) { s with heap := h' }) :
    wpAny (model prog w) A (Builtin.«list.sort» ⟨[.ref a], []⟩) P E s := by
  have hlt : a < s.heap.objs.size := Heap.lt_size ho
  have s1 := Heap.SameBut.update s.heap a (Obj.mapSeq fun _ => (#[] : Array Value))
  obtain ⟨e1, ho1⟩ : ∃ e1, (s.heap.update a (Obj.mapSeq fun _ => (#[] : Array Value))).get? a = some (seqObj "list" #[] e1) := ⟨_, get?_update_seq ho fun _ => #[]⟩
  have F1 := ((kas_fr F s1 haL ha0).push (seqObj "tuple" vs.toArray 0)).push (seqObj "list" #[] 0)
  have N1 := (kas_news N s1 hna).grown (h' := ((s.heap.update a (Obj.mapSeq fun _ => (#[] : Array Value))).push (seqObj "tuple" vs.toArray 0)).push (seqObj "list" #[] 0)) fun b x e => Heap.get?_push_of_some _ (Heap.get?_push_of_some _ e)
  have ho6 : (((s.heap.update a (Obj.mapSeq fun _ => (#[] : Array Value))).push (seqObj "tuple" vs.toArray 0)).push (seqObj "list" #[] 0)).get? a = some (seqObj "list" #[] e1) := Heap.get?_push_of_some _ (Heap.get?_push_of_some _ ho1)
  rw [list_sort_plain]
  refine wpAny_bind (listItems_at ho rfl ?_)
  refine wpAny_bind (listUpdate_at ho rfl ?_ (by rw [List.size_toArray, sizeLine_eq]; omega) (Nat.zero_le _))
  refine wpAny_bind (seqEpoch_at ho1 rfl ?_)
  refine wpAny_bind (wpAny_newTuple ?_ (by show vs.length ≤ _; rw [sizeLine_eq]; omega))
  refine wpAny_bind (wpAny_newList ?_ (Nat.zero_le _))
  refine wpAny_holding ?_
  show wpAny (model prog w) A _ P E { s with heap := ((s.heap.update a (Obj.mapSeq fun _ => (#[] : Array Value))).push (seqObj "tuple" vs.toArray 0)).push (seqObj "list" #[] 0) }
  dsimp only
  have hn2 : vs.toArray.size < 2 := by rw [List.size_toArray]; exact h2
  rw [if_pos hn2, if_pos hn2]
  refine wpAny_bind (wpAny_pure ?_)
  rw [StateT.run_pure]
  refine wpAny_bind (wpAny_pure ?_)
  dsimp only
  have hout : (arrOf (SortSt.mk' general' (vs.toArray.zip vs.toArray) #[] 7 none)).map (·.2) = vs.toArray := by
    show (vs.toArray.zip vs.toArray).map (·.2) = vs.toArray
    apply Array.toList_inj.mp
    simp only [Array.toList_map, Array.toList_zip]
    exact List.map_snd_zip (Nat.le_refl _)
  rw [hout]
  obtain ⟨e2, ho2⟩ : ∃ e2, ((((s.heap.update a (Obj.mapSeq fun _ => (#[] : Array Value))).push (seqObj "tuple" vs.toArray 0)).push (seqObj "list" #[] 0)).update a (Obj.mapSeq fun _ => vs.toArray)).get? a = some (seqObj "list" vs.toArray e2) := ⟨_, get?_update_seq ho6 fun _ => vs.toArray⟩
  refine wpAny_bind (seqEpoch_at ho6 rfl ?_)
  refine wpAny_bind (listUpdate_at ho6 rfl ?_ (Nat.zero_le _) (by show vs.toArray.size ≤ _; rw [List.size_toArray, sizeLine_eq]; omega))
  simp only [bne_self_eq_false, Bool.false_eq_true, if_false]
  have s2 := Heap.SameBut.update (((s.heap.update a (Obj.mapSeq fun _ => (#[] : Array Value))).push (seqObj "tuple" vs.toArray 0)).push (seqObj "list" #[] 0)) a (Obj.mapSeq fun _ => vs.toArray)
  refine wpAny_pure (h e2 _ (kas_fr F1 s2 haL ha0) fun p hp => ?_)
  rcases List.mem_cons.mp hp with rfl | hp
  · exact ⟨ho2, haL, ha0⟩
  · exact kas_news N1 s2 hna p hp
theorem sortedT {b : Addr} {n : Nat} {Q : Value → Shared → Prop} (F : Fr h₀ L s.heap m) (N : News h₀ L s.heap news) (hb : (b, tupO vs n) ∈ news) (h64 : vs.length < 64)
    (hs : ∀ D k h1 (P : PySem.Fin → Shared → Prop) (E' : Value → Shared → Prop), Fr h₀ L h1 m → News h₀ L h1 news → h1.get? D = some (seqObj "list" vs.toArray k) → D ≠ L → h₀.get? D = none → (∀ p ∈ news, @LT.lt Nat _ p.1 D) →
      (∀ s', Q (.ref D) s' → P (.done (.ret .none)) s') → wpAny (model prog w) A.in1.in1 (Builtin.«list.sort» ⟨[.ref D], []⟩) P E' { s with heap := h1 }) :
    wpAny (model prog w) A (call (.builtin "sorted") [.ref b]) Q E s := by
  refine Calls.call_function_entry kind_sorted plain_sorted entry_sorted (args_sorted1 _) ?_
  unfold Builtin.«sorted»
  refine wpAny_bind (m := checkCount "sorted" 1 1 _) (wpAny_pure ?_)
  refine wpAny_bind (wpAny_collect_seq b (.inr rfl) (N.get hb) rfl rfl (fun h1 hk => ?_) (by rw [List.size_toArray, sizeLine_eq]; omega))
  refine wpAny_bind (wpAny_newList ?_ (by simp; rw [sizeLine_eq]; omega))
  have F1 : Fr h₀ L h1 m := F.keeps hk
  have N1 : News h₀ L h1 news := N.grown hk
  have hL : L < h1.objs.size := F1.ns.lt
  have hoL : (h1.push (seqObj "list" vs.toArray 0)).get? h1.objs.size = some (seqObj "list" vs.toArray 0) := Heap.get?_push_size _ rfl
  refine wpAny_bind (wpAny_holding (wpAny_call_entry slot_list_sort ⟨_, hoL, rfl⟩ entry_list_sort ?body (args_list_sort _)))
  case body =>
    refine hs h1.objs.size 0 (h1.push (seqObj "list" vs.toArray 0)) _ _ (F1.push _) (N1.grown fun b o e => Heap.get?_push_of_some _ e) hoL (Nat.ne_of_gt hL) (Heap.get?_none_of_le (Nat.le_trans F.above (Nat.le_of_lt hL))) (fun p hp => Heap.lt_size (N1 p hp).1) fun s' hq => ?_
    exact ⟨_, rfl, wpAny_pure ⟨_, rfl, hq⟩⟩
end
open LCg in
noncomputable def TupSrc (prog : Program) (w : World) (A : Around) (h₀ : Heap) (L : Addr) (m : Str → Option Value) (env : Env) (elt : Expr) (x : Str) (scope : Scope) (cl : List (Str × Addr)) (Q : Value → Shared → Prop) (xv : Value) (s₁ : Shared) : Prop :=
  ∃ ax vs n news, xv = .ref ax ∧ A.handled = none ∧ Fr h₀ L s₁.heap m ∧ News h₀ L s₁.heap news ∧ (ax, tupO vs n) ∈ news ∧ vs.length ≤ 2000 ∧
    ∀ g, CompRest prog w A h₀ L m env elt x scope cl { s₁ with heap := g } (fun nx => (ax, tupO vs n) ∈ nx) (fun i v => vs.toArray[i]? = some v) (FinE h₀ L m { s₁ with heap := g } Q) vs.toArray.size 0 [] news
open LCg in
theorem ListComp_Tup {prog : Program} {w : World} {A : Around} {E : Value → Shared → Prop} {s : Shared} {h₀ : Heap} {L : Addr} {m : Str → Option Value} {env : Env} {elt iter : Expr} {x : Str} {px : Pos} {scope : Scope} {cl : List (Str × Addr)} {pos : Pos} {Q : Value → Shared → Prop}
    (hclos : closureFor scope env = pure cl) (hcell : ∀ y ∈ scope.names, y.2 ≠ .cell) (hkind : scope.kind = .function)
    (hnames : ∀ y ∈ scope.names, y.2 = .local → scope.names.lookup y.1 = some .local) (hx : scope.names.lookup x = some .local)
    (h : wpAny (model prog w) A (eval iter env) (TupSrc prog w A h₀ L m env elt x scope cl Q) E s)
    (hs : ∀ x, foldedSetIterable iter env x = pure x := by intro _; rfl) :
    wpAny (model prog w) A (eval (.ListComp elt [⟨.Name x px, iter, [], 0⟩] scope pos) env) Q E s := by
  rw [eval_ListComp]
  refine wpAny_comprehension_free (use := none) rfl hs hclos hkind hnames (wpAny_mono h (fun xv s₁ h₁ => ?_) fun _ _ e => e)
  obtain ⟨ax, vs, n, news, rfl, hh, F, N, hm, hz, R⟩ := h₁
  have ht : s₁.heap.IsTuple ax vs.toArray := ⟨_, N.get hm, rfl, n, rfl⟩
  have hlt : ax < s₁.heap.objs.size := Heap.lt_size (N.get hm)
  have hI0 : h₀.get? s₁.heap.objs.size = none := next_is_new F
  refine wpAny_pyIter_tuple ht ?_
  have up : ∀ b o, s₁.heap.get? b = some o → (s₁.heap.push { cls := .type "tuple_iterator", data := .fields #[.ref ax, .int 0 0] }).get? b = some o := fun b o e => Heap.get?_push_of_some _ e
  refine block_U (Walks.tuple hh s₁.heap.objs.size ax (Nat.ne_of_lt hlt) vs.toArray) (by rw [List.size_toArray, sizeLine_eq]; omega) (fun i h st => by obtain ⟨o, e, _⟩ := st.1; exact ⟨o, e⟩) ?st hcell hkind hx ⟨⟨_, Heap.get?_push_size _ rfl, rfl, rfl⟩, ht.push _⟩ (fun b hb => ?_)
    (F.keeps up) (N.grown up) (Nat.ne_of_lt F.ns.lt) hI0 (fun p hp => Nat.ne_of_lt (Heap.lt_size (N p hp).1)) hm (R _) ?_
  case st =>
    intro i h h' o nw st e e' k N' S
    refine ⟨?_, ⟨_, N'.get S, rfl, n, rfl⟩⟩
    obtain ⟨o', q, r⟩ := st.1
    rw [e] at q
    cases q
    exact ⟨o, e', r⟩
  · show b < (s₁.heap.push _).objs.size
    rw [Heap.size_push]
    simp only [List.mem_cons, List.not_mem_nil, or_false] at hb
    rcases hb with rfl | rfl
    · exact Nat.lt_succ_self _
    · exact Nat.lt_succ_of_lt hlt
  · intro D C h tk m' ys news' F' N' o1 hn hC₀ hD₀ hCL hDL hCD offC fin
    refine ⟨m', hn, fun h'' hs'' => fin D h'' tk (F'.change hs'' hCL hC₀) (fun p hp => ?_) o1⟩
    refine ⟨hs''.extBut _ _ ?_ (N' p hp).1, (N' p hp).2⟩
    rcases List.mem_cons.mp hp with rfl | hp
    · exact Ne.symm hCD
    · exact offC p hp
end
section
local macro_rules | `(tactic| k_steps) => `(tactic| repeat' ((fail_if_success (with_reducible first | refine g_iter ?_ | refine g_while ?_ | refine g_lc ?_ | refine g_cs ?_ | refine g_cst ?_ | refine g_alc ?_ | refine g_ce ?_ | refine g_ref ?_ | refine g_app ?_ | refine g_rem ?_ | refine g_ins ?_)); first | (k_unfold; (try dsimp only)) | walk1 | (dsimp only; walk1) | fail "no step"))
local macro_rules | `(tactic| walk_at "eval Name") => `(tactic| (k_here; k_dflt (refine' nameX_L ?F ?v ?_ ?a ?b; (case F => k_asm); (case a => rfl); (case b => rfl); (case v => first | exact rfl | assumption); k_whole)))
local macro_rules | `(tactic| walk_at "subscriptTail") => `(tactic| (k_here; (with_reducible show wpAny _ _ (subscriptTail _ (PySem.Expr.Slice _ _ none _) (Value.ref _) (Value.ref _)) _ _ _); k_dflt (refine' kmk_slice_lit ?F ?N ?l ?p ?q ?e ?_ ?s ?t ?z; (case F => k_asm); (case N => k_asm); (case l => exact News.isList (by k_asm) (by k_mem)); (case p => kmk_part); (case q => kmk_part); (case e => first | exact pick_last | exact pick_upto (by omega)); (case s => with_unfolding_all rfl); (case t => kmk_pure); (case z => (rw [sizeLine_eq, List.size_toArray]; (try dsimp only); omega))); intro D' h' F' N' l1; (try k_lt l1); (try k_sweep)))
local macro_rules | `(tactic| walk_at "compareOp Eq ref ref") => `(tactic| (k_here; (with_reducible show wpAny _ _ (compareOp CmpOp.Eq (Value.ref _) (Value.ref _)) _ _ _); k_dflt (refine' r_keyEq ?k1 ?k2 ?k3 ?k4 ?k5 ?a1 ?a2 ?b1 ?b2 ?u ?_; (case k1 => k_asm); (case k2 => with_reducible assumption); (case k3 => k_sub); (case k4 => with_reducible assumption); (case k5 => k_sub); (case a1 => omega); (case a2 => omega); (case b1 => omega); (case b2 => omega); (case u => ke_room); k_whole)))
local macro_rules | `(tactic| walk_at "compareOp In ref ref") => `(tactic| (k_here; (with_reducible show wpAny _ _ (compareOp CmpOp.In (Value.ref _) (Value.ref _)) _ _ _); k_dflt (refine' r_entIn ?k1 ?k2 ?k3 ?k4 ?k5 ?k6 ?u ?_; (case k1 => k_asm); (case k2 => k_mem); (case k3 => with_reducible assumption); (case k4 => k_sub); (case k5 => with_reducible assumption); (case k6 => k_sub); (case u => ke_room); k_whole)))
local macro_rules | `(tactic| walk_at "compareOp Eq ref ref") => `(tactic| (k_here; (with_reducible show wpAny _ _ (compareOp CmpOp.Eq (Value.ref _) (Value.ref _)) _ _ _); k_dflt (refine' r_entEq ?k1 ?k2 ?k3 ?k4 ?k5 ?u ?_; (case k1 => k_asm); (case k2 => with_reducible assumption); (case k3 => k_sub); (case k4 => with_reducible assumption); (case k5 => k_sub); (case u => ke_room); k_whole)))
local macro_rules | `(tactic| walk_at "compareOp NotEq ref ref") => `(tactic| (k_here; (with_reducible show wpAny _ _ (compareOp CmpOp.NotEq (Value.ref _) (Value.ref _)) _ _ _); k_dflt (refine' r_sameInts ?k1 ?k2 ?k3 ?k4 ?k5 ?u ?_; (case k1 => k_asm); (case k2 => k_mem); (case k3 => with_reducible assumption); (case k4 => k_mem); (case k5 => with_reducible assumption); (case u => ke_room); k_whole)))
local macro_rules | `(tactic| walk_at "compareOp NotEq int int") => `(tactic| (k_here; k_dflt (refine r_neSame ?_)))
local macro_rules | `(tactic| walk_at "compareOp NotEq bool bool") => `(tactic| (k_here; k_dflt (refine r_neSameB ?_)))
section
theorem freshE1 : True := by
  w_top off
  trivial
section
variable {w : World} {s : Shared} {L fa : Addr} {cd : Value} {h₀ : Heap} {m mg mb : Str → Option Value} {p : Program} {loose : List Str} {mean : ExcName → Option Value} {E : Value → Shared → Prop} {Q : Flow → Shared → Prop}
variable {c : CA} {v : SV} {ws : List Int} {md : List (Int × Int)} {ps : List (List (Int × Int))} {ns : List Int}
set_option maxHeartbeats 4000000 in
theorem mark_B (X : (hd.heap_39 w.params).In h₀) (B : Below callerA h₀ [] h₀) (T : Top p loose mean mg mb h₀) (F : Fr h₀ L s.heap m) (N : News h₀ L s.heap (Led L c v)) (R : Rep w L c v ws md ps ns)
    (hrow : m (Str.ofString "row") = some (.ref c.r.R)) (hl : ns.length ≤ 900) (hpl : ps.length ≤ 900)
    (hQ : ∀ h' tk v', Fr h₀ L h' m → News h₀ L h' (Led L c v') → Rep w L c v' ws md (ps ++ [[]]) (ns ++ [-1]) → v'.own = v.own → Q .next { s with heap := h', toks := tk }) :
    wpAny (model PySem.Challenge.rw_nt0595_01.row.prog w) (callerA.deeper (lawEnv L fa cd)) (execs markL (lawEnv L fa cd)) Q E s := by
  revert X
  k_fill
  intro X
  have hh : callerA.handled = none := rfl
  unfold lawEnv
  conv => pattern (occs := *) lawScope; all_goals whnf
  conv => pattern (occs := *) markL; all_goals whnf
  have N1 := led_x N
  obtain ⟨msub, mT, mdT, mR, mdR, mka, mys, mba, mI, mM, mP⟩ := R.mems
  clear N
  k_steps
  refine op_mark (lawCx X B T F (led_y N1)) R hl ?_
  intro h' tk vs' n' F2 N2 R2
  have N3 := led_x N2
  have M := R2.mems
  obtain ⟨msub2, mT2, mdT2, mR2, mdR2, mka2, mys2, mba2, mI2, mM2, mP2⟩ := M
  have dP2 := R2.dP
  clear N1 N2 F
  k_steps
  (rename _ ∧ _ ∧ _ ∧ _ ∧ _ ∧ AllLt _ _ => q)
  (rename News _ _ _ _ => N4)
  refine op_partsAppend (v := { v with ivs := vs', i0 := n' }) (by assumption) N4 R2 (led_lt q) hpl ?_
  intro h' n' F5 N5 R5
  k_steps
  exact hQ _ _ _ F5 N5 R5 rfl
end
end
section
theorem freshE2 : True := by
  w_top off
  trivial
section
variable {w : World} {s : Shared} {L fa : Addr} {cd : Value} {h₀ : Heap} {m mg mb : Str → Option Value} {p : Program} {loose : List Str} {mean : ExcName → Option Value} {E : Value → Shared → Prop} {Q : Flow → Shared → Prop}
variable {c : CA} {v : SV} {ws : List Int} {md : List (Int × Int)} {ps : List (List (Int × Int))} {ns : List Int}
set_option maxHeartbeats 4000000 in
theorem clear_B (X : (hd.heap_39 w.params).In h₀) (B : Below callerA h₀ [] h₀) (T : Top p loose mean mg mb h₀) (F : Fr h₀ L s.heap m) (N : News h₀ L s.heap (Led L c v)) (R : Rep w L c v ws md ps ns)
    (hrow : m (Str.ofString "row") = some (.ref c.r.R)) (hl : ns.length ≤ 900) (hpl : ps.length ≤ 900)
    (hQ : ∀ h' tk v', Fr h₀ L h' m → News h₀ L h' (Led L c v') → Rep w L c v' ws md (if ps.length > 1 then ps.dropLast else [[]]) (clearR ns.reverse).reverse → v'.own = v.own → Q .next { s with heap := h', toks := tk }) :
    wpAny (model PySem.Challenge.rw_nt0595_01.row.prog w) (callerA.deeper (lawEnv L fa cd)) (execs clearL (lawEnv L fa cd)) Q E s := by
  revert X
  k_fill
  intro X
  have hh : callerA.handled = none := rfl
  unfold lawEnv
  conv => pattern (occs := *) lawScope; all_goals whnf
  conv => pattern (occs := *) clearL; all_goals whnf
  have N1 := led_x N
  obtain ⟨msub, mT, mdT, mR, mdR, mka, mys, mba, mI, mM, mP⟩ := R.mems
  clear N
  k_steps
  refine op_clear (lawCx X B T F (led_y N1)) R hl ?_
  intro h' tk vs' n' F2 N2 R2
  have N3 := led_x N2
  obtain ⟨msub2, mT2, mdT2, mR2, mdR2, mka2, mys2, mba2, mI2, mM2, mP2⟩ := R2.mems
  have dP2 := R2.dP
  have hlen : (pvsOf v.prs).length = ps.length := by
    have := R2.hps.length
    simpa [pvsOf] using this
  obtain ⟨c1, c2, c3, c4, c5⟩ := R2.offc
  clear N1 N2 F
  k_steps
  · (rename _ ∧ _ ∧ _ ∧ _ ∧ _ ∧ AllLt _ _ => q)
    (rename News _ _ _ _ => N4)
    (rename Obj.data _ = Data.cell (some (Value.ref _)) => d)
    obtain ⟨N5, R5⟩ := R2.clear1 N4 d (led_lt q)
    refine hQ _ _ _ (by assumption) N5 ?_ rfl
    rw [if_pos (by omega)]
    exact R5
  · (rename _ ∧ _ ∧ _ ∧ _ ∧ _ ∧ _ ∧ AllLt _ _ => q2)
    (rename AllLt _ _ => z9)
    clear z9
    (rename _ ∧ _ ∧ _ ∧ _ ∧ _ ∧ AllLt _ _ => q)
    (rename News _ _ _ _ => N4)
    (rename Obj.data _ = Data.cell (some (Value.ref _)) => d)
    obtain ⟨N5, R5⟩ := R2.clear2 N4 d (led_lt q2.2) (led_lt q) q2.1
    refine hQ _ _ _ (by assumption) N5 ?_ rfl
    rw [if_neg (by omega)]
    exact R5
end
end
section
theorem freshE4 : True := by
  w_top off
  trivial
section
variable {w : World} {s : Shared} {L fa : Addr} {cd : Value} {h₀ : Heap} {m mg mb : Str → Option Value} {p : Program} {loose : List Str} {mean : ExcName → Option Value} {E : Value → Shared → Prop} {Q : Flow → Shared → Prop}
variable {c : CA} {v : SV} {ws : List Int} {md : List (Int × Int)} {ps : List (List (Int × Int))} {ns : List Int}
set_option maxHeartbeats 4000000 in
theorem push2_B {k n : Int} {tk tn : Tok} {last : List (Int × Int)} (X : (hd.heap_39 w.params).In h₀) (B : Below callerA h₀ [] h₀) (T : Top p loose mean mg mb h₀) (F : Fr h₀ L s.heap m) (N : News h₀ L s.heap (Led L c v)) (R : Rep w L c v ws md ps ns)
    (hnode : m (Str.ofString "node") = some (.int n tn))
    (hW : v.oW.data = .cell (some (.int k tk))) (hk0 : 0 ≤ k) (hk1 : k < 12) (hpl : ps.length ≤ 900) (hlast : ps.getLast? = some last) (hll : last.length ≤ 800) (hlk : ∀ e ∈ last, 0 ≤ e.2 ∧ e.2 < 12)
    (hQ : ∀ h' tk v' m', Kp m m' → Fr h₀ L h' m' → News h₀ L h' (Led L c v') → Rep w L c v' ws md (ps.set (ps.length - 1) (pushP n k last)) ns → v'.own = v.own → Q .next { s with heap := h', toks := tk }) :
    wpAny (model PySem.Challenge.rw_nt0595_01.row.prog w) (callerA.deeper (lawEnv L fa cd)) (execs push2L (lawEnv L fa cd)) Q E s := by
  revert X
  k_fill
  intro X
  have hh : callerA.handled = none := rfl
  unfold lawEnv push2L
  conv => pattern (occs := *) lawScope; all_goals whnf
  conv => pattern (occs := *) nth pushL 3; all_goals whnf
  conv => pattern (occs := *) nth pushL 4; all_goals whnf
  conv => pattern (occs := *) nth pushL 5; all_goals whnf
  have N1 := led_x N
  obtain ⟨msub, mT, mdT, mR, mdR, mka, mys, mba, mI, mM, mP⟩ := R.mems
  obtain ⟨pp, hp1, hp2, hpd, hpv, hpm⟩ := R.lastPart hlast
  have dP := R.dP
  have dK := R.dK
  have hyk := R.hyk
  have hlen := hpd.length
  rw [List.length_map] at hlen
  clear N
  k_steps
  (rename Fr _ _ _ _ => F')
  refine' LCt.Assign_ListComp_T F' ?a ?b ?c ?d ?e ?f ?g ?h ?i ?_
  (case a => exact rfl)
  (case b => exact rfl)
  (case c => exact rfl)
  (case d => decide)
  (case e => exact rfl)
  (case f => decide)
  (case g => exact rfl)
  (case h => exact rfl)
  (case i => exact rfl)
  k_steps
  obtain ⟨yk, hyk1, hyk2⟩ := key_at hyk hk0 hk1
  refine' lcT_list (fun i ys => DatAll v.cst ys ((twinsP k (last.take i)).map entD)) ?hh ?F ?N ?m ?z .nil ?step ?fin
  (case hh => exact rfl)
  (case F => k_asm)
  (case N => k_asm)
  (case m => k_mem)
  (case z => (simp only [List.size_toArray]; omega))
  (case step =>
    intro i ys v' I oI C oC D m₂ h tk' E' hi hJ hP hC hx F₁ N₁ o3 ne
    obtain ⟨nd, kk, a, t1, t2, j, he, rfl, hma⟩ := ent_at hpd (by simpa using hP)
    have hma' := msub _ hma
    have hee := List.mem_of_getElem? he
    have hkk := hlk _ hee
    dsimp only at hkk
    obtain ⟨ye, hye1, hye2⟩ := key_at hyk hkk.1 hkk.2
    have htk : last.take (i + 1) = last.take i ++ [(nd, kk)] := by rw [List.take_add_one, he]; rfl
    k_steps
    · refine LCg.CompEnd.intro (by assumption) (by assumption) _ (by k_sub) o3 (.inr ⟨_, by k_mem, rfl, _, rfl⟩) ⟨rfl, ?_⟩
      rename yOf kk = yOf k => hb0
      have hb : decide (yOf kk = yOf k) = true := decide_eq_true hb0
      rw [htk, twinsP, List.filter_append, List.map_append]
      refine hJ.append ?_
      have e1 : ([(nd, kk)].filter fun e : Int × Int => decide (yOf e.2 = yOf k)) = [(nd, kk)] := by
        rw [List.filter_cons, if_pos hb]; rfl
      rw [e1]
      exact .one (.tuple hma (.cons (.int _ _) (.cons (.int _ _) .nil)))
    · refine LCg.CompEnd.intro (by assumption) (by assumption) _ (by k_sub) o3 (.inr ⟨_, by k_mem, rfl, _, rfl⟩) ⟨rfl, ?_⟩
      rename ¬ (yOf kk = yOf k) => hb0
      have hb : decide (yOf kk = yOf k) = false := decide_eq_false hb0
      have e1 : ([(nd, kk)].filter fun e : Int × Int => decide (yOf e.2 = yOf k)) = [] := by
        rw [List.filter_cons, if_neg (by rw [hb]; exact Bool.false_ne_true)]; rfl
      rw [htk, twinsP, List.filter_append, e1, List.append_nil]
      exact hJ)
  (case fin =>
    intro g ys hJ D h tk' F₁ N₁ o1
    rw [List.take_of_length_le (by simp; omega)] at hJ
    have hfl : (twinsP k last).length ≤ 800 := Nat.le_trans (List.length_filter_le _ _) hll
    have hyl := hJ.length
    rw [List.length_map] at hyl
    dsimp only
    obtain ⟨c1, c2, c3, c4, c5⟩ := R.offc
    by_cases hT : (twinsP k last).length > 2
    · obtain ⟨tw, htw, hdw⟩ := hJ.get (k := 0) (by simp; omega)
      have etw : (twinsP k last)[0]'(by omega) = (twinsP k last).getD 0 (0, 0) := by
        rw [List.getD_eq_getElem?_getD, List.getElem?_eq_getElem (by omega)]; rfl
      rw [List.getElem_map, etw] at hdw
      have hmt : (twinsP k last).getD 0 (0, 0) ∈ last := by
        rw [← etw]
        exact (List.filter_sublist).subset (List.getElem_mem _)
      have epl : ps.length - 1 < ps.length := by
        have := (List.getElem?_eq_some_iff.mp hp2).1
        omega
      k_steps
      refine op_partRemove (by assumption) (led_y (newsSub N₁ (fun p hp => List.mem_cons_of_mem _ hp))) R hp1 hp2 hdw (by omega) hmt (by ke_room) ?_
      intro h2 evs2 n2 F2 N2 R2
      have N3 := led_x N2
      clear mP mI mM
      obtain ⟨msub2, mT2, mdT2, mR2, mdR2, mka2, mys2, mba2, mI2, mM2, mP2⟩ := R2.mems
      obtain ⟨pp2, hq1, hq2, hqd, hqv, hqm⟩ := R2.lastPart (last := last.erase ((twinsP k last).getD 0 (0, 0))) (by
        rw [List.getLast?_eq_getElem?, List.length_set, List.getElem?_set_self epl])
      rw [List.length_set] at hq1 hq2
      have dP2 := R2.dP
      have hel : (last.erase ((twinsP k last).getD 0 (0, 0))).length ≤ 800 := by
        have := List.length_erase_le (a := (twinsP k last).getD 0 (0, 0)) (l := last)
        omega
      clear N2 N₁ N1
      k_steps
      (rename _ ∧ _ ∧ _ ∧ _ ∧ _ ∧ AllLt _ _ => q4)
      (rename News _ _ _ _ => N4)
      obtain ⟨N5, R5⟩ := grow2 R2 N4 (led_lt q4)
      refine op_partAppend (e := (n, k)) (by assumption) N5 R5 hq1 hq2 (.tuple (List.mem_cons_self) (.cons (.int _ _) (.cons (.int _ _) .nil))) (by omega) ?_
      intro h6 evs6 n6 F6 N6 R6
      k_steps
      refine hQ _ _ _ _ ?_ F6 N6 ?_ rfl
      · exact Kp.set (Kp.refl _) (by decide)
      · have e9 : ∀ X Y : List (Int × Int), (ps.set (ps.length - 1) X).set (ps.length - 1) Y = ps.set (ps.length - 1) Y := fun X Y => List.set_set ..
        rw [e9] at R6
        rw [pushP, if_pos hT]
        exact R6
    · k_steps
      (rename _ ∧ _ ∧ _ ∧ _ ∧ _ ∧ _ ∧ AllLt _ _ => q4)
      (rename News _ _ _ _ => N4)
      obtain ⟨N5, R5⟩ := grow2 R (newsSub N4 sub_2) (led_lt q4.2)
      refine op_partAppend (e := (n, k)) (by assumption) N5 R5 hp1 hp2 (.tuple (List.mem_cons_self) (.cons (.int _ _) (.cons (.int _ _) .nil))) (by omega) ?_
      intro h6 evs6 n6 F6 N6 R6
      k_steps
      refine hQ _ _ _ _ ?_ F6 N6 ?_ rfl
      · exact Kp.set (Kp.refl _) (by decide)
      · rw [pushP, if_neg hT]
        exact R6)
end
end
section
theorem freshE3 : True := by
  w_top off
  trivial
section
variable {w : World} {s : Shared} {L fa : Addr} {cd : Value} {h₀ : Heap} {m mg mb : Str → Option Value} {p : Program} {loose : List Str} {mean : ExcName → Option Value} {E : Value → Shared → Prop} {Q : Flow → Shared → Prop}
variable {c : CA} {v : SV} {ws : List Int} {md : List (Int × Int)} {ps : List (List (Int × Int))} {ns : List Int}
set_option maxHeartbeats 4000000 in
theorem push_B {k : Int} {tk : Tok} {last : List (Int × Int)} (X : (hd.heap_39 w.params).In h₀) (B : Below callerA h₀ [] h₀) (T : Top p loose mean mg mb h₀) (F : Fr h₀ L s.heap m) (N : News h₀ L s.heap (Led L c v)) (R : Rep w L c v ws md ps ns)
    (hrow : m (Str.ofString "row") = some (.ref c.r.R)) (htree : m (Str.ofString "tree") = some (.ref c.ta.T)) (hkinds : m (Str.ofString "kinds") = some (.ref c.ka)) (hmade : m (Str.ofString "made") = some (.ref c.mL))
    (hW : v.oW.data = .cell (some (.int k tk))) (hk0 : 0 ≤ k) (hk1 : k < 12) (hl : ns.length ≤ 900) (hw : ws.length ≤ 800) (hml : md.length ≤ 900) (hin : ∀ y ∈ ns, y = -1 ∨ (0 ≤ y ∧ y ≤ ws.length)) (hpl : ps.length ≤ 900) (hlast : ps.getLast? = some last) (hll : last.length ≤ 800) (hlk : ∀ e ∈ last, 0 ≤ e.2 ∧ e.2 < 12)
    (hQ : ∀ h' tk v' m', Kp m m' → Fr h₀ L h' m' → News h₀ L h' (Led L c v') → Rep w L c v' (ws ++ [k]) (md ++ [(((ws.length + 1 : Nat) : Int), k)]) (ps.set (ps.length - 1) (pushP ((ws.length + 1 : Nat) : Int) k last)) (pushR (ws ++ [k]) ((ws.length + 1 : Nat) : Int) ns) → v'.own = v.own → Q .next { s with heap := h', toks := tk }) :
    wpAny (model PySem.Challenge.rw_nt0595_01.row.prog w) (callerA.deeper (lawEnv L fa cd)) (execs pushL (lawEnv L fa cd)) Q E s := by
  revert X
  k_fill
  intro X
  have hh : callerA.handled = none := rfl
  unfold lawEnv
  conv => pattern (occs := *) lawScope; all_goals whnf
  conv => pattern (occs := *) pushL; all_goals whnf
  have N1 := led_x N
  obtain ⟨msub, mT, mdT, mR, mdR, mka, mys, mba, mI, mM, mP⟩ := R.mems
  obtain ⟨ka, kb, t1, t2, n1, kps, n2, hkv, hma, hmb, hkd, hkl⟩ := kind_at R.hks hk0 hk1
  have hma' := msub _ hma
  have hmb' := msub _ hmb
  clear N
  k_steps
  refine op_element (k := k) (lawCx X B T (by assumption) (led_y (by assumption))) R (by omega) hk0 hk1 hmb hkd ?_
  intro h1 tk1 v1 ti F1 N1 R1 sub1 eN1 eO1 eW1 em1 ep1 eL1 eo1
  have N2 := led_x N1
  obtain ⟨msub, mT, mdT, mR, mdR, mka, mys, mba, mI, mM, mP⟩ := R1.mems
  have hW1 : v1.oW.data = .cell (some (.int k tk)) := by rw [eW1]; exact hW
  clear N1
  k_steps
  (rename _ ∧ _ ∧ _ ∧ _ ∧ _ ∧ AllLt _ _ => q3)
  (rename News _ _ _ _ => N3)
  obtain ⟨N4, R4⟩ := grow2 R1 N3 (led_lt q3)
  refine op_made (e := (((ws.length + 1 : Nat) : Int), k)) (by assumption) N4 R4 (.tuple (List.mem_cons_self) (.cons (.int _ _) (.cons (.int _ _) .nil))) hml ?_
  intro h5 vs5 n5 F5 N5 R5
  have N6 := led_x N5
  obtain ⟨msub, mT, mdT, mR, mdR, mka, mys, mba, mI, mM, mP⟩ := R5.mems
  clear N3 N4 N5
  k_steps
  have hlw : (ws ++ [k]).length = ws.length + 1 := by simp
  refine op_push (lawCx X B T (by assumption) (led_y (by assumption))) R5 hl (by omega) (by omega) (by omega) (fun y hy => by have := hin y hy; omega) ?_
  intro h7 tk7 vs7 n7 F7 N7 R7
  dsimp only
  refine push2_B (k := k) (n := ((ws.length + 1 : Nat) : Int)) (last := last) (by assumption) B T F7 N7 R7 rfl hW1 hk0 hk1 hpl hlast hll hlk ?_
  intro h9 tk9 v9 m9 K9 F9 N9 R9 o9
  exact hQ h9 tk9 v9 m9 (Kp.trans (Kp.set (Kp.refl _) (by decide)) K9) F9 N9 R9 (o9.trans eo1)
end
end
section
theorem freshE5 : True := by
  w_top off
  trivial
section
variable {w : World} {s : Shared} {L fa : Addr} {cd : Value} {h₀ : Heap} {m mg mb : Str → Option Value} {p : Program} {loose : List Str} {mean : ExcName → Option Value} {E : Value → Shared → Prop} {Q : Flow → Shared → Prop}
variable {c : CA} {v : SV} {ws : List Int} {md : List (Int × Int)} {ps : List (List (Int × Int))} {ns : List Int}
set_option maxHeartbeats 4000000 in
theorem old_B {restL : List Stmt} {pk : Int} {tp : Tok} (X : (hd.heap_39 w.params).In h₀) (B : Below callerA h₀ [] h₀) (T : Top p loose mean mg mb h₀) (F : Fr h₀ L s.heap m) (N : News h₀ L s.heap (Led L c v)) (R : Rep w L c v ws md ps ns)
    (hmade : m (Str.ofString "made") = some (.ref c.mL)) (hpick : m (Str.ofString "pick") = some (.int pk tp)) (hm0 : 0 < md.length) (hml : md.length ≤ 900) (hpl : ps.length ≤ 900)
    (hQ : ∀ h' tk v' m' D svs n ot n1 w1 t1 t2 j, Kp m m' → m' (Str.ofString "seat") = some (.ref D) → m' (Str.ofString "pick") = m (Str.ofString "pick") → Fr h₀ L h' m' → News h₀ L h' (Led L c v') → Rep w L c v' ws md ps ns → v'.own = v.own → v'.oW = v.oW → v'.oO.data = .cell (some (.ref ot)) → md.getD (pk.fmod md.length).toNat (0, 0) = (n1, w1) → (ot, tupO [.int n1 t1, .int w1 t2] j) ∈ v'.cst → DatIn v'.cst (.ref ot) (entD (md.getD (pk.fmod md.length).toNat (0, 0))) →
      (D, PySem.W.listOf (List.toArray svs) n) ∈ v'.cst → IntsAre svs (seatsOf (md.getD (pk.fmod md.length).toNat (0, 0)) ps ps.length) → wpAny (model PySem.Challenge.rw_nt0595_01.row.prog w) (callerA.deeper (lawEnv L fa cd)) (execs restL (lawEnv L fa cd)) Q E { s with heap := h', toks := tk }) :
    wpAny (model PySem.Challenge.rw_nt0595_01.row.prog w) (callerA.deeper (lawEnv L fa cd)) (execs (nth elseL 0 :: nth elseL 1 :: restL) (lawEnv L fa cd)) Q E s := by
  revert X
  k_fill
  intro X
  have hh : callerA.handled = none := rfl
  unfold lawEnv
  conv => pattern (occs := *) lawScope; all_goals whnf
  conv => pattern (occs := *) nth elseL 0; all_goals whnf
  conv => pattern (occs := *) nth elseL 1; all_goals whnf
  have N1 := led_x N
  obtain ⟨msub, mT, mdT, mR, mdR, mka, mys, mba, mI, mM, mP⟩ := R.mems
  have hlen := R.hmd.length
  rw [List.length_map] at hlen
  obtain ⟨hj0, hj1⟩ := fmod_bd (a := pk) (b := (md.length : Int)) (by omega)
  obtain ⟨ot, n1, w1, t1, t2, j, hov, hoe, hom, hod⟩ := made_at R.hmd hj0 hj1
  have hom' := msub _ hom
  obtain ⟨x0, dO⟩ := R.dO
  have dP := R.dP
  have hpl2 : (pvsOf v.prs).length = ps.length := by
    have := R.hps.length
    simpa [pvsOf] using this
  obtain ⟨c1, c2, c3, c4, c5⟩ := R.offc
  clear N
  k_steps
  (rename Fr _ _ _ _ => F')
  (rename Obj.data _ = Data.cell (some (Value.ref ot)) => d2)
  refine' LCt.Assign_ListComp_T F' ?a ?b ?c ?d ?e ?f ?g ?h ?i ?_
  (case a => exact rfl)
  (case b => exact rfl)
  (case c => exact rfl)
  (case d => decide)
  (case e => exact rfl)
  (case f => decide)
  (case g => exact rfl)
  (case h => exact rfl)
  (case i => exact rfl)
  k_steps
  refine' lcT_range (n := ps.length) (fun i ys => IntsAre ys (seatsOf (md.getD (pk.fmod md.length).toNat (0, 0)) ps i)) ?hh ?F ?N ?hr ?hsm ?hn ?z .nil ?step ?fin
  (case hh => exact rfl)
  (case F => k_asm)
  (case N => k_asm)
  (case hr => assumption)
  (case hsm => exact small_up (by omega) (by omega))
  (case hn => (rw [rangeSize_one]; split <;> omega))
  (case z => omega)
  (case step =>
    intro i ys v' I oI C oC D m₂ h tk' E' hi hJ hP hC hx F₁ N₁ o3 ne
    obtain ⟨tv, rfl⟩ := hP
    obtain ⟨pp, hq1, hqd, hqv, hqm⟩ := R.atPart (i := i) (es := ps.getD i []) (by rw [List.getD_eq_getElem?_getD, List.getElem?_eq_getElem hi]; rfl)
    have hqv' : (pvsOf v.prs)[(0 + (i : Int)).toNat]? = some (.ref pp.1) := by
      rw [show (0 + (i : Int)).toNat = i by omega]; exact hqv
    k_steps
    · refine LCg.CompEnd.intro (by assumption) (by assumption) _ (by k_sub) o3 trivial ⟨rfl, ?_⟩
      rename _ ∈ ps.getD i [] => hb
      rw [seats_succ, if_pos hb]
      have e0 : (0 : Int) + (i : Int) = (i : Int) := by omega
      rw [e0]
      exact hJ.append (.cons _ _ .nil)
    · refine LCg.CompEnd.intro (by assumption) (by assumption) _ (by k_sub) o3 trivial ⟨rfl, ?_⟩
      rename ¬ (_ ∈ ps.getD i []) => hb
      rw [seats_succ, if_neg hb, List.append_nil]
      exact hJ)
  (case fin =>
    intro g ys hJ D h tk' F₁ N₁ o1
    dsimp only
    have R2 := R.setO d2
    obtain ⟨N3, R3⟩ := grow3 R2 N₁ o1
    refine hQ h tk' _ _ D ys _ ot n1 w1 t1 t2 j (Kp.set (Kp.refl _) (by decide)) rfl rfl F₁ N3 R3 rfl rfl d2 hoe (List.mem_cons_of_mem _ hom) (DatIn.mono (fun _ hp => List.mem_cons_of_mem _ hp) hod) (List.mem_cons_self) hJ)
end
end
section
theorem freshE6 : True := by
  w_top off
  trivial
section
variable {w : World} {s : Shared} {L fa : Addr} {cd : Value} {h₀ : Heap} {m mg mb : Str → Option Value} {p : Program} {loose : List Str} {mean : ExcName → Option Value} {E : Value → Shared → Prop} {Q : Flow → Shared → Prop}
variable {c : CA} {v : SV} {ws : List Int} {md : List (Int × Int)} {ps : List (List (Int × Int))} {ns : List Int}
set_option maxHeartbeats 4000000 in
theorem remove_B {ot D : Addr} {n1 w1 : Int} {t1 t2 : Tok} {j n : Nat} {svs : List Value} {ss : List Int} (X : (hd.heap_39 w.params).In h₀) (B : Below callerA h₀ [] h₀) (T : Top p loose mean mg mb h₀) (F : Fr h₀ L s.heap m) (N : News h₀ L s.heap (Led L c v)) (R : Rep w L c v ws md ps ns)
    (hrow : m (Str.ofString "row") = some (.ref c.r.R)) (hseat : m (Str.ofString "seat") = some (.ref D)) (hO : v.oO.data = .cell (some (.ref ot))) (hom : (ot, tupO [.int n1 t1, .int w1 t2] j) ∈ v.cst) (hod : DatIn v.cst (.ref ot) (entD (n1, w1))) (hD : (D, PySem.W.listOf (List.toArray svs) n) ∈ v.cst) (hsv : IntsAre svs ss)
    (hl : ns.length ≤ 900) (hpl : ps.length ≤ 900) (hsl : ss.length ≤ 900) (hse : ∀ i ∈ ss, 0 ≤ i ∧ i < ps.length ∧ (n1, w1) ∈ ps.getD i.toNat []) (hpe : ∀ es ∈ ps, es.length ≤ 900)
    (hQ : ∀ h' tk v', Fr h₀ L h' m → News h₀ L h' (Led L c v') → Rep w L c v' ws md (remP (n1, w1) ps ss) (ns.erase n1) → v'.own = v.own → Q .next { s with heap := h', toks := tk }) :
    wpAny (model PySem.Challenge.rw_nt0595_01.row.prog w) (callerA.deeper (lawEnv L fa cd)) (execs removeL (lawEnv L fa cd)) Q E s := by
  revert X
  k_fill
  intro X
  have hh : callerA.handled = none := rfl
  unfold lawEnv
  conv => pattern (occs := *) lawScope; all_goals whnf
  conv => pattern (occs := *) removeL; all_goals whnf
  have N1 := led_x N
  obtain ⟨msub, mT, mdT, mR, mdR, mka, mys, mba, mI, mM, mP⟩ := R.mems
  have hom' := msub _ hom
  clear N
  k_steps
  refine op_remove (lawCx X B T (by assumption) (led_y (by assumption))) R hl ?_
  intro h2 tk2 vs2 i2 F2 N2 R2
  have N3 := led_x N2
  clear mP mI mM
  obtain ⟨msub2, mT2, mdT2, mR2, mdR2, mka2, mys2, mba2, mI2, mM2, mP2⟩ := R2.mems
  have hD' := msub2 _ hD
  have dP2 := R2.dP
  clear N1 N2 F
  rcases ss with _ | ⟨i, r⟩
  · cases hsv
    have e0 : ([] : List Value).length = 0 := rfl
    k_steps
    exact hQ _ _ _ F2 N3 R2 rfl
  · obtain ⟨ti, vsr, rfl, hr⟩ : ∃ ti vsr, svs = .int i ti :: vsr ∧ IntsAre vsr r := by
      cases hsv
      exact ⟨_, _, rfl, by assumption⟩
    obtain ⟨hi0, hi1, hie⟩ := hse i (List.mem_cons_self)
    have hsl2 := (IntsAre.cons i ti hr).length
    have hpos : 0 < (i :: r).length := Nat.succ_pos _
    have hs0 : (Value.int i ti :: vsr)[Int.toNat 0]? = some (.int i ti) := rfl
    obtain ⟨pp, hq1, hqd, hqv, hqm⟩ := R2.atPart (i := i.toNat) (es := ps.getD i.toNat []) (by rw [List.getD_eq_getElem?_getD, List.getElem?_eq_getElem (by omega)]; rfl)
    have hpe2 : (ps.getD i.toNat []).length ≤ 900 := hpe _ (by
      rw [List.getD_eq_getElem?_getD, List.getElem?_eq_getElem (by omega)]
      exact List.getElem_mem _)
    k_steps
    refine op_partRemove (by assumption) (led_y (by assumption)) R2 hq1 (by rw [List.getD_eq_getElem?_getD, List.getElem?_eq_getElem (by omega)]; rfl) hod (by omega) hie (by ke_room) ?_
    intro h5 evs5 n5 F5 N5 R5
    k_steps
    exact hQ _ _ _ F5 N5 R5 rfl
end
end
section
theorem freshE7 : True := by
  w_top off
  trivial
section
variable {w : World} {s : Shared} {L fa : Addr} {cd : Value} {h₀ : Heap} {m mg mb : Str → Option Value} {p : Program} {loose : List Str} {mean : ExcName → Option Value} {E : Value → Shared → Prop} {Q : Flow → Shared → Prop}
variable {c : CA} {v : SV} {ws : List Int} {md : List (Int × Int)} {ps : List (List (Int × Int))} {ns : List Int}
set_option maxHeartbeats 4000000 in
theorem new_B {restL : List Stmt} {ot : Addr} {n1 w1 : Int} {t1 t2 : Tok} {j : Nat} (X : (hd.heap_39 w.params).In h₀) (B : Below callerA h₀ [] h₀) (T : Top p loose mean mg mb h₀) (F : Fr h₀ L s.heap m) (N : News h₀ L s.heap (Led L c v)) (R : Rep w L c v ws md ps ns)
    (htree : m (Str.ofString "tree") = some (.ref c.ta.T)) (hkinds : m (Str.ofString "kinds") = some (.ref c.ka)) (hmade : m (Str.ofString "made") = some (.ref c.mL)) (hO : v.oO.data = .cell (some (.ref ot))) (hom : (ot, tupO [.int n1 t1, .int w1 t2] j) ∈ v.cst) (hw0 : 0 ≤ w1) (hw1 : w1 < 12)
    (hw : ws.length ≤ 800) (hml : md.length ≤ 900)
    (hQ : ∀ h' tk v' m' nt t3 t4 j2, (∀ z, z ≠ Str.ofString "kind" → m' z = m z) → Fr h₀ L h' m' → News h₀ L h' (Led L c v') → Rep w L c v' (ws ++ [w1]) (md ++ [(((ws.length + 1 : Nat) : Int), w1)]) ps ns → v'.own = v.own → v'.oO = v.oO → v'.oW = v.oW → v'.oN.data = .cell (some (.ref nt)) → (nt, tupO [.int ((ws.length + 1 : Nat) : Int) t3, .int w1 t4] j2) ∈ v'.cst → (∀ q ∈ v.cst, q ∈ v'.cst) →
      wpAny (model PySem.Challenge.rw_nt0595_01.row.prog w) (callerA.deeper (lawEnv L fa cd)) (execs restL (lawEnv L fa cd)) Q E { s with heap := h', toks := tk }) :
    wpAny (model PySem.Challenge.rw_nt0595_01.row.prog w) (callerA.deeper (lawEnv L fa cd)) (execs (nth moveL 0 :: nth moveL 1 :: nth moveL 2 :: restL) (lawEnv L fa cd)) Q E s := by
  revert X
  k_fill
  intro X
  have hh : callerA.handled = none := rfl
  unfold lawEnv
  conv => pattern (occs := *) lawScope; all_goals whnf
  conv => pattern (occs := *) nth moveL 0; all_goals whnf
  conv => pattern (occs := *) nth moveL 1; all_goals whnf
  conv => pattern (occs := *) nth moveL 2; all_goals whnf
  have N1 := led_x N
  obtain ⟨msub, mT, mdT, mR, mdR, mka, mys, mba, mI, mM, mP⟩ := R.mems
  obtain ⟨ka, kb, t5, t6, n5, kps, n6, hkv, hma, hmb, hkd, hkl⟩ := kind_at R.hks hw0 hw1
  have hma' := msub _ hma
  have hmb' := msub _ hmb
  have hom' := msub _ hom
  clear N
  k_steps
  refine op_element (k := w1) (lawCx X B T (by assumption) (led_y (by assumption))) R (by omega) hw0 hw1 hmb hkd ?_
  intro h1 tk1 v1 ti F1 N1 R1 sub1 eN1 eO1 eW1 em1 ep1 eL1 eo1
  have N2 := led_x N1
  clear mP mI mM
  obtain ⟨msub, mT, mdT, mR, mdR, mka, mys, mba, mI, mM, mP⟩ := R1.mems
  have hO1 : v1.oO.data = .cell (some (.ref ot)) := by rw [eO1]; exact hO
  have hom1 := msub _ (sub1 _ hom)
  obtain ⟨x0, dN⟩ := R1.dN
  obtain ⟨c1, c2, c3, c4, c5⟩ := R1.offc
  clear N1
  k_steps
  (rename _ ∧ _ ∧ _ ∧ _ ∧ _ ∧ AllLt _ _ => q4)
  (rename News _ _ _ _ => N4)
  (rename Obj.data _ = Data.cell (some (Value.ref _)) => d2)
  obtain ⟨N5, R5⟩ := grow2 (R1.setN d2) N4 (led_lt q4)
  refine op_made (e := (((ws.length + 1 : Nat) : Int), w1)) (by assumption) N5 R5 (.tuple (List.mem_cons_self) (.cons (.int _ _) (.cons (.int _ _) .nil))) hml ?_
  intro h6 vs6 n6 F6 N6 R6
  dsimp only
  exact hQ _ _ _ _ _ _ _ _ (fun z hz => if_neg hz) F6 N6 R6 eo1 eO1 eW1 d2 (List.mem_cons_self) (fun q hq => List.mem_cons_of_mem _ (sub1 q hq))
end
end
section
theorem freshE8 : True := by
  w_top off
  trivial
section
variable {w : World} {s : Shared} {L fa : Addr} {cd : Value} {h₀ : Heap} {m mg mb : Str → Option Value} {p : Program} {loose : List Str} {mean : ExcName → Option Value} {E : Value → Shared → Prop} {Q : Flow → Shared → Prop}
variable {c : CA} {v : SV} {ws : List Int} {md : List (Int × Int)} {ps : List (List (Int × Int))} {ns : List Int}
set_option maxHeartbeats 4000000 in
theorem put_B {ot nt D : Addr} {n1 w1 n2 w2 i pk : Int} {t1 t2 t3 t4 tp : Tok} {j j2 n : Nat} {svs : List Value} {r : List Int} {es : List (Int × Int)} (X : (hd.heap_39 w.params).In h₀) (B : Below callerA h₀ [] h₀) (T : Top p loose mean mg mb h₀) (F : Fr h₀ L s.heap m) (N : News h₀ L s.heap (Led L c v)) (R : Rep w L c v ws md ps ns)
    (hrow : m (Str.ofString "row") = some (.ref c.r.R)) (hpick : m (Str.ofString "pick") = some (.int pk tp)) (hseat : m (Str.ofString "seat") = some (.ref D)) (hO : v.oO.data = .cell (some (.ref ot))) (hom : (ot, tupO [.int n1 t1, .int w1 t2] j) ∈ v.cst) (hD : (D, PySem.W.listOf (List.toArray svs) n) ∈ v.cst) (hsv : IntsAre svs (i :: r))
    (hN : v.oN.data = .cell (some (.ref nt))) (hnm : (nt, tupO [.int n2 t3, .int w2 t4] j2) ∈ v.cst)
    (hl : ns.length ≤ 900) (hpl : ps.length ≤ 900) (hi0 : 0 ≤ i) (hes : ps[i.toNat]? = some es) (hie : (n1, w1) ∈ es) (hpe : ∀ es ∈ ps, es.length ≤ 900)
    (hk0 : 0 ≤ offR (putP ps i es (n1, w1) (n2, w2) pk) i + atR pk (es.erase (n1, w1))) (hk1 : offR (putP ps i es (n1, w1) (n2, w2) pk) i + atR pk (es.erase (n1, w1)) ≤ (ns.erase n1).length)
    (hQ : ∀ h' tk v' m', Kp m m' → Fr h₀ L h' m' → News h₀ L h' (Led L c v') → Rep w L c v' ws md (putP ps i es (n1, w1) (n2, w2) pk) (insR (ns.erase n1) (offR (putP ps i es (n1, w1) (n2, w2) pk) i + atR pk (es.erase (n1, w1))) n2) → v'.own = v.own → Q .next { s with heap := h', toks := tk }) :
    wpAny (model PySem.Challenge.rw_nt0595_01.row.prog w) (callerA.deeper (lawEnv L fa cd)) (execs putS (lawEnv L fa cd)) Q E s := by
  revert X
  k_fill
  intro X
  have hh : callerA.handled = none := rfl
  unfold lawEnv putS
  conv => pattern (occs := *) lawScope; all_goals whnf
  conv => pattern (occs := *) nth putL 0; all_goals whnf
  conv => pattern (occs := *) nth putL 1; all_goals whnf
  conv => pattern (occs := *) nth putL 2; all_goals whnf
  conv => pattern (occs := *) nth putL 3; all_goals whnf
  conv => pattern (occs := *) nth putL 4; all_goals whnf
  conv => pattern (occs := *) nth putL 5; all_goals whnf
  obtain ⟨ti, vsr, rfl, hr⟩ : ∃ ti vsr, svs = .int i ti :: vsr ∧ IntsAre vsr r := by
    cases hsv
    exact ⟨_, _, rfl, by assumption⟩
  have hs0 : (Value.int i ti :: vsr)[Int.toNat 0]? = some (.int i ti) := rfl
  have N1 := led_x N
  obtain ⟨msub, mT, mdT, mR, mdR, mka, mys, mba, mI, mM, mP⟩ := R.mems
  obtain ⟨pp, hq1, hqd, hqv, hqm⟩ := R.atPart hes
  have hom' := msub _ hom
  have hnm' := msub _ hnm
  have hD' := msub _ hD
  have dP := R.dP
  have hilt : i.toNat < ps.length := (List.getElem?_eq_some_iff.mp hes).1
  have hel : es.length ≤ 900 := hpe _ (List.mem_of_getElem? hes)
  have hod : DatIn v.cst (.ref ot) (entD (n1, w1)) := .tuple hom (.cons (.int _ _) (.cons (.int _ _) .nil))
  have hnd : DatIn v.cst (.ref nt) (entD (n2, w2)) := .tuple hnm (.cons (.int _ _) (.cons (.int _ _) .nil))
  clear N
  k_steps
  refine op_partRemove (by assumption) (led_y (by assumption)) R hq1 hes hod hel hie (by ke_room) ?_
  intro h2 evs2 k2 F2 N2 R2
  have N3 := led_x N2
  have hlt2 : i.toNat < v.prs.length := (List.getElem?_eq_some_iff.mp hq1).1
  have hp2 : (v.prs.set i.toNat (pp.1, evs2, k2))[i.toNat]? = some (pp.1, evs2, k2) := List.getElem?_set_self hlt2
  have he2 : (ps.set i.toNat (es.erase (n1, w1)))[i.toNat]? = some (es.erase (n1, w1)) := List.getElem?_set_self hilt
  obtain ⟨hd2, hv2, hm2, hl2⟩ := R2.atThis he2 hp2
  have hee := List.length_erase_le (a := (n1, w1)) (l := es)
  clear mP mI mM mT mdT mka mys mba N2
  obtain ⟨msub, mT, mdT, mR, mdR, mka, mys, mba, mI, mM, mP⟩ := R2.mems
  k_steps
  obtain ⟨ha0, ha1⟩ := fmod_bd (a := pk.fdiv 7) (b := ((es.erase (n1, w1)).length : Int) + 1) (by omega)
  have e9 : ∀ X Y : List (Int × Int), (ps.set i.toNat X).set i.toNat Y = ps.set i.toNat Y := fun X Y => List.set_set ..
  refine op_partInsert (p := (pp.1, evs2, k2)) (by assumption) (led_y (by assumption)) R2 hp2 he2 hnd (by omega) ha0 (by omega) ?_
  intro h4 evs4 k4 F4 N4 R4
  rw [e9] at R4
  have N5 := led_x N4
  clear mP mI mM mT mdT mR mdR mka mys mba N4
  obtain ⟨msub, mT, mdT, mR, mdR, mka, mys, mba, mI, mM, mP⟩ := R4.mems
  have hom4 := msub _ hom
  have hnm4 := msub _ hnm
  have hD4 := msub _ hD
  k_steps
  refine op_remove (lawCx X B T (by assumption) (led_y (by assumption))) R4 hl ?_
  intro h6 tk6 vs6 i6 F6 N6 R6
  have N7 := led_x N6
  clear mP mI mM mT mdT mR mdR mka mys mba hom4 hnm4 hD4 N6
  obtain ⟨msub, mT, mdT, mR, mdR, mka, mys, mba, mI, mM, mP⟩ := R6.mems
  have hom4 := msub _ hom
  have hnm4 := msub _ hnm
  have hD4 := msub _ hD
  have dP6 := R6.dP
  have hpl6 : (pvsOf ((v.prs.set i.toNat (pp.1, evs2, k2)).set i.toNat (pp.1, evs4, k4))).length = ps.length := by
    have := R6.hps.length
    rw [List.length_set] at this
    simpa [pvsOf] using this
  k_steps
  have hpe6 : ∀ e ∈ ps.set i.toNat ((es.erase (n1, w1)).take ((pk.fdiv 7).fmod (((es.erase (n1, w1)).length : Int) + 1)).toNat ++ (n2, w2) :: (es.erase (n1, w1)).drop ((pk.fdiv 7).fmod (((es.erase (n1, w1)).length : Int) + 1)).toNat), e.length ≤ 901 := by
    intro e he
    rcases List.mem_or_eq_of_mem_set he with h | h
    · have := hpe e h; omega
    · subst h
      simp only [List.length_append, List.length_cons, List.length_take, List.length_drop]
      omega
  generalize hes4 : (es.erase (n1, w1)).take ((pk.fdiv 7).fmod (((es.erase (n1, w1)).length : Int) + 1)).toNat ++ (n2, w2) :: (es.erase (n1, w1)).drop ((pk.fdiv 7).fmod (((es.erase (n1, w1)).length : Int) + 1)).toNat = es4 at R6 hpe6
  have hps4 : (ps.set i.toNat es4).length = ps.length := List.length_set ..
  have hpp : putP ps i es (n1, w1) (n2, w2) pk = ps.set i.toNat es4 := by rw [← hes4]; rfl
  rw [hpp] at hk0 hk1 hQ
  generalize hps4e : ps.set i.toNat es4 = ps4 at R6 hpe6 hps4 hk0 hk1 hQ
  (rename Fr _ _ _ _ => F')
  refine' LCg.ListComp_U F' ?a ?b ?c ?d ?e ?_
  (case a => exact rfl)
  (case b => decide)
  (case c => exact rfl)
  (case d => decide)
  (case e => exact rfl)
  k_steps
  refine' lcU_list (fun k ys => IntsAre ys ((ps4.take k).map fun e => (e.length : Int) + 1)) ?hh ?F ?N ?m ?z .nil ?step ?fin
  (case hh => exact rfl)
  (case F => k_asm)
  (case N => k_asm)
  (case m => k_mem)
  (case z => (simp only [List.size_toArray, List.length_take]; omega))
  (case step =>
    intro k ys v' I oI C oC D m₂ h tk' E' hi hJ hP hC hx F₁ N₁ o3 ne
    have hk : k < i.toNat ∧ k < ps4.length := by
      have hi' := hi
      simp only [List.size_toArray, List.length_take] at hi'
      omega
    obtain ⟨pk', hq1, hqd, hqv, hqm⟩ := R6.atPart (i := k) (es := ps4.getD k []) (by rw [List.getD_eq_getElem?_getD, List.getElem?_eq_getElem hk.2]; rfl)
    have hv' : v' = .ref pk'.1 := by
      have hP' := hP
      simp only [List.getElem?_toArray] at hP'
      rw [List.getElem?_take_of_lt hk.1] at hP'
      exact Option.some.inj (hP'.symm.trans hqv)
    subst hv'
    have hlk := hqd.length
    rw [List.length_map] at hlk
    have hle : (ps4.getD k []).length ≤ 901 := hpe6 _ (by
      rw [List.getD_eq_getElem?_getD, List.getElem?_eq_getElem hk.2]
      exact List.getElem_mem _)
    have htk : ps4.take (k + 1) = ps4.take k ++ [ps4.getD k []] := by
      rw [List.take_add_one, List.getD_eq_getElem?_getD, List.getElem?_eq_getElem hk.2]; rfl
    k_steps
    refine LCg.CompEnd.intro (by assumption) (by assumption) _ (by k_sub) o3 (.inr ⟨_, by k_mem, rfl, _, rfl⟩) ⟨rfl, ?_⟩
    rw [htk, List.map_append]
    exact hJ.append (.cons _ _ .nil))
  (case fin =>
    intro g ys hJ D h tk' F₁ N₁ o1
    dsimp only
    rw [show ((ps4.take ((pvsOf ((v.prs.set i.toNat (pp.1, evs2, k2)).set i.toNat (pp.1, evs4, k4))).take i.toNat).toArray.size)) = ps4.take i.toNat from by
      rw [List.size_toArray, List.length_take, hpl6, ← hps4]
      rw [Nat.min_comm, ← List.take_take]
      rw [List.take_of_length_le (by rw [List.length_take]; omega)]] at hJ
    k_steps
    refine op_put (lawCx X B T (by assumption) (led_y (newsSub (by assumption) ?hsub))) R6 (by have := List.length_erase_le (a := n1) (l := ns); omega) hk0 hk1 ?_
    (case hsub => exact fun q hq => by k_mem)
    intro h9 tk9 vs9 i9 F9 N9 R9
    k_steps
    exact hQ _ _ _ _ (Kp.set (Kp.set (Kp.refl _) (by decide)) (by decide)) F9 N9 R9 rfl)
end
end
section
theorem freshE9 : True := by
  w_top off
  trivial
section
variable {w : World} {s : Shared} {L fa : Addr} {cd : Value} {h₀ : Heap} {m mg mb : Str → Option Value} {p : Program} {loose : List Str} {mean : ExcName → Option Value} {E : Value → Shared → Prop} {Q : Flow → Shared → Prop}
variable {c : CA} {v : SV} {ws : List Int} {md : List (Int × Int)} {ps : List (List (Int × Int))} {ns : List Int}
set_option maxHeartbeats 4000000 in
theorem replace_B {ot nt : Addr} {n1 w1 n2 w2 : Int} {t1 t2 t3 t4 : Tok} {j j2 : Nat} (X : (hd.heap_39 w.params).In h₀) (B : Below callerA h₀ [] h₀) (T : Top p loose mean mg mb h₀) (F : Fr h₀ L s.heap m) (N : News h₀ L s.heap (Led L c v)) (R : Rep w L c v ws md ps ns)
    (hrow : m (Str.ofString "row") = some (.ref c.r.R)) (hO : v.oO.data = .cell (some (.ref ot))) (hom : (ot, tupO [.int n1 t1, .int w1 t2] j) ∈ v.cst)
    (hN : v.oN.data = .cell (some (.ref nt))) (hnm : (nt, tupO [.int n2 t3, .int w2 t4] j2) ∈ v.cst)
    (hl : ns.length ≤ 900) (hpl : ps.length ≤ 900) (hpe : ∀ es ∈ ps, es.length ≤ 900)
    (hQ : ∀ h' tk v', Fr h₀ L h' m → News h₀ L h' (Led L c v') → Rep w L c v' ws md (ps.map fun es => es.map (swE (n1, w1) (n2, w2))) (if n1 ∈ ns then ns.set (ns.idxOf n1) n2 else ns) → v'.own = v.own → Q .next { s with heap := h', toks := tk }) :
    wpAny (model PySem.Challenge.rw_nt0595_01.row.prog w) (callerA.deeper (lawEnv L fa cd)) (execs replaceL (lawEnv L fa cd)) Q E s := by
  revert X
  k_fill
  intro X
  have hh : callerA.handled = none := rfl
  unfold lawEnv
  conv => pattern (occs := *) lawScope; all_goals whnf
  conv => pattern (occs := *) replaceL; all_goals whnf
  have N1 := led_x N
  obtain ⟨msub, mT, mdT, mR, mdR, mka, mys, mba, mI, mM, mP⟩ := R.mems
  have hom' := msub _ hom
  have hnm' := msub _ hnm
  clear N
  k_steps
  refine op_replace (lawCx X B T (by assumption) (led_y (by assumption))) R hl ?_
  intro h2 tk2 vs2 i2 F2 N2 R2
  have N3 := led_x N2
  clear mP mI mM mT mdT mR mdR mka mys mba hom' hnm' N2
  obtain ⟨msub, mT, mdT, mR, mdR, mka, mys, mba, mI, mM, mP⟩ := R2.mems
  have hod : DatIn v.cst (.ref ot) (entD (n1, w1)) := .tuple hom (.cons (.int _ _) (.cons (.int _ _) .nil))
  have hnde : DatIn v.cst (.ref nt) (entD (n2, w2)) := .tuple hnm (.cons (.int _ _) (.cons (.int _ _) .nil))
  have dP2 := R2.dP
  have hpl2 : (pvsOf v.prs).length = ps.length := by
    have := R2.hps.length
    simpa [pvsOf] using this
  obtain ⟨c1, c2, c3, c4, c5⟩ := R2.offc
  clear N1 F
  k_steps
  refine wpAny_Assign_Name ?_ rfl
  (rename Fr _ _ _ _ => F')
  refine' LCg.ListComp_U F' ?a ?b ?c ?d ?e ?_
  (case a => exact rfl)
  (case b => decide)
  (case c => exact rfl)
  (case d => decide)
  (case e => exact rfl)
  k_steps
  refine' LCg.CompSrc.ledger ?hh ?F ?N ?m ?z ?kk
  (case hh => exact rfl)
  (case F => k_asm)
  (case N => k_asm)
  (case m => k_mem)
  (case z => (rw [sizeLine_eq, List.size_toArray]; (try dsimp only); omega))
  (case kk =>
    intro g
    refine' lc_restU (n := (pvsOf v.prs).toArray.size) (fun i ys nx => RJ v.cst (Ldx L c { v with ivs := vs2, i0 := i2 }) ((ps.take i).map fun es => es.map (swE (n1, w1) (n2, w2))) ys nx) ?step ?fin _ 0 [] _ (Nat.zero_add _) ⟨[], rfl, rfl, .nil, .nil, fun _ h => nomatch h⟩
    (case step =>
      rintro i ys nx v' I oI C oC D m₂ h tk' E' hi ⟨prs', rfl, rfl, hok, hnd, hfr⟩ hP hC hx F₁ N₁ o3 ne
      have hi' : i < ps.length := by
        have := hi
        simp only [List.size_toArray] at this
        omega
      obtain ⟨pp, hq1, hqd, hqv, hqm⟩ := R2.atPart (i := i) (es := ps.getD i []) (by rw [List.getD_eq_getElem?_getD, List.getElem?_eq_getElem hi']; rfl)
      have hv' : v' = .ref pp.1 := by
        have hP' := hP
        simp only [List.getElem?_toArray] at hP'
        exact Option.some.inj (hP'.symm.trans hqv)
      subst hv'
      have hlk := hqd.length
      rw [List.length_map] at hlk
      have hle : (ps.getD i []).length ≤ 900 := hpe _ (by
        rw [List.getD_eq_getElem?_getD, List.getElem?_eq_getElem hi']
        exact List.getElem_mem _)
      have htk : ps.take (i + 1) = ps.take i ++ [ps.getD i []] := by
        rw [List.take_add_one, List.getD_eq_getElem?_getD, List.getElem?_eq_getElem hi']; rfl
      refine' LCg.ListComp_U F₁ ?a ?b ?c ?d ?e ?_
      (case a => exact rfl)
      (case b => decide)
      (case c => exact rfl)
      (case d => decide)
      (case e => exact rfl)
      k_steps
      refine' lcU_list (fun k zs => DatAll v.cst zs ((((ps.getD i []).take k).map (swE (n1, w1) (n2, w2))).map entD)) ?hh ?F ?N ?m ?z .nil ?step2 ?fin2
      (case hh => exact rfl)
      (case F => k_asm)
      (case N => k_asm)
      (case m => k_mem)
      (case z => (simp only [List.size_toArray]; omega))
      (case step2 =>
        intro k zs v3 I2 oI2 C2 oC2 D2 m3 h3 tk3 E3 hk hJ hP2 hC2 hx2 F3 N4 o4 ne2
        obtain ⟨nd, kk, a, t5, t6, j5, he, rfl, hma⟩ := ent_at hqd (by simpa using hP2)
        have hma' := msub _ hma
        have hde : DatIn v.cst (.ref a) (entD (nd, kk)) := .tuple hma (.cons (.int _ _) (.cons (.int _ _) .nil))
        have htk2 : (ps.getD i []).take (k + 1) = (ps.getD i []).take k ++ [(nd, kk)] := by rw [List.take_add_one, he]; rfl
        rw [htk2, List.map_append, List.map_append]
        k_steps
        · rename (nd, kk) = (n1, w1) => hb
          refine LCg.CompEnd.intro (by assumption) (by assumption) _ (by k_sub) o4 (.inr ⟨_, by k_mem, rfl, _, rfl⟩) ⟨rfl, hJ.append (.one ?_)⟩
          rw [swE, if_pos hb]
          exact hnde
        · rename ¬ ((nd, kk) = (n1, w1)) => hb
          refine LCg.CompEnd.intro (by assumption) (by assumption) _ (by k_sub) o4 (.inr ⟨_, by k_mem, rfl, _, rfl⟩) ⟨rfl, hJ.append (.one ?_)⟩
          rw [swE, if_neg hb]
          exact hde)
      (case fin2 =>
        intro g2 zs hJ2 D2 h3 tk3 F3 N4 o4
        rw [List.take_of_length_le (by rw [List.size_toArray, hlk]; exact Nat.le_refl _)] at hJ2
        dsimp only
        have hR := RJ.snoc hok hnd hfr hJ2 (D2 := D2) o4.2.2.2
        refine LCg.CompEnd.intro F3 N4 (pmOf (prs' ++ [(D2, zs, zs.length)]) ++ Ldx L c { v with ivs := vs2, i0 := i2 }) ?sub ?off ?src ?res
        (case sub =>
          intro q hq
          simp only [List.mem_cons, pm_snoc] at hq ⊢
          rcases hq with h | h | h | h | h
          · exact .inr (.inl h)
          · exact .inr (.inr (.inl h))
          · exact .inr (.inr (.inr (.inl h)))
          · exact .inl h
          · exact .inr (.inr (.inr (.inr h))))
        (case off =>
          refine LCg.Off3.of fun q hq => ?_
          rcases (pm_snoc _ _ _ q).mp hq with rfl | hq
          · exact ⟨Ne.symm o4.1, Ne.symm o4.2.1, Ne.symm o4.2.2.1⟩
          · exact LCg.Off3.mem o3 q hq)
        (case src => exact .inr ⟨_, List.mem_append_right _ (by k_mem), rfl, _, rfl⟩)
        (case res =>
          rw [htk, List.map_append]
          exact hR)))
    (case fin =>
      rintro ys nx ⟨prs', rfl, rfl, hok, hnd, hfr⟩ D h tk' F₁ N₁ o1
      rw [List.take_of_length_le (by rw [List.size_toArray, hpl2]; exact Nat.le_refl _)] at hok
      dsimp only
      have off := off1_mem o1
      have N4 : News h₀ L h ((L + 1 + 1, v.oP) :: ((D, PySem.W.listOf (pvsOf prs').toArray (pvsOf prs').length) :: (pmOf prs' ++ ((L + 1 + 1 + 1 + 1 + 1, v.oN) :: (L + 1 + 1 + 1 + 1, v.oO) :: (L + 1 + 1 + 1, v.oW) :: (L + 1, v.oK) :: rst c { v with ivs := vs2, i0 := i2 })))) := by
        refine newsSub N₁ fun q hq => ?_
        simp only [List.mem_cons, List.mem_append] at hq ⊢
        rcases hq with h | h | h | h | h | h | h | h
        · exact .inr (.inr (.inr (.inr (.inr (.inl h)))))
        · exact .inl h
        · exact .inr (.inl h)
        · exact .inr (.inr (.inl h))
        · exact .inr (.inr (.inr (.inl h)))
        · exact .inr (.inr (.inr (.inr (.inl h))))
        · exact .inr (.inr (.inr (.inr (.inr (.inr (.inl h))))))
        · exact .inr (.inr (.inr (.inr (.inr (.inr (.inr h))))))
      have hfr2 : ∀ a ∈ prs'.map (·.1), ∀ p ∈ Led L c { v with ivs := vs2, i0 := i2 }, p.1 ≠ a := hfr
      refine' storeX_C F₁ N4 ?cc (UpdF.head ?uu) dP2 ?_ ?aa ?bb
      (case aa => rfl)
      (case bb => rfl)
      (case cc => rfl)
      (case uu =>
        intro q hq
        simp only [List.mem_cons, List.mem_append] at hq
        rcases hq with rfl | h | rfl | rfl | rfl | rfl | h
        · exact fun e => off (L + 1 + 1, v.oP) (List.mem_append_right _ (by simp)) e.symm
        · intro e
          have ha : q.1 ∈ prs'.map (·.1) := by
            obtain ⟨q2, hq2, rfl⟩ := List.mem_map.mp h
            exact List.mem_map.mpr ⟨q2, hq2, rfl⟩
          exact hfr _ ha (L + 1 + 1, v.oP) (by simp) e.symm
        · show @Ne Nat _ _; omega
        · show @Ne Nat _ _; omega
        · show @Ne Nat _ _; omega
        · show @Ne Nat _ _; omega
        · exact c4 q h)
      intro h5 o5 F5 N5 d5
      have off2 : ∀ p ∈ Led L c { v with ivs := vs2, i0 := i2 }, p.1 ≠ D := fun p hp => off p (List.mem_append_right _ hp)
      have R5 := R2.newParts (n := (pvsOf prs').length) d5 hok off2 hnd (fun a ha => .inr (hfr2 a ha)) (fun a ha => by
        obtain ⟨o, ho⟩ := pm_addr ha
        exact off _ (List.mem_append_left _ ho))
      have N6 := led_new (v := { v with ivs := vs2, i0 := i2 }) (D := D) (n := (pvsOf prs').length) (vs := pvsOf prs') (prs' := prs') (oP' := o5) N5 (fun q hq => by
        simp only [List.mem_cons, List.mem_append] at hq ⊢
        rcases hq with h | h | h | h | h | h | h
        · exact .inr (.inl h)
        · exact .inr (.inr (.inr (.inl h)))
        · exact .inr (.inr (.inr (.inr (.inl h))))
        · exact .inr (.inr (.inr (.inr (.inr (.inl h)))))
        · exact .inl h
        · exact .inr (.inr (.inr (.inr (.inr (.inr (.inl h))))))
        · exact .inr (.inr (.inr (.inr (.inr (.inr (.inr h))))))) rfl (fun q hq => List.mem_cons_of_mem _ (List.mem_cons_of_mem _ (List.mem_append_left _ hq)))
      k_steps
      exact hQ _ _ _ F5 N6 R5 rfl))
end
end
section
theorem freshE10 : True := by
  w_top off
  trivial
section
variable {w : World} {s : Shared} {L fa : Addr} {cd : Value} {h₀ : Heap} {m mg mb : Str → Option Value} {p : Program} {loose : List Str} {mean : ExcName → Option Value} {E : Value → Shared → Prop} {Q : Flow → Shared → Prop}
variable {c : CA} {v : SV} {ws : List Int} {md : List (Int × Int)} {ps : List (List (Int × Int))} {ns : List Int}
set_option maxHeartbeats 4000000 in
theorem head_B {restL : List Stmt} {l : Addr} {vs : List Value} {is : List Int} {k : Nat} {tk : Tok} (X : (hd.heap_39 w.params).In h₀) (B : Below callerA h₀ [] h₀) (T : Top p loose mean mg mb h₀) (F : Fr h₀ L s.heap m) (N : News h₀ L s.heap (Led L c v)) (R : Rep w L c v ws md ps ns)
    (hl : h₀.IsList l vs.toArray) (hi : IntsAre vs is) (hn : is.length ≤ 63) (hk : k < 29)
    (hmade : m (Str.ofString "made") = some (.ref c.mL)) (hbase : m (Str.ofString "base") = some (.ref c.ba)) (hscr : m (Str.ofString "script") = some (.ref l)) (hmk : m (Str.ofString "k") = some (.int (k : Int) tk)) (hml : md.length ≤ 900)
    (hQ : ∀ h' tk v' m' W tw pk tp, Kp m m' → m' (Str.ofString "pick") = some (.int pk tp) → (0 ≤ W ∧ W < 17 ∧ (13 < W → 0 < md.length)) → Fr h₀ L h' m' → News h₀ L h' (Led L c v') → Rep w L c v' ws md ps ns → v'.own = v.own → v'.oW.data = .cell (some (.int W tw)) →
      wpAny (model PySem.Challenge.rw_nt0595_01.row.prog w) (callerA.deeper (lawEnv L fa cd)) (execs restL (lawEnv L fa cd)) Q E { s with heap := h', toks := tk }) :
    wpAny (model PySem.Challenge.rw_nt0595_01.row.prog w) (callerA.deeper (lawEnv L fa cd)) (execs (nth turnL 0 :: nth turnL 1 :: nth turnL 2 :: nth turnL 3 :: restL) (lawEnv L fa cd)) Q E s := by
  revert X
  k_fill
  intro X
  have hh : callerA.handled = none := rfl
  unfold lawEnv
  conv => pattern (occs := *) lawScope; all_goals whnf
  conv => pattern (occs := *) nth turnL 0; all_goals whnf
  conv => pattern (occs := *) nth turnL 1; all_goals whnf
  conv => pattern (occs := *) nth turnL 2; all_goals whnf
  conv => pattern (occs := *) nth turnL 3; all_goals whnf
  have N1 := led_x N
  obtain ⟨msub, mT, mdT, mR, mdR, mka, mys, mba, mI, mM, mP⟩ := R.mems
  have hlen := R.hmd.length
  rw [List.length_map] at hlen
  obtain ⟨x0, dW⟩ := R.dW
  obtain ⟨c1, c2, c3, c4, c5⟩ := R.offc
  obtain ⟨tb, hbv⟩ := R.hbs.get k (BS.getD k 0) (by
    have hB : BS.length = 29 := rfl
    rw [List.getD_eq_getElem?_getD, List.getElem?_eq_getElem (by omega)]; rfl)
  have hbv' : c.bvs[((k : Nat) : Int).toNat]? = some (.int (BS.getD k 0) tb) := hbv
  clear N
  k_steps
  all_goals
    (rename Obj.data _ = Data.cell (some (Value.int _ _)) => d)
    dsimp only
    refine hQ _ _ _ _ _ _ _ _ (Kp.set (x := sx "pick") (Kp.set (x := sx "move") (Kp.refl _) (by decide)) (by decide)) rfl ?_ (by assumption) (by assumption) (R.setW d) rfl d
    first
      | exact ⟨by omega, by omega, by omega⟩
      | (refine ⟨(fmod_bd (by decide)).1, (fmod_bd (by decide)).2, fun h => ?_⟩; omega)
end
end
section
theorem freshE11 : True := by
  w_top off
  trivial
section
variable {w : World} {s : Shared} {L fa : Addr} {cd : Value} {h₀ : Heap} {m mg mb : Str → Option Value} {p : Program} {loose : List Str} {mean : ExcName → Option Value} {E : Value → Shared → Prop} {Q : Flow → Shared → Prop}
variable {c : CA} {v : SV} {ws : List Int} {md : List (Int × Int)} {ps : List (List (Int × Int))} {ns : List Int}
set_option maxHeartbeats 4000000 in
theorem line_B {restL : List Stmt} (X : (hd.heap_39 w.params).In h₀) (B : Below callerA h₀ [] h₀) (T : Top p loose mean mg mb h₀) (F : Fr h₀ L s.heap m) (N : News h₀ L s.heap (Led L c v)) (R : Rep w L c v ws md ps ns)
    (hrow : m (Str.ofString "row") = some (.ref c.r.R)) (hns : ns = (lineR ps).drop 1) (hl : (lineR ps).length ≤ 900) (hpl : ps.length ≤ 900)
    (hQ : ∀ h' tk v' D lvs n, Fr h₀ L h' (fun y => if y = Str.ofString "line" then some (.ref D) else m y) → News h₀ L h' (Led L c v') → Rep w L c v' ws md ps ns → v'.own = v.own → (D, PySem.W.listOf (List.toArray lvs) n) ∈ v'.cst → IntsAre lvs ns →
      wpAny (model PySem.Challenge.rw_nt0595_01.row.prog w) (callerA.deeper (lawEnv L fa cd)) (execs restL (lawEnv L fa cd)) Q E { s with heap := h', toks := tk }) :
    wpAny (model PySem.Challenge.rw_nt0595_01.row.prog w) (callerA.deeper (lawEnv L fa cd)) (execs (nth turnL 5 :: nth turnL 6 :: restL) (lawEnv L fa cd)) Q E s := by
  revert X
  k_fill
  intro X
  have hh : callerA.handled = none := rfl
  unfold lawEnv
  conv => pattern (occs := *) lawScope; all_goals whnf
  conv => pattern (occs := *) nth turnL 5; all_goals whnf
  conv => pattern (occs := *) nth turnL 6; all_goals whnf
  have N1 := led_x N
  obtain ⟨msub, mT, mdT, mR, mdR, mka, mys, mba, mI, mM, mP⟩ := R.mems
  have dP := R.dP
  clear N
  k_steps
  have msub' : ∀ q ∈ v.cst, q ∈ Ldx L c v := fun q hq => rst_x q (msub q hq)
  have hpt : PartsAt (Ldx L c v) v.cst (pvsOf v.prs) ps := R.hps.toAt fun q hq => rst_x q (pm_rst q hq)
  refine line_K (cst := v.cst) ((lawCx X B T (by assumption) (by assumption)).to (by assumption) (by decide)) msub' (pvs := pvsOf v.prs) (pn := v.p0) (by k_mem) hpt hl hpl ?_
  intro h2 tk2 D lvs n F2 N2 hI hD
  rw [← hns] at hI
  have hit := R.hit
  clear N1
  k_steps
  (rename News _ _ _ _ => N4)
  obtain ⟨N5, R5⟩ := grow2 R N4 hD
  dsimp only
  exact hQ _ _ _ D lvs n (by assumption) N5 R5 rfl (List.mem_cons_self) hI
end
end
section
theorem freshE12 : True := by
  w_top off
  trivial
section
variable {w : World} {s : Shared} {L fa : Addr} {cd : Value} {h₀ : Heap} {m mg mb : Str → Option Value} {p : Program} {loose : List Str} {mean : ExcName → Option Value} {E : Value → Shared → Prop} {Q : Flow → Shared → Prop}
variable {c : CA} {v : SV} {ws : List Int} {md : List (Int × Int)} {ps : List (List (Int × Int))} {ns : List Int}
set_option maxHeartbeats 4000000 in
theorem names_B {last : List (Int × Int)} (X : (hd.heap_39 w.params).In h₀) (B : Below callerA h₀ [] h₀) (T : Top p loose mean mg mb h₀) (F : Fr h₀ L s.heap m) (N : News h₀ L s.heap (Led L c v)) (R : Rep w L c v ws md ps ns)
    (hrow : m (Str.ofString "row") = some (.ref c.r.R)) (hkinds : m (Str.ofString "kinds") = some (.ref c.ka)) (hl : ns.length ≤ 900) (hw : ws.length ≤ 900) (hin : ∀ y ∈ ns, y = -1 ∨ (0 ≤ y ∧ y ≤ ws.length)) (hpl : ps.length ≤ 900) (hlast : ps.getLast? = some last) (hll : last.length ≤ 900) (hlk : ∀ e ∈ last, 0 ≤ e.2 ∧ e.2 < 12)
    (hfind : ∀ nm, findR (nmsOf ws) nm ns.reverse = ([-1] ++ (last.filter fun e : Int × Int => (KS.getD e.2.toNat kd0).2.1 == nm).map fun e : Int × Int => e.1).getLastD 0)
    (hE : PassesOwn (model PySem.Challenge.rw_nt0595_01.row.prog w) (callerA.deeper (lawEnv L fa cd)) (lawEnv L fa cd) E)
    (hQ : ∀ h' tk m', (∀ z, z ≠ Str.ofString "name" → m' z = m z) → Fr h₀ L h' m' → News h₀ L h' (Led L c v) → Q .next { s with heap := h', toks := tk }) :
    wpAny (model PySem.Challenge.rw_nt0595_01.row.prog w) (callerA.deeper (lawEnv L fa cd)) (exec (nth turnL 7) (lawEnv L fa cd)) Q E s := by
  revert X
  k_fill
  intro X
  have hh : callerA.handled = none := rfl
  unfold lawEnv
  conv => pattern (occs := *) lawScope; all_goals whnf
  conv => pattern (occs := *) nth turnL 7; all_goals whnf
  have N1 := led_x N
  obtain ⟨msub, mT, mdT, mR, mdR, mka, mys, mba, mI, mM, mP⟩ := R.mems
  obtain ⟨pp, hp1, hp2, hpd, hpv, hpm⟩ := R.lastPart hlast
  have dP := R.dP
  clear N
  refine For_unrF F ?_ (by intro _; with_unfolding_all rfl) hE
  k_steps
  walk1
  k_steps
  refine op_find (c := c) (v := v) (lawCx X B T (by assumption) (by assumption)) (fun q hq => by exact List.mem_append_right _ (List.mem_cons_of_mem _ hq)) R hl hw hin ?_
  rw [hfind]
  intro h2 tk2 t2 F2 N2
  k_steps
  refine last_K (cst := v.cst) ((lawCx X B T (by assumption) (by assumption)).to (by assumption) (by decide)) (fun q hq => List.mem_append_right _ (List.mem_cons_of_mem _ (rst_x q (msub q hq)))) (ks := KS) (es := last) (List.mem_append_right _ (List.mem_cons_of_mem _ (rst_x _ mka))) R.hks (List.mem_append_right _ (List.mem_cons_of_mem _ (rst_x _ hpm))) hpd hlk (by omega) (by decide) ?_
  intro h3 tk3 t3 F3 N3
  clear F2 N2
  k_steps
  refine op_find (c := c) (v := v) (lawCx X B T (by assumption) (by assumption)) (fun q hq => by exact List.mem_append_right _ (List.mem_cons_of_mem _ hq)) R hl hw hin ?_
  rw [hfind]
  intro h2 tk2 t2 F2 N2
  k_steps
  refine last_K (cst := v.cst) ((lawCx X B T (by assumption) (by assumption)).to (by assumption) (by decide)) (fun q hq => List.mem_append_right _ (List.mem_cons_of_mem _ (rst_x q (msub q hq)))) (ks := KS) (es := last) (List.mem_append_right _ (List.mem_cons_of_mem _ (rst_x _ mka))) R.hks (List.mem_append_right _ (List.mem_cons_of_mem _ (rst_x _ hpm))) hpd hlk (by omega) (by decide) ?_
  intro h3 tk3 t3 F3 N3
  clear F2 N2
  k_steps
  refine op_find (c := c) (v := v) (lawCx X B T (by assumption) (by assumption)) (fun q hq => by exact List.mem_append_right _ (List.mem_cons_of_mem _ hq)) R hl hw hin ?_
  rw [hfind]
  intro h2 tk2 t2 F2 N2
  k_steps
  refine last_K (cst := v.cst) ((lawCx X B T (by assumption) (by assumption)).to (by assumption) (by decide)) (fun q hq => List.mem_append_right _ (List.mem_cons_of_mem _ (rst_x q (msub q hq)))) (ks := KS) (es := last) (List.mem_append_right _ (List.mem_cons_of_mem _ (rst_x _ mka))) R.hks (List.mem_append_right _ (List.mem_cons_of_mem _ (rst_x _ hpm))) hpd hlk (by omega) (by decide) ?_
  intro h3 tk3 t3 F3 N3
  clear F2 N2
  k_steps
  exact hQ _ _ (fun y => if y = Str.ofString "name" then _ else if y = Str.ofString "name" then _ else if y = Str.ofString "name" then _ else m y) (fun z hz => (if_neg hz).trans ((if_neg hz).trans (if_neg hz))) (by assumption) (led_y (newsSub (by assumption) (fun q hq => List.mem_cons_of_mem _ hq)))
end
end
section
theorem freshE13 : True := by
  w_top off
  trivial
section
variable {w : World} {s : Shared} {L fa : Addr} {cd : Value} {h₀ : Heap} {m mg mb : Str → Option Value} {p : Program} {loose : List Str} {mean : ExcName → Option Value} {E : Value → Shared → Prop} {Q : Flow → Shared → Prop}
variable {c : CA} {v : SV} {ws : List Int} {md : List (Int × Int)} {ps : List (List (Int × Int))} {ns : List Int}
set_option maxHeartbeats 4000000 in
theorem seat_B {D : Addr} {lvs : List Value} {n k : Nat} {tk : Tok} (X : (hd.heap_39 w.params).In h₀) (B : Below callerA h₀ [] h₀) (T : Top p loose mean mg mb h₀) (F : Fr h₀ L s.heap m) (N : News h₀ L s.heap (Led L c v)) (R : Rep w L c v ws md ps ns)
    (hrow : m (Str.ofString "row") = some (.ref c.r.R)) (hmade : m (Str.ofString "made") = some (.ref c.mL)) (hline : m (Str.ofString "line") = some (.ref D)) (hmk : m (Str.ofString "k") = some (.int (k : Int) tk)) (hk : k < 29)
    (hD : (D, PySem.W.listOf (List.toArray lvs) n) ∈ v.cst) (hI : IntsAre lvs ns) (hl : ns.length ≤ 900) (hml : md.length ≤ 900) (hap : Apart ns) (hne : ∀ e ∈ md, e.1 ≠ -1)
    (hQ : ∀ h' tk m', Kp m m' → Fr h₀ L h' m' → News h₀ L h' (Led L c v) → Q .next { s with heap := h', toks := tk }) :
    wpAny (model PySem.Challenge.rw_nt0595_01.row.prog w) (callerA.deeper (lawEnv L fa cd)) (exec (nth turnL 8) (lawEnv L fa cd)) Q E s := by
  revert X
  k_fill
  intro X
  have hh : callerA.handled = none := rfl
  unfold lawEnv
  conv => pattern (occs := *) lawScope; all_goals whnf
  conv => pattern (occs := *) nth turnL 8; all_goals whnf
  have N1 := led_x N
  obtain ⟨msub, mT, mdT, mR, mdR, mka, mys, mba, mI, mM, mP⟩ := R.mems
  have hlen := R.hmd.length
  rw [List.length_map] at hlen
  have hD' := msub _ hD
  clear N
  by_cases hm0 : 0 < md.length
  · obtain ⟨hj0, hj1⟩ := fmod_bd (a := 7 * (k : Int)) (b := (md.length : Int)) (by omega)
    obtain ⟨ot, n1, w1, t1, t2, j, hov, hoe, hom, hod⟩ := made_at R.hmd hj0 hj1
    have hom' := msub _ hom
    have hn1 : n1 ≠ -1 := by
      have := hne _ (getD_mem2 (l := md) (i := ((7 * (k : Int)).fmod md.length).toNat) (d := (0, 0)) (by omega))
      rw [hoe] at this
      exact this
    k_steps
    refine seats_K ((lawCx X B T (by assumption) (by assumption)).to (by assumption) (by decide)) (D := D) (rst_x _ hD') hI hl hap ?_
    intro h2 tk2 d o kvs' T' F2 N2 hd1 hd2 hd3 hd4 hd5
    have hdn := hd5 n1 hn1
    k_steps
    refine op_place (c := c) (v := v) (lawCx X B T (by assumption) (by assumption)) (fun q hq => List.mem_cons_of_mem _ hq) R hl ?_
    intro h4 tk4 t4 F4 N4
    have N5 : News h₀ L h4 ((d, o) :: Ldx L c v) := N4
    clear N4
    k_steps
    (rename Flat _ _ => hv)
    obtain ⟨t9, rfl⟩ := flat_seat h₀ hdn hv
    k_steps
    refine op_has (c := c) (v := v) (lawCx X B T (by assumption) (by assumption)) (fun q hq => List.mem_cons_of_mem _ hq) R ?_
    intro h6 tk6 F6 N6
    have N7 : News h₀ L h6 ((d, o) :: Ldx L c v) := N6
    clear N6
    k_steps
    · exfalso
      (rename (_ != _) = true => hx)
      rw [hdn] at hx
      by_cases hq : n1 ∈ ns
      · rw [if_pos hq, decide_eq_true hq] at hx; cases hx
      · rw [if_neg hq, decide_eq_false hq] at hx; cases hx
    · exact hQ _ _ _ (Kp.set (x := sx "seats") (Kp.set (x := sx "node") (Kp.refl _) (by decide)) (by decide)) (by assumption) (led_y (newsSub (by assumption) (fun q hq => List.mem_cons_of_mem _ hq)))
  · k_steps
    exact hQ _ _ _ (Kp.refl _) (by assumption) (by assumption)
end
end
section
local macro_rules | `(tactic| walk_at "toExecs") => `(tactic| repeat' ((fail_if_success (with_reducible show wpAny _ _ (execs _ _) _ _ _)); first | (k_unfold; (try dsimp only)) | walk1 | (dsimp only; walk1) | fail "no step"))
local macro_rules | `(tactic| walk_at "call builtin:len") => `(tactic| ((with_reducible show wpAny _ _ (call (Value.builtin "len") [Value.ref _]) _ _ _); (refine' r_lenT ?N ?m ?l ?k ?_; (case N => k_asm); (case m => k_mem); (case l => assumption); (case k => omega); k_whole); intro t' tk'))
section
theorem freshE14 : True := by
  w_top off
  trivial
section
variable {w : World} {s : Shared} {L fa : Addr} {cd : Value} {h₀ : Heap} {m mg mb : Str → Option Value} {p : Program} {loose : List Str} {mean : ExcName → Option Value} {E : Value → Shared → Prop} {Q : Flow → Shared → Prop}
variable {c : CA} {v : SV} {ws : List Int} {ps : List (List (Int × Int))} {ns : List Int}
set_option maxHeartbeats 4000000 in
theorem if15_B {ot nt D : Addr} {n1 w1 W pk : Int} {t1 t2 t3 t4 tw tp : Tok} {j j2 n k : Nat} {svs : List Value} (X : (hd.heap_39 w.params).In h₀) (B : Below callerA h₀ [] h₀) (T : Top p loose mean mg mb h₀) (F : Fr h₀ L s.heap m) (N : News h₀ L s.heap (Led L c v)) (P : PInv ws ps ns k) (hk : k < 29)
    (he : (n1, w1) ∈ mdOf ws) (R : Rep w L c v (ws ++ [w1]) (mdOf (ws ++ [w1])) ps ns)
    (hrow : m (Str.ofString "row") = some (.ref c.r.R)) (hpick : m (Str.ofString "pick") = some (.int pk tp)) (hseat : m (Str.ofString "seat") = some (.ref D))
    (hW : v.oW.data = .cell (some (.int W tw))) (hO : v.oO.data = .cell (some (.ref ot))) (hom : (ot, tupO [.int n1 t1, .int w1 t2] j) ∈ v.cst) (hD : (D, PySem.W.listOf (List.toArray svs) n) ∈ v.cst) (hsv : IntsAre svs (seatsOf (n1, w1) ps ps.length))
    (hN : v.oN.data = .cell (some (.ref nt))) (hnm : (nt, tupO [.int ((ws.length + 1 : Nat) : Int) t3, .int w1 t4] j2) ∈ v.cst)
    (hQ : ∀ h' tk v' m' ws' ps' ns', Kp m m' → Fr h₀ L h' m' → News h₀ L h' (Led L c v') → Rep w L c v' ws' (mdOf ws') ps' ns' → PInv ws' ps' ns' (k + 1) → v'.own = v.own → Q .next { s with heap := h', toks := tk }) :
    wpAny (model PySem.Challenge.rw_nt0595_01.row.prog w) (callerA.deeper (lawEnv L fa cd)) (exec if15 (lawEnv L fa cd)) Q E s := by
  have hwl := P.wl
  have hpl := P.pl
  have hnl := P.nsLen
  have g := P.mdGood he
  have hpe : ∀ es ∈ ps, es.length ≤ 900 := fun es h => by have := P.part es h; omega
  have hs := @seat_mem (n1, w1) ps ps.length
  revert X
  k_fill
  intro X
  have hh : callerA.handled = none := rfl
  unfold lawEnv
  conv => pattern (occs := *) lawScope; all_goals whnf
  conv => pattern (occs := *) if15; all_goals whnf
  have N1 := led_x N
  obtain ⟨msub, mT, mdT, mR, mdR, mka, mys, mba, mI, mM, mP⟩ := R.mems
  have hD' := msub _ hD
  generalize hss : seatsOf (n1, w1) ps ps.length = ss at hsv hs
  have hsl : ss.length ≤ 900 := by
    have : (seatsOf (n1, w1) ps ps.length).length ≤ ps.length := by
      unfold seatsOf
      rw [List.length_map]
      exact Nat.le_trans (List.length_filter_le _ _) (by simp)
    rw [hss] at this
    omega
  walk_at "toExecs"
  · refine replace_B X B T (by assumption) (led_y (by assumption)) R hrow hO hom hN hnm (by omega) (by omega) hpe ?_
    intro h2 tk2 v2 F2 N2 R2 o2
    exact hQ _ _ _ _ _ _ _ (Kp.refl _) F2 N2 R2 (P.replace he) o2
  · refine wpAny_execs_cons ?_
    rcases ss with _ | ⟨i, r⟩
    · cases hsv
      have e0 : ([] : List Value).length = 0 := rfl
      walk_at "toExecs"
      refine wpAny_execs_nil ?_
      dsimp only
      refine wpAny_execs_nil ?_
      exact hQ _ _ _ _ _ _ _ (Kp.refl _) (by assumption) (led_y (by assumption)) R (P.ext g.2.1 g.2.2) rfl
    · have hi := hs (i := i) (List.mem_cons_self)
      have hes : ps[i.toNat]? = some (ps.getD i.toNat []) := by
        rw [List.getD_eq_getElem?_getD, List.getElem?_eq_getElem (by omega)]; rfl
      obtain ⟨P2, k0, k1⟩ := P.put he hes hi.2.2 pk
      have hsl2 := hsv.length
      have hpos : 0 < (i :: r).length := Nat.succ_pos _
      walk_at "toExecs"
      refine put_B (i := i) (r := r) (es := ps.getD i.toNat []) X B T (by assumption) (led_y (by assumption)) R hrow hpick hseat hO hom hD hsv hN hnm (by omega) (by omega) hi.1 hes hi.2.2 hpe k0 k1 ?_
      intro h2 tk2 v2 m2 K2 F2 N2 R2 o2
      dsimp only
      refine wpAny_execs_nil ?_
      exact hQ _ _ _ _ _ _ _ K2 F2 N2 R2 P2 o2
end
end
section
theorem freshE15 : True := by
  w_top off
  trivial
section
variable {w : World} {s : Shared} {L fa : Addr} {cd : Value} {h₀ : Heap} {m mg mb : Str → Option Value} {p : Program} {loose : List Str} {mean : ExcName → Option Value} {E : Value → Shared → Prop} {Q : Flow → Shared → Prop}
variable {c : CA} {v : SV} {ws : List Int} {ps : List (List (Int × Int))} {ns : List Int}
set_option maxHeartbeats 4000000 in
theorem if14_B {ot D : Addr} {n1 w1 W pk : Int} {t1 t2 tw tp : Tok} {j n k : Nat} {svs : List Value} (X : (hd.heap_39 w.params).In h₀) (B : Below callerA h₀ [] h₀) (T : Top p loose mean mg mb h₀) (F : Fr h₀ L s.heap m) (N : News h₀ L s.heap (Led L c v)) (R : Rep w L c v ws (mdOf ws) ps ns) (P : PInv ws ps ns k) (hk : k < 29)
    (hrow : m (Str.ofString "row") = some (.ref c.r.R)) (htree : m (Str.ofString "tree") = some (.ref c.ta.T)) (hkinds : m (Str.ofString "kinds") = some (.ref c.ka)) (hmade : m (Str.ofString "made") = some (.ref c.mL)) (hpick : m (Str.ofString "pick") = some (.int pk tp)) (hseat : m (Str.ofString "seat") = some (.ref D))
    (hW : v.oW.data = .cell (some (.int W tw))) (hO : v.oO.data = .cell (some (.ref ot))) (he : (n1, w1) ∈ mdOf ws) (hom : (ot, tupO [.int n1 t1, .int w1 t2] j) ∈ v.cst) (hod : DatIn v.cst (.ref ot) (entD (n1, w1))) (hD : (D, PySem.W.listOf (List.toArray svs) n) ∈ v.cst) (hsv : IntsAre svs (seatsOf (n1, w1) ps ps.length))
    (hQ : ∀ h' tk v' m' ws' ps' ns', Kp m m' → Fr h₀ L h' m' → News h₀ L h' (Led L c v') → Rep w L c v' ws' (mdOf ws') ps' ns' → PInv ws' ps' ns' (k + 1) → v'.own = v.own → Q .next { s with heap := h', toks := tk }) :
    wpAny (model PySem.Challenge.rw_nt0595_01.row.prog w) (callerA.deeper (lawEnv L fa cd)) (exec if14 (lawEnv L fa cd)) Q E s := by
  have hwl := P.wl
  have hpl := P.pl
  have hnl := P.nsLen
  have hml := md_len ws
  have g := P.mdGood he
  have hpe : ∀ es ∈ ps, es.length ≤ 900 := fun es h => by have := P.part es h; omega
  have hs : ∀ i ∈ seatsOf (n1, w1) ps ps.length, 0 ≤ i ∧ i < ps.length ∧ (n1, w1) ∈ ps.getD i.toNat [] := fun i h => seat_mem h
  have hsl : (seatsOf (n1, w1) ps ps.length).length ≤ 900 := by
    have : (seatsOf (n1, w1) ps ps.length).length ≤ ps.length := by
      unfold seatsOf
      rw [List.length_map]
      exact Nat.le_trans (List.length_filter_le _ _) (by simp)
    omega
  revert X
  k_fill
  intro X
  have hh : callerA.handled = none := rfl
  unfold lawEnv
  conv => pattern (occs := *) lawScope; all_goals whnf
  conv => pattern (occs := *) if14; all_goals whnf
  have N1 := led_x N
  obtain ⟨msub, mT, mdT, mR, mdR, mka, mys, mba, mI, mM, mP⟩ := R.mems
  walk_at "toExecs"
  · refine remove_B X B T (by assumption) (led_y (by assumption)) R hrow hseat hO hom hod hD hsv (by omega) (by omega) hsl hs hpe ?_
    intro h2 tk2 v2 F2 N2 R2 o2
    exact hQ _ _ _ _ _ _ _ (Kp.refl _) F2 N2 R2 (P.remove he) o2
  · refine new_B (restL := [if15]) X B T (by assumption) (led_y (by assumption)) R htree hkinds hmade hO hom g.2.1 g.2.2 (by omega) (by omega) ?_
    intro h2 tk2 v2 m2 nt t3 t4 j2 hm2 F2 N2 R2 o2 eO2 eW2 d2 hnm sub2
    refine wpAny_execs_cons ?_
    refine if15_B (W := W) (tw := tw) X B T F2 N2 P hk he (by rw [md_snoc]; exact R2) ((hm2 _ (by decide)).trans hrow) ((hm2 _ (by decide)).trans hpick) ((hm2 _ (by decide)).trans hseat) (by rw [eW2]; exact hW) (by rw [eO2]; exact hO) (sub2 _ hom) (sub2 _ hD) hsv d2 hnm ?_
    intro h3 tk3 v3 m3 ws3 ps3 ns3 K3 F3 N3 R3 P3 o3
    dsimp only
    refine wpAny_execs_nil ?_
    refine hQ _ _ _ _ _ _ _ (fun z hz => (K3 z hz).trans (hm2 z ?_)) F3 N3 R3 P3 (o3.trans o2)
    intro hzk
    subst hzk
    exact absurd hz (by decide)
set_option maxHeartbeats 4000000 in
theorem chain_B {W pk : Int} {tw tp : Tok} {k : Nat} (X : (hd.heap_39 w.params).In h₀) (B : Below callerA h₀ [] h₀) (T : Top p loose mean mg mb h₀) (F : Fr h₀ L s.heap m) (N : News h₀ L s.heap (Led L c v)) (R : Rep w L c v ws (mdOf ws) ps ns) (P : PInv ws ps ns k) (hk : k < 29)
    (hrow : m (Str.ofString "row") = some (.ref c.r.R)) (htree : m (Str.ofString "tree") = some (.ref c.ta.T)) (hkinds : m (Str.ofString "kinds") = some (.ref c.ka)) (hmade : m (Str.ofString "made") = some (.ref c.mL)) (hpick : m (Str.ofString "pick") = some (.int pk tp))
    (hW : v.oW.data = .cell (some (.int W tw))) (hW0 : 0 ≤ W) (hW2 : W < 17) (hW3 : 13 < W → 0 < (mdOf ws).length)
    (hQ : ∀ h' tk v' m' ws' ps' ns', Kp m m' → Fr h₀ L h' m' → News h₀ L h' (Led L c v') → Rep w L c v' ws' (mdOf ws') ps' ns' → PInv ws' ps' ns' (k + 1) → v'.own = v.own → Q .next { s with heap := h', toks := tk }) :
    wpAny (model PySem.Challenge.rw_nt0595_01.row.prog w) (callerA.deeper (lawEnv L fa cd)) (exec chainS (lawEnv L fa cd)) Q E s := by
  have hwl := P.wl
  have hpl := P.pl
  have hnl := P.nsLen
  have hml := md_len ws
  have hin := P.nsIn
  obtain ⟨last, hlast⟩ := P.lastOf
  have hlm : last ∈ ps := List.mem_of_getLast? hlast
  have hll := P.part last hlm
  have hlk := P.partIn hlm
  revert X
  k_fill
  intro X
  have hh : callerA.handled = none := rfl
  unfold lawEnv
  conv => pattern (occs := *) lawScope; all_goals whnf
  conv => pattern (occs := *) chainS; all_goals whnf
  have N1 := led_x N
  obtain ⟨msub, mT, mdT, mR, mdR, mka, mys, mba, mI, mM, mP⟩ := R.mems
  walk_at "toExecs"
  · refine push_B (k := W) (last := last) X B T (by assumption) (led_y (by assumption)) R hrow htree hkinds hmade hW hW0 (by omega) (by omega) (by omega) (by omega) hin (by omega) hlast (by omega) hlk ?_
    intro h2 tk2 v2 m2 K2 F2 N2 R2 o2
    exact hQ _ _ _ _ _ _ _ K2 F2 N2 (by rw [md_snoc]; exact R2) (P.push hW0 (by omega) hlast) o2
  refine wpAny_execs_cons ?_
  walk_at "toExecs"
  · refine mark_B X B T (by assumption) (led_y (by assumption)) R hrow (by omega) (by omega) ?_
    intro h2 tk2 v2 F2 N2 R2 o2
    dsimp only
    refine wpAny_execs_nil ?_
    exact hQ _ _ _ _ _ _ _ (Kp.refl _) F2 N2 R2 P.mark o2
  refine wpAny_execs_cons ?_
  walk_at "toExecs"
  · refine clear_B X B T (by assumption) (led_y (by assumption)) R hrow (by omega) (by omega) ?_
    intro h2 tk2 v2 F2 N2 R2 o2
    dsimp only
    refine wpAny_execs_nil ?_
    dsimp only
    refine wpAny_execs_nil ?_
    exact hQ _ _ _ _ _ _ _ (Kp.refl _) F2 N2 R2 P.clear o2
  have hm0 : 0 < (mdOf ws).length := hW3 (by omega)
  refine old_B (restL := [if14]) X B T (by assumption) (led_y (by assumption)) R hmade hpick hm0 (by omega) (by omega) ?_
  intro h2 tk2 v2 m2 D svs n ot n1 w1 t1 t2 j K2 hseat hpk2 F2 N2 R2 o2 eW2 dO2 hoe hom hod hD hsv
  rw [hoe] at hod hsv
  obtain ⟨hj0, hj1⟩ := fmod_bd (a := pk) (b := ((mdOf ws).length : Int)) (by omega)
  have he : (n1, w1) ∈ mdOf ws := by
    rw [← hoe]
    exact getD_mem2 (by omega)
  refine wpAny_execs_cons ?_
  refine if14_B (W := W) (tw := tw) X B T F2 N2 R2 P hk ((K2 _ (by decide)).trans hrow) ((K2 _ (by decide)).trans htree) ((K2 _ (by decide)).trans hkinds) ((K2 _ (by decide)).trans hmade) (hpk2.trans hpick) hseat (by rw [eW2]; exact hW) dO2 he hom hod hD hsv ?_
  intro h3 tk3 v3 m3 ws3 ps3 ns3 K3 F3 N3 R3 P3 o3
  dsimp only
  refine wpAny_execs_nil ?_
  dsimp only
  refine wpAny_execs_nil ?_
  dsimp only
  refine wpAny_execs_nil ?_
  exact hQ _ _ _ _ _ _ _ (Kp.trans K2 K3) F3 N3 R3 P3 (o3.trans o2)
end
end
section
theorem freshE16 : True := by
  w_top off
  trivial
theorem Kp.of_ne {m m' : Str → Option Value} {x : Str} (h : ∀ z, z ≠ x → m' z = m z) (hx : locsL.contains x = true) : Kp m m' := fun z hz => h z fun e => by rw [e, hx] at hz; cases hz
theorem turn_list : turnL = [nth turnL 0, nth turnL 1, nth turnL 2, nth turnL 3, chainS, nth turnL 5, nth turnL 6, nth turnL 7, nth turnL 8] := rfl
section
variable {w : World} {s : Shared} {L fa : Addr} {cd : Value} {h₀ : Heap} {m mg mb : Str → Option Value} {p : Program} {loose : List Str} {mean : ExcName → Option Value} {E : Value → Shared → Prop} {Q : Flow → Shared → Prop}
variable {c : CA} {v : SV} {ws : List Int} {ps : List (List (Int × Int))} {ns : List Int}
theorem turn_B {l : Addr} {vs : List Value} {is : List Int} {k : Nat} {tk : Tok} (X : (hd.heap_39 w.params).In h₀) (B : Below callerA h₀ [] h₀) (T : Top p loose mean mg mb h₀) (F : Fr h₀ L s.heap m) (N : News h₀ L s.heap (Led L c v)) (R : Rep w L c v ws (mdOf ws) ps ns) (P : PInv ws ps ns k)
    (hl : h₀.IsList l vs.toArray) (hi : IntsAre vs is) (hn : is.length ≤ 63) (hk : k < 29)
    (hrow : m (Str.ofString "row") = some (.ref c.r.R)) (htree : m (Str.ofString "tree") = some (.ref c.ta.T)) (hkinds : m (Str.ofString "kinds") = some (.ref c.ka)) (hmade : m (Str.ofString "made") = some (.ref c.mL)) (hbase : m (Str.ofString "base") = some (.ref c.ba)) (hscr : m (Str.ofString "script") = some (.ref l)) (hmk : m (Str.ofString "k") = some (.int (k : Int) tk))
    (hE : PassesOwn (model PySem.Challenge.rw_nt0595_01.row.prog w) (callerA.deeper (lawEnv L fa cd)) (lawEnv L fa cd) E)
    (hQ : ∀ h' tk v' m' ws' ps' ns', Kp m m' → Fr h₀ L h' m' → News h₀ L h' (Led L c v') → Rep w L c v' ws' (mdOf ws') ps' ns' → PInv ws' ps' ns' (k + 1) → v'.own = v.own → Q .next { s with heap := h', toks := tk }) :
    wpAny (model PySem.Challenge.rw_nt0595_01.row.prog w) (callerA.deeper (lawEnv L fa cd)) (execs turnL (lawEnv L fa cd)) Q E s := by
  have hwl := P.wl
  have hml := md_len ws
  rw [turn_list]
  refine head_B X B T F N R hl hi hn hk hmade hbase hscr hmk (by omega) ?_
  intro h1 tk1 v1 m1 W tw pk tp K1 hpick hW F1 N1 R1 o1 dW
  refine wpAny_execs_cons ?_
  refine chain_B (W := W) X B T F1 N1 R1 P hk ((K1 _ (by decide)).trans hrow) ((K1 _ (by decide)).trans htree) ((K1 _ (by decide)).trans hkinds) ((K1 _ (by decide)).trans hmade) hpick dW hW.1 hW.2.1 hW.2.2 ?_
  intro h2 tk2 v2 m2 ws2 ps2 ns2 K2 F2 N2 R2 P2 o2
  have K12 := Kp.trans K1 K2
  have hwl2 := P2.wl
  have hpl2 := P2.pl
  have hnl2 := P2.nsLen
  have hll2 := P2.lineLen
  have hml2 := md_len ws2
  dsimp only
  refine line_B X B T F2 N2 R2 ((K12 _ (by decide)).trans hrow) P2.line (by omega) (by omega) ?_
  intro h3 tk3 v3 D lvs n F3 N3 R3 o3 hD hI
  obtain ⟨last, hlast⟩ := P2.lastOf
  have hlm : last ∈ ps2 := List.mem_of_getLast? hlast
  have hll := P2.part last hlm
  have hlk := P2.partIn hlm
  have K3 : Kp m (fun y => if y = Str.ofString "line" then some (.ref D) else m2 y) := Kp.set K12 (by decide)
  refine wpAny_execs_cons ?_
  refine names_B (last := last) X B T F3 N3 R3 ((K3 _ (by decide)).trans hrow) ((K3 _ (by decide)).trans hkinds) (by omega) (by omega) P2.nsIn (by omega) hlast (by omega) hlk (P2.find hlast) hE ?_
  intro h4 tk4 m4 hm4 F4 N4
  have K4 := Kp.trans K3 (Kp.of_ne hm4 (by decide))
  dsimp only
  refine wpAny_execs_cons ?_
  refine seat_B (k := k) (tk := tk) (D := D) (lvs := lvs) X B T F4 N4 R3 ((K4 _ (by decide)).trans hrow) ((K4 _ (by decide)).trans hmade) ((hm4 _ (by decide)).trans rfl) ((K4 _ (by decide)).trans hmk) hk hD hI (by omega) (by omega) P2.apart (fun e he => (P2.mdGood he).1) ?_
  intro h5 tk5 m5 K5 F5 N5
  dsimp only
  refine wpAny_execs_nil ?_
  exact hQ _ _ _ _ _ _ _ (Kp.trans K4 K5) F5 N5 R3 P2 (o3.trans (o2.trans o1))
end
end
section
theorem freshE17 : True := by
  w_top off
  trivial
section
variable {w : World} {s : Shared} {L fa : Addr} {cd : Value} {h₀ : Heap} {m mg mb : Str → Option Value} {p : Program} {loose : List Str} {mean : ExcName → Option Value} {E : Value → Shared → Prop} {Q : Flow → Shared → Prop}
variable {c : CA} {v : SV} {ws : List Int} {ps : List (List (Int × Int))} {ns : List Int}
theorem Rep.setOwn {md : List (Int × Int)} {own : List (Addr × Obj)} (R : Rep w L c v ws md ps ns) (ho : OwnOff own ((Led L c { v with own := [] }).map (·.1))) : Rep w L c { v with own := own } ws md ps ns := by
  have q : ∀ p ∈ own, ∀ z ∈ cel L v ++ (muts c v ++ v.cst), p.1 ≠ z.1 := fun p hp z hz => ho p hp _ (List.mem_map.mpr ⟨z, by simpa using hz, rfl⟩)
  exact { R with
    ow1 := fun p hp a ha e => by
      have q1 : ∃ o, (a, o) ∈ cel L v := by
        simp only [cadr, List.mem_cons, List.not_mem_nil, or_false] at ha
        rcases ha with rfl | rfl | rfl | rfl | rfl
        · exact ⟨v.oN, by simp⟩
        · exact ⟨v.oO, by simp⟩
        · exact ⟨v.oW, by simp⟩
        · exact ⟨v.oP, by simp⟩
        · exact ⟨v.oK, by simp⟩
      obtain ⟨o, ho⟩ := q1
      exact q p hp _ (List.mem_append_left _ ho) e
    ow2 := fun p hp ha => by
      have ha' : p.1 ∈ adr c v := ha
      rw [← muts_adr] at ha'
      obtain ⟨z, hz, e⟩ := List.mem_map.mp ha'
      exact q p hp z (List.mem_append_right _ (List.mem_append_left _ hz)) e.symm
    ow3 := fun p hp z hz => q p hp z (List.mem_append_right _ (List.mem_append_right _ hz)) }
theorem Rep.noOwn {md : List (Int × Int)} (R : Rep w L c v ws md ps ns) : Rep w L c { v with own := [] } ws md ps ns := { R with ow1 := (fun _ h => (nomatch h)), ow2 := (fun _ h => (nomatch h)), ow3 := (fun _ h => (nomatch h)) }
theorem Rep.ownOff {md : List (Int × Int)} (R : Rep w L c v ws md ps ns) : OwnOff v.own ((Led L c { v with own := [] }).map (·.1)) := by
  intro p hp b hb
  obtain ⟨z, hz, rfl⟩ := List.mem_map.mp hb
  rcases List.mem_append.mp hz with hz | hz
  · exact R.ow1 p hp _ (cel_adr (v := v) hz)
  · rcases List.mem_append.mp hz with hz | hz
    · intro e
      refine R.ow2 p hp ?_
      rw [e, ← muts_adr]
      exact List.mem_map.mpr ⟨z, hz, rfl⟩
    · rcases List.mem_append.mp hz with hz | hz
      · exact R.ow3 p hp z hz
      · cases hz
theorem own_led {own : List (Addr × Obj)} {h : Heap} (ho : v.own = []) (N : News h₀ L h (Led L c v ++ own)) : News h₀ L h (Led L c { v with own := own }) := by
  refine newsSub N fun q hq => ?_
  rcases List.mem_append.mp hq with hq | hq
  · exact List.mem_append_left _ (List.mem_append_left _ hq)
  · rcases List.mem_append.mp hq with hq | hq
    · exact List.mem_append_left _ (List.mem_append_right _ (List.mem_append_left _ hq))
    · rcases List.mem_append.mp hq with hq | hq
      · exact List.mem_append_left _ (List.mem_append_right _ (List.mem_append_right _ (List.mem_append_left _ hq)))
      · exact List.mem_append_right _ hq
theorem led_own : (∀ q ∈ Led L c { v with own := [] }, q ∈ Led L c v) ∧ (∀ q ∈ v.own, q ∈ Led L c v) := by
  refine ⟨fun q hq => ?_, fun q hq => List.mem_append_right _ (List.mem_append_right _ (List.mem_append_right _ hq))⟩
  rcases List.mem_append.mp hq with hq | hq
  · exact List.mem_append_left _ hq
  · rcases List.mem_append.mp hq with hq | hq
    · exact List.mem_append_right _ (List.mem_append_left _ hq)
    · rcases List.mem_append.mp hq with hq | hq
      · exact List.mem_append_right _ (List.mem_append_right _ (List.mem_append_left _ hq))
      · cases hq
set_option maxHeartbeats 4000000 in
theorem loop_B {l : Addr} {vs : List Value} {is : List Int} (X : (hd.heap_39 w.params).In h₀) (B : Below callerA h₀ [] h₀) (T : Top p loose mean mg mb h₀) (F : Fr h₀ L s.heap m) (N : News h₀ L s.heap (Led L c v)) (R : Rep w L c v ws (mdOf ws) ps ns) (P : PInv ws ps ns 0) (ho : v.own = [])
    (hl : h₀.IsList l vs.toArray) (hi : IntsAre vs is) (hn : is.length ≤ 63)
    (hrow : m (Str.ofString "row") = some (.ref c.r.R)) (htree : m (Str.ofString "tree") = some (.ref c.ta.T)) (hkinds : m (Str.ofString "kinds") = some (.ref c.ka)) (hmade : m (Str.ofString "made") = some (.ref c.mL)) (hbase : m (Str.ofString "base") = some (.ref c.ba)) (hscr : m (Str.ofString "script") = some (.ref l))
    (hE : PassesOwn (model PySem.Challenge.rw_nt0595_01.row.prog w) (callerA.deeper (lawEnv L fa cd)) (lawEnv L fa cd) E)
    (hQ : ∀ h' tk v' m' ws' ps' ns', (∀ z, z ≠ Str.ofString "k" → locsL.contains z = false → m' z = m z) → Fr h₀ L h' m' → News h₀ L h' (Led L c v') → Rep w L c v' ws' (mdOf ws') ps' ns' → PInv ws' ps' ns' 29 → v'.own = [] → Q .next { s with heap := h', toks := tk }) :
    wpAny (model PySem.Challenge.rw_nt0595_01.row.prog w) (callerA.deeper (lawEnv L fa cd)) (exec (nth lawBody 7) (lawEnv L fa cd)) Q E s := by
  revert X
  k_fill
  intro X
  have hh : callerA.handled = none := rfl
  unfold lawEnv
  conv => pattern (occs := *) lawScope; all_goals whnf
  conv => pattern (occs := *) nth lawBody 7; all_goals whnf
  have N1 := led_x N
  obtain ⟨msub, mT, mdT, mR, mdR, mka, mys, mba, mI, mM, mP⟩ := R.mems
  have hbl : c.bvs.length = 29 := R.hbs.length
  k_steps
  refine rs_range (σ := SV) (n := 29) (fun v => Led L c v) (fun _ => []) locsL (fun i v => v.own = [] ∧ ∃ ws ps ns, Rep w L c v ws (mdOf ws) ps ns ∧ PInv ws ps ns i) v rfl hh (by assumption) ?_ ?_ (by assumption) (by assumption) (fun _ h => h) (fun _ h => nomatch h) ⟨ho, ws, ps, ns, R, P⟩ ?_ ?_
  · exact small_up (by omega) (by omega)
  · rw [rangeSize_one]; split <;> omega
  · rintro i t v1 u h tk own hi' hoff ⟨ho1, ws1, ps1, ns1, R1, P1⟩ F₁ N₁
    have e0 : (0 : Int) + (i : Int) * 1 = (i : Int) := by omega
    rw [e0] at F₁
    have R2 := R1.setOwn (own := own) (by
      have e1 : { v1 with own := [] } = v1 := by rw [← ho1]
      rw [e1]; exact hoff)
    have N2 := own_led ho1 N₁
    refine turn_B (k := i) (tk := t) (l := l) (vs := vs) (is := is) X B T F₁ N2 R2 P1 hl hi hn hi' ?m1 ?m2 ?m3 ?m4 ?m5 ?m6 rfl hE ?_
    (case m1 => exact hrow)
    (case m2 => exact htree)
    (case m3 => exact hkinds)
    (case m4 => exact hmade)
    (case m5 => exact hbase)
    (case m6 => exact hscr)
    intro h3 tk3 v3 m3 ws3 ps3 ns3 K3 F3 N3 R3 P3 o3
    have hown : v3.own = own := o3
    refine RsEnd.intro { v3 with own := [] } F3 N3 led_own.1 ?_ ?_ (fun _ h => nomatch h) ?_ ⟨rfl, ws3, ps3, ns3, R3.noOwn, P3⟩
    · rw [← hown]; exact led_own.2
    · rw [← hown]; exact R3.ownOff
    · intro z hz _ hst
      refine (K3 z hst).trans ?_
      show (if z = Str.ofString "k" then _ else kstB (fun z => if locsL.contains z = true then u z else m z) [] z) = m z
      rw [if_neg hz]
      show (if locsL.contains z = true then u z else m z) = m z
      rw [hst]; rfl
  · rintro v1 u h tk ⟨ho1, ws1, ps1, ns1, R1, P1⟩ F₁ N₁
    refine hQ _ _ _ _ _ _ _ ?_ F₁ N₁ R1 P1 ho1
    intro z hz hst
    rw [if_neg hz]
    show (if locsL.contains z = true then u z else m z) = m z
    rw [hst]; rfl
end
end
section
theorem freshE18 : True := by
  w_top off
  trivial
section
variable {w : World} {s : Shared} {L fa : Addr} {cd : Value} {h₀ : Heap} {m mg mb : Str → Option Value} {p : Program} {loose : List Str} {mean : ExcName → Option Value} {E : Value → Shared → Prop} {Q : Flow → Shared → Prop}
variable {c : CA} {v : SV} {ws : List Int} {ps : List (List (Int × Int))} {ns : List Int}
theorem nodes_end {own : List (Addr × Obj)} {o2 : Obj} {x : Option Value} {h : Heap} {m' : Str → Option Value} {s₁ : Shared} {tk : Nat} {md : List (Int × Int)} (R : Rep w L c { v with own := own, oW := o2 } ws md ps ns) (ho : v.own = []) (F : Fr h₀ L h m') (N : News h₀ L h (Ldx L c { v with own := own, oW := o2 })) (d3 : o2.data = .cell x) (hm : ∀ z, z ≠ Str.ofString "node" → m' z = m z) :
    InvEndG h₀ L (fun m' nx => (∃ o', nx = Led L c { v with oW := o' } ∧ ∃ x, o'.data = .cell x) ∧ ∀ z, z ≠ Str.ofString "node" → m' z = m z) own s₁ { s₁ with heap := h, toks := tk } := by
  have e1 : ({ { v with own := own, oW := o2 } with own := [] } : SV) = { v with oW := o2 } := by rw [← ho]
  refine InvEndG.intro (nx := Led L c { v with oW := o2 }) F (led_y N) ⟨⟨o2, rfl, x, d3⟩, hm⟩ ?_ ?_ ?_
  · have q := R.ownOff
    rw [e1] at q
    exact q
  · have q := (led_own (L := L) (c := c) (v := { v with own := own, oW := o2 })).1
    rw [e1] at q
    exact q
  · exact (led_own (L := L) (c := c) (v := { v with own := own, oW := o2 })).2
set_option maxHeartbeats 4000000 in
theorem nodes_B {d : Addr} {o : Obj} {kvs' : List (Int × Value)} {T' : List (PyData × PyData)} {k : Nat} (X : (hd.heap_39 w.params).In h₀) (B : Below callerA h₀ [] h₀) (T : Top p loose mean mg mb h₀) (F : Fr h₀ L s.heap m) (N : News h₀ L s.heap (Led L c v)) (R : Rep w L c v ws (mdOf ws) ps ns) (P : PInv ws ps ns k) (hk : k ≤ 29) (ho : v.own = [])
    (hd0 : (d, o) ∈ v.cst) (hd3 : o.IsDictOf (intKind PySem.Challenge.rw_nt0595_01.row.prog w) kvs') (hd4 : FlatPairs PyData.int kvs' T') (hd2 : (d == sysModules) = false) (hd5 : ∀ i, i ≠ -1 → Spec.lookup (.int i) T' = if i ∈ ns then some (.int (ns.idxOf i : Nat)) else none)
    (hrow : m (Str.ofString "row") = some (.ref c.r.R)) (hmade : m (Str.ofString "made") = some (.ref c.mL)) (hseats : m (Str.ofString "seats") = some (.ref d))
    (hE : PassesOwn (model PySem.Challenge.rw_nt0595_01.row.prog w) (callerA.deeper (lawEnv L fa cd)) (lawEnv L fa cd) E)
    (hQ : ∀ h' tk v' m', (∀ z, z ≠ Str.ofString "node" → m' z = m z) → Fr h₀ L h' m' → News h₀ L h' (Led L c v') → Rep w L c v' ws (mdOf ws) ps ns → v'.own = [] → Q .next { s with heap := h', toks := tk }) :
    wpAny (model PySem.Challenge.rw_nt0595_01.row.prog w) (callerA.deeper (lawEnv L fa cd)) (exec (nth lawBody 9) (lawEnv L fa cd)) Q E s := by
  have hnl := P.nsLen
  have hml := md_len ws
  have hwl := P.wl
  revert X
  k_fill
  intro X
  have hh : callerA.handled = none := rfl
  unfold lawEnv
  conv => pattern (occs := *) lawScope; all_goals whnf
  conv => pattern (occs := *) nth lawBody 9; all_goals whnf
  have N1 := led_x N
  obtain ⟨msub, mT, mdT, mR, mdR, mka, mys, mba, mI, mM, mP⟩ := R.mems
  refine For_turns F ?_ (by intro _; with_unfolding_all rfl) hE
  k_steps
  refine rt_list (vs := v.mvs) (nn := v.m0) (fun i m' nx => (∃ o', nx = Led L c { v with oW := o' } ∧ ∃ x, o'.data = .cell x) ∧ ∀ z, z ≠ Str.ofString "node" → m' z = m z) hh (rst_x _ mM) (by assumption) (by assumption) ⟨⟨v.oW, rfl, R.dW⟩, fun _ _ => rfl⟩ ?_ ?_ ?_
  · rintro i m' nx ⟨⟨o', rfl, _⟩, _⟩
    exact rst_x (v := { v with oW := o' }) _ mM
  · rintro i val m₁ nx h tk own hv hoff ⟨⟨o', rfl, x, dx⟩, hm⟩ F₁ N₁
    obtain ⟨n1, w1, a, t1, t2, j, hme, rfl, hma⟩ := ent_at R.hmd hv
    have R2 := (R.setW dx).setOwn (own := own) (by
      have e1 : ({ { v with oW := o' } with own := [] } : SV) = { v with oW := o' } := by rw [← ho]
      rw [e1]; exact hoff)
    have N2 : News h₀ L h (Ldx L c { v with oW := o', own := own }) := own_led (v := { v with oW := o' }) ho N₁
    have F2 : Fr h₀ L h m₁ := F₁
    clear F₁
    obtain ⟨msub, mT, mdT, mR, mdR, mka, mys, mba, mI, mM, mP⟩ := R2.mems
    obtain ⟨c1, c2, c3, c4, c5⟩ := R2.offc
    have hma' := msub _ hma
    have hd0' := msub _ hd0
    have hdn := hd5 n1 (P.mdGood (List.mem_of_getElem? hme)).1
    have hrow1 : m₁ (Str.ofString "row") = some (.ref c.r.R) := (hm _ (by decide)).trans hrow
    have hseats1 : m₁ (Str.ofString "seats") = some (.ref d) := (hm _ (by decide)).trans hseats
    clear N₁
    k_steps
    (rename Obj.data _ = Data.cell (some (Value.int w1 _)) => d3)
    have R3 := R2.setW d3
    refine op_place (c := c) (lawCx X B T (by assumption) (by assumption)) (fun q hq => hq) R3 (by omega) ?_
    intro h4 tk4 t4 F4 N4
    have N5 := led_x N4
    clear N4 mT mdT mR mdR mka mys mba mI mM mP msub hd0' hma'
    obtain ⟨msub, mT, mdT, mR, mdR, mka, mys, mba, mI, mM, mP⟩ := R3.mems
    have hd0' := msub _ hd0
    k_steps
    (rename Flat _ _ => hv)
    obtain ⟨t9, rfl⟩ := flat_seat h₀ hdn hv
    k_steps
    refine op_has (c := c) (lawCx X B T (by assumption) (by assumption)) (fun q hq => hq) R3 ?_
    intro h6 tk6 F6 N6
    have N7 := led_x N6
    clear N6
    k_steps
    · exfalso
      (rename (_ != _) = true => hx)
      rw [hdn] at hx
      by_cases hq : n1 ∈ ns
      · rw [if_pos hq, decide_eq_true hq] at hx; cases hx
      · rw [if_neg hq, decide_eq_false hq] at hx; cases hx
    · exact nodes_end (v := v) R3 ho F6 N7 d3 (fun z hz => (if_neg hz).trans (hm z hz))
  · rintro m₁ nx h tk ⟨⟨o', rfl, x, dx⟩, hm⟩ F₁ N₁
    exact hQ _ _ _ _ hm F₁ N₁ (R.setW dx) ho
end
end
section
theorem freshF19 : True := by
  w_top off
  trivial
noncomputable def locs2 : List Str := [sx "k", sx "by", sx "here", sx "there"]
section
variable {w : World} {s : Shared} {L fa : Addr} {cd : Value} {h₀ : Heap} {m mg mb : Str → Option Value} {p : Program} {loose : List Str} {mean : ExcName → Option Value} {E : Value → Shared → Prop} {Q : Flow → Shared → Prop}
variable {c : CA} {v : SV} {ws : List Int} {ps : List (List (Int × Int))} {ns : List Int}
theorem made_fact (R : Rep w L c v ws (mdOf ws) ps ns) {k : Nat} (P : PInv ws ps ns k) {j : Int} (h0 : 0 ≤ j) (h1 : j < (mdOf ws).length) :
    ∃ a n u t1 t2 jj yk, v.mvs[j.toNat]? = some (.ref a) ∧ (a, tupO [.int n t1, .int u t2] jj) ∈ v.cst ∧ (1 ≤ n ∧ n ≤ ws.length ∧ ws.getD (n - 1).toNat 0 = u) ∧ (0 ≤ u ∧ u < 12) ∧ c.yvs[u.toNat]? = some (.ref yk) ∧ DatIn v.cst (.ref yk) (keyD (yOf u)) := by
  obtain ⟨a, n, u, t1, t2, jj, h2, h3, h4, _⟩ := made_at R.hmd h0 h1
  have hm : (n, u) ∈ mdOf ws := by
    rw [← h3]
    exact getD_mem2 (by omega)
  have g := P.mdGood hm
  obtain ⟨yk, h5, h6⟩ := key_at R.hyk g.2.1 g.2.2
  exact ⟨a, n, u, t1, t2, jj, yk, h2, h4, md_mem hm, g.2, h5, h6⟩
noncomputable def pairBody : List Stmt := match nth lawBody 10 with
  | .For _ _ b _ _ => (match b with
    | .For _ _ b' _ _ :: _ => b'
    | _ => [])
  | _ => []
set_option maxHeartbeats 4000000 in
theorem inner_B {k : Nat} {i d : Int} {tk1 td : Tok} {own : List (Addr × Obj)} (X : (hd.heap_39 w.params).In h₀) (B : Below callerA h₀ [] h₀) (T : Top p loose mean mg mb h₀) (F : Fr h₀ L s.heap m) (N : News h₀ L s.heap (Ldx L c v ++ own)) (R : Rep w L c v ws (mdOf ws) ps ns) (P : PInv ws ps ns k) (hk : k ≤ 29)
    (h0 : 0 ≤ i) (h1 : i < (mdOf ws).length) (mk : m (Str.ofString "k") = some (.int i tk1)) (mby : m (Str.ofString "by") = some (.int d td))
    (htree : m (Str.ofString "tree") = some (.ref c.ta.T)) (hmade : m (Str.ofString "made") = some (.ref c.mL))
    (hQ : ∀ h' tk v1 v2, Fr h₀ L h' (fun y => if y = Str.ofString "there" then some v1 else if y = Str.ofString "here" then some v2 else m y) → News h₀ L h' (Ldx L c v ++ own) → Q .next { s with heap := h', toks := tk }) :
    wpAny (model PySem.Challenge.rw_nt0595_01.row.prog w) (callerA.deeper (lawEnv L fa cd)) (execs pairBody (lawEnv L fa cd)) Q E s := by
  have hml := md_len ws
  have hwl := P.wl
  have hlen := R.hmd.length
  rw [List.length_map] at hlen
  revert X
  k_fill
  intro X
  have hh : callerA.handled = none := rfl
  unfold lawEnv
  conv => pattern (occs := *) lawScope; all_goals whnf
  conv => pattern (occs := *) pairBody; all_goals whnf
  obtain ⟨msub, mT, mdT, mR, mdR, mka, mys, mba, mI, mM, mP⟩ := R.mems
  have dK := R.dK
  obtain ⟨a, n, u, t1, t2, jj, yk, h2, h3, h4, h5, h6, h7⟩ := made_fact R P h0 h1
  have h3' := msub _ h3
  obtain ⟨i00, i01⟩ := fmod_bd (a := i + d) (b := ((mdOf ws).length : Int)) (by omega)
  obtain ⟨a0, n0, u0, t10, t20, jj0, yk0, g20, g30, g40, g50, g60, g70⟩ := made_fact R P i00 i01
  have gm0 := msub _ g30
  have hal0 : alk ws n0 n = decide (yOf u = yOf u0) := by rw [alk_eq P.wk g40.1 g40.2.1 h4.1 h4.2.1, h4.2.2, g40.2.2]
  k_steps
  refine op_alike (c := c) (v := v) (lawCx X B T (by assumption) (by assumption)) (by exact fun q hq => List.mem_append_left _ hq) R (by omega) (by omega) (by omega) (by omega) (by omega) ?_
  rw [hal0]
  intro h8 tk8 F8 N8
  k_steps
  exact hQ _ _ _ _ (by assumption) (by assumption)
theorem inner_C {k : Nat} {i d : Int} {tk1 td : Tok} {news : List (Addr × Obj)} (X : (hd.heap_39 w.params).In h₀) (B : Below callerA h₀ [] h₀) (T : Top p loose mean mg mb h₀) (F : Fr h₀ L s.heap m) (N : News h₀ L s.heap news) (hs : ∀ q ∈ Ldx L c v, q ∈ news) (R : Rep w L c v ws (mdOf ws) ps ns) (P : PInv ws ps ns k) (hk : k ≤ 29)
    (h0 : 0 ≤ i) (h1 : i < (mdOf ws).length) (mk : m (Str.ofString "k") = some (.int i tk1)) (mby : m (Str.ofString "by") = some (.int d td))
    (htree : m (Str.ofString "tree") = some (.ref c.ta.T)) (hmade : m (Str.ofString "made") = some (.ref c.mL))
    (hQ : ∀ h' tk v1 v2, Fr h₀ L h' (fun y => if y = Str.ofString "there" then some v1 else if y = Str.ofString "here" then some v2 else m y) → News h₀ L h' news → Q .next { s with heap := h', toks := tk }) :
    wpAny (model PySem.Challenge.rw_nt0595_01.row.prog w) (callerA.deeper (lawEnv L fa cd)) (execs pairBody (lawEnv L fa cd)) Q E s :=
  inner_B (own := news) X B T F (newsSub N fun q hq => (List.mem_append.mp hq).elim (hs q) id) R P hk h0 h1 mk mby htree hmade
    fun _ _ _ _ F' N' => hQ _ _ _ _ F' (newsSub N' fun _ hq => List.mem_append_right _ hq)
end
end
section
theorem freshG19 : True := by
  w_top off
  trivial
section
variable {w : World} {s : Shared} {L fa : Addr} {cd : Value} {h₀ : Heap} {m mg mb : Str → Option Value} {p : Program} {loose : List Str} {mean : ExcName → Option Value} {E : Value → Shared → Prop} {Q : Flow → Shared → Prop}
variable {c : CA} {v : SV} {ws : List Int} {ps : List (List (Int × Int))} {ns : List Int}
set_option maxHeartbeats 4000000 in
theorem pairs_B {k : Nat} (X : (hd.heap_39 w.params).In h₀) (B : Below callerA h₀ [] h₀) (T : Top p loose mean mg mb h₀) (F : Fr h₀ L s.heap m) (N : News h₀ L s.heap (Led L c v)) (R : Rep w L c v ws (mdOf ws) ps ns) (P : PInv ws ps ns k) (hk : k ≤ 29)
    (htree : m (Str.ofString "tree") = some (.ref c.ta.T)) (hmade : m (Str.ofString "made") = some (.ref c.mL))
    (hE : PassesOwn (model PySem.Challenge.rw_nt0595_01.row.prog w) (callerA.deeper (lawEnv L fa cd)) (lawEnv L fa cd) E)
    (hQ : ∀ h' tk m', Fr h₀ L h' m' → News h₀ L h' (Led L c v) → Q .next { s with heap := h', toks := tk }) :
    wpAny (model PySem.Challenge.rw_nt0595_01.row.prog w) (callerA.deeper (lawEnv L fa cd)) (exec (nth lawBody 10) (lawEnv L fa cd)) Q E s := by
  have hnl := P.nsLen
  have hml := md_len ws
  have hwl := P.wl
  have hlen := R.hmd.length
  rw [List.length_map] at hlen
  revert X
  k_fill
  intro X
  have hh : callerA.handled = none := rfl
  unfold lawEnv
  conv => pattern (occs := *) lawScope; all_goals whnf
  conv => pattern (occs := *) nth lawBody 10; all_goals whnf
  have N1 := led_x N
  obtain ⟨msub, mT, mdT, mR, mdR, mka, mys, mba, mI, mM, mP⟩ := R.mems
  have dK := R.dK
  k_steps
  refine rd_range (n := (mdOf ws).length) (fun _ m' => ∀ z, locs2.contains z = false → m' z = m z) hh (by assumption) ?_ ?_ (by assumption) (by assumption) (fun _ _ => rfl) ?_ ?_
  · exact small_up (by omega) (by omega)
  · rw [rangeSize_one]; split <;> omega
  · intro i t m₁ h tk own hi hm F₁ N₁
    have e0 : (0 : Int) + (i : Int) * 1 = (i : Int) := by omega
    rw [e0] at F₁
    have F2 : Fr h₀ L h (fun y => if y = Str.ofString "k" then some (.int (i : Int) t) else m₁ y) := F₁
    have N2 : News h₀ L h (Ldx L c v ++ own) := N₁
    clear F₁ N₁
    have htree1 : m₁ (Str.ofString "tree") = some (.ref c.ta.T) := (hm _ (by decide)).trans htree
    have hmade1 : m₁ (Str.ofString "made") = some (.ref c.mL) := (hm _ (by decide)).trans hmade
    refine wpAny_execs_cons ?_
    refine For_unrF F2 ?_ (by intro _; with_unfolding_all rfl) hE
    iterate 4
      (repeat' ((fail_if_success (with_reducible show wpAny _ _ (execs [_, _, _] _) _ _ _)); first | (k_unfold; (try dsimp only)) | walk1 | (dsimp only; walk1) | fail "no step"))
      (with_unfolding_all refine inner_C (i := (i : Int)) X B T (by assumption) (by assumption) (by exact fun q hq => List.mem_append_right _ (List.mem_cons_of_mem _ (List.mem_append_left _ hq))) R P hk (by omega) (by omega) (by rfl) (by rfl) (by exact htree1) (by exact hmade1) ?_)
      intro h8 tk8 v1 v2 F8 N8
    k_steps
    refine RdEnd.intro (by assumption) (by assumption) (by exact fun q hq => List.mem_cons_of_mem _ (List.mem_append_left _ hq)) (by exact fun q hq => List.mem_cons_of_mem _ (List.mem_append_right _ hq)) ?_
    intro z hz
    have z1 : z ≠ Str.ofString "there" := fun e => by rw [e] at hz; exact absurd hz (by decide)
    have z2 : z ≠ Str.ofString "here" := fun e => by rw [e] at hz; exact absurd hz (by decide)
    have z3 : z ≠ Str.ofString "by" := fun e => by rw [e] at hz; exact absurd hz (by decide)
    have z4 : z ≠ Str.ofString "k" := fun e => by rw [e] at hz; exact absurd hz (by decide)
    simp only [z1, z2, z3, z4, if_false]
    exact hm z hz
  · intro m₁ h tk hm F₁ N₁
    exact hQ _ _ _ F₁ N₁
end
end
section
theorem freshE20 : True := by
  w_top off
  trivial
section
variable {w : World} {A A₀ : Around} {E : Value → Shared → Prop} {s : Shared} {L : Addr} {h₀ base : Heap} {m mg mb : Str → Option Value} {news rest cst : List (Addr × Obj)} {p : Program} {loose : List Str} {mean : ExcName → Option Value} {env : Env} {outer : List Env}
set_option maxHeartbeats 4000000 in
theorem sort_xy {b p1 p2 : Addr} {t1 t2 t3 t4 : Tok} {n n1 n2 : Nat} {y1 y2 : Str} {Q : Value → Shared → Prop} (X₀ : (hd.heap_39 w.params).In h₀) (F : Fr h₀ L s.heap m) (N : News h₀ L s.heap news)
    (hb : (b, tupO [.ref p1, .ref p2] n) ∈ news) (h1 : (p1, tupO [.str (Str.ofString "x") t1, .str y1 t2] n1) ∈ news) (h2 : (p2, tupO [.str (Str.ofString "y") t3, .str y2 t4] n2) ∈ news)
    (hQ : ∀ h' tk D k, Fr h₀ L h' m → News h₀ L h' ((D, PySem.W.listOf [Value.ref p1, .ref p2].toArray k) :: news) → (∀ q ∈ news, @LT.lt Nat _ q.1 D) → Q (.ref D) {s with heap := h', toks := tk}) :
    wpAny (model PySem.Challenge.rw_nt0595_01.row.prog w) A (call (.builtin "sorted") [.ref b]) Q E s := by
  refine sortedT F N hb (by simp) ?_
  intro D k h1 P E' F1 N1 ho ne h0 lt hP
  refine kat_list_sort F1 N1 ho ne h0 (fun p hp => Nat.ne_of_lt (lt p hp)) (by simp) (by simp) ?_
  intro e1 h' F' N'
  clear F N F1 N1
  k_steps
  exact hP _ (hQ _ _ _ _ (by assumption) (by assumption) lt)
set_option maxHeartbeats 4000000 in
theorem sort_yx {b p1 p2 : Addr} {t1 t2 t3 t4 : Tok} {n n1 n2 : Nat} {y1 y2 : Str} {Q : Value → Shared → Prop} (X₀ : (hd.heap_39 w.params).In h₀) (F : Fr h₀ L s.heap m) (N : News h₀ L s.heap news)
    (hb : (b, tupO [.ref p1, .ref p2] n) ∈ news) (h1 : (p1, tupO [.str (Str.ofString "y") t1, .str y1 t2] n1) ∈ news) (h2 : (p2, tupO [.str (Str.ofString "x") t3, .str y2 t4] n2) ∈ news)
    (hQ : ∀ h' tk D k, Fr h₀ L h' m → News h₀ L h' ((D, PySem.W.listOf [Value.ref p2, .ref p1].toArray k) :: news) → (∀ q ∈ news, @LT.lt Nat _ q.1 D) → Q (.ref D) {s with heap := h', toks := tk}) :
    wpAny (model PySem.Challenge.rw_nt0595_01.row.prog w) A (call (.builtin "sorted") [.ref b]) Q E s := by
  refine sortedT F N hb (by simp) ?_
  intro D k h1 P E' F1 N1 ho ne h0 lt hP
  refine kat_list_sort F1 N1 ho ne h0 (fun p hp => Nat.ne_of_lt (lt p hp)) (by simp) (by simp) ?_
  intro e1 h' F' N'
  clear F N F1 N1
  k_steps
  exact hP _ (hQ _ _ _ _ (by assumption) (by assumption) lt)
set_option maxHeartbeats 4000000 in
theorem sort_xz {b p1 p2 : Addr} {t1 t2 t3 t4 : Tok} {n n1 n2 : Nat} {y1 y2 : Str} {Q : Value → Shared → Prop} (X₀ : (hd.heap_39 w.params).In h₀) (F : Fr h₀ L s.heap m) (N : News h₀ L s.heap news)
    (hb : (b, tupO [.ref p1, .ref p2] n) ∈ news) (h1 : (p1, tupO [.str (Str.ofString "x") t1, .str y1 t2] n1) ∈ news) (h2 : (p2, tupO [.str (Str.ofString "z") t3, .str y2 t4] n2) ∈ news)
    (hQ : ∀ h' tk D k, Fr h₀ L h' m → News h₀ L h' ((D, PySem.W.listOf [Value.ref p1, .ref p2].toArray k) :: news) → (∀ q ∈ news, @LT.lt Nat _ q.1 D) → Q (.ref D) {s with heap := h', toks := tk}) :
    wpAny (model PySem.Challenge.rw_nt0595_01.row.prog w) A (call (.builtin "sorted") [.ref b]) Q E s := by
  refine sortedT F N hb (by simp) ?_
  intro D k h1 P E' F1 N1 ho ne h0 lt hP
  refine kat_list_sort F1 N1 ho ne h0 (fun p hp => Nat.ne_of_lt (lt p hp)) (by simp) (by simp) ?_
  intro e1 h' F' N'
  clear F N F1 N1
  k_steps
  exact hP _ (hQ _ _ _ _ (by assumption) (by assumption) lt)
set_option maxHeartbeats 4000000 in
theorem sort_xyz {b p1 p2 p3 : Addr} {t1 t2 t3 t4 t5 t6 : Tok} {n n1 n2 n3 : Nat} {y1 y2 y3 : Str} {Q : Value → Shared → Prop} (X₀ : (hd.heap_39 w.params).In h₀) (F : Fr h₀ L s.heap m) (N : News h₀ L s.heap news)
    (hb : (b, tupO [.ref p1, .ref p2, .ref p3] n) ∈ news) (h1 : (p1, tupO [.str (Str.ofString "x") t1, .str y1 t2] n1) ∈ news) (h2 : (p2, tupO [.str (Str.ofString "y") t3, .str y2 t4] n2) ∈ news) (h3 : (p3, tupO [.str (Str.ofString "z") t5, .str y3 t6] n3) ∈ news)
    (hQ : ∀ h' tk D k, Fr h₀ L h' m → News h₀ L h' ((D, PySem.W.listOf [Value.ref p1, .ref p2, .ref p3].toArray k) :: news) → (∀ q ∈ news, @LT.lt Nat _ q.1 D) → Q (.ref D) {s with heap := h', toks := tk}) :
    wpAny (model PySem.Challenge.rw_nt0595_01.row.prog w) A (call (.builtin "sorted") [.ref b]) Q E s := by
  refine sortedT F N hb (by simp) ?_
  intro D k h1 P E' F1 N1 ho ne h0 lt hP
  refine kat_list_sort F1 N1 ho ne h0 (fun p hp => Nat.ne_of_lt (lt p hp)) (by simp) (by simp) ?_
  intro e1 h' F' N'
  clear F N F1 N1
  k_steps
  exact hP _ (hQ _ _ _ _ (by assumption) (by assumption) lt)
theorem sort_few {b : Addr} {vs : List Value} {n : Nat} {Q : Value → Shared → Prop} (F : Fr h₀ L s.heap m) (N : News h₀ L s.heap news) (hb : (b, tupO vs n) ∈ news) (hv : vs.length < 2)
    (hQ : ∀ h' tk D k, Fr h₀ L h' m → News h₀ L h' ((D, PySem.W.listOf vs.toArray k) :: news) → (∀ q ∈ news, @LT.lt Nat _ q.1 D) → Q (.ref D) {s with heap := h', toks := tk}) :
    wpAny (model PySem.Challenge.rw_nt0595_01.row.prog w) A (call (.builtin "sorted") [.ref b]) Q E s := by
  refine sortedT F N hb (by omega) ?_
  intro D k h1 P E' F1 N1 ho ne h0 lt hP
  refine sort_short F1 N1 ho ne h0 (fun p hp => Nat.ne_of_lt (lt p hp)) hv ?_
  intro e1 h' F' N'
  exact hP _ (hQ _ _ _ _ F' N' lt)
noncomputable abbrev pairD (p : Str × Str) : Dat := .tuple [.str p.1, .str p.2]
theorem len1 {vs : List Value} {n : Nat} (h : vs.length = n + 1) : ∃ v r, vs = v :: r ∧ r.length = n := by
  cases vs with
  | nil => simp at h
  | cons v r => exact ⟨v, r, rfl, by simpa using h⟩
noncomputable abbrev kAt (k : Nat) : List (Str × Str) := (KS.getD k kd0).2.2
noncomputable abbrev yAt (k : Nat) : List (Str × Str) := (YS.getD k kd0).2.2
noncomputable abbrev sAt (k i : Nat) : Str := ((kAt k).getD i (sx "", sx "")).2
theorem ks_dec : ∀ k < 12, (kAt k = [(sx "x", sAt k 0), (sx "y", sAt k 1)] ∧ yAt k = [(sx "x", sAt k 0), (sx "y", sAt k 1)]) ∨ (kAt k = [(sx "y", sAt k 0), (sx "x", sAt k 1)] ∧ yAt k = [(sx "x", sAt k 1), (sx "y", sAt k 0)]) ∨ (kAt k = [(sx "x", sAt k 0), (sx "z", sAt k 1)] ∧ yAt k = [(sx "x", sAt k 0), (sx "z", sAt k 1)])
    ∨ (kAt k = [(sx "x", sAt k 0), (sx "y", sAt k 1), (sx "z", sAt k 2)] ∧ yAt k = [(sx "x", sAt k 0), (sx "y", sAt k 1), (sx "z", sAt k 2)]) ∨ ((kAt k).length < 2 ∧ yAt k = kAt k) := by decide +kernel
theorem pair_at2 {cst : List (Addr × Obj)} {pvs : List Value} {ps : List (Str × Str)} {a b : Str} (h : DatAll cst pvs (ps.map pairD)) (i : Nat) {v : Value} (hp : ps[i]? = some (a, b)) (hv : pvs[i]? = some v) :
    ∃ at' t1 t2 n, v = .ref at' ∧ (at', tupO [.str a t1, .str b t2] n) ∈ cst := by
  obtain ⟨x, y, p1, t1, t2, n1, e1, e2, m1⟩ := pair_at h hv
  rw [hp] at e1
  cases e1
  exact ⟨_, _, _, _, e2, m1⟩
theorem len2 {cst : List (Addr × Obj)} {vs : List Value} {a b : Str × Str} (h : DatAll cst vs ([a, b].map pairD)) : ∃ p1 t1 t2 n1 p2 t3 t4 n2, vs = [.ref p1, .ref p2] ∧ (p1, tupO [.str a.1 t1, .str a.2 t2] n1) ∈ cst ∧ (p2, tupO [.str b.1 t3, .str b.2 t4] n2) ∈ cst := by
  obtain ⟨v1, r1, rfl, l1⟩ := len1 (n := 1) h.length
  obtain ⟨v2, r2, rfl, l2⟩ := len1 (n := 0) l1
  obtain rfl := List.length_eq_zero_iff.mp l2
  obtain ⟨p1, t1, t2, n1, rfl, m1⟩ := pair_at2 h 0 rfl rfl
  obtain ⟨p2, t3, t4, n2, rfl, m2⟩ := pair_at2 h 1 rfl rfl
  exact ⟨_, _, _, _, _, _, _, _, rfl, m1, m2⟩
theorem sort_K {k : Nat} (hk : k < 12) {b : Addr} {pvs : List Value} {n : Nat} {Q : Value → Shared → Prop} (X₀ : (hd.heap_39 w.params).In h₀) (F : Fr h₀ L s.heap m) (N : News h₀ L s.heap news) (hb : (b, tupO pvs n) ∈ news) (hd : DatAll cst pvs ((KS.getD k kd0).2.2.map pairD)) (sub : ∀ q ∈ cst, q ∈ news)
    (hQ : ∀ h' tk D qvs e, Fr h₀ L h' m → News h₀ L h' ((D, PySem.W.listOf (List.toArray qvs) e) :: news) → (∀ q ∈ news, @LT.lt Nat _ q.1 D) → DatAll cst qvs ((YS.getD k kd0).2.2.map pairD) → Q (.ref D) {s with heap := h', toks := tk}) :
    wpAny (model PySem.Challenge.rw_nt0595_01.row.prog w) A (call (.builtin "sorted") [.ref b]) Q E s := by
  have q := ks_dec k hk
  have hQ' : ∀ h' tk D qvs e, Fr h₀ L h' m → News h₀ L h' ((D, PySem.W.listOf (List.toArray qvs) e) :: news) → (∀ q ∈ news, @LT.lt Nat _ q.1 D) → DatAll cst qvs ((yAt k).map pairD) → Q (.ref D) {s with heap := h', toks := tk} := hQ
  replace hd : DatAll cst pvs ((kAt k).map pairD) := hd
  clear hQ
  rcases q with ⟨e1, e2⟩ | ⟨e1, e2⟩ | ⟨e1, e2⟩ | ⟨e1, e2⟩ | ⟨e1, e2⟩
  · rw [e1] at hd
    rw [e2] at hQ'
    obtain ⟨_, _, _, _, _, _, _, _, rfl, m1, m2⟩ := len2 hd
    exact sort_xy X₀ F N hb (sub _ m1) (sub _ m2) fun h' tk D k F' N' lt => hQ' h' tk D _ k F' N' lt hd
  · rw [e1] at hd
    rw [e2] at hQ'
    obtain ⟨_, _, _, _, _, _, _, _, rfl, m1, m2⟩ := len2 hd
    exact sort_yx X₀ F N hb (sub _ m1) (sub _ m2) fun h' tk D k F' N' lt => hQ' h' tk D _ k F' N' lt (.cons (.tuple m2 (.cons (.str _ _) (.cons (.str _ _) .nil))) (.cons (.tuple m1 (.cons (.str _ _) (.cons (.str _ _) .nil))) .nil))
  · rw [e1] at hd
    rw [e2] at hQ'
    obtain ⟨_, _, _, _, _, _, _, _, rfl, m1, m2⟩ := len2 hd
    exact sort_xz X₀ F N hb (sub _ m1) (sub _ m2) fun h' tk D k F' N' lt => hQ' h' tk D _ k F' N' lt hd
  · rw [e1] at hd
    rw [e2] at hQ'
    obtain ⟨v1, r1, rfl, l1⟩ := len1 (n := 2) hd.length
    obtain ⟨v2, r2, rfl, l2⟩ := len1 (n := 1) l1
    obtain ⟨v3, r3, rfl, l3⟩ := len1 (n := 0) l2
    obtain rfl := List.length_eq_zero_iff.mp l3
    obtain ⟨p1, t1, t2, n1, rfl, m1⟩ := pair_at2 hd 0 rfl rfl
    obtain ⟨p2, t3, t4, n2, rfl, m2⟩ := pair_at2 hd 1 rfl rfl
    obtain ⟨p3, t5, t6, n3, rfl, m3⟩ := pair_at2 hd 2 rfl rfl
    exact sort_xyz X₀ F N hb (sub _ m1) (sub _ m2) (sub _ m3) fun h' tk D k F' N' lt => hQ' h' tk D _ k F' N' lt hd
  · rw [e2] at hQ'
    have hlen := hd.length
    rw [List.length_map] at hlen
    exact sort_few F N hb (by rw [hlen]; exact e1) fun h' tk D k F' N' lt => hQ' h' tk D _ k F' N' lt hd
end
end
section
theorem freshE21 : True := by
  w_top off
  trivial
noncomputable def Shape (o : Obj) : Prop := (∃ vs n, o = tupO vs n) ∨ ∃ vs n, o = PySem.W.listOf (List.toArray vs) n
theorem keys_end {m : Str → Option Value} {h₀ h' : Heap} {L ka I C D S TT : Addr} {rest cst nx : List (Addr × Obj)} {kvs ys qvs : List Value} {kn e n i tk : Nat} {oI oC oK : Obj} {t1 t2 : Tok} {s₁ : Shared} (hi' : i < 12) (F : Fr h₀ L h' m)
    (N : News h₀ L h' ((TT, tupO [.str (KS.getD i kd0).1 t1, .str (KS.getD i kd0).2.1 t2, .ref S] n) :: (S, PySem.W.listOf (List.toArray qvs) e) :: (I, oI) :: (C, oC) :: (D, LCg.lst ys) :: (nx ++ ((L + 1, oK) :: rest))))
    (hka : (ka, tupO kvs kn) ∈ rest) (sub : ∀ q ∈ cst, q ∈ rest) (lt2 : @LT.lt Nat _ I S ∧ @LT.lt Nat _ C S ∧ @LT.lt Nat _ D S ∧ AllLt S (nx ++ ((L + 1, oK) :: rest)))
    (q9 : @LT.lt Nat _ S TT ∧ @LT.lt Nat _ I TT ∧ @LT.lt Nat _ C TT ∧ @LT.lt Nat _ D TT ∧ AllLt TT (nx ++ ((L + 1, oK) :: rest))) (hd2 : DatAll cst qvs ((YS.getD i kd0).2.2.map pairD)) (o3 : LCg.Off3 I C D (nx ++ ((L + 1, oK) :: rest)))
    (hok : DatAll (nx ++ cst) ys ((YS.take i).map keyD)) (hsh : ∀ p ∈ nx, Shape p.2) (hof : ∀ p ∈ nx, ∀ q ∈ (L + 1, oK) :: rest, q.1 ≠ p.1) :
    LCg.CompEnd h₀ L m s₁ I oI C oC D (LCg.lst ys) (fun nx => (ka, tupO kvs kn) ∈ nx) (fun y news' => ∃ nx, news' = nx ++ ((L + 1, oK) :: rest) ∧ DatAll (nx ++ cst) (ys ++ [y]) ((YS.take (i + 1)).map keyD) ∧ (∀ p ∈ nx, Shape p.2) ∧ ∀ p ∈ nx, ∀ q ∈ (L + 1, oK) :: rest, q.1 ≠ p.1) (.ref TT) { s₁ with heap := h', toks := tk } := by
  obtain ⟨s1, s2, s3, s4⟩ := lt2
  obtain ⟨u0, u1, u2, u3, u4⟩ := q9
  have hsz := allLt_mem s4
  have huz := allLt_mem u4
  have etk : YS.take (i + 1) = YS.take i ++ [YS.getD i kd0] := by
    have hY : YS.length = 12 := rfl
    rw [List.take_add_one, List.getD_eq_getElem?_getD, List.getElem?_eq_getElem (by omega)]; rfl
  have ek1 : (YS.getD i kd0).1 = (KS.getD i kd0).1 ∧ (YS.getD i kd0).2.1 = (KS.getD i kd0).2.1 := by
    have : ∀ i < 12, (YS.getD i kd0).1 = (KS.getD i kd0).1 ∧ (YS.getD i kd0).2.1 = (KS.getD i kd0).2.1 := by decide +kernel
    exact this i hi'
  refine LCg.CompEnd.intro F N ((TT, tupO [.str (KS.getD i kd0).1 t1, .str (KS.getD i kd0).2.1 t2, .ref S] n) :: (S, PySem.W.listOf (List.toArray qvs) e) :: (nx ++ ((L + 1, oK) :: rest))) ?_ ?_ ?_ ?_
  · intro q hq
    rcases List.mem_cons.mp hq with h | hq
    · exact List.mem_cons_of_mem _ (List.mem_cons_of_mem _ (List.mem_cons.mpr (.inl h)))
    · rcases List.mem_cons.mp hq with h | hq
      · exact List.mem_cons_of_mem _ (List.mem_cons_of_mem _ (List.mem_cons_of_mem _ (List.mem_cons.mpr (.inl h))))
      · rcases List.mem_cons.mp hq with h | hq
        · exact List.mem_cons_of_mem _ (List.mem_cons_of_mem _ (List.mem_cons_of_mem _ (List.mem_cons_of_mem _ (List.mem_cons.mpr (.inl h)))))
        · rcases List.mem_cons.mp hq with h | hq
          · exact List.mem_cons.mpr (.inl h)
          · rcases List.mem_cons.mp hq with h | hq
            · exact List.mem_cons_of_mem _ (List.mem_cons.mpr (.inl h))
            · exact List.mem_cons_of_mem _ (List.mem_cons_of_mem _ (List.mem_cons_of_mem _ (List.mem_cons_of_mem _ (List.mem_cons_of_mem _ hq))))
  · exact ⟨⟨Nat.ne_of_gt u1, Nat.ne_of_gt u2, Nat.ne_of_gt u3⟩, ⟨Nat.ne_of_gt s1, Nat.ne_of_gt s2, Nat.ne_of_gt s3⟩, o3⟩
  · exact List.mem_cons_of_mem _ (List.mem_cons_of_mem _ (List.mem_append_right _ (List.mem_cons_of_mem _ hka)))
  · refine ⟨(TT, tupO [.str (KS.getD i kd0).1 t1, .str (KS.getD i kd0).2.1 t2, .ref S] n) :: (S, PySem.W.listOf (List.toArray qvs) e) :: nx, rfl, ?_, ?_, ?_⟩
    · rw [etk, List.map_append]
      refine DatAll.append (DatAll.mono (fun q hq => List.mem_cons_of_mem _ (List.mem_cons_of_mem _ hq)) hok) (.one ?_)
      refine .tuple (List.mem_cons_self) ?_
      rw [ek1.1, ek1.2]
      refine .cons (.str _ _) (.cons (.str _ _) (.cons (.list (List.mem_cons_of_mem _ (List.mem_cons_self)) ?_) .nil))
      exact DatAll.mono (fun q hq => List.mem_cons_of_mem _ (List.mem_cons_of_mem _ (List.mem_append_right _ hq))) hd2
    · intro q hq
      rcases List.mem_cons.mp hq with rfl | hq
      · exact .inl ⟨_, _, rfl⟩
      · rcases List.mem_cons.mp hq with rfl | hq
        · exact .inr ⟨_, _, rfl⟩
        · exact hsh q hq
    · intro q hq z hz
      rcases List.mem_cons.mp hq with rfl | hq
      · exact Nat.ne_of_lt (huz z (List.mem_append_right _ hz))
      · rcases List.mem_cons.mp hq with rfl | hq
        · exact Nat.ne_of_lt (hsz z (List.mem_append_right _ hz))
        · exact hof q hq z hz
section
variable {w : World} {s : Shared} {L fa : Addr} {cd : Value} {h₀ : Heap} {m mg mb : Str → Option Value} {p : Program} {loose : List Str} {mean : ExcName → Option Value} {E : Value → Shared → Prop} {Q : Flow → Shared → Prop} {rest cst : List (Addr × Obj)}
set_option maxHeartbeats 4000000 in
theorem keys_B {ka : Addr} {kvs : List Value} {kn : Nat} {oK : Obj} {x : Option Value} (X : (hd.heap_39 w.params).In h₀) (B : Below callerA h₀ [] h₀) (T : Top p loose mean mg mb h₀) (F : Fr h₀ L s.heap m) (N : News h₀ L s.heap ((L + 1, oK) :: rest)) (hoK : ∀ p ∈ rest, p.1 ≠ L + 1) (dK : oK.data = .cell x)
    (hkm : m (Str.ofString "kinds") = some (.ref ka)) (hka : (ka, tupO kvs kn) ∈ rest) (hks : DatAll cst kvs (KS.map kindD)) (sub : ∀ q ∈ cst, q ∈ rest)
    (hQ : ∀ h' tk D yvs nx oK', Fr h₀ L h' m → News h₀ L h' ((L + 1, oK') :: (D, LCg.lst yvs) :: (nx ++ rest)) → oK'.data = .cell (some (.ref D)) → DatAll (nx ++ cst) yvs (YS.map keyD) → (∀ p ∈ nx, Shape p.2) → (∀ p ∈ nx, ∀ q ∈ (L + 1, oK) :: rest, q.1 ≠ p.1) → (∀ q ∈ nx ++ (L + 1, oK) :: rest, q.1 ≠ D) → Q .next { s with heap := h', toks := tk }) :
    wpAny (model PySem.Challenge.rw_nt0595_01.row.prog w) (callerA.deeper (lawEnv L fa cd)) (exec (nth lawBody 3) (lawEnv L fa cd)) Q E s := by
  have hlen := hks.length
  rw [List.length_map] at hlen
  have hl12 : kvs.length = 12 := hlen
  revert X
  k_fill
  intro X
  have hh : callerA.handled = none := rfl
  unfold lawEnv
  conv => pattern (occs := *) lawScope; all_goals whnf
  conv => pattern (occs := *) nth lawBody 3; all_goals whnf
  refine wpAny_Assign_Name ?_ rfl
  refine' ListComp_Tup (m := m) (h₀ := h₀) (L := L) ?a ?b ?c ?d ?e ?_
  (case a => exact rfl)
  (case b => decide)
  (case c => exact rfl)
  (case d => decide)
  (case e => exact rfl)
  k_steps
  refine ⟨ka, kvs, kn, _, rfl, rfl, F, N, List.mem_cons_of_mem _ hka, by omega, fun g => ?_⟩
  refine' lc_restU (n := kvs.toArray.size) (fun i ys nx' => ∃ nx, nx' = nx ++ ((L + 1, oK) :: rest) ∧ DatAll (nx ++ cst) ys ((YS.take i).map keyD) ∧ (∀ p ∈ nx, Shape p.2) ∧ ∀ p ∈ nx, ∀ q ∈ (L + 1, oK) :: rest, q.1 ≠ p.1) ?step ?fin _ 0 [] _ (Nat.zero_add _) ⟨[], rfl, .nil, (fun _ h => nomatch h), fun _ h => nomatch h⟩
  (case step =>
    rintro i ys nx' v I oI C oC D m₂ h tk' E' hi ⟨nx, rfl, hok, hsh, hof⟩ hP hC hx F₁ N₁ o3 ne
    have hi' : i < 12 := by
      rw [List.size_toArray, hl12] at hi
      exact hi
    obtain ⟨a, b, t1, t2, n, pvs, n', hkv, hma, hmb, hkd, hkl⟩ := kind_at hks (k := (i : Int)) (by omega) (by rw [show KS.length = 12 from rfl]; omega)
    have hv' : v = .ref a := by
      have hP' : kvs[i]? = some v := by simpa using hP
      exact Option.some.inj (hP'.symm.trans hkv)
    subst hv'
    have hma' := sub _ hma
    have hmb' := sub _ hmb
    have hka' := hka
    k_steps
    have sub2 : ∀ q ∈ rest, q ∈ (I, oI) :: (C, oC) :: (D, LCg.lst ys) :: (nx ++ ((L + 1, oK) :: rest)) := fun q hq => List.mem_cons_of_mem _ (List.mem_cons_of_mem _ (List.mem_cons_of_mem _ (List.mem_append_right _ (List.mem_cons_of_mem _ hq))))
    refine sort_K (k := i) (cst := cst) hi' X F₁ N₁ (sub2 _ hmb') hkd (fun q hq => sub2 q (sub q hq)) ?_
    intro h2 tk2 S qvs e F2 N2 lt2 hd2
    have hltS := lt2
    k_lt lt2
    clear F₁ N₁
    k_steps
    (rename _ ∧ _ ∧ _ ∧ _ ∧ AllLt _ _ => q9)
    (rename News _ _ _ _ => N3)
    exact keys_end hi' (by assumption) N3 hka sub lt2 q9 hd2 o3 hok hsh hof)
  (case fin =>
    rintro ys nx' ⟨nx, rfl, hok, hsh, hof⟩ D h tk' F₁ N₁ o1
    rw [List.size_toArray, hl12, show YS.take 12 = YS from rfl] at hok
    dsimp only
    have off := off1_mem o1
    have N4 : News h₀ L h ((L + 1, oK) :: ((D, LCg.lst ys) :: (nx ++ rest))) := by
      refine newsSub N₁ fun q hq => ?_
      simp only [List.mem_cons, List.mem_append] at hq ⊢
      rcases hq with h | h | h | h
      · exact .inr (.inr (.inl h))
      · exact .inl h
      · exact .inr (.inl h)
      · exact .inr (.inr (.inr h))
    refine' storeX_C F₁ N4 ?cc (UpdF.head ?uu) dK ?_ ?aa ?bb
    (case aa => rfl)
    (case bb => rfl)
    (case cc => rfl)
    (case uu =>
      intro q hq
      simp only [List.mem_cons, List.mem_append] at hq
      rcases hq with rfl | h | h
      · exact fun e => off (L + 1, oK) (List.mem_append_right _ (List.mem_cons_self)) e.symm
      · exact fun e => hof q h (L + 1, oK) (List.mem_cons_self) e.symm
      · exact hoK q h)
    intro h5 o5 F5 N5 d5
    k_steps
    exact hQ _ _ _ _ _ _ F5 N5 d5 hok hsh hof off)
end
end
section
theorem freshE22 : True := by
  w_top off
  trivial
noncomputable abbrev cells0 (L : Addr) (oN oO oW oP oK : Obj) : List (Addr × Obj) := [(L + 1 + 1 + 1 + 1 + 1, oN), (L + 1 + 1 + 1 + 1, oO), (L + 1 + 1 + 1, oW), (L + 1 + 1, oP), (L + 1, oK)]
theorem perm5 {a b c d e : Addr × Obj} {l : List (Addr × Obj)} : ∀ z ∈ e :: a :: b :: c :: d :: l, z ∈ a :: b :: c :: d :: e :: l := by
  intro z hz
  simp only [List.mem_cons] at hz ⊢
  rcases hz with h | h | h | h | h | h
  · exact .inr (.inr (.inr (.inr (.inl h))))
  · exact .inl h
  · exact .inr (.inl h)
  · exact .inr (.inr (.inl h))
  · exact .inr (.inr (.inr (.inl h)))
  · exact .inr (.inr (.inr (.inr (.inr h))))
section
variable {w : World} {s : Shared} {L fa : Addr} {cd : Value} {h₀ : Heap} {m mg mb : Str → Option Value} {p : Program} {loose : List Str} {mean : ExcName → Option Value} {E : Value → Shared → Prop} {Q : Flow → Shared → Prop} {rest cst news : List (Addr × Obj)}
set_option maxHeartbeats 4000000 in
theorem pre1_B {restL : List Stmt} (X : (hd.heap_39 w.params).In h₀) (B : Below callerA h₀ [] h₀) (T : Top p loose mean mg mb h₀) (F : Fr h₀ L s.heap m) (N : News h₀ L s.heap news)
    (hQ : ∀ h' tk (ta : TA) (r : RA) ka kvs kn cst3 (t0 t1 t2 t3 t4 : Tok) al cl ac j0 j1 j2 j3 j4 j5 j6 j7, AllLt ta.kL news → Ord7 ta → @LT.lt Nat _ ta.cL al → AllLt al news → (∀ p ∈ cst3, ∃ vs n, p.2 = tupO vs n) → (ka, tupO kvs kn) ∈ cst3 → DatAll cst3 kvs (KS.map kindD) →
      @LT.lt Nat _ al r.iL → AllLt r.iL news → Fr h₀ L h' (fun y => if y = Str.ofString "kinds" then some (.ref ka) else if y = Str.ofString "row" then some (.ref r.R) else if y = Str.ofString "tree" then some (.ref ta.T) else m y) →
      News h₀ L h' (cst3 ++ ((r.iL, PySem.W.listOf #[] j7) :: (r.R, instObj 101 r.dR) :: (r.dR, dictOf (rEs w.params r ta.T) 2) :: (led7 ta [.str (Str.ofString "document") t0] [.str (Str.ofString "") t1] [.str (Str.ofString "") t2] [.ref al] [.str (Str.ofString "") t3] [.int (-1) t4] [.ref cl] j0 j1 j2 j3 j4 j5 j6 ++ ((ta.T, instObj 257 ta.dT) :: (ta.dT, dictOf (tEs w.params ta) 8) :: (al, PySem.W.listOf #[] ac) :: news)))) →
      wpAny (model PySem.Challenge.rw_nt0595_01.row.prog w) (callerA.deeper (lawEnv L fa cd)) (execs restL (lawEnv L fa cd)) Q E { s with heap := h', toks := tk }) :
    wpAny (model PySem.Challenge.rw_nt0595_01.row.prog w) (callerA.deeper (lawEnv L fa cd)) (execs (nth lawBody 0 :: nth lawBody 1 :: nth lawBody 2 :: restL) (lawEnv L fa cd)) Q E s := by
  revert X
  k_fill
  intro X
  have hh : callerA.handled = none := rfl
  unfold lawEnv
  conv => pattern (occs := *) lawScope; all_goals whnf
  conv => pattern (occs := *) nth lawBody 0; all_goals whnf
  conv => pattern (occs := *) nth lawBody 1; all_goals whnf
  conv => pattern (occs := *) nth lawBody 2; all_goals whnf
  k_steps
  refine tree_K (lawCx X B T F N) ?_
  intro h1 tk1 ta t0 t1 t2 t3 t4 al cl ac j0 j1 j2 j3 j4 j5 j6 q1 q2 q3 q4 F1 N1
  clear F N
  k_steps
  refine row_K (lawCx X B T (by assumption) (by assumption)) ?_
  intro h2 tk2 r j7 q5 q6 q7 q8 F2 N2
  k_steps
  refine kinds_K ((lawCx X B T (by assumption) (by assumption)).to (by assumption) (by decide)) ?_
  intro h3 tk3 ka kvs kn cst3 F3 N3 q9 q10 q11
  k_steps
  have hi7 := allLt_mem q7
  refine hQ _ _ ta r ka kvs kn cst3 t0 t1 t2 t3 t4 al cl ac j0 j1 j2 j3 j4 j5 j6 j7 q1 q2 q3 q4 q9 q10 q11 (hi7 (al, PySem.W.listOf #[] ac) (by simp)) (allLt_of fun z hz => hi7 z (by simp [hz])) (by assumption) (by assumption)
set_option maxHeartbeats 4000000 in
theorem pre2_B {restL : List Stmt} {oP : Obj} {x : Option Value} (X : (hd.heap_39 w.params).In h₀) (B : Below callerA h₀ [] h₀) (T : Top p loose mean mg mb h₀) (F : Fr h₀ L s.heap m) (N : News h₀ L s.heap ((L + 1 + 1, oP) :: news)) (hoP : ∀ p ∈ news, p.1 ≠ L + 1 + 1) (dP : oP.data = .cell x)
    (hQ : ∀ h' tk ba bvs bn mL q pL n1 n2 n3 oP', IntsAre bvs BS → AllLt mL ((L + 1 + 1, oP) :: news) → AllLt q ((L + 1 + 1, oP) :: news) → AllLt pL ((L + 1 + 1, oP) :: news) → @LT.lt Nat _ mL q → @LT.lt Nat _ q pL → oP'.data = .cell (some (.ref pL)) → @LT.lt Nat _ ba mL →
      Fr h₀ L h' (fun y => if y = Str.ofString "made" then some (.ref mL) else if y = Str.ofString "base" then some (.ref ba) else m y) →
      News h₀ L h' ((L + 1 + 1, oP') :: (pL, PySem.W.listOf [Value.ref q].toArray n1) :: (q, PySem.W.listOf #[] n2) :: (mL, PySem.W.listOf #[] n3) :: (ba, tupO bvs bn) :: news) →
      wpAny (model PySem.Challenge.rw_nt0595_01.row.prog w) (callerA.deeper (lawEnv L fa cd)) (execs restL (lawEnv L fa cd)) Q E { s with heap := h', toks := tk }) :
    wpAny (model PySem.Challenge.rw_nt0595_01.row.prog w) (callerA.deeper (lawEnv L fa cd)) (execs (nth lawBody 4 :: nth lawBody 5 :: nth lawBody 6 :: restL) (lawEnv L fa cd)) Q E s := by
  revert X
  k_fill
  intro X
  have hh : callerA.handled = none := rfl
  unfold lawEnv
  conv => pattern (occs := *) lawScope; all_goals whnf
  conv => pattern (occs := *) nth lawBody 4; all_goals whnf
  conv => pattern (occs := *) nth lawBody 5; all_goals whnf
  conv => pattern (occs := *) nth lawBody 6; all_goals whnf
  k_steps
  refine base_K ((lawCx X B T F N).to N (by decide)) ?_
  intro h1 tk1 ba bvs bn F1 N1 q1
  clear F N
  have hne : (@Ne Nat ba (L + 1 + 1)) := by
    intro e
    have a := (N1 _ (List.mem_cons_self)).1
    have b := (N1 (L + 1 + 1, oP) (List.mem_cons_of_mem _ (List.mem_cons_self))).1
    dsimp only at a b
    rw [e, b] at a
    have := Option.some.inj a
    rw [this] at dP
    cases dP
  k_steps
  (rename _ ∧ _ ∧ _ ∧ _ ∧ AllLt _ news => e3)
  (rename _ ∧ _ ∧ _ ∧ AllLt _ news => e2)
  (rename _ ∧ _ ∧ AllLt _ news => e1)
  (rename Obj.data _ = Data.cell (some (Value.ref _)) => d5)
  (rename News _ _ _ _ => N5)
  refine hQ _ _ ba bvs bn _ _ _ _ _ _ _ q1 ⟨e1.2.1, e1.2.2⟩ ⟨e2.2.2.1, e2.2.2.2⟩ ⟨e3.2.2.2.1, e3.2.2.2.2⟩ e2.1 e3.1 d5 e1.1 (by assumption) (newsSub N5 perm5)
end
end
section
theorem freshE23 : True := by
  w_top off
  trivial
noncomputable abbrev midL (P : Params) (ta : TA) (r : RA) (t0 t1 t2 t3 t4 : Tok) (al cl : Addr) (ac j0 j1 j2 j3 j4 j5 j6 j7 : Nat) : List (Addr × Obj) :=
  (r.iL, PySem.W.listOf #[] j7) :: (r.R, instObj 101 r.dR) :: (r.dR, dictOf (rEs P r ta.T) 2) :: (led7 ta [.str (Str.ofString "document") t0] [.str (Str.ofString "") t1] [.str (Str.ofString "") t2] [.ref al] [.str (Str.ofString "") t3] [.int (-1) t4] [.ref cl] j0 j1 j2 j3 j4 j5 j6 ++ [(ta.T, instObj 257 ta.dT), (ta.dT, dictOf (tEs P ta) 8), (al, PySem.W.listOf #[] ac)])
noncomputable def NoCell (o : Obj) : Prop := ∀ x, o.data ≠ .cell x
theorem apart_cell {h₀ h : Heap} {L a : Addr} {news : List (Addr × Obj)} {p : Addr × Obj} {oc : Obj} {x : Option Value} (N : News h₀ L h news) (hp : p ∈ news) (hc : (a, oc) ∈ news) (hd : oc.data = .cell x) (hn : NoCell p.2) : p.1 ≠ a := by
  intro e
  have h1 := (N p hp).1
  have h2 := (N _ hc).1
  rw [e] at h1
  have h3 : some p.2 = some oc := h1.symm.trans h2
  have h4 := Option.some.inj h3
  exact hn x (by rw [h4]; exact hd)
theorem mid_nocell {P : Params} {ta : TA} {r : RA} {t0 t1 t2 t3 t4 : Tok} {al cl : Addr} {ac j0 j1 j2 j3 j4 j5 j6 j7 : Nat} : ∀ p ∈ midL P ta r t0 t1 t2 t3 t4 al cl ac j0 j1 j2 j3 j4 j5 j6 j7, NoCell p.2 := by
  intro p hp x
  simp only [midL, led7, List.mem_cons, List.mem_append, List.not_mem_nil, or_false] at hp
  rcases hp with rfl | rfl | rfl | (rfl | rfl | rfl | rfl | rfl | rfl | rfl) | rfl | rfl | rfl <;> exact fun h => nomatch h
theorem tup_nocell {o : Obj} (h : ∃ vs n, o = tupO vs n) : NoCell o := by
  obtain ⟨vs, n, rfl⟩ := h
  exact fun x h => nomatch h
theorem shape_nocell {o : Obj} (h : Shape o) : NoCell o := by
  rcases h with ⟨vs, n, rfl⟩ | ⟨vs, n, rfl⟩ <;> exact fun x h => nomatch h
section
variable {w : World} {L : Addr} {ta : TA} {r : RA} {t0 t1 t2 t3 t4 : Tok} {al cl ka ba mL q pL D : Addr} {ac j0 j1 j2 j3 j4 j5 j6 j7 kn bn n1 n2 n3 : Nat} {kvs yvs bvs : List Value} {cst3 nx : List (Addr × Obj)} {oN oO oW oP oK : Obj}
noncomputable abbrev c0 (ta : TA) (r : RA) (ka : Addr) (kvs : List Value) (kn : Nat) (D : Addr) (yvs : List Value) (ba : Addr) (bvs : List Value) (bn : Nat) (mL : Addr) : CA := ⟨ta, r, ka, kvs, kn, D, yvs, yvs.length, ba, bvs, bn, mL⟩
noncomputable abbrev v0 (P : Params) (ta : TA) (r : RA) (t0 t1 t2 t3 t4 : Tok) (al cl : Addr) (ac j0 j1 j2 j3 j4 j5 j6 j7 : Nat) (cst3 nx : List (Addr × Obj)) (D : Addr) (yvs : List Value) (ba : Addr) (bvs : List Value) (bn : Nat) (q pL : Addr) (n1 n2 n3 : Nat) (oN oO oW oP oK : Obj) : SV where
  cst := (D, LCg.lst yvs) :: (ba, tupO bvs bn) :: (r.R, instObj 101 r.dR) :: (r.dR, dictOf (rEs P r ta.T) 2) :: (ta.T, instObj 257 ta.dT) :: (ta.dT, dictOf (tEs P ta) 8) :: (al, PySem.W.listOf #[] ac) :: (nx ++ cst3)
  own := []
  pL := pL
  p0 := n1
  prs := [(q, [], n2)]
  ivs := []
  i0 := j7
  mvs := []
  m0 := n3
  kvs := [.str (Str.ofString "document") t0]
  svs := [.str (Str.ofString "") t1]
  nvs := [.str (Str.ofString "") t2]
  avs := [.ref al]
  xvs := [.str (Str.ofString "") t3]
  pvs := [.int (-1) t4]
  cvs := [.ref cl]
  k0 := j0
  k1 := j1
  k2 := j2
  k3 := j3
  k4 := j4
  k5 := j5
  k6 := j6
  oN := oN
  oO := oO
  oW := oW
  oP := oP
  oK := oK
noncomputable def Up (a : Addr) (l : List Addr) : Prop := (∀ x ∈ l, @LT.lt Nat _ a x) ∧ l.Nodup
theorem Up.nil {a : Addr} : Up a [] := ⟨(fun _ h => nomatch h), List.nodup_nil⟩
theorem Up.cons {a b : Addr} {l : List Addr} (h : @LT.lt Nat _ a b) (u : Up b l) : Up a (b :: l) :=
  ⟨List.forall_mem_cons.mpr ⟨h, fun x hx => Nat.lt_trans h (u.1 x hx)⟩, List.nodup_cons.mpr ⟨fun hm => Nat.lt_irrefl _ (u.1 b hm), u.2⟩⟩
theorem cadr_le {L a : Addr} (h : a ∈ cadr L) : @LE.le Nat _ a (L + 1 + 1 + 1 + 1 + 1) := by
  simp only [List.mem_cons, List.not_mem_nil, or_false] at h
  rcases h with rfl | rfl | rfl | rfl | rfl
  · exact Nat.le_refl _
  · exact Nat.le_add_right _ 1
  · exact Nat.le_add_right _ 2
  · exact Nat.le_add_right _ 3
  · exact Nat.le_add_right _ 4
theorem tup_nolist {vs : List Value} {n : Nat} : (tupO vs n).cls ≠ .type "list" := by simp
theorem adr_perm {iL mL pL q : Addr} {ta : TA} : (iL :: mL :: pL :: (adr7 ta ++ [q])).Perm (adr7 ta ++ [iL, mL, q, pL]) :=
  ((((List.perm_append_singleton pL (adr7 ta ++ [q])).symm.cons mL).trans (List.perm_middle (l₁ := adr7 ta) (l₂ := [q, pL])).symm).cons iL).trans (List.perm_middle (l₁ := adr7 ta) (l₂ := [mL, q, pL])).symm
theorem init_R (q2 : Ord7 ta) (q3 : @LT.lt Nat _ ta.cL al) (q8 : @LT.lt Nat _ al r.iL) (hk5 : @LT.lt Nat _ (L + 1 + 1 + 1 + 1 + 1) ta.kL) (hka : (ka, tupO kvs kn) ∈ cst3) (hks : DatAll cst3 kvs (KS.map kindD)) (hyk : DatAll (nx ++ cst3) yvs (YS.map keyD)) (hbs : IntsAre bvs BS)
    (h3 : ∀ p ∈ cst3, ∃ vs n, p.2 = tupO vs n) (hnx : ∀ p ∈ nx, Shape p.2) (hnx2 : ∀ p ∈ nx, ∀ z ∈ midL w.params ta r t0 t1 t2 t3 t4 al cl ac j0 j1 j2 j3 j4 j5 j6 j7, z.1 ≠ p.1) (hD2 : ∀ z ∈ midL w.params ta r t0 t1 t2 t3 t4 al cl ac j0 j1 j2 j3 j4 j5 j6 j7, z.1 ≠ D)
    (hc : ∀ p ∈ (D, LCg.lst yvs) :: (ba, tupO bvs bn) :: (r.R, instObj 101 r.dR) :: (r.dR, dictOf (rEs w.params r ta.T) 2) :: (ta.T, instObj 257 ta.dT) :: (ta.dT, dictOf (tEs w.params ta) 8) :: (al, PySem.W.listOf #[] ac) :: (nx ++ cst3), ∀ a ∈ cadr L, p.1 ≠ a)
    (hm1 : @LT.lt Nat _ r.iL mL) (hm2 : @LT.lt Nat _ D mL) (hm3 : ∀ p ∈ nx, @LT.lt Nat _ p.1 mL) (hq : @LT.lt Nat _ mL q) (hp : @LT.lt Nat _ q pL)
    (dK : oK.data = .cell (some (.ref D))) (dP : oP.data = .cell (some (.ref pL))) (dN : oN.data = .cell none) (dO : oO.data = .cell none) (dW : oW.data = .cell none) :
    Rep w L (c0 ta r ka kvs kn D yvs ba bvs bn mL) (v0 w.params ta r t0 t1 t2 t3 t4 al cl ac j0 j1 j2 j3 j4 j5 j6 j7 cst3 nx D yvs ba bvs bn q pL n1 n2 n3 oN oO oW oP oK) [] [] [[]] [] := by
  obtain ⟨o1, o2, o3, o4, o5, o6⟩ := q2
  have up3 : ∀ z ∈ cst3, z ∈ (v0 w.params ta r t0 t1 t2 t3 t4 al cl ac j0 j1 j2 j3 j4 j5 j6 j7 cst3 nx D yvs ba bvs bn q pL n1 n2 n3 oN oO oW oP oK).cst := fun z hz => List.mem_cons_of_mem _ (List.mem_cons_of_mem _ (List.mem_cons_of_mem _ (List.mem_cons_of_mem _ (List.mem_cons_of_mem _ (List.mem_cons_of_mem _ (List.mem_cons_of_mem _ (List.mem_append_right _ hz)))))))
  have upx : ∀ z ∈ nx ++ cst3, z ∈ (v0 w.params ta r t0 t1 t2 t3 t4 al cl ac j0 j1 j2 j3 j4 j5 j6 j7 cst3 nx D yvs ba bvs bn q pL n1 n2 n3 oN oO oW oP oK).cst := fun z hz => List.mem_cons_of_mem _ (List.mem_cons_of_mem _ (List.mem_cons_of_mem _ (List.mem_cons_of_mem _ (List.mem_cons_of_mem _ (List.mem_cons_of_mem _ (List.mem_cons_of_mem _ hz))))))
  have hmm : ∀ a ∈ r.iL :: adr7 ta, a ∈ (midL w.params ta r t0 t1 t2 t3 t4 al cl ac j0 j1 j2 j3 j4 j5 j6 j7).map (·.1) := by
    show ∀ a ∈ r.iL :: adr7 ta, a ∈ r.iL :: r.R :: r.dR :: (adr7 ta ++ [ta.T, ta.dT, al])
    exact sub_cons (.head _) fun a ha => .tail _ (.tail _ (.tail _ (List.mem_append_left _ ha)))
  have u : Up (L + 1 + 1 + 1 + 1 + 1) (adr7 ta ++ [al, r.iL, mL, q, pL]) := .cons hk5 (.cons o1 (.cons o2 (.cons o3 (.cons o4 (.cons o5 (.cons o6 (.cons q3 (.cons q8 (.cons hm1 (.cons hq (.cons hp .nil)))))))))))
  obtain ⟨z3, z4⟩ := List.nodup_cons.mp ((List.perm_middle (l₁ := adr7 ta) (l₂ := [r.iL, mL, q, pL])).nodup_iff.mp u.2)
  exact {
    hT := .tail _ (.tail _ (.tail _ (.tail _ (.head _))))
    hdT := .tail _ (.tail _ (.tail _ (.tail _ (.tail _ (.head _)))))
    hR := .tail _ (.tail _ (.head _))
    hdR := .tail _ (.tail _ (.tail _ (.head _)))
    hka := up3 _ hka
    hks := DatAll.mono up3 hks
    hys := List.mem_cons_self
    hyk := DatAll.mono upx hyk
    hba := List.mem_cons_of_mem _ (List.mem_cons_self)
    hbs := hbs
    dK := dK
    dP := dP
    dW := ⟨_, dW⟩
    dO := ⟨_, dO⟩
    dN := ⟨_, dN⟩
    has := .cons (.list (n := ac) (vs := []) (.tail _ (.tail _ (.tail _ (.tail _ (.tail _ (.tail _ (.head _))))))) .nil) .nil
    hns := ⟨rfl, fun i x hx => by
      cases i with
      | zero => simp [nmsOf] at hx; subst hx; exact ⟨_, rfl⟩
      | succ i => simp [nmsOf] at hx⟩
    hss := ⟨rfl, fun i x hx => by
      cases i with
      | zero => simp [spsOf] at hx; subst hx; exact ⟨_, rfl⟩
      | succ i => simp [spsOf] at hx⟩
    l0 := rfl
    l4 := rfl
    l5 := rfl
    l6 := rfl
    hmd := .nil
    hps := .cons .nil .nil
    hit := .nil
    ord := ⟨o1, o2, o3, o4, o5, o6⟩
    low := fun a ha hm => Nat.not_lt.mpr (cadr_le hm) (u.1 a ((List.perm_middle (l₁ := adr7 ta) (l₂ := [r.iL, mL, q, pL])).mem_iff.mpr (.tail _ (adr_perm.mem_iff.mp ha))))
    lowc := hc
    nd := adr_perm.nodup_iff.mpr z4
    off := fun z hz hcl ha => by
      have hlow : ∀ y : Nat, @LT.lt Nat _ y mL → (∀ a ∈ r.iL :: adr7 ta, a ≠ y) → y ∈ adr (c0 ta r ka kvs kn D yvs ba bvs bn mL) (v0 w.params ta r t0 t1 t2 t3 t4 al cl ac j0 j1 j2 j3 j4 j5 j6 j7 cst3 nx D yvs ba bvs bn q pL n1 n2 n3 oN oO oW oP oK) → False := by
        intro y hy hny hya
        rcases List.mem_cons.mp hya with h | hya
        · exact hny _ (.head _) h.symm
        rcases List.mem_cons.mp hya with h | hya
        · exact Nat.lt_irrefl _ (h ▸ hy)
        rcases List.mem_cons.mp hya with h | hya
        · have h' : y = pL := h
          subst h'
          exact Nat.lt_irrefl _ (Nat.lt_trans hy (Nat.lt_trans hq hp))
        rcases List.mem_append.mp hya with h | h
        · exact hny y (.tail _ h) rfl
        · have h' : y = q := List.mem_singleton.mp h
          subst h'
          exact Nat.lt_irrefl _ (Nat.lt_trans hy hq)
      rcases List.mem_cons.mp hz with rfl | hz
      · exact hlow D hm2 (fun a ha e => by obtain ⟨o, ho, rfl⟩ := List.mem_map.mp (hmm a ha); exact hD2 _ ho e) ha
      rcases List.mem_cons.mp hz with rfl | hz
      · exact absurd hcl tup_nolist
      rcases List.mem_cons.mp hz with rfl | hz
      · cases hcl
      rcases List.mem_cons.mp hz with rfl | hz
      · exact absurd hcl (by simp)
      rcases List.mem_cons.mp hz with rfl | hz
      · cases hcl
      rcases List.mem_cons.mp hz with rfl | hz
      · exact absurd hcl (by simp)
      rcases List.mem_cons.mp hz with rfl | hz
      · exact hlow al (Nat.lt_trans q8 hm1) (fun a ha e => z3 ((List.mem_cons.mp ha).elim (fun h => List.mem_append_right _ (h ▸ e ▸ .head _)) fun h => List.mem_append_left _ (e ▸ h))) ha
      rcases List.mem_append.mp hz with hz | hz
      · exact hlow z.1 (hm3 z hz) (fun a ha e => by obtain ⟨o, ho, rfl⟩ := List.mem_map.mp (hmm a ha); exact hnx2 z hz _ ho e) ha
      · obtain ⟨vs, n, e⟩ := h3 z hz
        rw [e] at hcl
        exact absurd hcl tup_nolist
    ow1 := fun _ h => nomatch h
    ow2 := fun _ h => nomatch h
    ow3 := fun _ h => nomatch h }
end
end
section
theorem freshE24 : True := by
  w_top off
  trivial
section
variable {w : World} {s : Shared} {L fa : Addr} {cd : Value} {h₀ : Heap} {m mg mb : Str → Option Value} {p : Program} {loose : List Str} {mean : ExcName → Option Value} {E : Value → Shared → Prop} {Q : Flow → Shared → Prop}
variable {c : CA} {v : SV} {ws : List Int} {ps : List (List (Int × Int))} {ns : List Int}
set_option maxHeartbeats 4000000 in
theorem seatsS_B {k : Nat} (X : (hd.heap_39 w.params).In h₀) (B : Below callerA h₀ [] h₀) (T : Top p loose mean mg mb h₀) (F : Fr h₀ L s.heap m) (N : News h₀ L s.heap (Led L c v)) (R : Rep w L c v ws (mdOf ws) ps ns) (P : PInv ws ps ns k) (hk : k ≤ 29)
    (hQ : ∀ h' tk v' d o kvs' T', Fr h₀ L h' (fun y => if y = Str.ofString "seats" then some (.ref d) else m y) → News h₀ L h' (Led L c v') → Rep w L c v' ws (mdOf ws) ps ns → v'.own = v.own → (d, o) ∈ v'.cst → o.IsDictOf (intKind PySem.Challenge.rw_nt0595_01.row.prog w) kvs' → FlatPairs PyData.int kvs' T' → (d == sysModules) = false →
      (∀ i, i ≠ -1 → Spec.lookup (.int i) T' = if i ∈ ns then some (.int (ns.idxOf i : Nat)) else none) → Q .next { s with heap := h', toks := tk }) :
    wpAny (model PySem.Challenge.rw_nt0595_01.row.prog w) (callerA.deeper (lawEnv L fa cd)) (exec (nth lawBody 8) (lawEnv L fa cd)) Q E s := by
  have hll := P.lineLen
  have hpl := P.pl
  have hnl := P.nsLen
  have hns := P.line
  revert X
  k_fill
  intro X
  have hh : callerA.handled = none := rfl
  unfold lawEnv
  conv => pattern (occs := *) lawScope; all_goals whnf
  conv => pattern (occs := *) nth lawBody 8; all_goals whnf
  have N1 := led_x N
  obtain ⟨msub, mT, mdT, mR, mdR, mka, mys, mba, mI, mM, mP⟩ := R.mems
  have dP := R.dP
  clear N
  k_steps
  have msub' : ∀ q ∈ v.cst, q ∈ Ldx L c v := fun q hq => rst_x q (msub q hq)
  have hpt : PartsAt (Ldx L c v) v.cst (pvsOf v.prs) ps := R.hps.toAt fun q hq => rst_x q (pm_rst q hq)
  refine line_K (cst := v.cst) ((lawCx X B T (by assumption) (by assumption)).to (by assumption) (by decide)) msub' (pvs := pvsOf v.prs) (pn := v.p0) (by k_mem) hpt (by omega) (by omega) ?_
  intro h2 tk2 D lvs n F2 N2 hI hD
  rw [← hns] at hI
  k_steps
  refine seats_K ((lawCx X B T F2 N2).to N2 (by decide)) (D := D) (List.mem_cons_self) hI (by omega) P.apart ?_
  intro h3 tk3 d o kvs' T' F3 N3 hd1 hd2 hd3 hd4 hd5
  have N4 : News h₀ L h3 ((d, o) :: Ldx L c v) := newsSub N3 sub_2
  clear N3
  k_steps
  obtain ⟨N5, R5⟩ := grow2 R (by assumption) (fun q hq => hd1 q (List.mem_cons_of_mem _ hq))
  exact hQ _ _ _ d o kvs' T' (by assumption) N5 R5 rfl (List.mem_cons_self) hd3 hd4 hd2 hd5
set_option maxHeartbeats 4000000 in
theorem ret_B (F : Fr h₀ L s.heap m) (X : (hd.heap_39 w.params).In h₀)
    (hQ : ∀ tk, Q (.ret (.bool true)) { s with toks := tk }) :
    wpAny (model PySem.Challenge.rw_nt0595_01.row.prog w) (callerA.deeper (lawEnv L fa cd)) (exec (nth lawBody 11) (lawEnv L fa cd)) Q E s := by
  revert X
  k_fill
  intro X
  unfold lawEnv
  conv => pattern (occs := *) lawScope; all_goals whnf
  conv => pattern (occs := *) nth lawBody 11; all_goals whnf
  k_steps
  exact hQ s.toks
end
end
section
theorem freshE25 : True := by
  w_top off
  trivial
theorem law_list : lawBody = [nth lawBody 0, nth lawBody 1, nth lawBody 2, nth lawBody 3, nth lawBody 4, nth lawBody 5, nth lawBody 6, nth lawBody 7, nth lawBody 8, nth lawBody 9, nth lawBody 10, nth lawBody 11] := rfl
theorem perm_a {c5 c4 c3 c2 c1 a b c d e f : Addr × Obj} {l7 cst3 : List (Addr × Obj)} : ∀ z ∈ c1 :: c5 :: c4 :: c3 :: c2 :: (cst3 ++ (a :: b :: c :: (l7 ++ [d, e, f]))), z ∈ cst3 ++ (a :: b :: c :: (l7 ++ (d :: e :: f :: [c5, c4, c3, c2, c1]))) := by
  intro z hz
  (try simp only [List.cons_append, List.nil_append, List.append_nil] at hz ⊢)
  repeat' (first | (rcases List.mem_cons.mp hz with rfl | hz) | (rcases List.mem_append.mp hz with hz | hz) | exact absurd hz List.not_mem_nil)
  all_goals k_mem
theorem perm_b {c5 c4 c3 c2 c1 D : Addr × Obj} {nx M : List (Addr × Obj)} : ∀ z ∈ c2 :: c1 :: D :: c5 :: c4 :: c3 :: (nx ++ M), z ∈ c1 :: D :: (nx ++ (c5 :: c4 :: c3 :: c2 :: M)) := by
  intro z hz
  (try simp only [List.cons_append, List.nil_append, List.append_nil] at hz ⊢)
  repeat' (first | (rcases List.mem_cons.mp hz with rfl | hz) | (rcases List.mem_append.mp hz with hz | hz) | exact absurd hz List.not_mem_nil)
  all_goals k_mem
theorem perm_c {c5 c4 c3 c2 c1 D pl ml ba iL R dR T dT al : Addr × Obj} {l7 pm nx cst3 : List (Addr × Obj)} : ∀ z ∈ [c5, c4, c3, c2, c1] ++ ((iL :: ml :: pl :: (l7 ++ pm)) ++ ((D :: ba :: R :: dR :: T :: dT :: al :: (nx ++ cst3)) ++ [])), z ∈ c2 :: pl :: (pm ++ (ml :: ba :: c1 :: D :: c5 :: c4 :: c3 :: (nx ++ (cst3 ++ (iL :: R :: dR :: (l7 ++ [T, dT, al])))))) := by
  intro z hz
  (try simp only [List.cons_append, List.nil_append, List.append_nil] at hz ⊢)
  repeat' (first | (rcases List.mem_cons.mp hz with rfl | hz) | (rcases List.mem_append.mp hz with hz | hz) | exact absurd hz List.not_mem_nil)
  all_goals k_mem
theorem pinv0 : PInv [] [[]] [] 0 := ⟨by simp, by simp, by simp, by simp, by simp, by simp, by simp, rfl⟩
set_option maxHeartbeats 4000000 in
theorem law_body {w : World} {h₀ h₁ : Heap} {L fa l : Addr} {cd : Value} {p : Program} {loose : List Str} {mean : ExcName → Option Value} {mg mb : Str → Option Value} {oN oO oW oP oK : Obj} {vs : List Value} {ns : List Int} {g : Array GenState} {d : Drawn} {tk : Nat} {os : OsState} {Q : Flow → Shared → Prop} {E : Value → Shared → Prop} {m : Str → Option Value}
    (X : (hd.heap_39 w.params).In h₀) (B : Below callerA h₀ [] h₀) (T : Top p loose mean mg mb h₀) (F : Fr h₀ L h₁ m) (hm : m (Str.ofString "script") = some (.ref l)) (N : News h₀ L h₁ [(L + 1 + 1 + 1 + 1 + 1, oN), (L + 1 + 1 + 1 + 1, oO), (L + 1 + 1 + 1, oW), (L + 1 + 1, oP), (L + 1, oK)])
    (dN : oN.data = .cell none) (dO : oO.data = .cell none) (dW : oW.data = .cell none) (dP : oP.data = .cell none) (dK : oK.data = .cell none) (hl : h₀.IsList l vs.toArray) (hi : IntsAre vs ns) (hn : ns.length ≤ 63)
    (hE : PassesOwn (model PySem.Challenge.rw_nt0595_01.row.prog w) (callerA.deeper (lawEnv L fa cd)) (lawEnv L fa cd) E)
    (hQ : ∀ h' tk' m' news, Fr h₀ L h' m' → News h₀ L h' news → Q (.ret (.bool true)) ⟨h', g, d, tk', os⟩) :
    wpAny (model PySem.Challenge.rw_nt0595_01.row.prog w) (callerA.deeper (lawEnv L fa cd)) (execs lawBody (lawEnv L fa cd)) Q E ⟨h₁, g, d, tk, os⟩ := by
  rw [law_list]
  refine pre1_B X B T F N ?_
  intro h1 tk1 ta r ka kvs kn cst3 t0 t1 t2 t3 t4 al cl ac j0 j1 j2 j3 j4 j5 j6 j7 q1 q2 q3 q4 q5 q6 q7 q8 q9 F1 N1
  have N1' : News h₀ L h1 ((L + 1, oK) :: (L + 1 + 1 + 1 + 1 + 1, oN) :: (L + 1 + 1 + 1 + 1, oO) :: (L + 1 + 1 + 1, oW) :: (L + 1 + 1, oP) :: (cst3 ++ midL w.params ta r t0 t1 t2 t3 t4 al cl ac j0 j1 j2 j3 j4 j5 j6 j7)) := newsSub N1 perm_a
  have ncM : ∀ z ∈ cst3 ++ midL w.params ta r t0 t1 t2 t3 t4 al cl ac j0 j1 j2 j3 j4 j5 j6 j7, NoCell z.2 := fun z hz => (List.mem_append.mp hz).elim (fun h => tup_nocell (q5 z h)) (mid_nocell z)
  refine wpAny_execs_cons ?_
  refine keys_B (cst := cst3) (ka := ka) (kvs := kvs) (kn := kn) X B T F1 N1' ?_ dK rfl ?_ q7 ?_ ?_
  · intro z hz
    simp only [List.mem_cons] at hz
    rcases hz with rfl | rfl | rfl | rfl | hz
    · show @Ne Nat _ _; omega
    · show @Ne Nat _ _; omega
    · show @Ne Nat _ _; omega
    · show @Ne Nat _ _; omega
    · exact apart_cell N1' (by simp only [List.mem_cons]; exact .inr (.inr (.inr (.inr (.inr hz))))) (List.mem_cons_self) dK (ncM z hz)
  · simp [q6]
  · intro z hz
    simp [hz]
  intro h2 tk2 D yvs nx oK' F2 N2 dK2 hyk hsh hof hoD
  dsimp only
  have N2' : News h₀ L h2 ((L + 1 + 1, oP) :: (L + 1, oK') :: (D, LCg.lst yvs) :: (L + 1 + 1 + 1 + 1 + 1, oN) :: (L + 1 + 1 + 1 + 1, oO) :: (L + 1 + 1 + 1, oW) :: (nx ++ (cst3 ++ midL w.params ta r t0 t1 t2 t3 t4 al cl ac j0 j1 j2 j3 j4 j5 j6 j7))) := newsSub N2 perm_b
  have ncD : NoCell (LCg.lst yvs) := fun x h => nomatch h
  refine pre2_B X B T F2 N2' ?_ dP ?_
  · intro z hz
    simp only [List.mem_cons] at hz
    rcases hz with rfl | rfl | rfl | rfl | rfl | hz
    · show @Ne Nat _ _; omega
    · exact apart_cell N2' (by simp) (List.mem_cons_self) dP ncD
    · show @Ne Nat _ _; omega
    · show @Ne Nat _ _; omega
    · show @Ne Nat _ _; omega
    · refine apart_cell N2' (by simp only [List.mem_cons]; exact .inr (.inr (.inr (.inr (.inr (.inr hz)))))) (List.mem_cons_self) dP ?_
      rcases List.mem_append.mp hz with hz | hz
      · exact shape_nocell (hsh z hz)
      · exact ncM z hz
  intro h3 tk3 ba bvs bn mL q pL n1 n2 n3 oP' hbs hmL hqL hpL hmq hqp dP2 hba F3 N3
  have hmL' := allLt_mem hmL
  have hmid : ∀ z ∈ midL w.params ta r t0 t1 t2 t3 t4 al cl ac j0 j1 j2 j3 j4 j5 j6 j7, z ∈ (L + 1 + 1, oP) :: (L + 1, oK') :: (D, LCg.lst yvs) :: (L + 1 + 1 + 1 + 1 + 1, oN) :: (L + 1 + 1 + 1 + 1, oO) :: (L + 1 + 1 + 1, oW) :: (nx ++ (cst3 ++ midL w.params ta r t0 t1 t2 t3 t4 al cl ac j0 j1 j2 j3 j4 j5 j6 j7)) := fun z hz => by
    simp only [List.mem_cons, List.mem_append] at hz ⊢
    exact .inr (.inr (.inr (.inr (.inr (.inr (.inr (.inr hz)))))))
  have N4 : News h₀ L h3 (Led L (c0 ta r ka kvs kn D yvs ba bvs bn mL) (v0 w.params ta r t0 t1 t2 t3 t4 al cl ac j0 j1 j2 j3 j4 j5 j6 j7 cst3 nx D yvs ba bvs bn q pL n1 n2 n3 oN oO oW oP' oK')) := newsSub N3 perm_c
  have hcells : ∀ a ∈ cadr L, ∃ oc x, (a, oc) ∈ Led L (c0 ta r ka kvs kn D yvs ba bvs bn mL) (v0 w.params ta r t0 t1 t2 t3 t4 al cl ac j0 j1 j2 j3 j4 j5 j6 j7 cst3 nx D yvs ba bvs bn q pL n1 n2 n3 oN oO oW oP' oK') ∧ oc.data = .cell x := by
    intro a ha
    simp only [cadr, List.mem_cons, List.not_mem_nil, or_false] at ha
    rcases ha with rfl | rfl | rfl | rfl | rfl
    · exact ⟨oN, _, by simp, dN⟩
    · exact ⟨oO, _, by simp, dO⟩
    · exact ⟨oW, _, by simp, dW⟩
    · exact ⟨oP', _, by simp, dP2⟩
    · exact ⟨oK', _, by simp, dK2⟩
  have R0 := init_R (L := L) (w := w) (t0 := t0) (t1 := t1) (t2 := t2) (t3 := t3) (t4 := t4) (cl := cl) (ac := ac) (j0 := j0) (j1 := j1) (j2 := j2) (j3 := j3) (j4 := j4) (j5 := j5) (j6 := j6) (j7 := j7) (ba := ba) (bn := bn) (n1 := n1) (n2 := n2) (n3 := n3) (oN := oN) (oO := oO) (oW := oW) (oP := oP') (oK := oK') q2 q3 q8 (by exact q1.1) q6 q7 hyk hbs q5 hsh
    (fun z hz y hy => hof z hz y (by simp only [List.mem_cons, List.mem_append] at hy ⊢; exact .inr (.inr (.inr (.inr (.inr (.inr hy))))))) (fun y hy => hoD y (by simp only [List.mem_cons, List.mem_append] at hy ⊢; exact .inr (.inr (.inr (.inr (.inr (.inr (.inr hy)))))))) ?hc ?h1 ?h2 ?h3 hmq hqp dK2 dP2 dN dO dW
  case h1 => exact hmL' _ (hmid (r.iL, PySem.W.listOf #[] j7) (List.mem_cons_self))
  case h2 => exact hmL' (D, LCg.lst yvs) (by simp)
  case h3 => exact fun z hz => hmL' z (by simp [hz])
  case hc =>
    intro z hz a ha
    obtain ⟨oc, x, hco, hcd⟩ := hcells a ha
    refine apart_cell N4 (List.mem_append_right _ (List.mem_append_right _ (List.mem_append_left _ hz))) hco hcd ?_
    simp only [List.mem_cons, List.mem_append] at hz
    rcases hz with rfl | rfl | rfl | rfl | rfl | rfl | rfl | hz | hz
    · exact ncD
    · exact fun x h => nomatch h
    · exact fun x h => nomatch h
    · exact fun x h => nomatch h
    · exact fun x h => nomatch h
    · exact fun x h => nomatch h
    · exact fun x h => nomatch h
    · exact shape_nocell (hsh z hz)
    · exact tup_nocell (q5 z hz)
  refine wpAny_execs_cons ?_
  refine loop_B (l := l) (vs := vs) (is := ns) X B T F3 N4 R0 pinv0 rfl hl hi hn rfl rfl rfl rfl rfl hm hE ?_
  intro h4 tk4 v4 m4 ws4 ps4 ns4 K4 F4 N5 R4 P4 o4
  dsimp only
  refine wpAny_execs_cons ?_
  refine seatsS_B X B T F4 N5 R4 P4 (Nat.le_refl _) ?_
  intro h5 tk5 v5 sd so kvs5 T5 F5 N6 R5 o5 s1 s2 s3 s4 s5
  dsimp only
  refine wpAny_execs_cons ?_
  refine nodes_B (d := sd) (o := so) X B T F5 N6 R5 P4 (Nat.le_refl _) (o5.trans o4) s1 s2 s3 s4 s5 ?a ?b rfl hE ?_
  case a => exact K4 _ (by decide) (by decide)
  case b => exact K4 _ (by decide) (by decide)
  intro h6 tk6 v6 m6 K6 F6 N7 R6 o6
  dsimp only
  refine wpAny_execs_cons ?_
  refine pairs_B X B T F6 N7 R6 P4 (Nat.le_refl _) ?c ?e hE ?_
  case c => exact (K6 _ (by decide)).trans (K4 _ (by decide) (by decide))
  case e => exact (K6 _ (by decide)).trans (K4 _ (by decide) (by decide))
  intro h7 tk7 m7 F7 N8
  dsimp only
  refine wpAny_execs_cons ?_
  refine ret_B F7 X fun tk8 => ?_
  exact hQ _ _ _ _ F7 N8
end
end
end
section
theorem freshP9 : True := by
  w_top off
  trivial
local macro_rules | `(tactic| k_qdec) => `(tactic| decide +kernel)
set_option maxHeartbeats 4000000 in
theorem t1 : PySem.Challenge.rw_nt0595_01.Holds := hd (by
  k_go0
  (rename Fr _ _ _ _ => F)
  (rename News _ _ _ _ => N)
  (rename Frag.In _ _ => KX)
  (rename Below _ _ _ _ => K0)
  (rename Top _ _ _ _ _ _ => T)
  (rename IntsAre _ _ => hI)
  (rename Heap.IsList _ _ _ => hL)
  refine law_body KX K0 T F ?hm N ?dN ?dO ?dW ?dP ?dK hL hI ?hn ?hE ?hQ
  (case hm => rfl)
  (case dN => assumption)
  (case dO => assumption)
  (case dW => assumption)
  (case dP => assumption)
  (case dK => assumption)
  (case hn => omega)
  (case hE => passes_own)
  (case hQ =>
    intro h' tk' m' news F' N'
    dsimp only
    wrow_close))
end
end
end
end
end
end Mine

theorem PySem.Challenge.cw_nt0595_01_holds : PySem.Challenge.rw_nt0595_01.Holds := by
  exact Mine.t1
