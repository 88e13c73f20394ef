import PyProof.Rows.All
import Wide.All
import OpenK.AllK
import Wide.FinOn
import PySem.Challenge.RW_rh0160_01
open PySem PySem.W PyProof.Rows
set_option Elab.async false
set_option maxRecDepth 100000
set_option maxHeartbeats 8000000
namespace Mine
theorem leftO_of_run {p q : Program} {loose : List Str} {Xt : Shared → Bool} {α : Type} {Yf : Shared → α} {Ya : World → α} {N : Nat} {g0 : Bool} {H₀ : Params → Heap} {gs₀ : Array GenState} {d₀ : Drawn} {k₀ : Nat} {m₀ : Nat} {ann : Option Value} {M : Nat}
    (open_ : ∀ w : World, (fencedOpening treeTable p w N).map (fun s => (s.heap, s.gens, s.drawn, s.toks)) = some (H₀ w.params, gs₀, d₀, k₀))
    (size : ∀ w : World, ((H₀ w.params).isNs mainGlobals && gs₀.size == 0, (H₀ w.params).objs.size, (H₀ w.params).nsMap mainGlobals "__annotations__") = (true, m₀, ann)) (le : Nat.ble M N = true)
    (go : ∀ (w : World) (os : OsState), (topRun treeTable p w m₀ ann M ⟨H₀ w.params, gs₀, d₀, k₀, os⟩ (topStub p)).map (fun s => (staticsOk (importedModules p.main.body) (H₀ w.params) s.heap && namesBound p s.heap && gensDone s && laidKept (H₀ w.params) s.heap,
        openSeen q loose (importedModules p.main.body) Xt g0 s, Yf s)) = some (true, openGood q loose, Ya w)) : LeftO p q loose Xt Yf Ya N g0 := fun w => by
  obtain ⟨⟨h, gs, d, k, os⟩, e, e'⟩ := Option.map_eq_some_iff.mp (open_ w)
  obtain ⟨rfl, rfl, rfl, rfl⟩ : h = H₀ w.params ∧ gs = gs₀ ∧ d = d₀ ∧ k = k₀ := by simpa using e'
  obtain ⟨z1, z2, z3⟩ : _ ∧ _ ∧ _ := by simpa only [Prod.mk.injEq] using size w
  obtain ⟨s₁, hr, hl⟩ := Option.map_eq_some_iff.mp (go w os)
  obtain ⟨l1, l2, l3⟩ : _ ∧ _ ∧ _ := by simpa only [Prod.mk.injEq] using hl
  have r := topRun_mono (N - M) _ _ _ _ hr
  rw [show M + (N - M) = N by have := Nat.le_of_ble_eq_true le; omega] at r
  have t : topFrom treeTable p w N ⟨H₀ w.params, gs, d, k, os⟩ = some s₁ := by
    unfold topFrom
    dsimp only
    rw [z1, z2, z3, r]
    show (match staticsOk (importedModules p.main.body) (H₀ w.params) s₁.heap && namesBound p s₁.heap && gensDone s₁ && laidKept (H₀ w.params) s₁.heap with | true => _ | false => _) = _
    rw [l1]
  unfold openEnds
  rw [e]
  show (topFrom treeTable p w N _).map _ = _
  rw [t]
  exact congrArg some (Prod.ext l2 l3)
/-- the top's run on a tree of objects -/
def runT (stp : SharedT → Thread → Option (SharedT × Thread)) (ok : Thread → Bool) : Nat → SharedT → Thread → Option SharedT
  | 0, _, _ => none
  | n + 1, s, t => match through t with
    | true => some s
    | false => match ok t with
      | false => none
      | true => match stp s t with
        | some (s', t') => runT stp ok n s' t'
        | none => none
theorem runT_spec {tb : String → Option Builtin} {p : Program} {w : World} {n₀ : Nat} {ann : Option Value} : ∀ {n : Nat} {s s' : SharedT} {t : Thread}, runT (stepT (denote tb) p w) (stepOk n₀ ann) n s t = some s' → topRun tb p w n₀ ann n s.abs t = some s'.abs
  | 0, _, _, _, h => by cases h
  | n + 1, s, s', t, h => by
    unfold runT at h
    unfold topRun
    cases ht : through t with
    | true => rw [ht] at h; cases h; rfl
    | false =>
      rw [ht] at h
      cases hk : stepOk n₀ ann t with
      | false => rw [hk] at h; cases h
      | true =>
        rw [hk] at h
        cases hs : stepT (denote tb) p w s t with
        | none => rw [hs] at h; cases h
        | some r => obtain ⟨s₂, t₂⟩ := r; rw [hs] at h; rw [stepT_spec hs]; exact runT_spec h
noncomputable def bootT (P : Params) : BT :=
  .node (boot_o_0 P) (.node (boot_o_1 P) (.node (boot_o_3 P) (.node (boot_o_7 P) .nil .nil) .nil) (.node (boot_o_5 P) (.node (boot_o_9 P) .nil .nil) .nil))
    (.node (boot_o_2 P) (.node (boot_o_4 P) (.node (boot_o_8 P) .nil .nil) .nil) (.node (boot_o_6 P) (.node (boot_o_10 P) .nil .nil) .nil))
theorem bootT_abs (P : Params) : absHeap (bootT P) 11 (boot_heap P).life = boot_heap P := by kernel_rfl
theorem leftO_of_runT {p q : Program} {loose : List Str} {Xt : Shared → Bool} {α : Type} {Yf : Shared → α} {Ya : World → α} {N : Nat} {g0 : Bool} {M : Nat} {ann : Option Value}
    (e : opening p = plainProg p.main.scope.names) (hN : Nat.ble 600 N = true) (f : ∀ s, fenceModules? p s = some s)
    (size : ∀ w : World, ((boot_heap w.params).isNs mainGlobals && (#[] : Array GenState).size == 0, (boot_heap w.params).objs.size, (boot_heap w.params).nsMap mainGlobals "__annotations__") = (true, 11, ann)) (le : Nat.ble M N = true)
    (go : ∀ (w : World) (os : OsState), (runT (stepT (denote treeTable) p w) (stepOk 11 ann) M ⟨bootT w.params, 11, (boot_heap w.params).life, #[], boot_drawn, boot_toks, os⟩ (topStub p)).map (fun s =>
        (staticsOk (importedModules p.main.body) (boot_heap w.params) s.abs.heap && namesBound p s.abs.heap && gensDone s.abs && laidKept (boot_heap w.params) s.abs.heap, openSeen q loose (importedModules p.main.body) Xt g0 s.abs, Yf s.abs)) = some (true, openGood q loose, Ya w)) : LeftO p q loose Xt Yf Ya N g0 := by
  refine leftO_of_run (boot_open e hN f) size le fun w os => ?_
  obtain ⟨s, hs, hl⟩ := Option.map_eq_some_iff.mp (go w os)
  have r := runT_spec hs
  have eH : (⟨bootT w.params, 11, (boot_heap w.params).life, #[], boot_drawn, boot_toks, os⟩ : SharedT).abs = ⟨boot_heap w.params, #[], boot_drawn, boot_toks, os⟩ := by
    show Shared.mk (absHeap _ _ _) _ _ _ _ = _
    rw [bootT_abs]
  rw [eH] at r
  rw [r]
  exact congrArg some hl
noncomputable def keepSel : List Stmt := ([0, 2, 3, 4, 5, 6, 7, 9, 10, 12, 13, 14, 15, 16, 17, 18, 19, 20, 22, 23, 24, 25, 26, 27, 28, 29, 30, 32, 33, 35, 36, 37, 38] : List Nat).filterMap fun i => (PySem.Challenge.rw_rh0160_01).row.toRowW.prog.main.body[i]?
noncomputable def keepS : { b : List Stmt // b = keepSel } := by
  have h : keepSel = keepSel := rfl
  conv at h => lhs; unfold keepSel
  repeat (conv at h in List.filterMap _ _ => whnf)
  exact ⟨_, h⟩
noncomputable def view : Program := { (PySem.Challenge.rw_rh0160_01).row.toRowW.prog with main := { (PySem.Challenge.rw_rh0160_01).row.toRowW.prog.main with body := keepS.1 } }
theorem twins_here : Nat.beq (PySem.Challenge.rw_rh0160_01).row.toRowW.prog.main.body.length 39 = true := by k_qdec
local macro_rules | `(tactic| o_head $H) => `(tactic| (refine holds_open (q := view) (loose := ["HeapObject", "LuaClosure", "PyClosure", "Thread", "Proto"]) (Xt := fun s => xlAt view [] s && recOk (RowW.records (PySem.Challenge.rw_rh0160_01).row.toRowW) s) (XP := XL view []) (Yf := Hook.obs $H) (Ya := Hook.val $H) (YP := Hook.says $H) (N := 7170) ?hl (Hook.of $H) (Hook.keeps $H) (fun s e => xl_of s (Bool.and_eq_true_iff.mp e).1) XL.keeps (by rfl) (by rfl) (by rfl) (fun s e => recFacts_of (Bool.and_eq_true_iff.mp e).2) (by rfl) (by first | assumption | decide +kernel) (by decide +kernel) ⟨rfl, rfl, rfl, rfl, rfl, by decide +kernel⟩ ?hw ?hc; (case hl => (rename _ = true => said; clear said; refine leftO_of_runT (M := 6000) (ann := some (.ref 6)) (by kernel_rfl) (by kernel_rfl) (fun s => by kernel_rfl) (fun w => by kernel_rfl) (by kernel_rfl) ?_; intro w os; rw [PySem.W.Fast.te10156331382660048174, PySem.W.Fast.te11892475500146522536, PySem.W.Fast.te14364793385576792824, PySem.W.Fast.te6613529449190102663, PySem.W.Fast.te4187177175401517315, PySem.W.Fast.te5923862056798008813, PySem.W.Fast.te2368527892694137696, PySem.W.Fast.te12481767513548335471]; kernel_rfl))))
open_top hd for PySem.Challenge.rw_rh0160_01
theorem walk_off : True := by
  w_top off
  trivial

def Has (news : List (Addr × Obj)) (x C : Addr) (name : Str) (v : Value) : Prop :=
  ∃ dx es n, (x, (⟨.ref C, some dx, .plain, #[]⟩ : Obj)) ∈ news ∧ (dx, dictOf es n) ∈ news ∧ getL name es = some (some v)
theorem Has.more {news news' : List (Addr × Obj)} {x C : Addr} {name : Str} {v : Value} (H : Has news x C name v) (hs : ∀ p ∈ news, p ∈ news') : Has news' x C name v := by
  obtain ⟨dx, es, n, h1, h2, h3⟩ := H
  exact ⟨dx, es, n, hs _ h1, hs _ h2, h3⟩
def Inst (news : List (Addr × Obj)) (x C : Addr) : Prop :=
  ∃ dx od, (x, (⟨.ref C, some dx, .plain, #[]⟩ : Obj)) ∈ news ∧ (dx, od) ∈ news
theorem Has.inst {news : List (Addr × Obj)} {x C : Addr} {name : Str} {v : Value} (H : Has news x C name v) : Inst news x C := by
  obtain ⟨dx, es, n, h1, h2, h3⟩ := H
  exact ⟨dx, _, h1, h2⟩
section
variable {prog : Program} {w : World} {A : Around} {E : Value → Shared → Prop} {s : Shared} {K : Frag} {x C L : Addr} {h₀ : Heap} {m : Str → Option Value} {news nw : List (Addr × Obj)} {name : Str} {v : Value}
theorem get_has {expr : Bool} {Q : Value → Shared → Prop} {attr : Option Value} (F : Fr h₀ L s.heap m) (X₀ : K.In h₀) (N : News h₀ L s.heap news) (H : Has nw x C name v) (hs : ∀ p ∈ nw, p ∈ news) (hg : plainGet K C name = true) (hh : hasDictIn K C = true)
    (ha : findIn K (.ref C) name = some attr) (hn : noGet K attr = true) (hv : handedIn v = true) (h : Q v { s with toks := s.toks + 1 }) :
    wpAny (model prog w) A (getAttr (.ref x) name expr) Q E s := by
  obtain ⟨dx, es, n, h1, h2, h3⟩ := H
  exact get_own F X₀ (InstAt.of_news N (hs _ h1) (hs _ h2)) hg hh ha hn h3 hv h
theorem item_N {value slice : Expr} {l : Addr} {vs : List Value} {n : Nat} {k : Int} {u : Tok} {Q : Value → Shared → Prop}
    (N : News h₀ L s.heap news) (hm : (l, listOf vs.toArray n) ∈ news) (h0 : 0 ≤ k) (hb : k < 2 ^ 63) (hx : vs[k.toNat]? = some v) (h : Q v s)
    (hs : subscripted slice false (.ref l) (.int k u) = operate [.ref l, .int k u] (getItem (.ref l) (.int k u)) := by with_unfolding_all rfl) :
    wpAny (model prog w) A (subscriptTail value slice (.ref l) (.int k u)) Q E s :=
  have hl : s.heap.IsList l vs.toArray := ⟨_, (N _ hm).1, rfl, n, rfl⟩
  tail_any hl.typeIs slot_list_getitem.lookup (wpAny_getItem_list hl h0 hb (by simpa using hx) h) hs
theorem slice_lit {value : Expr} {slice : Expr} {b : Array UInt8} {t : Tok} {l u : Value} {lo hi : Option Int} {Q : Value → Shared → Prop} (hF : Fr h₀ L s.heap m) (hN : News h₀ L s.heap news) (hl : IsPart l lo) (hu : IsPart u hi) (hz : b.size ≤ 16777216)
    (e : KBy.picked b lo hi = b)
    (h : ∀ h' t' k, Fr h₀ L h' m → News h₀ L h' news → Q (.bytes b t') { s with heap := h', toks := k })
    (hs : subscripted slice false (.bytes b t) (.ref s.heap.objs.size) = operate [.ref s.heap.objs.size, .bytes b t] (getItem (.bytes b t) (.ref s.heap.objs.size)) := by with_unfolding_all rfl)
    (ht : ∀ r, letTemporaryGo value (.bytes b t) r = pure () := by intro _; with_unfolding_all rfl) :
    wpAny (model prog w) A (subscriptTail value slice (.bytes b t) (.ref s.heap.objs.size)) Q E { s with heap := s.heap.push { cls := .type "slice", data := .fields #[l, u, .none] } } :=
  KBc.slice_K hF hN rfl hl hu (by rw [KBw.ints_length]; exact hz) (fun h' t' k F N _ => by rw [e]; exact h h' t' k F N) hs ht
end
open PySem.Spec PySem.Calls
local macro_rules | `(tactic| k_mem) => `(tactic| first | assumption | exact List.mem_cons_of_mem _ (by assumption) | exact List.mem_cons_of_mem _ (List.mem_cons_of_mem _ (by assumption)) | exact List.mem_cons_of_mem _ (List.mem_cons_of_mem _ (List.mem_cons_of_mem _ (by assumption))) | exact List.mem_cons_of_mem _ (List.mem_cons_of_mem _ (List.mem_cons_of_mem _ (List.mem_cons_of_mem _ (by assumption)))) | exact List.mem_cons_of_mem _ (List.mem_cons_of_mem _ (List.mem_cons_of_mem _ (List.mem_cons_of_mem _ (List.mem_cons_of_mem _ (by assumption))))))
section
variable {prog : Program} {w : World} {A : Around} {E : Value → Shared → Prop} {s : Shared} {env : Env} {h₀ : Heap} {x : Str} {body : List Stmt} {Q : Flow → Shared → Prop}
theorem iter_led {l : Addr} {vs : List Value} {nn : Nat} {m₀ : Str → Option Value} {news : List (Addr × Obj)} (J : Nat → (Str → Option Value) → List (Addr × Obj) → Prop)
    (hh : A.handled = none) (F : Fr h₀ env.locals s.heap m₀) (N : News h₀ env.locals s.heap news) (hm : (l, listOf vs.toArray nn) ∈ news) (hj : J 0 m₀ news)
    (turn : ∀ i v m₁ news₁ h tk own, vs[i]? = some v → news₁.map (·.1) = news.map (·.1) → J i m₁ news₁ → Fr h₀ env.locals h (fun y => if y = x then some v else m₁ y) → News h₀ env.locals h (news₁ ++ own) →
      wpAny (model prog w) A (execs body env) (InvPostN h₀ env.locals (J (i + 1)) own (news.map (·.1)) { s with heap := h, toks := tk } Q) E { s with heap := h, toks := tk })
    (done : ∀ m₁ news₁ h tk, J vs.length m₁ news₁ → Fr h₀ env.locals h m₁ → News h₀ env.locals h news₁ → Q .next { s with heap := h, toks := tk }) :
    wpAny (model prog w) A (pyIter (.ref l)) (fun it s₂ => LoopAtV prog w A h₀ env x body Q E it s₂) E s := by
  have hls : s.heap.IsList l vs.toArray := ⟨_, (N _ hm).1, rfl, nn, rfl⟩
  have hne : l ≠ s.heap.objs.size := Nat.ne_of_lt (Heap.lt_size (N _ hm).1)
  have hlL : l ≠ env.locals := (N _ hm).2.1
  refine wpAny_pyIter_list hls ?_
  have W := Walks.list (prog := prog) (w := w) hh s.heap.objs.size l hne vs.toArray
  let J' : Nat → (Str → Option Value) → List (Addr × Obj) → Prop := fun i m₁ news₁ => news₁.map (·.1) = news.map (·.1) ∧ J i m₁ news₁
  refine ⟨_, _, _, _, _, _, m₀, news, J', rfl, W, ?_, ?_, ?_, ⟨⟨_, Heap.get?_push_size _ rfl, rfl, rfl⟩, hls.at fun o e => Heap.get?_push_of_some _ e⟩, F.push _, (fun p hp => ⟨Heap.get?_push_of_some _ (N p hp).1, (N p hp).2⟩), ⟨rfl, hj⟩, ?_, ?_⟩
  · intro hm'
    rcases List.mem_cons.mp hm' with e | hm'
    · exact absurd F.ns.lt (e ▸ Nat.lt_irrefl _)
    · exact hlL (List.mem_singleton.mp hm').symm
  · intro b hb
    rw [List.mem_singleton.mp hb]
    exact next_is_new F
  · intro p hp hI
    exact absurd (Heap.lt_size (N p hp).1) ((List.mem_singleton.mp hI) ▸ Nat.lt_irrefl _)
  · rintro i v m₁ news₁ s₁ own ⟨hh', tk', rfl⟩ hin hP ⟨hadr, hJ⟩ hoff hown _ _ _ F₁ N₁
    have hP' : vs[i]? = some v := by simpa using hP
    have N₂ : News h₀ env.locals hh' (news₁ ++ own) := fun p hp => N₁ p ((List.mem_append.mp hp).elim (fun h => List.mem_append.mpr (.inr h)) fun h => List.mem_append.mpr (.inl h))
    refine wpAny_mono (turn i v m₁ news₁ hh' tk' own hP' hadr hJ F₁ N₂) (fun f s₂ p => ?_) fun _ _ e => e
    have fin : InvEndN h₀ env.locals (J (i + 1)) own (news.map (·.1)) { s with heap := hh', toks := tk' } s₂ → LoopStepU h₀ env.locals [s.heap.objs.size] own (J' (i + 1)) { s with heap := hh', toks := tk' } .next s₂ := by
      rintro ⟨h', tk, m', news', nx, e, F', N', hn, ho, ha, hm⟩
      refine ⟨rfl, h', tk, m', nx, e, F', fun p hp => N' p ((List.mem_append.mp hp).elim (ho p) (hn p)), fun p hp hq => ?_, ha, hm⟩
      have h1 : p.1 ∈ nx.map (·.1) := List.mem_map.mpr ⟨p, hp, rfl⟩
      rw [ha, ← hadr] at h1
      obtain ⟨q, hq1, hq2⟩ := List.mem_map.mp h1
      exact hoff q hq1 (by rw [hq2]; exact hq)
    cases f with
    | ret v => exact .ret p
    | brk => exact .brk p
    | next => exact .next (fin p)
    | cont => exact .cont (fin p)
  · rintro h' tk m' news' F' N' _ ⟨_, hJ⟩
    have e : vs.toArray.size = vs.length := by simp
    rw [e] at hJ
    exact done m' news' h' tk hJ F' N'
end
theorem news_sub {h₀ h : Heap} {L : Addr} {a b : List (Addr × Obj)} (N : News h₀ L h b) (hs : ∀ p ∈ a, p ∈ b) : News h₀ L h a := fun p hp => N p (hs p hp)
theorem compEnd_one {h₀ : Heap} {L I C D d : Addr} {m : Str → Option Value} {s₁ : Shared} {oI oC oD o : Obj} {S : List (Addr × Obj) → Prop} {R : Value → List (Addr × Obj) → Prop} {y : Value} {h' : Heap} {tk : Nat} {rest : List (Addr × Obj)} {P : Prop}
    (F : Fr h₀ L h' m) (N : News h₀ L h' ((d, o) :: (I, oI) :: (C, oC) :: (D, oD) :: rest)) (off : LCg.Off3 I C D rest) (hlt : I < d ∧ C < d ∧ D < d ∧ P) (hS : S ((d, o) :: rest)) (r : R y ((d, o) :: rest)) :
    LCg.CompEnd h₀ L m s₁ I oI C oC D oD S R y { s₁ with heap := h', toks := tk } := by
  refine LCg.CompEnd.intro F N ((d, o) :: rest) ?_ ⟨⟨Nat.ne_of_gt hlt.1, Nat.ne_of_gt hlt.2.1, Nat.ne_of_gt hlt.2.2.1⟩, off⟩ hS r
  intro p hp
  simp only [List.mem_cons] at hp ⊢
  rcases hp with h | h | h | h | h
  · exact .inr (.inl h)
  · exact .inr (.inr (.inl h))
  · exact .inr (.inr (.inr (.inl h)))
  · exact .inl h
  · exact .inr (.inr (.inr (.inr h)))
section
variable {prog : Program} {w : World} {A : Around} {E : Value → Shared → Prop} {s : Shared} {h₀ : Heap} {L D : Addr} {m : Str → Option Value} {news news' : List (Addr × Obj)} {vs : List Value} {n : Nat} {k : Int} {t : Tok} {x : Value}
theorem set_led {Q : Unit → Shared → Prop} (F : Fr h₀ L s.heap m) (N : News h₀ L s.heap news) (U : Upd D (listOf vs.toArray n) (listOf (vs.set k.toNat x).toArray n) news news') (h0 : 0 ≤ k) (h1 : k < vs.length) (hfit : k < 2 ^ 63)
    (h : ∀ h', Fr h₀ L h' m → News h₀ L h' news' → Q () { s with heap := h' }) :
    wpAny (model prog w) A (setItem (.ref D) (.int k t) x) Q E s := by
  obtain ⟨pre, post, rfl, rfl, a, b⟩ := U.split
  have z := N (D, listOf vs.toArray n) (List.mem_append.mpr (.inr (.head _)))
  have hs : vs.toArray.size = vs.length := by rw [List.size_toArray]
  have hj : k.toNat < vs.length := by omega
  refine ki_setAt z.1 h0 hfit (by omega) (h _ (F.change (Heap.SameBut.update ..) z.2.1 z.2.2) (ki_turn _ N a b ?_ ?_))
  · show vs.toArray.setIfInBounds k.toNat x = (vs.set k.toNat x).toArray
    apply Array.toList_inj.mp
    simp
  · simp
theorem upd_tail {o o' q : Obj} {d S : Addr} (hl : ∀ p ∈ news, p.1 < d) (U : Upd S o o' news news') : Upd S o o' ((d, q) :: news) ((d, q) :: news') := by
  refine .tail ?_ U
  obtain ⟨pre, post, rfl, _, _, _⟩ := U.split
  exact Nat.ne_of_gt (hl (S, o) (List.mem_append.mpr (.inr (.head _))))
end
section
variable {prog : Program} {w : World} {A : Around} {E : Value → Shared → Prop} {s : Shared} {env : Env} {h₀ : Heap} {x : Str} {body : List Stmt} {Q : Flow → Shared → Prop}
theorem iter_rng {r : Addr} {a b : Int} {t u v : Tok} {n : Nat} {m₀ : Str → Option Value} {news : List (Addr × Obj)} (J : Nat → (Str → Option Value) → List (Addr × Obj) → Prop)
    (hh : A.handled = none) (F : Fr h₀ env.locals s.heap m₀) (N : News h₀ env.locals s.heap news) (hr : IsRange s.heap r a b 1 t u v) (hsm : Builtin.Range.small a b 1 = true) (hn : Builtin.Range.rangeSize a b 1 = ((n : Nat) : Int)) (hj : J 0 m₀ news)
    (turn : ∀ i t' m₁ news₁ h tk own, i < n → news₁.map (·.1) = news.map (·.1) → OwnOff own (news.map (·.1)) → J i m₁ news₁ → Fr h₀ env.locals h (fun y => if y = x then some (.int (a + (i : Int)) t') else m₁ y) → News h₀ env.locals h (news₁ ++ own) →
      wpAny (model prog w) A (execs body env) (InvPostN h₀ env.locals (J (i + 1)) own (news.map (·.1)) { s with heap := h, toks := tk } Q) E { s with heap := h, toks := tk })
    (done : ∀ m₁ news₁ h tk, J n m₁ news₁ → Fr h₀ env.locals h m₁ → News h₀ env.locals h news₁ → Q .next { s with heap := h, toks := tk }) :
    wpAny (model prog w) A (pyIter (.ref r)) (fun it s₂ => LoopAtV prog w A h₀ env x body Q E it s₂) E s := by
  refine wpAny_pyIter_range hr hsm ?_
  have W := LCg.range_walks (prog := prog) (w := w) (I := s.heap.objs.size) hh a n
  let J' : Nat → (Str → Option Value) → List (Addr × Obj) → Prop := fun i m₁ news₁ => news₁.map (·.1) = news.map (·.1) ∧ J i m₁ news₁
  refine ⟨_, _, _, _, _, _, m₀, news, J', rfl, W, ?_, ?_, ?_, (by show IsRangeIter _ _ _ _ _; rw [hn]; simpa using Heap.get?_push_size _ rfl), F.push _, (fun p hp => ⟨Heap.get?_push_of_some _ (N p hp).1, (N p hp).2⟩), ⟨rfl, hj⟩, ?_, ?_⟩
  · intro hm'
    exact absurd F.ns.lt ((List.mem_singleton.mp hm') ▸ Nat.lt_irrefl _)
  · intro b hb
    rw [List.mem_singleton.mp hb]
    exact next_is_new F
  · intro p hp hI
    exact absurd (Heap.lt_size (N p hp).1) ((List.mem_singleton.mp hI) ▸ Nat.lt_irrefl _)
  · rintro i v m₁ news₁ s₁ own ⟨hh', tk', rfl⟩ hin ⟨t', rfl⟩ ⟨hadr, hJ⟩ hoff hown _ _ _ F₁ N₁
    have hsep : OwnOff own (news.map (·.1)) := by
      intro p hp b hb e
      obtain ⟨q, hq, rfl⟩ := List.mem_map.mp hb
      exact absurd (Heap.lt_size (N q hq).1) (by rw [← e, List.mem_singleton.mp (hown p hp)]; exact Nat.lt_irrefl _)
    have N₂ : News h₀ env.locals hh' (news₁ ++ own) := fun p hp => N₁ p ((List.mem_append.mp hp).elim (fun h => List.mem_append.mpr (.inr h)) fun h => List.mem_append.mpr (.inl h))
    refine wpAny_mono (turn i t' m₁ news₁ hh' tk' own hin hadr hsep hJ F₁ N₂) (fun f s₂ p => ?_) fun _ _ e => e
    have fin : InvEndN h₀ env.locals (J (i + 1)) own (news.map (·.1)) { s with heap := hh', toks := tk' } s₂ → LoopStepU h₀ env.locals [s.heap.objs.size] own (J' (i + 1)) { s with heap := hh', toks := tk' } .next s₂ := by
      rintro ⟨h', tk, m', news', nx, e, F', N', hn, ho, ha, hm⟩
      refine ⟨rfl, h', tk, m', nx, e, F', fun p hp => N' p ((List.mem_append.mp hp).elim (ho p) (hn p)), fun p hp hq => ?_, ha, hm⟩
      have h1 : p.1 ∈ nx.map (·.1) := List.mem_map.mpr ⟨p, hp, rfl⟩
      rw [ha, ← hadr] at h1
      obtain ⟨q, hq1, hq2⟩ := List.mem_map.mp h1
      exact hoff q hq1 (by rw [hq2]; exact hq)
    cases f with
    | ret v => exact .ret p
    | brk => exact .brk p
    | next => exact .next (fin p)
    | cont => exact .cont (fin p)
  · rintro h' tk m' news' F' N' _ ⟨_, hJ⟩
    exact done m' news' h' tk hJ F' N'
end
open PySem.SeqAt in
theorem eqAt_self {A : Around} {s : Shared} (v : Value) (hv : (v == v) = true) : EqAt A s v v true := fun prog w E Q hq => by
  unfold eqBool
  refine wpAny_holding ?_
  rw [hv]
  exact wpAny_bind (wpAny_rule (wpAny_pure hq))
section
open PySem.SeqAt
theorem val_self (v : Value) : (v == v) = true := beq_self_eq_true v
theorem eqAt_bytes {A : Around} {s : Shared} (b : Array UInt8) (t u : Tok) : EqAt A s (.bytes b t) (.bytes b u) true := fun prog w E Q hq => eqBool_bytes (by simpa using hq)
theorem getElem?_unique {vs : List Value} {j : Nat} {x y : Value} (h1 : vs[j]? = some x) (h2 : vs[j]? = some y) : x = y := by rw [h1] at h2; exact Option.some.inj h2
def SameV (x y : Value) : Prop := x = y ∨ ∃ b t u, x = .bytes b t ∧ y = .bytes b u
theorem SameV.eqAt {A : Around} {s : Shared} {x y : Value} (h : SameV x y) : EqAt A s x y true := by
  rcases h with rfl | ⟨b, t, u, rfl, rfl⟩
  · exact eqAt_self _ (val_self _)
  · exact eqAt_bytes _ _ _
theorem same_refl {vs : List Value} : ∀ (j : Nat) (x y : Value), vs[j]? = some x → vs[j]? = some y → SameV x y := fun _ _ _ h1 h2 => .inl (getElem?_unique h1 h2)
theorem same_set {vs : List Value} {i i' : Nat} {b : Array UInt8} {t u : Tok} (e : i = i') : ∀ (j : Nat) (x y : Value), (vs.set i (.bytes b t))[j]? = some x → (vs.set i' (.bytes b u))[j]? = some y → SameV x y := by
  subst e
  intro j x y h1 h2
  rw [List.getElem?_set] at h1 h2
  by_cases hj : i = j
  · rw [if_pos hj] at h1 h2
    by_cases hl : i < vs.length
    · rw [if_pos hl] at h1 h2
      exact .inr ⟨b, t, u, (Option.some.inj h1).symm, (Option.some.inj h2).symm⟩
    · rw [if_neg hl] at h1; cases h1
  · rw [if_neg hj] at h1 h2
    exact .inl (getElem?_unique h1 h2)
theorem same_two {b : Array UInt8} {t u : Tok} {v : Value} : ∀ (j : Nat) (x y : Value), [Value.bytes b t, v][j]? = some x → [Value.bytes b u, v][j]? = some y → SameV x y := by
  intro j x y h1 h2
  match j with
  | 0 => exact .inr ⟨b, t, u, (Option.some.inj h1).symm, (Option.some.inj h2).symm⟩
  | 1 => exact .inl (getElem?_unique h1 h2)
  | _ + 2 => cases h1
section
variable {prog : Program} {w : World} {A : Around} {E : Value → Shared → Prop} {s : Shared} {h₀ : Heap} {L a b : Addr} {news : List (Addr × Obj)} {xs ys : List Value} {n k : Nat} {Q : Value → Shared → Prop}
theorem range_all_true (n : Nat) : (List.range n).all (fun _ => true) = true := by simp
theorem ne_lists (N : News h₀ L s.heap news) (ha : (a, listOf xs.toArray n) ∈ news) (hb : (b, listOf ys.toArray k) ∈ news) (hl : xs.length = ys.length) (hu : A.units < cLine)
    (hp : ∀ (j : Nat) (x y : Value), xs[j]? = some x → ys[j]? = some y → SameV x y) (h : Q (.bool false) s) : wpAny (model prog w) A (compareOp .NotEq (.ref a) (.ref b)) Q E s := by
  have h1 : s.heap.IsList a xs.toArray := ⟨_, (N _ ha).1, rfl, n, rfl⟩
  have h2 : s.heap.IsList b ys.toArray := ⟨_, (N _ hb).1, rfl, k, rfl⟩
  refine cmp_ofNotEq (RcNeAt.lists (e := fun _ => true) h1 h2 (by simpa using hl) hu (fun j j1 j2 => ?_) prog w E Q ?_)
  · exact (hp j _ _ (by simp at j1; simp [j1]) (by simp at j2; simp [j2])).eqAt
  · rw [range_all_true]; exact h
theorem ne_tups (N : News h₀ L s.heap news) (ha : (a, ({ cls := .type "tuple", data := .seq xs.toArray n } : Obj)) ∈ news) (hb : (b, ({ cls := .type "tuple", data := .seq ys.toArray k } : Obj)) ∈ news) (hl : xs.length = ys.length) (hu : A.units < cLine)
    (hp : ∀ (j : Nat) (x y : Value), xs[j]? = some x → ys[j]? = some y → SameV x y) (h : Q (.bool false) s) : wpAny (model prog w) A (compareOp .NotEq (.ref a) (.ref b)) Q E s := by
  have h1 : s.heap.IsTuple a xs.toArray := ⟨_, (N _ ha).1, rfl, n, rfl⟩
  have h2 : s.heap.IsTuple b ys.toArray := ⟨_, (N _ hb).1, rfl, k, rfl⟩
  refine cmp_ofNotEq (RcNeAt.tuples (e := fun _ => true) h1 h2 hu (fun j j1 j2 => ?_) prog w E Q ?_)
  · exact (hp j _ _ (by simp at j1; simp [j1]) (by simp at j2; simp [j2])).eqAt
  · rw [range_all_true]
    have e : (xs.toArray.size == ys.toArray.size) = true := by simp [hl]
    rw [e]; exact h
theorem ne_bytes_same {c : Array UInt8} {t u : Tok} (h : Q (.bool false) s) : wpAny (model prog w) A (compareOp .NotEq (.bytes c t) (.bytes c u)) Q E s :=
  ne_bytes (by rw [show (c.toList != c.toList) = false from by simp]; exact h)
theorem len_led {l : Addr} (N : News h₀ L s.heap news) (hm : (l, listOf xs.toArray n) ∈ news) (hz : xs.length ≤ 1000000) (h : Q (.int xs.length (s.toks + 1)) { s with toks := s.toks + 1 + 1 }) : wpAny (model prog w) A (call (.builtin "len") [.ref l]) Q E s := by
  have hl : s.heap.IsList l xs.toArray := ⟨_, (N _ hm).1, rfl, n, rfl⟩
  have e : xs.toArray.size = xs.length := by simp
  exact Calls.call_len_list hl (by rw [e]; omega) (by rw [e]; exact h)
end
end
section
variable {prog : Program} {w : World} {A : Around} {E : Value → Shared → Prop} {s : Shared} {h₀ : Heap} {L : Addr} {m : Str → Option Value} {env : Env}
theorem compRest_ind {elt : Expr} {x : Str} {scope : Scope} {cl : List (Str × Addr)} {S : List (Addr × Obj) → Prop} {P : Nat → Value → Prop} {Fin : List Value → List (Addr × Obj) → Prop} {n : Nat} {news : List (Addr × Obj)}
    (Inv : Nat → List Value → List (Addr × Obj) → Prop) (h0 : Inv 0 [] news)
    (step : ∀ i ys news v I oI C oC D m₂ h tk (E' : Value → Shared → Prop), i < n → Inv i ys news → P i v → LCg.NsObj oC m₂ → m₂ x = some v → Fr h₀ L h m → News h₀ L h ((I, oI) :: (C, oC) :: (D, LCg.lst ys) :: news) → LCg.Off3 I C D news → ((@Ne Nat I C) ∧ (@Ne Nat I D) ∧ (@Ne Nat C D)) →
      wpAny (model prog w) A (eval elt (compEnvC scope cl C env)) (LCg.CompEnd h₀ L m { s with heap := h, toks := tk } I oI C oC D (LCg.lst ys) S (fun y news' => Inv (i + 1) (ys ++ [y]) news')) E' { s with heap := h, toks := tk })
    (fin : ∀ ys news, Inv n ys news → Fin ys news) : LCg.CompRest prog w A h₀ L m env elt x scope cl s S P Fin n 0 [] news := by
  have all : ∀ k i ys news, i + k = n → Inv i ys news → LCg.CompRest prog w A h₀ L m env elt x scope cl s S P Fin k i ys news := by
    intro k
    induction k with
    | zero =>
      intro i ys news e hi
      have e' : i = n := by omega
      subst e'
      exact LCg.CompRest.zero (fin _ _ hi)
    | succ k ih =>
      intro i ys news e hi
      refine LCg.CompRest.succ fun v I oI C oC D m₂ h tk E' hv hC hx F N off ne => ?_
      refine wpAny_mono (step i ys news v I oI C oC D m₂ h tk E' (by omega) hi hv hC hx F N off ne) (fun y s₂ q => ?_) fun _ _ q => q
      obtain ⟨h', tk', nw, e1, F', N', off', hS, hr⟩ := q
      exact ⟨h', tk', nw, e1, F', N', off', hS, ih (i + 1) _ _ (by omega) hr⟩
  exact all n 0 [] news (Nat.zero_add n) h0
end
theorem compEnd_two {h₀ : Heap} {L I C D x d : Addr} {m : Str → Option Value} {s₁ : Shared} {oI oC oD ox od : Obj} {S : List (Addr × Obj) → Prop} {R : Value → List (Addr × Obj) → Prop} {y : Value} {h' : Heap} {tk : Nat} {rest : List (Addr × Obj)} {P : Prop}
    (F : Fr h₀ L h' m) (N : News h₀ L h' ((x, ox) :: (d, od) :: (I, oI) :: (C, oC) :: (D, oD) :: rest)) (off : LCg.Off3 I C D rest) (hlt : I < d ∧ C < d ∧ D < d ∧ P) (hx : @LT.lt Nat _ d x) (hS : S ((x, ox) :: (d, od) :: rest)) (r : R y ((x, ox) :: (d, od) :: rest)) :
    LCg.CompEnd h₀ L m s₁ I oI C oC D oD S R y { s₁ with heap := h', toks := tk } := by
  refine LCg.CompEnd.intro F N ((x, ox) :: (d, od) :: rest) ?_ ⟨⟨Nat.ne_of_gt (Nat.lt_trans hlt.1 hx), Nat.ne_of_gt (Nat.lt_trans hlt.2.1 hx), Nat.ne_of_gt (Nat.lt_trans hlt.2.2.1 hx)⟩, ⟨Nat.ne_of_gt hlt.1, Nat.ne_of_gt hlt.2.1, Nat.ne_of_gt hlt.2.2.1⟩, off⟩ hS r
  intro p hp
  simp only [List.mem_cons] at hp ⊢
  rcases hp with h | h | h | h | h | h
  · exact .inr (.inr (.inl h))
  · exact .inr (.inr (.inr (.inl h)))
  · exact .inr (.inr (.inr (.inr (.inl h))))
  · exact .inl h
  · exact .inr (.inl h)
  · exact .inr (.inr (.inr (.inr (.inr h))))
theorem isStr_two {v : Value} {a b : Str} (h1 : v.isStr a = true) (h2 : v.isStr b = true) : a = b := by
  cases v <;> simp only [Value.isStr] at h1 h2 <;> try (cases h1)
  exact (eq_of_beq h1).symm.trans (eq_of_beq h2)
theorem putL_same {name : Str} {hsh : Int} {key v : Value} : ∀ {es : List DictEntry} {e : DictEntry}, es.find? (·.key.isStr name) = some e → ∃ e', (putL name hsh key v es).find? (·.key.isStr name) = some e' ∧ e'.val = v
  | [], _, h => by cases h
  | a :: r, e, h => by
    unfold putL
    by_cases ha : a.key.isStr name = true
    · rw [if_pos ha]
      exact ⟨⟨a.hash, a.key, v⟩, by rw [List.find?_cons]; simp only [ha], rfl⟩
    · have ha' : a.key.isStr name = false := by simpa using ha
      rw [if_neg ha]
      rw [List.find?_cons] at h
      simp only [ha'] at h
      obtain ⟨e', h1, h2⟩ := putL_same (hsh := hsh) (key := key) (v := v) h
      exact ⟨e', by rw [List.find?_cons]; simp only [ha']; exact h1, h2⟩
theorem putL_other {name nm : Str} {hsh : Int} {key v : Value} (hn : nm ≠ name) : ∀ {es : List DictEntry} {e : DictEntry}, es.find? (·.key.isStr nm) = some e → (putL name hsh key v es).find? (·.key.isStr nm) = some e
  | [], _, h => by cases h
  | a :: r, e, h => by
    unfold putL
    by_cases ha : a.key.isStr name = true
    · rw [if_pos ha]
      have hb : a.key.isStr nm = false := by
        cases hb : a.key.isStr nm with
        | false => rfl
        | true => exact absurd (isStr_two hb ha) hn
      rw [List.find?_cons] at h ⊢
      simp only [hb] at h ⊢
      exact h
    · rw [if_neg ha]
      rw [List.find?_cons] at h ⊢
      cases hb : a.key.isStr nm with
      | true => simp only [hb] at h ⊢; exact h
      | false =>
        simp only [hb] at h ⊢
        exact putL_other hn h
theorem putL_len {name : Str} {hsh : Int} {key v : Value} : ∀ es : List DictEntry, (putL name hsh key v es).length ≤ es.length + 1
  | [] => by simp [putL]
  | a :: r => by
    unfold putL
    split
    · simp
    · have := putL_len (name := name) (hsh := hsh) (key := key) (v := v) r
      simp only [List.length_cons]
      omega
theorem getL_find {name : Str} {es : List DictEntry} {v : Value} (h : getL name es = some (some v)) : ∃ e, es.find? (·.key.isStr name) = some e ∧ e.val = v := by
  unfold getL at h
  split at h
  · rename_i e he
    exact ⟨e, he, by simpa using h⟩
  · split at h <;> cases h
theorem find_getL {name : Str} {es : List DictEntry} {e : DictEntry} (h : es.find? (·.key.isStr name) = some e) : getL name es = some (some e.val) := by
  unfold getL
  rw [h]
theorem getL_put {name : Str} {hsh : Int} {key v v0 : Value} {es : List DictEntry} (h : getL name es = some (some v0)) : getL name (putL name hsh key v es) = some (some v) := by
  obtain ⟨e, he, _⟩ := getL_find h
  obtain ⟨e', h1, h2⟩ := putL_same (hsh := hsh) (key := key) (v := v) he
  rw [find_getL h1, h2]
theorem getL_put_other {name nm : Str} {hsh : Int} {key v u : Value} {es : List DictEntry} (hn : nm ≠ name) (h : getL nm es = some (some u)) : getL nm (putL name hsh key v es) = some (some u) := by
  obtain ⟨e, he, hv⟩ := getL_find h
  rw [find_getL (putL_other hn he), hv]
section
variable {prog : Program} {w : World} {A : Around} {E : Value → Shared → Prop} {s : Shared} {K : Frag} {x C dx L : Addr} {h₀ : Heap} {m : Str → Option Value} {rest : List (Addr × Obj)} {es : List DictEntry} {n : Nat} {name : Str} {v v0 : Value}
theorem set_at {Q : Unit → Shared → Prop} (F : Fr h₀ L s.heap m) (X₀ : K.In h₀) (N : News h₀ L s.heap ((dx, dictOf es n) :: rest)) (hm : (x, (⟨.ref C, some dx, .plain, #[]⟩ : Obj)) ∈ rest) (off : ∀ p ∈ rest, p.1 ≠ dx)
    (hs : findIn K (.ref C) "__setattr__" = some (some (.builtin "object.__setattr__"))) (hp : plainOver K C = true) (ht : takerIn K C name = some none) (hh : hasDictIn K C = true) (hl : getL name es = some (some v0)) (hz : es.length ≤ 500)
    (h : ∀ h' es' n', Fr h₀ L h' m → News h₀ L h' ((dx, dictOf es' n') :: rest) → getL name es' = some (some v) → (∀ nm u, nm ≠ name → getL nm es = some (some u) → getL nm es' = some (some u)) → Q () { s with heap := h', toks := s.toks + 2 }) :
    wpAny (model prog w) A (setAttr (.ref x) name v) Q E s := by
  refine set_dict F X₀ N (InstAt.of_news N (List.mem_cons_of_mem _ hm) (List.mem_cons_self)) rfl hs hp ht hh (by rw [hl]; rfl) rfl (Upd.head off) (by have := putL_len (name := name) (hsh := PyData.keyHash w.params name) (key := .str name (s.toks + 1)) (v := v) es; omega) fun h' F' N' => ?_
  exact h h' _ _ F' N' (getL_put hl) fun nm u hn hu => getL_put_other hn hu
end
theorem fill : hd.heap_39 = hd.heap_39 ∧ PySem.Challenge.rw_rh0160_01 = PySem.Challenge.rw_rh0160_01 := by
  k_fill
  exact ⟨rfl, rfl⟩
local macro_rules | `(tactic| walk_at "getAttr ref") => `(tactic| (k_here; k_dflt (refine' get_has ?k1 ?k2 ?k3 ?k4 ?ks ?k5 ?k6 ?k7 ?k8 ?k9 ?_; (case k4 => assumption); (case k1 => k_asm); (case k2 => k_asm); (case k3 => k_asm); (case k5 => k_is); (case k6 => k_is); (case k7 => k_is); (case k8 => k_is); (case k9 => k_handed); (case ks => ktd_sub); k_whole)))
local macro_rules | `(tactic| walk_at "subscriptTail") => `(tactic| (k_here; (with_reducible show wpAny _ _ (subscriptTail _ _ (Value.ref _) (Value.int _ _)) _ _ _); (with_unfolding_all refine' item_N ?k1 ?k2 ?k3 ?k4 ?k5 ?_ ?k6; (case k1 => k_asm); (case k2 => first | assumption | k_mem); (case k3 => first | assumption | omega); (case k4 => first | assumption | omega); (case k5 => first | assumption | rfl); (case k6 => with_unfolding_all rfl); k_whole)))
section
variable {prog : Program} {w : World} {p : Program} {loose : List Str} {mean : ExcName → Option Value} {mg mb : Str → Option Value} {dp un : Nat} {gd : Option (List Code)} {cn : Str} {cs : Scope} {a : Addr} {ccd : Value} {cl : List (Str × Addr)} {outer : List Env} {A₀ : Around} {base h₀ : Heap} {L : Addr} {m : Str → Option Value} {news : List (Addr × Obj)} {s : Shared}
    {Q E : Value → Shared → Prop}
theorem function_of_spec {nw : List (Addr × Obj)} {thr ci S : Addr} {vs : List Value} {n t : Nat} {k : Int} {v : Value}
    (B : Below A₀ base outer h₀) (F : Fr h₀ L s.heap m) (X : (hd.heap_39 w.params).In h₀) (N : News h₀ L s.heap news) (T : Top p loose mean mg mb h₀) (hk : cs.kind = .function)
    (hs : ∀ p ∈ nw, p ∈ news)
    (h1 : Has nw thr 311 "stack" (.ref S)) (h2 : Has nw ci 190 "func" (.int k t)) (h3 : (S, listOf vs.toArray n) ∈ news) (h0 : 0 ≤ k) (hb : k < 2 ^ 63) (h4 : vs[k.toNat]? = some v)
    (hd : dp + 2 < recursionLimit) (hu : un + 80 < cLine)
    (ret : ∀ h' tk', Fr h₀ L h' m → News h₀ L h' news → Q v { s with heap := h', toks := tk' }) :
    wpAny (model prog w) (ktrTop dp un gd cn cs L a ccd cl outer) (call (.ref 320) [.ref thr, .ref ci]) Q E s := by
  replace h1 := h1.more hs
  replace h2 := h2.more hs
  clear hs
  refine wpAny_call ?_
  k_dflt ktr_enter
  k_steps
  exact ret _ _ (by k_asm) (by k_asm)
end
local macro_rules | `(tactic| walk_at "call ref") => `(tactic| (k_here; (with_reducible show wpAny _ _ (call (Value.ref 320) _) _ _ _); k_dflt (refine' function_of_spec ?B ?F ?X ?N ?T ?hk ?hs ?h1 ?h2 ?h3 ?h0 ?hb ?h4 ?hd ?hu ?_; (case B => k_asm); (case F => k_asm); (case X => k_asm); (case N => k_asm); (case T => k_asm); (case hk => first | exact rfl | assumption); (case h1 => assumption); (case h2 => assumption); (case h3 => first | assumption | k_mem); (case h0 => first | assumption | omega); (case hb => first | assumption | omega); (case h4 => assumption); (case hs => ktd_sub); (case hd => ktr_room); (case hu => ktr_units); intro h' tk' F' N')))
section
variable {prog : Program} {w : World} {p : Program} {loose : List Str} {mean : ExcName → Option Value} {mg mb : Str → Option Value} {dp un : Nat} {gd : Option (List Code)} {cn : Str} {cs : Scope} {a : Addr} {ccd : Value} {cl : List (Str × Addr)} {outer : List Env} {A₀ : Around} {base h₀ : Heap} {L : Addr} {m : Str → Option Value} {news : List (Addr × Obj)} {s : Shared}
    {Q E : Value → Shared → Prop}
inductive IsL (news : List (Addr × Obj)) : Value → Bool → Prop
  | none : IsL news .none false
  | lua {x dx : Addr} {od : Obj} : (x, (⟨.ref 109, some dx, .plain, #[]⟩ : Obj)) ∈ news → (dx, od) ∈ news → IsL news (.ref x) true
  | py {x dx : Addr} {od : Obj} : (x, (⟨.ref 157, some dx, .plain, #[]⟩ : Obj)) ∈ news → (dx, od) ∈ news → IsL news (.ref x) false
theorem IsL.more {news news' : List (Addr × Obj)} {v : Value} {b : Bool} (h : IsL news v b) (hs : ∀ p ∈ news, p ∈ news') : IsL news' v b := by
  cases h with
  | none => exact .none
  | lua h1 h2 => exact .lua (hs _ h1) (hs _ h2)
  | py h1 h2 => exact .py (hs _ h1) (hs _ h2)
theorem is_lua_spec {nw : List (Addr × Obj)} {thr ci S : Addr} {vs : List Value} {n t : Nat} {k : Int} {v : Value} {b : Bool}
    (B : Below A₀ base outer h₀) (F : Fr h₀ L s.heap m) (X : (hd.heap_39 w.params).In h₀) (N : News h₀ L s.heap news) (T : Top p loose mean mg mb h₀) (hk : cs.kind = .function)
    (hs : ∀ p ∈ nw, p ∈ news)
    (h1 : Has nw thr 311 "stack" (.ref S)) (h2 : Has nw ci 190 "func" (.int k t)) (h3 : (S, listOf vs.toArray n) ∈ news) (h0 : 0 ≤ k) (hb : k < 2 ^ 63) (h4 : vs[k.toNat]? = some v) (h5 : IsL nw v b)
    (hd : dp + 3 < recursionLimit) (hu : un + 160 < cLine)
    (ret : ∀ h' tk', Fr h₀ L h' m → News h₀ L h' news → Q (.bool b) { s with heap := h', toks := tk' }) :
    wpAny (model prog w) (ktrTop dp un gd cn cs L a ccd cl outer) (call (.ref 327) [.ref thr, .ref ci]) Q E s := by
  replace h1 := h1.more hs
  replace h2 := h2.more hs
  replace h5 := h5.more hs
  clear hs
  cases h5
  all_goals (
    refine wpAny_call ?_
    k_dflt ktr_enter
    k_steps
    exact ret _ _ (by k_asm) (by k_asm))
end
local macro_rules | `(tactic| walk_at "call ref") => `(tactic| (k_here; (with_reducible show wpAny _ _ (call (Value.ref 327) _) _ _ _); k_dflt (refine' is_lua_spec ?B ?F ?X ?N ?T ?hk ?hs ?h1 ?h2 ?h3 ?h0 ?hb ?h4 ?h5 ?hd ?hu ?_; (case B => k_asm); (case F => k_asm); (case X => k_asm); (case N => k_asm); (case T => k_asm); (case hk => first | exact rfl | assumption); (case h1 => assumption); (case h2 => assumption); (case h3 => first | assumption | k_mem); (case h0 => first | assumption | omega); (case hb => first | assumption | omega); (case h4 => assumption); (case h5 => assumption); (case hs => ktd_sub); (case hd => ktr_room); (case hu => ktr_units); intro h' tk' F' N')))
section
variable {prog : Program} {w : World} {p : Program} {loose : List Str} {mean : ExcName → Option Value} {mg mb : Str → Option Value} {dp un : Nat} {gd : Option (List Code)} {cn : Str} {cs : Scope} {a : Addr} {ccd : Value} {cl : List (Str × Addr)} {outer : List Env} {A₀ : Around} {base h₀ : Heap} {L : Addr} {m : Str → Option Value} {news : List (Addr × Obj)} {s : Shared}
    {Q E : Value → Shared → Prop}
theorem current_pc_spec {nw : List (Addr × Obj)} {thr ci S : Addr} {vs : List Value} {n t u : Nat} {k : Int} {v : Value}
    (B : Below A₀ base outer h₀) (F : Fr h₀ L s.heap m) (X : (hd.heap_39 w.params).In h₀) (N : News h₀ L s.heap news) (T : Top p loose mean mg mb h₀) (hk : cs.kind = .function)
    (hs : ∀ p ∈ nw, p ∈ news)
    (h1 : Has nw thr 311 "stack" (.ref S)) (h2 : Has nw ci 190 "func" (.int k t)) (h3 : (S, listOf vs.toArray n) ∈ news) (h0 : 0 ≤ k) (hb : k < 2 ^ 63) (h4 : vs[k.toNat]? = some v) (h5 : IsL nw v true)
    (h6 : Has nw ci 190 "pc" (.int 2 u))
    (hd : dp + 4 < recursionLimit) (hu : un + 240 < cLine)
    (ret : ∀ h' tk' t', Fr h₀ L h' m → News h₀ L h' news → Q (.int 1 t') { s with heap := h', toks := tk' }) :
    wpAny (model prog w) (ktrTop dp un gd cn cs L a ccd cl outer) (call (.ref 334) [.ref thr, .ref ci]) Q E s := by
  replace h1 := h1.more hs
  replace h2 := h2.more hs
  replace h5 := h5.more hs
  replace h6 := h6.more hs
  clear hs
  refine wpAny_call ?_
  k_dflt ktr_enter
  k_steps
  exact ret _ _ _ (by k_asm) (by k_asm)
inductive Form (news : List (Addr × Obj)) (thr : Addr) (vs : List Value) (c0 c1 : Addr) (many behind : Int) : Int → Int → Prop
  | two {FR : Addr} {n t : Nat} : Has news thr 311 "frames" (.ref FR) → (FR, listOf [Value.ref c0, Value.ref c1].toArray n) ∈ news → Has news thr 311 "top" (.int (2 + behind) t) → Form news thr vs c0 c1 many behind 0 many
  | three {FR c2 : Addr} {n t u : Nat} {fv : Value} {b : Bool} : Has news thr 311 "frames" (.ref FR) → (FR, listOf [Value.ref c0, Value.ref c1, Value.ref c2].toArray n) ∈ news → Has news c2 190 "func" (.int (2 + behind) t) → Has news c2 190 "tails" (.int 0 u) →
      vs[(2 + behind).toNat]? = some fv → IsL news fv b → Form news thr vs c0 c1 many behind 1 behind
theorem Form.more {news news' : List (Addr × Obj)} {thr : Addr} {vs : List Value} {c0 c1 : Addr} {many behind level own : Int} (h : Form news thr vs c0 c1 many behind level own) (hs : ∀ p ∈ news, p ∈ news') : Form news' thr vs c0 c1 many behind level own := by
  cases h with
  | two h1 h2 h3 => exact .two (h1.more hs) (hs _ h2) (h3.more hs)
  | three h1 h2 h3 h4 h5 h6 => exact .three (h1.more hs) (hs _ h2) (h3.more hs) (h4.more hs) h5 (h6.more hs)
theorem top_of_spec {nw : List (Addr × Obj)} {thr c0 c1 : Addr} {vs : List Value} {t : Nat} {many behind level own : Int}
    (B : Below A₀ base outer h₀) (F : Fr h₀ L s.heap m) (X : (hd.heap_39 w.params).In h₀) (N : News h₀ L s.heap news) (T : Top p loose mean mg mb h₀) (hk : cs.kind = .function)
    (hs : ∀ p ∈ nw, p ∈ news)
    (h1 : Form nw thr vs c0 c1 many behind level own)
    (hd : dp + 2 < recursionLimit) (hu : un + 80 < cLine)
    (ret : ∀ h' tk' t', Fr h₀ L h' m → News h₀ L h' news → Q (.int (2 + behind) t') { s with heap := h', toks := tk' }) :
    wpAny (model prog w) (ktrTop dp un gd cn cs L a ccd cl outer) (call (.ref 346) [.ref thr, .int 1 t]) Q E s := by
  replace h1 := h1.more hs
  clear hs
  cases h1
  all_goals (
    refine wpAny_call ?_
    k_dflt ktr_enter
    k_steps
    exact ret _ _ _ (by k_asm) (by k_asm))
end
local macro_rules | `(tactic| walk_at "call ref") => `(tactic| (k_here; (with_reducible show wpAny _ _ (call (Value.ref 334) _) _ _ _); k_dflt (refine' current_pc_spec ?B ?F ?X ?N ?T ?hk ?hs ?h1 ?h2 ?h3 ?h0 ?hb ?h4 ?h5 ?h6 ?hd ?hu ?_; (case B => k_asm); (case F => k_asm); (case X => k_asm); (case N => k_asm); (case T => k_asm); (case hk => first | exact rfl | assumption); (case h1 => assumption); (case h2 => assumption); (case h3 => first | assumption | k_mem); (case h0 => first | assumption | omega); (case hb => first | assumption | omega); (case h4 => assumption); (case h5 => assumption); (case h6 => assumption); (case hs => ktd_sub); (case hd => ktr_room); (case hu => ktr_units); intro h' tk' t' F' N')))
local macro_rules | `(tactic| walk_at "call ref") => `(tactic| (k_here; (with_reducible show wpAny _ _ (call (Value.ref 346) _) _ _ _); k_dflt (refine' top_of_spec ?B ?F ?X ?N ?T ?hk ?hs ?h1 ?hd ?hu ?_; (case B => k_asm); (case F => k_asm); (case X => k_asm); (case N => k_asm); (case T => k_asm); (case hk => first | exact rfl | assumption); (case h1 => assumption); (case hs => ktd_sub); (case hd => ktr_room); (case hu => ktr_units); intro h' tk' t' F' N')))
section
variable {prog : Program} {w : World} {p : Program} {loose : List Str} {mean : ExcName → Option Value} {mg mb : Str → Option Value} {dp un : Nat} {gd : Option (List Code)} {cn : Str} {cs : Scope} {a : Addr} {ccd : Value} {cl : List (Str × Addr)} {outer : List Env} {A₀ : Around} {base h₀ : Heap} {L : Addr} {m : Str → Option Value} {news : List (Addr × Obj)} {s : Shared}
    {Q E : Value → Shared → Prop}
theorem own_registers_spec {nw : List (Addr × Obj)} {thr c0 c1 S clo pr : Addr} {vs : List Value} {t n t1 t2 t3 : Nat} {many behind level own : Int}
    (B : Below A₀ base outer h₀) (F : Fr h₀ L s.heap m) (X : (hd.heap_39 w.params).In h₀) (N : News h₀ L s.heap news) (T : Top p loose mean mg mb h₀) (hk : cs.kind = .function)
    (hs : ∀ p ∈ nw, p ∈ news)
    (h1 : Has nw thr 311 "stack" (.ref S)) (h2 : Has nw c1 190 "func" (.int 1 t1)) (h3 : (S, listOf vs.toArray n) ∈ news) (h4 : vs[(1 : Int).toNat]? = some (.ref clo))
    (h5 : Has nw clo 109 "proto" (.ref pr)) (h6 : Has nw pr 433 "max_stack" (.int many t2)) (h7 : Has nw c1 190 "base" (.int 2 t3))
    (h8 : Form nw thr vs c0 c1 many behind level own) (h9 : behind ≤ many)
    (hd : dp + 3 < recursionLimit) (hu : un + 160 < cLine)
    (ret : ∀ h' tk' t', Fr h₀ L h' m → News h₀ L h' news → Q (.int own t') { s with heap := h', toks := tk' }) :
    wpAny (model prog w) (ktrTop dp un gd cn cs L a ccd cl outer) (call (.ref 353) [.ref thr, .int 1 t]) Q E s := by
  replace h1 := h1.more hs
  replace h2 := h2.more hs
  replace h5 := h5.more hs
  replace h6 := h6.more hs
  replace h7 := h7.more hs
  replace h8 := h8.more hs
  clear hs
  have h8' := h8
  cases h8'
  all_goals (
    refine wpAny_call ?_
    k_dflt ktr_enter
    k_steps
    first | exact ret _ _ _ (by k_asm) (by k_asm) | skip)
  rw [show (if 2 + behind - 2 < many then 2 + behind - 2 else many) = behind from by split <;> omega]
  exact ret _ _ _ (by k_asm) (by k_asm)
end
local macro_rules | `(tactic| walk_at "subscriptTail") => `(tactic| (k_here; (with_reducible show wpAny _ _ (subscriptTail _ (Expr.Slice _ _ none _) (Value.bytes _ _) (Value.ref _)) _ _ _); (with_reducible rename Fr _ _ _ _ => F'); (with_reducible rename News _ _ _ _ => N'); (refine slice_lit (s := ⟨_, _, _, _, _⟩) F' N' (by constructor) (by constructor) (by decide) (by decide +kernel) ?_); intro _ _ _ _ _))
section
variable {prog : Program} {w : World} {p : Program} {loose : List Str} {mean : ExcName → Option Value} {mg mb : Str → Option Value} {dp un : Nat} {gd : Option (List Code)} {cn : Str} {cs : Scope} {a : Addr} {ccd : Value} {cl : List (Str × Addr)} {outer : List Env} {A₀ : Around} {base h₀ : Heap} {L : Addr} {m : Str → Option Value} {news : List (Addr × Obj)} {s : Shared}
    {Q E : Value → Shared → Prop}
theorem c_text_spec {nw : List (Addr × Obj)} {bs : Array UInt8} {t : Nat}
    (B : Below A₀ base outer h₀) (F : Fr h₀ L s.heap m) (X : (hd.heap_39 w.params).In h₀) (N : News h₀ L s.heap news) (T : Top p loose mean mg mb h₀) (hk : cs.kind = .function)
    (hs : ∀ p ∈ nw, p ∈ news)
    (h1 : bs = #[111, 110, 101] ∨ bs = #[116, 119, 111])
    (hd : dp + 2 < recursionLimit) (hu : un + 80 < cLine)
    (ret : ∀ h' tk' t', Fr h₀ L h' m → News h₀ L h' news → Q (.bytes bs t') { s with heap := h', toks := tk' }) :
    wpAny (model prog w) (ktrTop dp un gd cn cs L a ccd cl outer) (call (.ref 49) [.bytes bs t]) Q E s := by
  clear hs
  rcases h1 with h1 | h1
  all_goals (
    subst h1
    refine wpAny_call ?_
    k_dflt ktr_enter
    k_steps
    exact ret _ _ _ (by k_asm) (by k_asm))
end
local macro_rules | `(tactic| walk_at "call ref") => `(tactic| (k_here; (with_reducible show wpAny _ _ (call (Value.ref 353) _) _ _ _); k_dflt (refine' own_registers_spec ?B ?F ?X ?N ?T ?hk ?hs ?h1 ?h2 ?h3 ?h4 ?h5 ?h6 ?h7 ?h8 ?h9 ?hd ?hu ?_; (case B => k_asm); (case F => k_asm); (case X => k_asm); (case N => k_asm); (case T => k_asm); (case hk => first | exact rfl | assumption); (case h1 => assumption); (case h2 => assumption); (case h3 => first | assumption | k_mem); (case h4 => assumption); (case h5 => assumption); (case h6 => assumption); (case h7 => assumption); (case h8 => assumption); (case h9 => assumption); (case hs => ktd_sub); (case hd => ktr_room); (case hu => ktr_units); intro h' tk' t' F' N')))
local macro_rules | `(tactic| walk_at "call ref") => `(tactic| (k_here; (with_reducible show wpAny _ _ (call (Value.ref 49) _) _ _ _); k_dflt (refine' c_text_spec ?B ?F ?X ?N ?T ?hk ?hs ?h1 ?hd ?hu ?_; (case B => k_asm); (case F => k_asm); (case X => k_asm); (case N => k_asm); (case T => k_asm); (case hk => first | exact rfl | assumption); (case h1 => assumption); (case hs => ktd_sub); (case hd => ktr_room); (case hu => ktr_units); intro h' tk' t' F' N')))
inductive NmV : Value → Option (Array UInt8) → Prop
  | none : NmV .none none
  | bytes (b : Array UInt8) (t : Tok) : NmV (.bytes b t) (some b)
def Nm12 (d : Option (Array UInt8)) : Prop := ∀ b, d = some b → b = #[111, 110, 101] ∨ b = #[116, 119, 111]
def LvIn (news : List (Addr × Obj)) (lvs : List Value) (nds : List (Option (Array UInt8))) : Prop :=
  lvs.length = nds.length ∧ ∀ (i : Nat) v, lvs[i]? = some v → ∃ d x nv t u, nds[i]? = some d ∧ v = .ref x ∧ Has news x 391 "name" nv ∧ NmV nv d ∧ Nm12 d ∧ Has news x 391 "start" (.int 0 t) ∧ Has news x 391 "end" (.int 9 u)
def nmAt (nds : List (Option (Array UInt8))) (k : Int) : Option (Array UInt8) := if 1 ≤ k then (nds[(k - 1).toNat]?).join else none
theorem upd_eq {m : Str → Option Value} {n : Str} {v : Value} (h : m n = some v) : m = fun y => if y = n then some v else m y := by
  funext y
  by_cases e : y = n
  · rw [if_pos e, e, h]
  · rw [if_neg e]
theorem nmAt_hit {nds : List (Option (Array UInt8))} {k : Int} {i : Nat} {d : Option (Array UInt8)} (e : k - (i : Int) - 1 = 0) (hd : nds[i]? = some d) : nmAt nds k = d := by
  have h1 : k = (i : Int) + 1 := by omega
  subst h1
  have h2 : ((i : Int) + 1 - 1).toNat = i := by omega
  unfold nmAt
  rw [if_pos (by omega), h2, hd]
  rfl
theorem nmAt_miss {nds : List (Option (Array UInt8))} {k : Int} (h : ∀ j : Nat, j < nds.length → k ≠ (j : Int) + 1) : nmAt nds k = none := by
  unfold nmAt
  split
  · rename_i h1
    have h2 : ¬ (k - 1).toNat < nds.length := fun h2 => h _ h2 (by omega)
    rw [List.getElem?_eq_none (by omega)]
    rfl
  · rfl
theorem news_left {h₀ h : Heap} {L : Addr} {a b : List (Addr × Obj)} (N : News h₀ L h (a ++ b)) : News h₀ L h a := fun p hp => N p (List.mem_append_left _ hp)
section
variable {prog : Program} {w : World} {p : Program} {loose : List Str} {mean : ExcName → Option Value} {mg mb : Str → Option Value} {dp un : Nat} {gd : Option (List Code)} {cn : Str} {cs : Scope} {a : Addr} {ccd : Value} {cl : List (Str × Addr)} {outer : List Env} {A₀ : Around} {base h₀ : Heap} {L : Addr} {m : Str → Option Value} {news : List (Addr × Obj)} {s : Shared}
    {Q E : Value → Shared → Prop}
theorem LvIn.more {news news' : List (Addr × Obj)} {lvs : List Value} {nds : List (Option (Array UInt8))} (h : LvIn news lvs nds) (hs : ∀ p ∈ news, p ∈ news') : LvIn news' lvs nds := by
  refine ⟨h.1, fun i v hv => ?_⟩
  obtain ⟨d, x, nv, t, u, h1, h2, h3, h4, h5, h6, h7⟩ := h.2 i v hv
  exact ⟨d, x, nv, t, u, h1, h2, h3.more hs, h4, h5, h6.more hs, h7.more hs⟩
theorem local_name_spec {nw : List (Addr × Obj)} {LV : Addr} {lvs : List Value} {nds : List (Option (Array UInt8))} {t u n : Nat} {k : Int}
    (B : Below A₀ base outer h₀) (F : Fr h₀ L s.heap m) (X : (hd.heap_39 w.params).In h₀) (N : News h₀ L s.heap news) (T : Top p loose mean mg mb h₀) (hk : cs.kind = .function)
    (hs : ∀ p ∈ nw, p ∈ news)
    (h1 : (LV, listOf lvs.toArray n) ∈ nw) (h2 : LvIn nw lvs nds)
    (hd : dp + 3 < recursionLimit) (hu : un + 160 < cLine)
    (ret : ∀ h' tk' r, Fr h₀ L h' m → News h₀ L h' news → NmV r (nmAt nds k) → Q r { s with heap := h', toks := tk' }) :
    wpAny (model prog w) (ktrTop dp un gd cn cs L a ccd cl outer) (call (.ref 63) [.ref LV, .int k t, .int 1 u]) Q E s := by
  replace h1 := hs _ h1
  replace h2 := h2.more hs
  clear hs
  refine wpAny_call ?_
  k_dflt ktr_enter
  k_steps
  rename Fr _ _ _ _ => lF'
  with_unfolding_all refine' For_invVF lF' ?k1 ?k2 ?_
  case k1 => exact rfl
  case k2 => exact rfl
  refine ld lF' (by rfl) ?_
  rename News _ _ _ _ => lN'
  refine iter_led (fun i m₁ news₁ => news = news₁ ∧ (∀ j : Nat, j < i → k ≠ (j : Int) + 1) ∧ (∃ t, m₁ "number" = some (.int (k - (i : Int)) t)) ∧ ∃ t, m₁ "pc" = some (.int 1 t)) (by rfl) lF' lN' h1 ⟨rfl, fun _ h => absurd h (Nat.not_lt_zero _), ⟨t, by rw [show k - ((0 : Nat) : Int) = k from by simp]; rfl⟩, ⟨u, rfl⟩⟩ ?_ ?_
  · rintro i v m₁ _ h tk own hv _ ⟨rfl, hne, ⟨t1, hn⟩, ⟨t2, hp⟩⟩ F1 N1
    rw [upd_eq hn, upd_eq hp] at F1
    clear lF' lN' hn hp
    obtain ⟨d, x, nv, t3, t4, hd, rfl, hx1, hx2, hx3, hx4, hx5⟩ := h2.2 i v hv
    cases hx2 with
    | none =>
      k_steps
      · exact ret _ _ _ (by k_asm) (news_left (by k_asm)) (by rw [nmAt_hit (by assumption) hd]; exact .none)
      · refine InvEndN.intro (by assumption) (by assumption) ⟨rfl, fun j hj => ?_, ⟨_, by rw [show k - ((i + 1 : Nat) : Int) = k - (i : Int) - 1 from by omega]; rfl⟩, ⟨_, rfl⟩⟩ rfl (fun p hp => List.mem_append_left _ hp) (fun p hp => List.mem_append_right _ hp)
        rcases Nat.lt_succ_iff_lt_or_eq.mp hj with hj | rfl
        · exact hne j hj
        · omega
    | bytes b tb =>
      have hb := hx3 _ rfl
      k_steps
      · exact ret _ _ _ (by k_asm) (news_left (by k_asm)) (by rw [nmAt_hit (by assumption) hd]; exact .bytes _ _)
      · refine InvEndN.intro (by assumption) (by assumption) ⟨rfl, fun j hj => ?_, ⟨_, by rw [show k - ((i + 1 : Nat) : Int) = k - (i : Int) - 1 from by omega]; rfl⟩, ⟨_, rfl⟩⟩ rfl (fun p hp => List.mem_append_left _ hp) (fun p hp => List.mem_append_right _ hp)
        rcases Nat.lt_succ_iff_lt_or_eq.mp hj with hj | rfl
        · exact hne j hj
        · omega
  · rintro m₁ _ h tk ⟨rfl, hne, _, _⟩ F1 N1
    k_steps
    exact ret _ _ _ (by k_asm) (by k_asm) (by rw [nmAt_miss (by rw [← h2.1]; exact hne)]; exact .none)
end
section
variable {prog : Program} {w : World} {p : Program} {loose : List Str} {mean : ExcName → Option Value} {mg mb : Str → Option Value} {dp un : Nat} {gd : Option (List Code)} {cn : Str} {cs : Scope} {a : Addr} {ccd : Value} {cl : List (Str × Addr)} {outer : List Env} {A₀ : Around} {base h₀ : Heap} {L : Addr} {m : Str → Option Value} {news : List (Addr × Obj)} {s : Shared}
    {Q E : Value → Shared → Prop}
theorem find_level_spec {nw : List (Addr × Obj)} {thr c0 c1 S clo : Addr} {vs : List Value} {t n t0 t1 t2 t3 : Nat} {many behind level own : Int}
    (B : Below A₀ base outer h₀) (F : Fr h₀ L s.heap m) (X : (hd.heap_39 w.params).In h₀) (N : News h₀ L s.heap news) (T : Top p loose mean mg mb h₀) (hk : cs.kind = .function)
    (hs : ∀ p ∈ nw, p ∈ news)
    (h1 : Has nw thr 311 "stack" (.ref S)) (h2 : Has nw c1 190 "func" (.int 1 t1)) (h3 : (S, listOf vs.toArray n) ∈ news) (h4 : vs[(1 : Int).toNat]? = some (.ref clo))
    (h5 : IsL nw (.ref clo) true) (h6 : Has nw c0 190 "func" (.int 0 t0)) (h7 : vs[(0 : Int).toNat]? = some .none) (h8 : Has nw c0 190 "tails" (.int 0 t2)) (h9 : Has nw c1 190 "tails" (.int 0 t3))
    (h10 : Form nw thr vs c0 c1 many behind level own) (h11 : 0 ≤ behind) (h12 : behind ≤ 6)
    (hd : dp + 6 < recursionLimit) (hu : un + 400 < cLine)
    (ret : ∀ h' tk' t', Fr h₀ L h' m → News h₀ L h' news → Q (.int 1 t') { s with heap := h', toks := tk' }) :
    wpAny (model prog w) (ktrTop dp un gd cn cs L a ccd cl outer) (call (.ref 339) [.ref thr, .int level t]) Q E s := by
  replace h1 := h1.more hs
  replace h2 := h2.more hs
  replace h5 := h5.more hs
  replace h6 := h6.more hs
  replace h8 := h8.more hs
  replace h9 := h9.more hs
  replace h10 := h10.more hs
  clear hs
  have h13 := IsL.none (news := news)
  cases h10
  case two =>
    refine wpAny_call ?_
    k_dflt (refine' code_defC ?k1 ?k2 ?k3 ?k4 ?k5 ?kA ?kF ?kK ?k6 ?k7 ?k8 ?k9 ?kB ?kD ?_ ?c2 ?c3 ?c4; (case kA => exact rfl); (case kF => exact rfl); (case kK => assumption); (case k1 => k_asm); (case k2 => k_asm); (case k3 => k_asm); (case k4 => k_asm); (case k5 => k_asm); (case k6 => k_is); (case k7 => k_is); (case k8 => ktr_room); (case k9 => exact BindsTo.of_eq rfl); (case kB => exact rfl); (case kD => decide +kernel); (case c2 => exact rfl); (case c3 => exact rfl); (case c4 => exact rfl); k_whole; intro g' L' h' tk' cells' FG' F' N' Y' B' X' T' l1; k_cells Y'; (try simp only [List.cons_append, List.nil_append] at N'); (try dsimp only); (try k_fold))
    iterate 6 walk1
    k_here; lcf_look; lcg_calm
    k_dflt (refine LCg.ListComp_U (F₀ := by k_asm) (by with_unfolding_all rfl) (by decide) (by rfl) (by decide) (by rfl) ?_)
    k_dflt lcg_toSrc
    refine LCg.CompRest.succ ?_
    intro v I oI C oC D m₂ h tk E' hv hC hx F1 N1 off ne
    lcg_open hv
    k_steps
    (try k_unfold)
    refine compEnd_one (by k_asm) (by k_asm) off (by assumption) (.inr ⟨_, by k_mem, rfl, _, rfl⟩) ?_
    clear off ne
    refine LCg.CompRest.succ ?_
    intro v I oI C oC D m₂ h tk E' hv hC hx F1 N1 off ne
    lcg_open hv
    k_steps
    (try k_unfold)
    refine compEnd_one (by k_asm) (by k_asm) off (by assumption) (.inr ⟨_, by k_mem, rfl, _, rfl⟩) ?_
    clear off ne
    refine LCg.CompRest.zero ?_
    k_steps
    refine wpAny_call ?_
    k_dflt (refine' code_def ?k1 ?k2 ?k3 ?k4 ?k5 ?kA ?kF ?kK ?k6 ?k7 ?k8 ?k9 ?kB ?_ ?c2 ?c3 ?c4 ?c5; (case kA => exact rfl); (case kF => exact rfl); (case kK => exact rfl); (case k1 => k_asm); (case k2 => k_asm); (case k3 => k_asm); (case k4 => k_asm); (case k5 => k_asm); (case k6 => k_is); (case k7 => k_is); (case k8 => ktr_room); (case k9 => exact BindsTo.of_eq rfl); (case c5 => decide); (case kB => exact locs rfl); (case c2 => exact rfl); (case c3 => exact rfl); (case c4 => exact rfl); k_whole; intro g' L' h' FG' F' N' B' X' T'; (try dsimp only); (try k_fold))
    k_steps
    exact ret _ _ _ (by k_asm) (news_sub (by k_asm) (by ktd_sub))
  case three b _ _ _ _ _ _ =>
    cases b
    all_goals (
      refine wpAny_call ?_
      k_dflt (refine' code_defC ?k1 ?k2 ?k3 ?k4 ?k5 ?kA ?kF ?kK ?k6 ?k7 ?k8 ?k9 ?kB ?kD ?_ ?c2 ?c3 ?c4; (case kA => exact rfl); (case kF => exact rfl); (case kK => assumption); (case k1 => k_asm); (case k2 => k_asm); (case k3 => k_asm); (case k4 => k_asm); (case k5 => k_asm); (case k6 => k_is); (case k7 => k_is); (case k8 => ktr_room); (case k9 => exact BindsTo.of_eq rfl); (case kB => exact rfl); (case kD => decide +kernel); (case c2 => exact rfl); (case c3 => exact rfl); (case c4 => exact rfl); k_whole; intro g' L' h' tk' cells' FG' F' N' Y' B' X' T' l1; k_cells Y'; (try simp only [List.cons_append, List.nil_append] at N'); (try dsimp only); (try k_fold))
      iterate 6 walk1
      k_here; lcf_look; lcg_calm
      k_dflt (refine LCg.ListComp_U (F₀ := by k_asm) (by with_unfolding_all rfl) (by decide) (by rfl) (by decide) (by rfl) ?_)
      k_dflt lcg_toSrc
      refine LCg.CompRest.succ ?_
      intro v I oI C oC D m₂ h tk E' hv hC hx F1 N1 off ne
      lcg_open hv
      k_steps
      (try k_unfold)
      refine compEnd_one (by k_asm) (by k_asm) off (by assumption) (.inr ⟨_, by k_mem, rfl, _, rfl⟩) ?_
      clear off ne
      refine LCg.CompRest.succ ?_
      intro v I oI C oC D m₂ h tk E' hv hC hx F1 N1 off ne
      lcg_open hv
      k_steps
      (try k_unfold)
      refine compEnd_one (by k_asm) (by k_asm) off (by assumption) (.inr ⟨_, by k_mem, rfl, _, rfl⟩) ?_
      clear off ne
      refine LCg.CompRest.succ ?_
      intro v I oI C oC D m₂ h tk E' hv hC hx F1 N1 off ne
      lcg_open hv
      k_steps
      (try k_unfold)
      refine compEnd_one (by k_asm) (by k_asm) off (by assumption) (.inr ⟨_, by k_mem, rfl, _, rfl⟩) ?_
      clear off ne
      refine LCg.CompRest.zero ?_
      k_steps
      refine wpAny_call ?_
      k_dflt (refine' code_def ?k1 ?k2 ?k3 ?k4 ?k5 ?kA ?kF ?kK ?k6 ?k7 ?k8 ?k9 ?kB ?_ ?c2 ?c3 ?c4 ?c5; (case kA => exact rfl); (case kF => exact rfl); (case kK => exact rfl); (case k1 => k_asm); (case k2 => k_asm); (case k3 => k_asm); (case k4 => k_asm); (case k5 => k_asm); (case k6 => k_is); (case k7 => k_is); (case k8 => ktr_room); (case k9 => exact BindsTo.of_eq rfl); (case c5 => decide); (case kB => exact locs rfl); (case c2 => exact rfl); (case c3 => exact rfl); (case c4 => exact rfl); k_whole; intro g' L' h' FG' F' N' B' X' T'; (try dsimp only); (try k_fold))
      k_steps
      exact ret _ _ _ (by k_asm) (news_sub (by k_asm) (by ktd_sub)))
end
local macro_rules | `(tactic| walk_at "call ref") => `(tactic| (k_here; (with_reducible show wpAny _ _ (call (Value.ref 63) _) _ _ _); k_dflt (refine' local_name_spec ?B ?F ?X ?N ?T ?hk ?hs ?h1 ?h2 ?hd ?hu ?_; (case B => k_asm); (case F => k_asm); (case X => k_asm); (case N => k_asm); (case T => k_asm); (case hk => first | exact rfl | assumption); (case h1 => assumption); (case h2 => assumption); (case hs => ktd_sub); (case hd => ktr_room); (case hu => ktr_units); intro h' tk' r' F' N' hr'; (generalize hq' : nmAt _ _ = q' at hr'); cases hr')))
def tmpName : Array UInt8 := #[40, 42, 116, 101, 109, 112, 111, 114, 97, 114, 121, 41]
def dueOf (nds : List (Option (Array UInt8))) (own behind k : Int) : Option (Array UInt8) :=
  match (if k ≤ own then nmAt nds k else none) with
  | some b => some b
  | none => if 1 ≤ k ∧ k ≤ behind then some tmpName else none
abbrev tupOf (vs : List Value) : Obj := { cls := .type "tuple", data := .seq vs.toArray }
theorem due_none {nds : List (Option (Array UInt8))} {own behind k : Int} (h1 : k ≤ own → nmAt nds k = none) (h2 : ¬ (1 ≤ k ∧ k ≤ behind)) : dueOf nds own behind k = none := by
  unfold dueOf
  by_cases h : k ≤ own
  · rw [if_pos h, h1 h, if_neg h2]
  · rw [if_neg h, if_neg h2]
theorem due_tmp {nds : List (Option (Array UInt8))} {own behind k : Int} (h1 : k ≤ own → nmAt nds k = none) (h2 : 1 ≤ k ∧ k ≤ behind) : dueOf nds own behind k = some tmpName := by
  unfold dueOf
  by_cases h : k ≤ own
  · rw [if_pos h, h1 h, if_pos h2]
  · rw [if_neg h, if_pos h2]
theorem due_nm {nds : List (Option (Array UInt8))} {own behind k : Int} {b : Array UInt8} (h1 : k ≤ own) (h2 : nmAt nds k = some b) : dueOf nds own behind k = some b := by
  unfold dueOf
  rw [if_pos h1, h2]
section
variable {prog : Program} {w : World} {p : Program} {loose : List Str} {mean : ExcName → Option Value} {mg mb : Str → Option Value} {dp un : Nat} {gd : Option (List Code)} {cn : Str} {cs : Scope} {a : Addr} {ccd : Value} {cl : List (Str × Addr)} {outer : List Env} {A₀ : Around} {base h₀ : Heap} {L : Addr} {m : Str → Option Value} {news : List (Addr × Obj)} {s : Shared}
    {Q E : Value → Shared → Prop}
theorem place_of_local_spec {nw : List (Addr × Obj)} {thr c0 c1 S clo pr LV FR : Addr} {vs lvs fs : List Value} {nds : List (Option (Array UInt8))} {t u n t1 t2 t3 t4 n4 n5 : Nat} {many behind level own k : Int}
    (B : Below A₀ base outer h₀) (F : Fr h₀ L s.heap m) (X : (hd.heap_39 w.params).In h₀) (N : News h₀ L s.heap news) (T : Top p loose mean mg mb h₀) (hk : cs.kind = .function)
    (hs : ∀ p ∈ nw, p ∈ news)
    (h1 : Has nw thr 311 "stack" (.ref S)) (h2 : Has nw c1 190 "func" (.int 1 t1)) (h3 : (S, listOf vs.toArray n) ∈ news) (h4 : vs[(1 : Int).toNat]? = some (.ref clo))
    (h5 : IsL nw (.ref clo) true) (h6 : Has nw clo 109 "proto" (.ref pr)) (h7 : Has nw pr 433 "max_stack" (.int many t2)) (h8 : Has nw c1 190 "base" (.int 2 t3)) (h9 : Has nw c1 190 "pc" (.int 2 t4))
    (h10 : Has nw pr 433 "locals" (.ref LV)) (h11 : (LV, listOf lvs.toArray n4) ∈ nw) (h12 : LvIn nw lvs nds)
    (h13 : Form nw thr vs c0 c1 many behind level own) (h14 : 0 ≤ behind) (h15 : behind ≤ many)
    (h16 : Has nw thr 311 "frames" (.ref FR)) (h17 : (FR, listOf fs.toArray n5) ∈ nw) (h18 : fs[(1 : Int).toNat]? = some (.ref c1))
    (hd : dp + 6 < recursionLimit) (hu : un + 400 < cLine)
    (ret0 : dueOf nds own behind k = none → ∀ h' tk', Fr h₀ L h' m → News h₀ L h' news → Q .none { s with heap := h', toks := tk' })
    (ret1 : ∀ b, dueOf nds own behind k = some b → ∀ h' tk' d t' u', Fr h₀ L h' m → News h₀ L h' ((d, tupOf [.bytes b t', .int (2 + k - 1) u']) :: news) → (∀ p ∈ news, p.1 < d) → Q (.ref d) { s with heap := h', toks := tk' }) :
    wpAny (model prog w) (ktrTop dp un gd cn cs L a ccd cl outer) (call (.ref 360) [.ref thr, .int 1 t, .int k u]) Q E s := by
  replace h1 := h1.more hs
  replace h2 := h2.more hs
  replace h5 := h5.more hs
  replace h6 := h6.more hs
  replace h7 := h7.more hs
  replace h8 := h8.more hs
  replace h9 := h9.more hs
  replace h10 := h10.more hs
  replace h11 := hs _ h11
  replace h12 := h12.more hs
  replace h13 := h13.more hs
  replace h16 := h16.more hs
  replace h17 := hs _ h17
  clear hs
  refine wpAny_call ?_
  k_dflt ktr_enter
  k_steps
  all_goals first
    | exact ret0 (due_none (fun h => by first | assumption | exact absurd h (by omega)) (by omega)) _ _ (by k_asm) (by k_asm)
    | exact ret1 _ (due_nm (by omega) (by assumption)) _ _ _ _ _ (by k_asm) (by k_asm) (by first | assumption | exact ktn_ltOf (by assumption))
    | exact ret1 _ (due_tmp (fun h => by first | assumption | exact absurd h (by omega)) (by omega)) _ _ _ _ _ (by k_asm) (by k_asm) (by first | assumption | exact ktn_ltOf (by assumption))
end
local macro_rules | `(tactic| walk_at "call ref") => `(tactic| (k_here; (with_reducible show wpAny _ _ (call (Value.ref 339) _) _ _ _); k_dflt (refine' find_level_spec ?B ?F ?X ?N ?T ?hk ?hs ?h1 ?h2 ?h3 ?h4 ?h5 ?h6 ?h7 ?h8 ?h9 ?h10 ?h11 ?h12 ?hd ?hu ?_; (case B => k_asm); (case F => k_asm); (case X => k_asm); (case N => k_asm); (case T => k_asm); (case hk => first | exact rfl | assumption); (case h1 => assumption); (case h2 => assumption); (case h3 => first | assumption | k_mem); (case h4 => assumption); (case h5 => assumption); (case h6 => assumption); (case h7 => assumption); (case h8 => assumption); (case h9 => assumption); (case h10 => assumption); (case h11 => first | assumption | omega); (case h12 => first | assumption | omega); (case hs => ktd_sub); (case hd => ktr_room); (case hu => ktr_units); intro h' tk' t' F' N')))
section
variable {prog : Program} {w : World} {p : Program} {loose : List Str} {mean : ExcName → Option Value} {mg mb : Str → Option Value} {dp un : Nat} {gd : Option (List Code)} {cn : Str} {cs : Scope} {a : Addr} {ccd : Value} {cl : List (Str × Addr)} {outer : List Env} {A₀ : Around} {base h₀ : Heap} {L : Addr} {m : Str → Option Value} {news : List (Addr × Obj)} {s : Shared}
    {Q E : Value → Shared → Prop}
theorem place_none {nw : List (Addr × Obj)} {thr c0 c1 S clo pr LV FR : Addr} {vs lvs fs : List Value} {nds : List (Option (Array UInt8))} {t u n t1 t2 t3 t4 n4 n5 : Nat} {many behind level own k : Int}
    (B : Below A₀ base outer h₀) (F : Fr h₀ L s.heap m) (X : (hd.heap_39 w.params).In h₀) (N : News h₀ L s.heap news) (T : Top p loose mean mg mb h₀) (hk : cs.kind = .function)
    (hs : ∀ p ∈ nw, p ∈ news)
    (h1 : Has nw thr 311 "stack" (.ref S)) (h2 : Has nw c1 190 "func" (.int 1 t1)) (h3 : (S, listOf vs.toArray n) ∈ news) (h4 : vs[(1 : Int).toNat]? = some (.ref clo))
    (h5 : IsL nw (.ref clo) true) (h6 : Has nw clo 109 "proto" (.ref pr)) (h7 : Has nw pr 433 "max_stack" (.int many t2)) (h8 : Has nw c1 190 "base" (.int 2 t3)) (h9 : Has nw c1 190 "pc" (.int 2 t4))
    (h10 : Has nw pr 433 "locals" (.ref LV)) (h11 : (LV, listOf lvs.toArray n4) ∈ nw) (h12 : LvIn nw lvs nds)
    (h13 : Form nw thr vs c0 c1 many behind level own) (h14 : 0 ≤ behind) (h15 : behind ≤ many)
    (h16 : Has nw thr 311 "frames" (.ref FR)) (h17 : (FR, listOf fs.toArray n5) ∈ nw) (h18 : fs[(1 : Int).toNat]? = some (.ref c1))
    (hdue : dueOf nds own behind k = none)
    (hd : dp + 6 < recursionLimit) (hu : un + 400 < cLine)
    (ret : ∀ h' tk', Fr h₀ L h' m → News h₀ L h' news → Q .none { s with heap := h', toks := tk' }) :
    wpAny (model prog w) (ktrTop dp un gd cn cs L a ccd cl outer) (call (.ref 360) [.ref thr, .int 1 t, .int k u]) Q E s :=
  place_of_local_spec B F X N T hk hs h1 h2 h3 h4 h5 h6 h7 h8 h9 h10 h11 h12 h13 h14 h15 h16 h17 h18 hd hu (fun _ => ret) (fun b hb => by rw [hdue] at hb; cases hb)
theorem place_some {nw : List (Addr × Obj)} {thr c0 c1 S clo pr LV FR : Addr} {vs lvs fs : List Value} {nds : List (Option (Array UInt8))} {t u n t1 t2 t3 t4 n4 n5 : Nat} {many behind level own k : Int} {b : Array UInt8}
    (B : Below A₀ base outer h₀) (F : Fr h₀ L s.heap m) (X : (hd.heap_39 w.params).In h₀) (N : News h₀ L s.heap news) (T : Top p loose mean mg mb h₀) (hk : cs.kind = .function)
    (hs : ∀ p ∈ nw, p ∈ news)
    (h1 : Has nw thr 311 "stack" (.ref S)) (h2 : Has nw c1 190 "func" (.int 1 t1)) (h3 : (S, listOf vs.toArray n) ∈ news) (h4 : vs[(1 : Int).toNat]? = some (.ref clo))
    (h5 : IsL nw (.ref clo) true) (h6 : Has nw clo 109 "proto" (.ref pr)) (h7 : Has nw pr 433 "max_stack" (.int many t2)) (h8 : Has nw c1 190 "base" (.int 2 t3)) (h9 : Has nw c1 190 "pc" (.int 2 t4))
    (h10 : Has nw pr 433 "locals" (.ref LV)) (h11 : (LV, listOf lvs.toArray n4) ∈ nw) (h12 : LvIn nw lvs nds)
    (h13 : Form nw thr vs c0 c1 many behind level own) (h14 : 0 ≤ behind) (h15 : behind ≤ many)
    (h16 : Has nw thr 311 "frames" (.ref FR)) (h17 : (FR, listOf fs.toArray n5) ∈ nw) (h18 : fs[(1 : Int).toNat]? = some (.ref c1))
    (hdue : dueOf nds own behind k = some b)
    (hd : dp + 6 < recursionLimit) (hu : un + 400 < cLine)
    (ret : ∀ h' tk' d t' u', Fr h₀ L h' m → News h₀ L h' ((d, tupOf [.bytes b t', .int (2 + k - 1) u']) :: news) → (∀ p ∈ news, p.1 < d) → Q (.ref d) { s with heap := h', toks := tk' }) :
    wpAny (model prog w) (ktrTop dp un gd cn cs L a ccd cl outer) (call (.ref 360) [.ref thr, .int 1 t, .int k u]) Q E s :=
  place_of_local_spec B F X N T hk hs h1 h2 h3 h4 h5 h6 h7 h8 h9 h10 h11 h12 h13 h14 h15 h16 h17 h18 hd hu (fun hn => by rw [hdue] at hn; cases hn) (fun b' hb => by rw [hdue] at hb; cases hb; exact ret)
end
local macro_rules | `(tactic| walk_at "call ref") => `(tactic| (k_here; (with_reducible show wpAny _ _ (call (Value.ref 360) _) _ _ _); k_dflt (refine' place_none ?B ?F ?X ?N ?T ?hk ?hs ?h1 ?h2 ?h3 ?h4 ?h5 ?h6 ?h7 ?h8 ?h9 ?h10 ?h11 ?h12 ?h13 ?h14 ?h15 ?h16 ?h17 ?h18 ?hdue ?hd ?hu ?_; (case B => k_asm); (case F => k_asm); (case X => k_asm); (case N => k_asm); (case T => k_asm); (case hk => first | exact rfl | assumption); (case h1 => assumption); (case h2 => assumption); (case h3 => first | assumption | k_mem); (case h4 => assumption); (case h5 => assumption); (case h6 => assumption); (case h7 => assumption); (case h8 => assumption); (case h9 => assumption); (case h10 => assumption); (case h11 => assumption); (case h12 => assumption); (case h13 => assumption); (case h14 => assumption); (case h15 => assumption); (case h16 => assumption); (case h17 => assumption); (case h18 => assumption); (case hdue => assumption); (case hs => ktd_sub); (case hd => ktr_room); (case hu => ktr_units); intro h' tk' F' N')))
section
variable {prog : Program} {w : World} {p : Program} {loose : List Str} {mean : ExcName → Option Value} {mg mb : Str → Option Value} {dp un : Nat} {gd : Option (List Code)} {cn : Str} {cs : Scope} {a : Addr} {ccd : Value} {cl : List (Str × Addr)} {outer : List Env} {A₀ : Around} {base h₀ : Heap} {L : Addr} {m : Str → Option Value} {news : List (Addr × Obj)} {s : Shared}
    {Q E : Value → Shared → Prop}
end
local macro_rules | `(tactic| walk_at "call ref") => `(tactic| (k_here; (with_reducible show wpAny _ _ (call (Value.ref 360) _) _ _ _); k_dflt (refine' place_some ?B ?F ?X ?N ?T ?hk ?hs ?h1 ?h2 ?h3 ?h4 ?h5 ?h6 ?h7 ?h8 ?h9 ?h10 ?h11 ?h12 ?h13 ?h14 ?h15 ?h16 ?h17 ?h18 ?hdue ?hd ?hu ?_; (case B => k_asm); (case F => k_asm); (case X => k_asm); (case N => k_asm); (case T => k_asm); (case hk => first | exact rfl | assumption); (case h1 => assumption); (case h2 => assumption); (case h3 => first | assumption | k_mem); (case h4 => assumption); (case h5 => assumption); (case h6 => assumption); (case h7 => assumption); (case h8 => assumption); (case h9 => assumption); (case h10 => assumption); (case h11 => assumption); (case h12 => assumption); (case h13 => assumption); (case h14 => assumption); (case h15 => assumption); (case h16 => assumption); (case h17 => assumption); (case h18 => assumption); (case hdue => assumption); (case hs => ktd_sub); (case hd => ktr_room); (case hu => ktr_units); intro h' tk' d' t' u' F' N' l')))
section
variable {prog : Program} {w : World} {p : Program} {loose : List Str} {mean : ExcName → Option Value} {mg mb : Str → Option Value} {dp un : Nat} {gd : Option (List Code)} {cn : Str} {cs : Scope} {a : Addr} {ccd : Value} {cl : List (Str × Addr)} {outer : List Env} {A₀ : Around} {base h₀ : Heap} {L : Addr} {m : Str → Option Value} {news : List (Addr × Obj)} {s : Shared}
    {Q E : Value → Shared → Prop}
theorem get_local_none {nw : List (Addr × Obj)} {thr c0 c1 S clo pr LV FR : Addr} {vs lvs fs : List Value} {nds : List (Option (Array UInt8))} {t u n t1 t2 t3 t4 t5 t6 t7 n4 n5 : Nat} {many behind level own k : Int}
    (B : Below A₀ base outer h₀) (F : Fr h₀ L s.heap m) (X : (hd.heap_39 w.params).In h₀) (N : News h₀ L s.heap news) (T : Top p loose mean mg mb h₀) (hk : cs.kind = .function)
    (hs : ∀ p ∈ nw, p ∈ news)
    (h1 : Has nw thr 311 "stack" (.ref S)) (h2 : Has nw c1 190 "func" (.int 1 t1)) (h3 : (S, listOf vs.toArray n) ∈ news) (h4 : vs[(1 : Int).toNat]? = some (.ref clo))
    (h5 : IsL nw (.ref clo) true) (h6 : Has nw clo 109 "proto" (.ref pr)) (h7 : Has nw pr 433 "max_stack" (.int many t2)) (h8 : Has nw c1 190 "base" (.int 2 t3)) (h9 : Has nw c1 190 "pc" (.int 2 t4))
    (h10 : Has nw pr 433 "locals" (.ref LV)) (h11 : (LV, listOf lvs.toArray n4) ∈ nw) (h12 : LvIn nw lvs nds)
    (h13 : Form nw thr vs c0 c1 many behind level own) (h14 : 0 ≤ behind) (h15 : behind ≤ many)
    (h16 : Has nw thr 311 "frames" (.ref FR)) (h17 : (FR, listOf fs.toArray n5) ∈ nw) (h18 : fs[(1 : Int).toNat]? = some (.ref c1))
    (h19 : Has nw c0 190 "func" (.int 0 t5)) (h20 : vs[(0 : Int).toNat]? = some .none) (h21 : Has nw c0 190 "tails" (.int 0 t6)) (h22 : Has nw c1 190 "tails" (.int 0 t7)) (h23 : many ≤ 6)
    (hdue : dueOf nds own behind k = none)
    (hd : dp + 8 < recursionLimit) (hu : un + 480 < cLine)
    (ret : ∀ h' tk', Fr h₀ L h' m → News h₀ L h' news → Q .none { s with heap := h', toks := tk' }) :
    wpAny (model prog w) (ktrTop dp un gd cn cs L a ccd cl outer) (call (.ref 367) [.ref thr, .int level t, .int k u]) Q E s := by
  replace h1 := h1.more hs
  replace h2 := h2.more hs
  replace h5 := h5.more hs
  replace h6 := h6.more hs
  replace h7 := h7.more hs
  replace h8 := h8.more hs
  replace h9 := h9.more hs
  replace h10 := h10.more hs
  replace h11 := hs _ h11
  replace h12 := h12.more hs
  replace h13 := h13.more hs
  replace h16 := h16.more hs
  replace h17 := hs _ h17
  replace h19 := h19.more hs
  replace h21 := h21.more hs
  replace h22 := h22.more hs
  clear hs
  refine wpAny_call ?_
  k_dflt ktr_enter
  k_steps
  exact ret _ _ (by k_asm) (by k_asm)
theorem get_local_some {nw : List (Addr × Obj)} {thr c0 c1 S clo pr LV FR : Addr} {vs lvs fs : List Value} {nds : List (Option (Array UInt8))} {t u n t1 t2 t3 t4 t5 t6 t7 n4 n5 : Nat} {many behind level own k : Int} {b : Array UInt8} {v : Value}
    (B : Below A₀ base outer h₀) (F : Fr h₀ L s.heap m) (X : (hd.heap_39 w.params).In h₀) (N : News h₀ L s.heap news) (T : Top p loose mean mg mb h₀) (hk : cs.kind = .function)
    (hs : ∀ p ∈ nw, p ∈ news)
    (h1 : Has nw thr 311 "stack" (.ref S)) (h2 : Has nw c1 190 "func" (.int 1 t1)) (h3 : (S, listOf vs.toArray n) ∈ news) (h4 : vs[(1 : Int).toNat]? = some (.ref clo))
    (h5 : IsL nw (.ref clo) true) (h6 : Has nw clo 109 "proto" (.ref pr)) (h7 : Has nw pr 433 "max_stack" (.int many t2)) (h8 : Has nw c1 190 "base" (.int 2 t3)) (h9 : Has nw c1 190 "pc" (.int 2 t4))
    (h10 : Has nw pr 433 "locals" (.ref LV)) (h11 : (LV, listOf lvs.toArray n4) ∈ nw) (h12 : LvIn nw lvs nds)
    (h13 : Form nw thr vs c0 c1 many behind level own) (h14 : 0 ≤ behind) (h15 : behind ≤ many)
    (h16 : Has nw thr 311 "frames" (.ref FR)) (h17 : (FR, listOf fs.toArray n5) ∈ nw) (h18 : fs[(1 : Int).toNat]? = some (.ref c1))
    (h19 : Has nw c0 190 "func" (.int 0 t5)) (h20 : vs[(0 : Int).toNat]? = some .none) (h21 : Has nw c0 190 "tails" (.int 0 t6)) (h22 : Has nw c1 190 "tails" (.int 0 t7)) (h23 : many ≤ 6)
    (hdue : dueOf nds own behind k = some b) (hb0 : 0 ≤ 2 + k - 1) (hb1 : 2 + k - 1 < 2 ^ 63) (hv : vs[(2 + k - 1).toNat]? = some v)
    (hd : dp + 8 < recursionLimit) (hu : un + 480 < cLine)
    (ret : ∀ h' tk' d t', Fr h₀ L h' m → News h₀ L h' ((d, tupOf [.bytes b t', v]) :: news) → (∀ p ∈ news, p.1 < d) → Q (.ref d) { s with heap := h', toks := tk' }) :
    wpAny (model prog w) (ktrTop dp un gd cn cs L a ccd cl outer) (call (.ref 367) [.ref thr, .int level t, .int k u]) Q E s := by
  replace h1 := h1.more hs
  replace h2 := h2.more hs
  replace h5 := h5.more hs
  replace h6 := h6.more hs
  replace h7 := h7.more hs
  replace h8 := h8.more hs
  replace h9 := h9.more hs
  replace h10 := h10.more hs
  replace h11 := hs _ h11
  replace h12 := h12.more hs
  replace h13 := h13.more hs
  replace h16 := h16.more hs
  replace h17 := hs _ h17
  replace h19 := h19.more hs
  replace h21 := h21.more hs
  replace h22 := h22.more hs
  clear hs
  refine wpAny_call ?_
  k_dflt ktr_enter
  k_steps
  refine ret _ _ _ _ (by k_asm) (news_sub (by k_asm) (List.forall_mem_cons.mpr ⟨.head _, fun _ h => .tail _ (.tail _ h)⟩)) ?_
  (rename _ ∧ AllLt _ _ => hl)
  exact ktn_ltOf hl.2
theorem set_local_none {nw : List (Addr × Obj)} {thr c0 c1 S clo pr LV FR : Addr} {vs lvs fs : List Value} {nds : List (Option (Array UInt8))} {t u n t1 t2 t3 t4 t5 t6 t7 n4 n5 : Nat} {many behind level own k : Int} {x : Value}
    (B : Below A₀ base outer h₀) (F : Fr h₀ L s.heap m) (X : (hd.heap_39 w.params).In h₀) (N : News h₀ L s.heap news) (T : Top p loose mean mg mb h₀) (hk : cs.kind = .function)
    (hs : ∀ p ∈ nw, p ∈ news)
    (h1 : Has nw thr 311 "stack" (.ref S)) (h2 : Has nw c1 190 "func" (.int 1 t1)) (h3 : (S, listOf vs.toArray n) ∈ news) (h4 : vs[(1 : Int).toNat]? = some (.ref clo))
    (h5 : IsL nw (.ref clo) true) (h6 : Has nw clo 109 "proto" (.ref pr)) (h7 : Has nw pr 433 "max_stack" (.int many t2)) (h8 : Has nw c1 190 "base" (.int 2 t3)) (h9 : Has nw c1 190 "pc" (.int 2 t4))
    (h10 : Has nw pr 433 "locals" (.ref LV)) (h11 : (LV, listOf lvs.toArray n4) ∈ nw) (h12 : LvIn nw lvs nds)
    (h13 : Form nw thr vs c0 c1 many behind level own) (h14 : 0 ≤ behind) (h15 : behind ≤ many)
    (h16 : Has nw thr 311 "frames" (.ref FR)) (h17 : (FR, listOf fs.toArray n5) ∈ nw) (h18 : fs[(1 : Int).toNat]? = some (.ref c1))
    (h19 : Has nw c0 190 "func" (.int 0 t5)) (h20 : vs[(0 : Int).toNat]? = some .none) (h21 : Has nw c0 190 "tails" (.int 0 t6)) (h22 : Has nw c1 190 "tails" (.int 0 t7)) (h23 : many ≤ 6)
    (hdue : dueOf nds own behind k = none) (hx : handedIn x = true)
    (hd : dp + 8 < recursionLimit) (hu : un + 480 < cLine)
    (ret : ∀ h' tk', Fr h₀ L h' m → News h₀ L h' news → Q .none { s with heap := h', toks := tk' }) :
    wpAny (model prog w) (ktrTop dp un gd cn cs L a ccd cl outer) (call (.ref 374) [.ref thr, .int level t, .int k u, x]) Q E s := by
  replace h1 := h1.more hs
  replace h2 := h2.more hs
  replace h5 := h5.more hs
  replace h6 := h6.more hs
  replace h7 := h7.more hs
  replace h8 := h8.more hs
  replace h9 := h9.more hs
  replace h10 := h10.more hs
  replace h11 := hs _ h11
  replace h12 := h12.more hs
  replace h13 := h13.more hs
  replace h16 := h16.more hs
  replace h17 := hs _ h17
  replace h19 := h19.more hs
  replace h21 := h21.more hs
  replace h22 := h22.more hs
  clear hs
  refine wpAny_call ?_
  k_dflt ktr_enter
  k_steps
  exact ret _ _ (by k_asm) (by k_asm)
end
local macro_rules | `(tactic| walk_at "setItem ref int") => `(tactic| (k_here; k_dflt (refine' set_led ?k1 ?k2 ?k3 ?k4 ?k5 ?k6 ?_; (case k1 => k_asm); (case k2 => k_asm); (case k3 => first | assumption | exact upd_tail (by assumption) (by assumption)); (case k4 => first | assumption | omega); (case k5 => first | assumption | omega); (case k6 => first | assumption | omega); k_whole); intro h' F' N'))
section
variable {prog : Program} {w : World} {p : Program} {loose : List Str} {mean : ExcName → Option Value} {mg mb : Str → Option Value} {dp un : Nat} {gd : Option (List Code)} {cn : Str} {cs : Scope} {a : Addr} {ccd : Value} {cl : List (Str × Addr)} {outer : List Env} {A₀ : Around} {base h₀ : Heap} {L : Addr} {m : Str → Option Value} {news : List (Addr × Obj)} {s : Shared}
    {Q E : Value → Shared → Prop}
theorem set_local_some {nw : List (Addr × Obj)} {thr c0 c1 S clo pr LV FR : Addr} {vs lvs fs : List Value} {nds : List (Option (Array UInt8))} {t u n t1 t2 t3 t4 t5 t6 t7 n4 n5 : Nat} {many behind level own k : Int} {x : Value} {b : Array UInt8} {news' : List (Addr × Obj)}
    (B : Below A₀ base outer h₀) (F : Fr h₀ L s.heap m) (X : (hd.heap_39 w.params).In h₀) (N : News h₀ L s.heap news) (T : Top p loose mean mg mb h₀) (hk : cs.kind = .function)
    (hs : ∀ p ∈ nw, p ∈ news)
    (h1 : Has nw thr 311 "stack" (.ref S)) (h2 : Has nw c1 190 "func" (.int 1 t1)) (h3 : (S, listOf vs.toArray n) ∈ news) (h4 : vs[(1 : Int).toNat]? = some (.ref clo))
    (h5 : IsL nw (.ref clo) true) (h6 : Has nw clo 109 "proto" (.ref pr)) (h7 : Has nw pr 433 "max_stack" (.int many t2)) (h8 : Has nw c1 190 "base" (.int 2 t3)) (h9 : Has nw c1 190 "pc" (.int 2 t4))
    (h10 : Has nw pr 433 "locals" (.ref LV)) (h11 : (LV, listOf lvs.toArray n4) ∈ nw) (h12 : LvIn nw lvs nds)
    (h13 : Form nw thr vs c0 c1 many behind level own) (h14 : 0 ≤ behind) (h15 : behind ≤ many)
    (h16 : Has nw thr 311 "frames" (.ref FR)) (h17 : (FR, listOf fs.toArray n5) ∈ nw) (h18 : fs[(1 : Int).toNat]? = some (.ref c1))
    (h19 : Has nw c0 190 "func" (.int 0 t5)) (h20 : vs[(0 : Int).toNat]? = some .none) (h21 : Has nw c0 190 "tails" (.int 0 t6)) (h22 : Has nw c1 190 "tails" (.int 0 t7)) (h23 : many ≤ 6)
    (hdue : dueOf nds own behind k = some b) (hb0 : 0 ≤ 2 + k - 1) (hb1 : 2 + k - 1 < 2 ^ 63) (hb2 : 2 + k - 1 < (vs.length : Int)) (hx : handedIn x = true)
    (U : Upd S (listOf vs.toArray n) (listOf (vs.set (2 + k - 1).toNat x).toArray n) news news')
    (hd : dp + 8 < recursionLimit) (hu : un + 480 < cLine)
    (ret : ∀ h' tk' t', Fr h₀ L h' m → News h₀ L h' news' → Q (.bytes b t') { s with heap := h', toks := tk' }) :
    wpAny (model prog w) (ktrTop dp un gd cn cs L a ccd cl outer) (call (.ref 374) [.ref thr, .int level t, .int k u, x]) Q E s := by
  replace h1 := h1.more hs
  replace h2 := h2.more hs
  replace h5 := h5.more hs
  replace h6 := h6.more hs
  replace h7 := h7.more hs
  replace h8 := h8.more hs
  replace h9 := h9.more hs
  replace h10 := h10.more hs
  replace h11 := hs _ h11
  replace h12 := h12.more hs
  replace h13 := h13.more hs
  replace h16 := h16.more hs
  replace h17 := hs _ h17
  replace h19 := h19.more hs
  replace h21 := h21.more hs
  replace h22 := h22.more hs
  clear hs
  refine wpAny_call ?_
  k_dflt ktr_enter
  k_steps
  exact ret _ _ _ (by k_asm) (news_sub (by k_asm) (by ktd_sub))
end
local macro_rules | `(tactic| walk_at "call ref") => `(tactic| (k_here; (with_reducible show wpAny _ _ (call (Value.ref 367) _) _ _ _); k_dflt (refine' get_local_none ?B ?F ?X ?N ?T ?hk ?hs ?h1 ?h2 ?h3 ?h4 ?h5 ?h6 ?h7 ?h8 ?h9 ?h10 ?h11 ?h12 ?h13 ?h14 ?h15 ?h16 ?h17 ?h18 ?h19 ?h20 ?h21 ?h22 ?h23 ?hdue ?hd ?hu ?_; (case B => k_asm); (case F => k_asm); (case X => k_asm); (case N => k_asm); (case T => k_asm); (case hk => first | exact rfl | assumption); (case h1 => assumption); (case h2 => assumption); (case h3 => first | assumption | k_mem); (case h4 => assumption); (case h5 => assumption); (case h6 => assumption); (case h7 => assumption); (case h8 => assumption); (case h9 => assumption); (case h10 => assumption); (case h11 => assumption); (case h12 => assumption); (case h13 => assumption); (case h14 => first | assumption | omega); (case h15 => first | assumption | omega); (case h16 => assumption); (case h17 => assumption); (case h18 => assumption); (case h19 => assumption); (case h20 => assumption); (case h21 => assumption); (case h22 => assumption); (case h23 => first | assumption | omega); (case hdue => assumption); (case hs => ktd_sub); (case hd => ktr_room); (case hu => ktr_units); intro h' tk' F' N')))
local macro_rules | `(tactic| walk_at "call ref") => `(tactic| (k_here; (with_reducible show wpAny _ _ (call (Value.ref 367) _) _ _ _); k_dflt (refine' get_local_some ?B ?F ?X ?N ?T ?hk ?hs ?h1 ?h2 ?h3 ?h4 ?h5 ?h6 ?h7 ?h8 ?h9 ?h10 ?h11 ?h12 ?h13 ?h14 ?h15 ?h16 ?h17 ?h18 ?h19 ?h20 ?h21 ?h22 ?h23 ?hdue ?hb0 ?hb1 ?hv ?hd ?hu ?_; (case B => k_asm); (case F => k_asm); (case X => k_asm); (case N => k_asm); (case T => k_asm); (case hk => first | exact rfl | assumption); (case h1 => assumption); (case h2 => assumption); (case h3 => first | assumption | k_mem); (case h4 => assumption); (case h5 => assumption); (case h6 => assumption); (case h7 => assumption); (case h8 => assumption); (case h9 => assumption); (case h10 => assumption); (case h11 => assumption); (case h12 => assumption); (case h13 => assumption); (case h14 => first | assumption | omega); (case h15 => first | assumption | omega); (case h16 => assumption); (case h17 => assumption); (case h18 => assumption); (case h19 => assumption); (case h20 => assumption); (case h21 => assumption); (case h22 => assumption); (case h23 => first | assumption | omega); (case hdue => assumption); (case hb0 => omega); (case hb1 => omega); (case hv => assumption); (case hs => ktd_sub); (case hd => ktr_room); (case hu => ktr_units); intro h' tk' d' t' F' N' l'; (try k_lt l'))))
local macro_rules | `(tactic| walk_at "call ref") => `(tactic| (k_here; (with_reducible show wpAny _ _ (call (Value.ref 374) _) _ _ _); k_dflt (refine' set_local_none ?B ?F ?X ?N ?T ?hk ?hs ?h1 ?h2 ?h3 ?h4 ?h5 ?h6 ?h7 ?h8 ?h9 ?h10 ?h11 ?h12 ?h13 ?h14 ?h15 ?h16 ?h17 ?h18 ?h19 ?h20 ?h21 ?h22 ?h23 ?hdue ?hx ?hd ?hu ?_; (case B => k_asm); (case F => k_asm); (case X => k_asm); (case N => k_asm); (case T => k_asm); (case hk => first | exact rfl | assumption); (case h1 => assumption); (case h2 => assumption); (case h3 => first | assumption | k_mem); (case h4 => assumption); (case h5 => assumption); (case h6 => assumption); (case h7 => assumption); (case h8 => assumption); (case h9 => assumption); (case h10 => assumption); (case h11 => assumption); (case h12 => assumption); (case h13 => assumption); (case h14 => first | assumption | omega); (case h15 => first | assumption | omega); (case h16 => assumption); (case h17 => assumption); (case h18 => assumption); (case h19 => assumption); (case h20 => assumption); (case h21 => assumption); (case h22 => assumption); (case h23 => first | assumption | omega); (case hdue => assumption); (case hx => rfl); (case hs => ktd_sub); (case hd => ktr_room); (case hu => ktr_units); intro h' tk' F' N')))
local macro_rules | `(tactic| walk_at "call ref") => `(tactic| (k_here; (with_reducible show wpAny _ _ (call (Value.ref 374) _) _ _ _); k_dflt (refine' set_local_some ?B ?F ?X ?N ?T ?hk ?hs ?h1 ?h2 ?h3 ?h4 ?h5 ?h6 ?h7 ?h8 ?h9 ?h10 ?h11 ?h12 ?h13 ?h14 ?h15 ?h16 ?h17 ?h18 ?h19 ?h20 ?h21 ?h22 ?h23 ?hdue ?hb0 ?hb1 ?hb2 ?hx ?U ?hd ?hu ?_; (case B => k_asm); (case F => k_asm); (case X => k_asm); (case N => k_asm); (case T => k_asm); (case hk => first | exact rfl | assumption); (case h1 => assumption); (case h2 => assumption); (case h3 => first | assumption | k_mem); (case h4 => assumption); (case h5 => assumption); (case h6 => assumption); (case h7 => assumption); (case h8 => assumption); (case h9 => assumption); (case h10 => assumption); (case h11 => assumption); (case h12 => assumption); (case h13 => assumption); (case h14 => first | assumption | omega); (case h15 => first | assumption | omega); (case h16 => assumption); (case h17 => assumption); (case h18 => assumption); (case h19 => assumption); (case h20 => assumption); (case h21 => assumption); (case h22 => assumption); (case h23 => first | assumption | omega); (case hdue => assumption); (case hb0 => omega); (case hb1 => omega); (case hb2 => omega); (case hx => rfl); (case U => k_upd); (case hs => ktd_sub); (case hd => ktr_room); (case hu => ktr_units); intro h' tk' t' F' N')))
local macro_rules | `(tactic| k_all) => `(tactic| first | assumption | exact fun p hp => Nat.ne_of_lt (ktn_ltOf (by first | assumption | exact And.right (by assumption) | exact And.right (And.right (by assumption)) | exact And.right (And.right (And.right (by assumption)))) p hp))
local macro_rules | `(tactic| walk_at "call builtin:len") => `(tactic| (k_here; (with_reducible show wpAny _ _ (call (Value.builtin "len") [Value.ref _]) _ _ _); k_dflt (refine' len_led ?k1 ?k2 ?k3 ?_; (case k1 => k_asm); (case k2 => exact List.mem_cons_of_mem _ (by assumption)); (case k3 => omega); k_whole)))
local macro_rules | `(tactic| walk_at "compareOp NotEq ref ref") => `(tactic| (k_here; (with_reducible show wpAny _ _ (compareOp CmpOp.NotEq (Value.ref _) (Value.ref _)) _ _ _); k_dflt (first
  | (refine' ne_lists ?k1 ?k2 ?k3 ?k4 ?k5 ?k6 ?_; (case k1 => k_asm); (case k2 => k_mem); (case k3 => k_mem); (case k4 => simp); (case k5 => ktr_units); (case k6 => first | exact same_refl | exact same_set (by omega)); k_whole)
  | (refine' ne_tups ?k1 ?k2 ?k3 ?k4 ?k5 ?k6 ?_; (case k1 => k_asm); (case k2 => k_mem); (case k3 => k_mem); (case k4 => rfl); (case k5 => ktr_units); (case k6 => exact same_two); k_whole))))
local macro_rules | `(tactic| walk_at "setItem ref int") => `(tactic| (k_here; k_dflt (refine' set_led ?k1 ?k2 ?k3 ?k4 ?k5 ?k6 ?_; (case k1 => k_asm); (case k2 => k_asm); (case k3 => k_upd); (case k4 => omega); (case k5 => omega); (case k6 => omega); k_whole); intro h' F' N'))
theorem due_in {nds : List (Option (Array UInt8))} {own behind k : Int} {b : Array UInt8} (h : dueOf nds own behind k = some b) : 1 ≤ k ∧ (k ≤ own ∨ k ≤ behind) := by
  unfold dueOf at h
  by_cases h1 : k ≤ own
  · rw [if_pos h1] at h
    unfold nmAt at h
    by_cases h2 : 1 ≤ k
    · exact ⟨h2, .inl h1⟩
    · rw [if_neg h2] at h
      dsimp only at h
      rw [if_neg (fun h3 => h2 h3.1)] at h
      cases h
  · rw [if_neg h1] at h
    dsimp only at h
    by_cases h2 : 1 ≤ k ∧ k ≤ behind
    · exact ⟨h2.1, .inr h2.2⟩
    · rw [if_neg h2] at h; cases h
theorem at_place {vs : List Value} {many k : Int} (hlen : (vs.length : Int) = 3 + many) (h1 : 1 ≤ k) (h2 : k ≤ many) : ∃ v, vs[(2 + k - 1).toNat]? = some v ∧ vs[(1 + k).toNat]? = some v := by
  have e : (2 + k - 1).toNat = (1 + k).toNat := by omega
  have hl : (1 + k).toNat < vs.length := by omega
  exact ⟨vs[(1 + k).toNat], by rw [e]; exact List.getElem?_eq_getElem hl, List.getElem?_eq_getElem hl⟩
local macro_rules | `(tactic| walk_at "compareOp NotEq bytes bytes") => `(tactic| (k_here; k_dflt (refine ne_bytes_same ?_)))
def lawFn : Stmt := (PySem.Challenge.pw_rh0160_01.main.body.getLast?).getD (.Pass ⟨0, 0, 0, 0⟩)
def lawBody : List Stmt := match lawFn with | .FunctionDef _ _ b _ _ _ _ _ _ _ => b | _ => []
def lawScope : Scope := match lawFn with | .FunctionDef _ _ _ _ _ _ sc _ _ _ => sc | _ => default
def turnBody : List Stmt := match (lawBody[11]? : Option Stmt) with | some (Stmt.For _ _ b _ _) => b | _ => []
def NvIn (nvs : List Value) (nds : List (Option (Array UInt8))) : Prop :=
  nvs.length = nds.length ∧ ∀ (i : Nat) v, nvs[i]? = some v → ∃ d, nds[i]? = some d ∧ NmV v d ∧ Nm12 d
theorem nmAt_off {nds : List (Option (Array UInt8))} {k : Int} (h : ¬ (1 ≤ k ∧ k ≤ (nds.length : Int))) : nmAt nds k = none := by
  refine nmAt_miss fun j hj e => h ?_
  omega
theorem nmAt_on {nds : List (Option (Array UInt8))} {k : Int} {d : Option (Array UInt8)} (h : 1 ≤ k) (e : nds[(k - 1).toNat]? = some d) : nmAt nds k = d := by
  unfold nmAt
  rw [if_pos h, e]
  rfl
section
variable {prog : Program} {w : World} {p : Program} {loose : List Str} {mean : ExcName → Option Value} {mg mb : Str → Option Value} {dp un : Nat} {gd : Option (List Code)} {fa : Addr} {ccd : Value} {cl : List (Str × Addr)} {outer : List Env} {A₀ : Around} {base h₀ : Heap} {L : Addr} {m : Str → Option Value} {s : Shared}
    {Q : Flow → Shared → Prop} {E : Value → Shared → Prop}
theorem turn_spec {rest : List (Addr × Obj)} {thr c0 c1 S clo pr LV FR NL : Addr} {vs lvs fs nvs : List Value} {nds : List (Option (Array UInt8))} {n t1 t2 t3 t4 t5 t6 t7 n4 n5 n6 tn tl to tb : Nat} {many behind level own k : Int}
    (B : Below A₀ base outer h₀) (F : Fr h₀ L s.heap (fun y => if y = "number" then some (.int k tn) else m y)) (X : (hd.heap_39 w.params).In h₀) (N : News h₀ L s.heap ((S, listOf vs.toArray n) :: rest)) (T : Top p loose mean mg mb h₀)
    (hoff : ∀ p ∈ rest, p.1 ≠ S)
    (hm1 : m "thread" = some (.ref thr)) (hm2 : m "level" = some (.int level tl)) (hm3 : m "own" = some (.int own to)) (hm4 : m "names" = some (.ref NL)) (hm5 : m "behind" = some (.int behind tb))
    (hNL : (NL, listOf nvs.toArray n6) ∈ rest) (hnv : NvIn nvs nds) (hlen : (vs.length : Int) = 3 + many)
    (h1 : Has rest thr 311 "stack" (.ref S)) (h2 : Has rest c1 190 "func" (.int 1 t1)) (h4 : vs[(1 : Int).toNat]? = some (.ref clo))
    (h5 : IsL rest (.ref clo) true) (h6 : Has rest clo 109 "proto" (.ref pr)) (h7 : Has rest pr 433 "max_stack" (.int many t2)) (h8 : Has rest c1 190 "base" (.int 2 t3)) (h9 : Has rest c1 190 "pc" (.int 2 t4))
    (h10 : Has rest pr 433 "locals" (.ref LV)) (h11 : (LV, listOf lvs.toArray n4) ∈ rest) (h12 : LvIn rest lvs nds)
    (h13 : Form rest thr vs c0 c1 many behind level own) (h14 : 0 ≤ behind) (h15 : behind ≤ many)
    (h16 : Has rest thr 311 "frames" (.ref FR)) (h17 : (FR, listOf fs.toArray n5) ∈ rest) (h18 : fs[(1 : Int).toNat]? = some (.ref c1))
    (h19 : Has rest c0 190 "func" (.int 0 t5)) (h20 : vs[(0 : Int).toNat]? = some .none) (h21 : Has rest c0 190 "tails" (.int 0 t6)) (h22 : Has rest c1 190 "tails" (.int 0 t7)) (h23 : many ≤ 6)
    (hd : dp + 10 < recursionLimit) (hu : un + 600 < cLine) (hnl : nds.length ≤ 20)
    (ret0 : ∀ h' tk' (m' : Str → Option Value), Fr h₀ L h' m' → News h₀ L h' ((S, listOf vs.toArray n) :: rest) → m' "thread" = some (.ref thr) → m' "level" = some (.int level tl) → m' "own" = some (.int own to) → m' "names" = some (.ref NL) → m' "behind" = some (.int behind tb) → Q .next { s with heap := h', toks := tk' })
    (ret1 : ∀ b x, dueOf nds own behind k = some b → ∀ h' tk' (m' : Str → Option Value), Fr h₀ L h' m' → News h₀ L h' ((S, listOf (vs.set (2 + k - 1).toNat x).toArray n) :: rest) → m' "thread" = some (.ref thr) → m' "level" = some (.int level tl) → m' "own" = some (.int own to) → m' "names" = some (.ref NL) → m' "behind" = some (.int behind tb) → Q .next { s with heap := h', toks := tk' }) :
    wpAny (model prog w) (ktrTop dp un gd "law" lawScope L fa ccd cl outer) (execs turnBody (envX "law" lawScope L fa ccd cl)) Q E s := by
  rw [upd_eq hm1, upd_eq hm2, upd_eq hm3, upd_eq hm4, upd_eq hm5] at F
  have hol : own ≤ many := by
    cases h13 with
    | two => exact Int.le_refl _
    | three => exact h15
  clear hm1 hm2 hm3 hm4 hm5
  conv in (occs := *) lawScope => all_goals whnf
  conv in turnBody => whnf
  have hnn : nvs.length = nds.length := hnv.1
  by_cases q1 : 1 ≤ k ∧ k ≤ own ∧ k ≤ (nvs.length : Int)
  · obtain ⟨ca, cb, cc⟩ := q1
    obtain ⟨nv, hnvk⟩ : ∃ nv, nvs[(k - 1).toNat]? = some nv := ⟨nvs[(k - 1).toNat]'(by omega), List.getElem?_eq_getElem (by omega)⟩
    obtain ⟨d, hdk, hdv, _⟩ := hnv.2 _ _ hnvk
    have hq := nmAt_on ca hdk
    cases hdv with
    | none =>
      replace hq : k ≤ own → nmAt nds k = none := fun _ => hq
      by_cases q2 : 1 ≤ k ∧ k ≤ behind
      · have hdue := due_tmp hq q2
        obtain ⟨ca', cb'⟩ := q2
        obtain ⟨v, hv, hv'⟩ := at_place (k := k) hlen (by omega) (by omega)
        k_steps
        all_goals exact ret1 _ _ hdue _ _ _ (by k_asm) (news_sub (by k_asm) (fun p hp => .tail _ (.tail _ (.tail _ hp)))) rfl rfl rfl rfl rfl
      · have hdue := due_none (own := own) hq q2
        k_steps
        all_goals exact ret0 _ _ _ (by k_asm) (news_sub (by k_asm) (by ktd_sub)) rfl rfl rfl rfl rfl
    | bytes bn btk =>
      have hdue := due_nm (behind := behind) cb hq
      obtain ⟨v, hv, hv'⟩ := at_place (k := k) hlen (by omega) (by omega)
      k_steps
      all_goals exact ret1 _ _ hdue _ _ _ (by k_asm) (news_sub (by k_asm) (fun p hp => .tail _ (.tail _ (.tail _ hp)))) rfl rfl rfl rfl rfl
  · have hq : k ≤ own → nmAt nds k = none := fun h => nmAt_off (by omega)
    by_cases q2 : 1 ≤ k ∧ k ≤ behind
    · have hdue := due_tmp hq q2
      obtain ⟨ca', cb'⟩ := q2
      obtain ⟨v, hv, hv'⟩ := at_place (k := k) hlen (by omega) (by omega)
      k_steps
      all_goals exact ret1 _ _ hdue _ _ _ (by k_asm) (news_sub (by k_asm) (fun p hp => .tail _ (.tail _ (.tail _ hp)))) rfl rfl rfl rfl rfl
    · have hdue := due_none (own := own) hq q2
      k_steps
      all_goals exact ret0 _ _ _ (by k_asm) (news_sub (by k_asm) (by ktd_sub)) rfl rfl rfl rfl rfl
end
section
variable {prog : Program} {w : World} {p : Program} {loose : List Str} {mean : ExcName → Option Value} {mg mb : Str → Option Value} {dp un : Nat} {gd : Option (List Code)} {cn : Str} {cs : Scope} {a : Addr} {ccd : Value} {cl : List (Str × Addr)} {outer : List Env} {A₀ : Around} {base h₀ : Heap} {L : Addr} {m : Str → Option Value} {news : List (Addr × Obj)} {s : Shared}
    {Q E : Value → Shared → Prop}
theorem law_next_spec {rest : List (Addr × Obj)} {fd c : Addr} {cvs : List Value} {cns : List Int} {turn many : Int} {n nc t tm : Nat}
    (B : Below A₀ base outer h₀) (F : Fr h₀ L s.heap m) (X : (hd.heap_39 w.params).In h₀) (N : News h₀ L s.heap ((fd, listOf [.ref c, .int turn t].toArray n) :: rest)) (T : Top p loose mean mg mb h₀) (hk : cs.kind = .function)
    (hoff : ∀ p ∈ rest, p.1 ≠ fd) (h1 : (c, listOf cvs.toArray nc) ∈ rest) (h2 : IntsAre cvs cns) (h3 : cvs.length ≤ 100) (h4 : 0 ≤ turn) (h5 : turn ≤ 100) (h6 : 1 ≤ many) (h7 : many ≤ 100)
    (hd : dp + 2 < recursionLimit) (hu : un + 80 < cLine)
    (ret : ∀ h' tk' r t' u', 0 ≤ r → r < many → Fr h₀ L h' m → News h₀ L h' ((fd, listOf [.ref c, .int (turn + 1) u'].toArray n) :: rest) → Q (.int r t') { s with heap := h', toks := tk' }) :
    wpAny (model prog w) (ktrTop dp un gd cn cs L a ccd cl outer) (call (.ref 442) [.ref fd, .int many tm]) Q E s := by
  have hcl : cvs.length = cns.length := h2.length
  refine wpAny_call ?_
  k_dflt ktr_enter
  k_steps
  all_goals exact ret _ _ _ _ _ (Int.fmod_nonneg_of_pos _ (by omega)) (Int.fmod_lt_of_pos _ (by omega)) (by k_asm) (by k_asm)
end
local macro_rules | `(tactic| k_room) => `(tactic| ktr_room)
section
variable {prog : Program} {w : World} {p : Program} {loose : List Str} {mean : ExcName → Option Value} {mg mb : Str → Option Value} {dp un : Nat} {gd : Option (List Code)} {cn : Str} {cs : Scope} {a : Addr} {ccd : Value} {cl : List (Str × Addr)} {outer : List Env} {A₀ : Around} {base h₀ : Heap} {L : Addr} {m : Str → Option Value} {news : List (Addr × Obj)} {s : Shared}
    {Q E : Value → Shared → Prop}
theorem law_begun_spec {rest : List (Addr × Obj)} {thr S FR f : Addr} {vs fs : List Value} {place room : Int} {n nf tp tr : Nat}
    (B : Below A₀ base outer h₀) (F : Fr h₀ L s.heap m) (X : (hd.heap_39 w.params).In h₀) (N : News h₀ L s.heap ((S, listOf vs.toArray n) :: (FR, listOf fs.toArray nf) :: rest)) (T : Top p loose mean mg mb h₀) (hk : cs.kind = .function)
    (hoS : ∀ p ∈ rest, p.1 ≠ S) (hoF : ∀ p ∈ rest, p.1 ≠ FR) (hSF : @Ne Nat S FR) (h1 : Has rest thr 311 "stack" (.ref S)) (h2 : Has rest thr 311 "frames" (.ref FR))
    (h3 : 0 ≤ place) (h4 : place < (vs.length : Int)) (h5 : place ≤ 100) (h6 : fs.length ≤ 10)
    (hd : dp + 4 < recursionLimit) (hu : un + 200 < cLine)
    (ret : ∀ h' tk' x d od nf' t1 t2 t3 t4, Fr h₀ L h' m → News h₀ L h' ((x, (⟨.ref 190, some d, .plain, #[]⟩ : Obj)) :: (d, od) :: (S, listOf (vs.set place.toNat (.ref f)).toArray n) :: (FR, listOf (fs ++ [Value.ref x]).toArray nf') :: rest) →
      Has [(x, (⟨.ref 190, some d, .plain, #[]⟩ : Obj)), (d, od)] x 190 "func" (.int place t1) → Has [(x, (⟨.ref 190, some d, .plain, #[]⟩ : Obj)), (d, od)] x 190 "base" (.int (place + 1) t2) → Has [(x, (⟨.ref 190, some d, .plain, #[]⟩ : Obj)), (d, od)] x 190 "pc" (.int 2 t3) → Has [(x, (⟨.ref 190, some d, .plain, #[]⟩ : Obj)), (d, od)] x 190 "tails" (.int 0 t4) →
      (∀ p ∈ rest, p.1 < d) → @LT.lt Nat _ S d → @LT.lt Nat _ FR d → @LT.lt Nat _ d x → Q .none { s with heap := h', toks := tk' }) :
    wpAny (model prog w) (ktrTop dp un gd cn cs L a ccd cl outer) (call (.ref 454) [.ref thr, .int place tp, .ref f, .int room tr]) Q E s := by
  refine wpAny_call ?_
  k_dflt ktr_enter
  k_steps
  (rename _ ∧ _ ∧ AllLt _ _ => hl)
  (rename News h₀ L _ _ => lN)
  rw [List.push_toArray] at lN
  exact ret _ _ _ _ _ _ _ _ _ _ (by k_asm) lN ⟨_, _, _, .head _, .tail _ (.head _), rfl⟩ ⟨_, _, _, .head _, .tail _ (.head _), rfl⟩ ⟨_, _, _, .head _, .tail _ (.head _), rfl⟩ ⟨_, _, _, .head _, .tail _ (.head _), rfl⟩ (ktn_ltOf hl.2.2) hl.1 hl.2.1 (by assumption)
end
local macro_rules | `(tactic| walk_at "eval ListComp") => `(tactic| (k_here; k_dflt (refine LCg.ListComp_U (F₀ := by k_asm) (by with_unfolding_all rfl) (by decide) (by rfl) (by decide) (by rfl) ?_)))
local macro_rules | `(tactic| walk_at "exec Assign cons ListComp") => `(tactic| (k_here; k_dflt (refine LCg.Assign_ListComp_U (F₀ := by k_asm) (by rfl) (by with_unfolding_all rfl) (by with_unfolding_all rfl) (by decide) (by rfl) (by decide) (by rfl) (by rfl) (by rfl) ?_)))
local macro_rules | `(tactic| k_all) => `(tactic| first | exact fun p hp => Nat.ne_of_lt (ktn_ltOf (And.right (And.right (And.right (And.right (by assumption))))) p hp) | exact fun p hp => Nat.ne_of_lt (ktn_ltOf (And.right (And.right (And.right (And.right (And.right (by assumption)))))) p hp) | exact fun p hp => Nat.ne_of_lt (ktn_ltOf (And.right (And.right (And.right (And.right (And.right (And.right (by assumption))))))) p hp) | exact fun p hp => Nat.ne_of_lt (ktn_ltOf (And.right (And.right (And.right (And.right (And.right (And.right (And.right (by assumption)))))))) p hp) | exact fun p hp => Nat.ne_of_lt (ktn_ltOf (And.right (And.right (And.right (And.right (And.right (And.right (And.right (And.right (by assumption))))))))) p hp) | exact fun p hp => Nat.ne_of_lt (ktn_ltOf (And.right (And.right (And.right (And.right (And.right (And.right (And.right (And.right (And.right (by assumption)))))))))) p hp) | exact fun p hp => Nat.ne_of_lt (ktn_ltOf (And.right (And.right (And.right (And.right (And.right (And.right (And.right (And.right (And.right (And.right (by assumption))))))))))) p hp) | exact fun p hp => Nat.ne_of_lt (ktn_ltOf (And.right (And.right (And.right (And.right (And.right (And.right (And.right (And.right (And.right (And.right (And.right (by assumption)))))))))))) p hp) | exact fun p hp => Nat.ne_of_lt (ktn_ltOf (And.right (And.right (And.right (And.right (And.right (And.right (And.right (And.right (And.right (And.right (And.right (And.right (by assumption))))))))))))) p hp) | exact fun p hp => Nat.ne_of_lt (ktn_ltOf (And.right (And.right (And.right (And.right (And.right (And.right (And.right (And.right (And.right (And.right (And.right (And.right (And.right (by assumption)))))))))))))) p hp) | exact fun p hp => Nat.ne_of_lt (ktn_ltOf (And.right (And.right (And.right (And.right (And.right (And.right (And.right (And.right (And.right (And.right (And.right (And.right (And.right (And.right (by assumption))))))))))))))) p hp) | exact fun p hp => Nat.ne_of_lt (ktn_ltOf (And.right (And.right (And.right (And.right (And.right (And.right (And.right (And.right (And.right (And.right (And.right (And.right (And.right (And.right (And.right (by assumption)))))))))))))))) p hp) | exact fun p hp => Nat.ne_of_lt (ktn_ltOf (And.right (And.right (And.right (And.right (And.right (And.right (And.right (And.right (And.right (And.right (And.right (And.right (And.right (And.right (And.right (And.right (by assumption))))))))))))))))) p hp) | exact fun p hp => Nat.ne_of_lt (ktn_ltOf (And.right (And.right (And.right (And.right (And.right (And.right (And.right (And.right (And.right (And.right (And.right (And.right (And.right (And.right (And.right (And.right (And.right (by assumption)))))))))))))))))) p hp))
theorem news_name {h₀ h : Heap} {L : Addr} {nw : List (Addr × Obj)} (N : News h₀ L h nw) : ∃ nw0, nw0 = nw ∧ News h₀ L h nw0 := ⟨_, rfl, N⟩
theorem off1_mem {D : Addr} : ∀ {l : List (Addr × Obj)}, LCg.Off1 D l → ∀ p ∈ l, p.1 ≠ D
  | [], _, _, h => nomatch h
  | _ :: _, x, p, h => by
    rcases List.mem_cons.mp h with rfl | h
    · exact x.1
    · exact off1_mem x.2 p h
theorem pick3 {g h : Heap} {L D : Addr} {ld : Obj} {tl news : List (Addr × Obj)} {a1 a2 a3 a4 a5 a6 ex ed : Addr × Obj} (N : News g L h ((D, ld) :: (tl ++ (a1 :: a2 :: a3 :: a4 :: a5 :: a6 :: ex :: ed :: news))))
    (o1 : LCg.Off1 D (tl ++ (a1 :: a2 :: a3 :: a4 :: a5 :: a6 :: ex :: ed :: news))) (hord : ∀ p ∈ a1 :: a2 :: a3 :: a4 :: a5 :: a6 :: ex :: ed :: news, ∀ q ∈ tl, p.1 < q.1) (hl : ∀ p ∈ news, p.1 < ed.1) (hx : @LT.lt Nat _ ed.1 ex.1) :
    News g L h (ex :: ed :: (D, ld) :: (news ++ tl)) ∧ @Ne Nat D ex.1 ∧ @Ne Nat D ed.1 ∧ (∀ p ∈ news ++ tl, p.1 ≠ ed.1) ∧ (∀ p ∈ news, p.1 ≠ D) ∧ ∀ p ∈ news, ∀ q ∈ tl, p.1 < q.1 := by
  have o := off1_mem o1
  refine ⟨news_sub N ?_, Ne.symm (o ex (by simp)), Ne.symm (o ed (by simp)), ?_, fun p hp => o p (by simp [hp]), fun p hp => hord p (by simp [hp])⟩
  · intro p hp
    simp only [List.mem_cons, List.mem_append] at hp ⊢
    rcases hp with h | h | h | h | h <;> simp [h]
  · intro p hp
    rcases List.mem_append.mp hp with hp | hp
    · exact Nat.ne_of_lt (hl p hp)
    · exact Nat.ne_of_gt (hord ed (by simp) p hp)
theorem ord_two {tl nw0 : List (Addr × Obj)} {x d : Addr} {ox od : Obj} (hl : ∀ p ∈ tl ++ nw0, p.1 < d) (hx : @LT.lt Nat _ d x) (hord : ∀ p ∈ nw0, ∀ q ∈ tl, p.1 < q.1) : ∀ p ∈ nw0, ∀ q ∈ (x, ox) :: (d, od) :: tl, p.1 < q.1 := by
  intro p hp q hq
  have h := hl p (List.mem_append_right _ hp)
  rcases List.mem_cons.mp hq with rfl | hq
  · exact Nat.lt_trans h hx
  · rcases List.mem_cons.mp hq with rfl | hq
    · exact h
    · exact hord p hp q hq
theorem pick_end {h₀ h : Heap} {L : Addr} {tl news : List (Addr × Obj)} {e1 e2 u1 u2 u3 u4 u5 u6 ex ed eD : Addr × Obj} (N : News h₀ L h (e1 :: e2 :: u1 :: u2 :: u3 :: u4 :: u5 :: u6 :: ex :: ed :: eD :: (news ++ tl))) : News h₀ L h ((e1 :: e2 :: ex :: ed :: eD :: tl) ++ news) := by
  refine news_sub N fun p hp => ?_
  simp only [List.mem_cons, List.mem_append] at hp ⊢
  rcases hp with (h | h | h | h | h | h) | h <;> simp [h]
theorem end_ord {tl news : List (Addr × Obj)} {clo dclo x1 d1 D : Addr} {o1 o2 o3 o4 o5 : Obj} (ha : ∀ p ∈ news ++ tl, p.1 < dclo) (hb : @LT.lt Nat _ dclo clo) (hc : ∀ p ∈ news, p.1 < d1) (hd : @LT.lt Nat _ d1 x1) (d4 : ∀ p ∈ news, p.1 ≠ D) (d5 : ∀ p ∈ news, ∀ q ∈ tl, p.1 < q.1) :
    ∀ p ∈ news, ∀ q ∈ (clo, o1) :: (dclo, o2) :: (x1, o3) :: (d1, o4) :: (D, o5) :: tl, p.1 ≠ q.1 := by
  intro p hp q hq
  have h1 := ha p (List.mem_append_left _ hp)
  have h2 := hc p hp
  simp only [List.mem_cons] at hq
  rcases hq with rfl | rfl | rfl | rfl | rfl | hq
  · exact Nat.ne_of_lt (Nat.lt_trans h1 hb)
  · exact Nat.ne_of_lt h1
  · exact Nat.ne_of_lt (Nat.lt_trans h2 hd)
  · exact Nat.ne_of_lt h2
  · exact d4 p hp
  · exact Nat.ne_of_lt (d5 p hp q hq)
def LvPre (tl : List (Addr × Obj)) (ys : List Value) (i : Nat) (nds : List (Option (Array UInt8))) : Prop :=
  ys.length = i ∧ ∀ (j : Nat) v, ys[j]? = some v → ∃ d x nv t u, nds[j]? = some d ∧ v = .ref x ∧ Has tl x 391 "name" nv ∧ NmV nv d ∧ Nm12 d ∧ Has tl x 391 "start" (.int 0 t) ∧ Has tl x 391 "end" (.int 9 u)
theorem LvPre.more {tl tl' : List (Addr × Obj)} {ys : List Value} {i : Nat} {nds : List (Option (Array UInt8))} (h : LvPre tl ys i nds) (hs : ∀ p ∈ tl, p ∈ tl') : LvPre tl' ys i nds := by
  refine ⟨h.1, fun j v hj => ?_⟩
  obtain ⟨d', x', nv', t', u', a1, a2, a3, a4, a5, a6, a7⟩ := h.2 j v hj
  exact ⟨d', x', nv', t', u', a1, a2, a3.more hs, a4, a5, a6.more hs, a7.more hs⟩
theorem LvPre.snoc {tl tl' : List (Addr × Obj)} {ys : List Value} {i : Nat} {nds : List (Option (Array UInt8))} {d : Option (Array UInt8)} {x : Addr} {nv : Value} {t u : Tok} (h : LvPre tl ys i nds) (hs : ∀ p ∈ tl, p ∈ tl')
    (h1 : nds[i]? = some d) (h2 : Has tl' x 391 "name" nv) (h3 : NmV nv d) (h4 : Nm12 d) (h5 : Has tl' x 391 "start" (.int 0 t)) (h6 : Has tl' x 391 "end" (.int 9 u)) : LvPre tl' (ys ++ [.ref x]) (i + 1) nds := by
  refine ⟨by rw [List.length_append, h.1]; rfl, fun j v hj => ?_⟩
  rw [List.getElem?_append] at hj
  by_cases hl : j < ys.length
  · rw [if_pos hl] at hj
    obtain ⟨d', x', nv', t', u', a1, a2, a3, a4, a5, a6, a7⟩ := h.2 j v hj
    exact ⟨d', x', nv', t', u', a1, a2, a3.more hs, a4, a5, a6.more hs, a7.more hs⟩
  · rw [if_neg hl] at hj
    have hl2 : j - ys.length < 1 := by
      rcases Nat.lt_or_ge (j - ys.length) 1 with h7 | h7
      · exact h7
      · rw [List.getElem?_eq_none (by simpa using h7)] at hj; cases hj
    have e : j = i := by have := h.1; omega
    subst e
    rw [show j - ys.length = 0 from by omega] at hj
    cases hj
    exact ⟨d, x, nv, t, u, h1, rfl, h2, h3, h4, h5, h6⟩
section
variable {prog : Program} {w : World} {p : Program} {loose : List Str} {mean : ExcName → Option Value} {mg mb : Str → Option Value} {dp un : Nat} {gd : Option (List Code)} {cn : Str} {cs : Scope} {a : Addr} {ccd : Value} {cl : List (Str × Addr)} {outer : List Env} {A₀ : Around} {base h₀ : Heap} {L : Addr} {m : Str → Option Value} {news : List (Addr × Obj)} {s : Shared}
    {Q E : Value → Shared → Prop}
theorem law_code_spec {NL : Addr} {nvs : List Value} {nds : List (Option (Array UInt8))} {many : Int} {nn tm : Nat}
    (B : Below A₀ base outer h₀) (F : Fr h₀ L s.heap m) (X : (hd.heap_39 w.params).In h₀) (N : News h₀ L s.heap news) (T : Top p loose mean mg mb h₀) (hk : cs.kind = .function)
    (h1 : (NL, listOf nvs.toArray nn) ∈ news) (h2 : NvIn nvs nds) (h3 : nvs.length ≤ 100)
    (hd : dp + 5 < recursionLimit) (hu : un + 240 < cLine)
    (ret : ∀ h' tk' clo pr LV lvs nl t1 tl, Fr h₀ L h' m → News h₀ L h' (tl ++ news) → (∀ p ∈ news, ∀ q ∈ tl, p.1 ≠ q.1) → IsL tl (.ref clo) true → Has tl clo 109 "proto" (.ref pr) → Has tl pr 433 "max_stack" (.int many t1) → Has tl pr 433 "locals" (.ref LV) → (LV, listOf lvs.toArray nl) ∈ tl → LvIn tl lvs nds → Q (.ref clo) { s with heap := h', toks := tk' }) :
    wpAny (model prog w) (ktrTop dp un gd cn cs L a ccd cl outer) (call (.ref 447) [.int many tm, .ref NL]) Q E s := by
  refine wpAny_call ?_
  k_dflt ktr_enter
  k_steps
  (rename Fr _ _ _ _ => lF')
  (rename News _ _ _ _ => lN')
  obtain ⟨nw0, e0, N0⟩ := news_name lN'
  have hNL : (NL, listOf nvs.toArray nn) ∈ nw0 := by rw [e0]; repeat' (first | exact h1 | apply List.mem_cons_of_mem)
  have hsz : nvs.toArray.size ≤ sizeLine := by rw [List.size_toArray, sizeLine_eq]; omega
  refine LCg.CompSrc.ledger (by rfl) lF' N0 hNL hsz fun gg => ?_
  refine compRest_ind (fun i ys nw => ∃ tl, nw = tl ++ nw0 ∧ (∀ p ∈ nw0, ∀ q ∈ tl, p.1 < q.1) ∧ LvPre tl ys i nds) ⟨[], rfl, (fun _ _ _ h => nomatch h), rfl, (fun _ _ h => by simp at h)⟩ ?_ ?_
  · rintro i ys _ v I oI C oC D m₂ h tk E' hin ⟨tl, rfl, hord, hlv⟩ hv hC hx F1 N1 off ne
    have hv' : nvs[i]? = some v := by simpa using hv
    obtain ⟨d0, hd0, hdv, hd12⟩ := h2.2 i v hv'
    clear lF' lN' e0 N0
    k_steps
    (rename _ ∧ _ ∧ _ ∧ AllLt _ (tl ++ nw0) => hl)
    refine compEnd_two (by k_asm) (by k_asm) off (by assumption) (by assumption) (.inr ⟨_, .tail _ (.tail _ (List.mem_append_right _ hNL)), rfl, _, rfl⟩) ⟨_ :: _ :: tl, rfl, ord_two (ktn_ltOf hl.2.2.2) (by assumption) hord, LvPre.snoc hlv (fun _ h => .tail _ (.tail _ h)) hd0 ⟨_, _, _, .head _, .tail _ (.head _), rfl⟩ hdv hd12 ⟨_, _, _, .head _, .tail _ (.head _), rfl⟩ ⟨_, _, _, .head _, .tail _ (.head _), rfl⟩⟩
  · rintro ys _ ⟨tl, rfl, hord, hlv⟩
    subst e0
    unfold LCg.FinE
    intro D hh tk' F2 N2 o1
    obtain ⟨N3, d1, d2, d3, d4, d5⟩ := pick3 N2 o1 hord (by first | assumption | exact ktn_ltOf (by assumption)) (by assumption)
    dsimp only at d1 d2 d3
    clear lF' lN' N0 N2 o1 hord
    k_steps
    (rename News h₀ L _ _ => lN)
    exact ret _ _ _ _ _ _ _ _ _ (by k_asm) (pick_end lN) (end_ord (ktn_ltOf (And.right (And.right (And.right (And.right (And.right (And.right (And.right (And.right (And.right (by assumption))))))))))) (by assumption) (by first | assumption | exact ktn_ltOf (by assumption)) (by assumption) d4 d5) (.lua (.head _) (.tail _ (.head _))) ⟨_, _, _, .head _, .tail _ (.head _), rfl⟩ ⟨_, _, _, .tail _ (.tail _ (.head _)), .tail _ (.tail _ (.tail _ (.head _))), rfl⟩ ⟨_, _, _, .tail _ (.tail _ (.head _)), .tail _ (.tail _ (.tail _ (.head _))), rfl⟩ (.tail _ (.tail _ (.tail _ (.tail _ (.head _))))) ⟨by rw [hlv.1, List.size_toArray, h2.1], fun j v hj => (LvPre.more hlv (fun _ h => .tail _ (.tail _ (.tail _ (.tail _ (.tail _ h)))))).2 j v hj⟩
end
local macro_rules | `(tactic| walk_at "setAttr ref") => `(tactic| (k_here; k_dflt (refine' set_at ?F ?X ?N ?hm ?off ?hs ?hp ?ht ?hh ?hl ?hz ?_; (case F => k_asm); (case X => k_asm); (case N => k_asm); (case hm => first | assumption | exact List.mem_cons_of_mem _ (by assumption)); (case off => assumption); (case hs => k_is); (case hp => k_is); (case ht => k_is); (case hh => k_is); (case hl => assumption); (case hz => omega); k_whole); intro h' es' n' F' N' q1' q2'))
inductive PreForm (rest : List (Addr × Obj)) (vs : List Value) (c0 c1 : Addr) (many behind form : Int) (fs : List Value) : Int → Int → Prop
  | two : form = 0 → fs = [Value.ref c0, Value.ref c1] → PreForm rest vs c0 c1 many behind form fs 0 many
  | three {c2 : Addr} {t u : Nat} {fv : Value} {b : Bool} : (form = 1 ∨ form = 2) → fs = [Value.ref c0, Value.ref c1, Value.ref c2] → Has rest c2 190 "func" (.int (2 + behind) t) → Has rest c2 190 "tails" (.int 0 u) →
      vs[(2 + behind).toNat]? = some fv → IsL rest fv b → PreForm rest vs c0 c1 many behind form fs 1 behind
theorem Form.set {news : List (Addr × Obj)} {thr : Addr} {vs : List Value} {c0 c1 : Addr} {many behind level own k : Int} {nds : List (Option (Array UInt8))} {b : Array UInt8} {x : Value} (h : Form news thr vs c0 c1 many behind level own) (hb : 0 ≤ behind) (hd : dueOf nds own behind k = some b) :
    Form news thr (vs.set (2 + k - 1).toNat x) c0 c1 many behind level own := by
  have hi := due_in hd
  cases h with
  | two h1 h2 h3 => exact .two h1 h2 h3
  | three h1 h2 h3 h4 h5 h6 => exact .three h1 h2 h3 h4 (by rw [List.getElem?_set_ne (by omega)]; exact h5) h6
theorem pack_es {h₀ h : Heap} {L dT : Addr} {rest : List (Addr × Obj)} {es : List DictEntry} {n : Nat} {a b c : Option (Option Value)} (N : News h₀ L h ((dT, dictOf es n) :: rest)) (g1 : getL "stack" es = a) (g2 : getL "frames" es = b) (g3 : getL "top" es = c) :
    ∃ es2 n2, News h₀ L h ((dT, dictOf es2 n2) :: rest) ∧ getL "stack" es2 = a ∧ getL "frames" es2 = b ∧ getL "top" es2 = c := ⟨es, n, N, g1, g2, g3⟩
section
variable {prog : Program} {w : World} {p : Program} {loose : List Str} {mean : ExcName → Option Value} {mg mb : Str → Option Value} {dp un : Nat} {gd : Option (List Code)} {fa : Addr} {ccd : Value} {cl : List (Str × Addr)} {outer : List Env} {A₀ : Around} {base h₀ : Heap} {L : Addr} {m : Str → Option Value} {s : Shared}
    {Q : Flow → Shared → Prop} {E : Value → Shared → Prop}
theorem loop_spec {rest : List (Addr × Obj)} {thr c0 c1 S clo pr LV FR NL : Addr} {vs lvs fs nvs : List Value} {nds : List (Option (Array UInt8))} {n t1 t2 t3 t4 t5 t6 t7 n4 n5 n6 tl to tb : Nat} {many behind level own : Int}
    (B : Below A₀ base outer h₀) (F : Fr h₀ L s.heap m) (X : (hd.heap_39 w.params).In h₀) (N : News h₀ L s.heap ((S, listOf vs.toArray n) :: rest)) (T : Top p loose mean mg mb h₀)
    (oS : ∀ p ∈ rest, p.1 ≠ S)
    (hm1 : m "thread" = some (.ref thr)) (hm2 : m "level" = some (.int level tl)) (hm3 : m "own" = some (.int own to)) (hm4 : m "names" = some (.ref NL)) (hm5 : m "behind" = some (.int behind tb))
    (h1 : Has rest thr 311 "stack" (.ref S)) (h13 : Form rest thr vs c0 c1 many behind level own) (h16 : Has rest thr 311 "frames" (.ref FR)) (h18 : fs[(1 : Int).toNat]? = some (.ref c1))
    (h17 : (FR, listOf fs.toArray n5) ∈ rest) (hNL : (NL, listOf nvs.toArray n6) ∈ rest) (hnv : NvIn nvs nds) (hlen : (vs.length : Int) = 3 + many) (hnl : nds.length ≤ 20)
    (h2 : Has rest c1 190 "func" (.int 1 t1)) (h4 : vs[(1 : Int).toNat]? = some (.ref clo))
    (h5 : IsL rest (.ref clo) true) (h6 : Has rest clo 109 "proto" (.ref pr)) (h7 : Has rest pr 433 "max_stack" (.int many t2)) (h8 : Has rest c1 190 "base" (.int 2 t3)) (h9 : Has rest c1 190 "pc" (.int 2 t4))
    (h10 : Has rest pr 433 "locals" (.ref LV)) (h11 : (LV, listOf lvs.toArray n4) ∈ rest) (h12 : LvIn rest lvs nds) (h14 : 0 ≤ behind) (h15 : behind ≤ many)
    (h19 : Has rest c0 190 "func" (.int 0 t5)) (h20 : vs[(0 : Int).toNat]? = some .none) (h21 : Has rest c0 190 "tails" (.int 0 t6)) (h22 : Has rest c1 190 "tails" (.int 0 t7)) (h23 : many ≤ 6) (h24 : 1 ≤ many)
    (hd : dp + 10 < recursionLimit) (hu : un + 600 < cLine) (hE : PassesOwn (model prog w) (ktrTop dp un gd "law" lawScope L fa ccd cl outer) (envX "law" lawScope L fa ccd cl) E)
    (ret : ∀ h' tk' (m' : Str → Option Value), Fr h₀ L h' m' → Q (.ret (.bool true)) { s with heap := h', toks := tk' }) :
    wpAny (model prog w) (ktrTop dp un gd "law" lawScope L fa ccd cl outer) (execs (lawBody.drop 11) (envX "law" lawScope L fa ccd cl)) Q E s := by
  conv in (occs := *) lawScope => all_goals whnf
  conv in lawBody.drop 11 => whnf
  walk1
  (rename Fr _ _ _ _ => lF')
  with_unfolding_all refine' For_invVF (hE := hE) lF' ?k1 ?k2 ?_
  case k1 => exact rfl
  case k2 => exact rfl
  repeat (fail_if_success (with_reducible show wpAny _ _ (pyIter _) _ _ _)); (first | walk1 | (dsimp only; walk1))
  (rename IsRange _ _ _ _ _ _ _ _ => hR)
  (rename Fr _ _ _ _ => F0)
  (rename News _ _ _ _ => N0)

  refine iter_rng (n := 12) (fun i m₁ nw => ∃ vs₁ : List Value, nw = (S, listOf vs₁.toArray n) :: rest ∧ (vs₁.length : Int) = 3 + many ∧ vs₁[(1 : Int).toNat]? = some (.ref clo) ∧ vs₁[(0 : Int).toNat]? = some .none ∧ Form rest thr vs₁ c0 c1 many behind level own ∧
    m₁ "thread" = some (.ref thr) ∧ m₁ "level" = some (.int level tl) ∧ m₁ "own" = some (.int own to) ∧ m₁ "names" = some (.ref NL) ∧ m₁ "behind" = some (.int behind tb)) (by rfl) F0 N0 hR (by decide) (by decide) ⟨vs, rfl, hlen, h4, h20, h13, hm1, hm2, hm3, hm4, hm5⟩ ?_ ?_
  · rintro i t' m₁ _ h tk own' hi _ hoff ⟨vs₁, rfl, hlen', h4', h20', h13', a1, a2, a3, a4, a5⟩ F1 N1
    have oS' : ∀ p ∈ rest ++ own', p.1 ≠ S := by
      intro p hp
      rcases List.mem_append.mp hp with hp | hp
      · exact oS p hp
      · exact hoff p hp S (.head _)
    have sub : ∀ p ∈ rest, p ∈ rest ++ own' := fun _ h => List.mem_append_left _ h
    refine turn_spec (k := -1 + (i : Int)) B F1 X N1 T oS' a1 a2 a3 a4 a5 (sub _ hNL) hnv hlen' (h1.more sub) (h2.more sub) h4' (h5.more sub) (h6.more sub) (h7.more sub) (h8.more sub) (h9.more sub) (h10.more sub) (sub _ h11) (h12.more sub) (h13'.more sub) h14 h15 (h16.more sub) (sub _ h17) h18 (h19.more sub) h20' (h21.more sub) (h22.more sub) h23 hd hu hnl ?_ ?_
    · intro h' tk' m' F' N' b1 b2 b3 b4 b5
      exact InvEndN.intro F' N' ⟨vs₁, rfl, hlen', h4', h20', h13', b1, b2, b3, b4, b5⟩ rfl (List.forall_mem_cons.mpr ⟨.head _, fun p hp => .tail _ (List.mem_append_left _ hp)⟩) (fun p hp => .tail _ (List.mem_append_right _ hp))
    · intro b x hb h' tk' m' F' N' b1 b2 b3 b4 b5
      have hin := due_in hb
      refine InvEndN.intro F' N' ⟨vs₁.set (2 + (-1 + (i : Int)) - 1).toNat x, rfl, by rw [List.length_set]; exact hlen', by rw [List.getElem?_set_ne (by omega)]; exact h4', by rw [List.getElem?_set_ne (by omega)]; exact h20', h13'.set h14 hb, b1, b2, b3, b4, b5⟩ rfl (List.forall_mem_cons.mpr ⟨.head _, fun p hp => .tail _ (List.mem_append_left _ hp)⟩) (fun p hp => .tail _ (List.mem_append_right _ hp))
  · rintro m₁ _ h tk ⟨vs₁, rfl, _⟩ F1 N1
    k_steps
    exact ret h tk m₁ F1
theorem tail_spec {rest : List (Addr × Obj)} {es : List DictEntry} {thr dT c0 c1 S clo pr LV FR NL : Addr} {vs lvs fs nvs : List Value} {nds : List (Option (Array UInt8))} {v0 : Value} {n nT t1 t2 t3 t4 t5 t6 t7 n4 n5 n6 tl to tb tf : Nat} {many behind level own form : Int}
    (B : Below A₀ base outer h₀) (F : Fr h₀ L s.heap m) (X : (hd.heap_39 w.params).In h₀) (N : News h₀ L s.heap ((dT, dictOf es nT) :: (S, listOf vs.toArray n) :: rest)) (T : Top p loose mean mg mb h₀)
    (oT : ∀ p ∈ (S, listOf vs.toArray n) :: rest, p.1 ≠ dT) (oS : ∀ p ∈ rest, p.1 ≠ S)
    (hm1 : m "thread" = some (.ref thr)) (hm2 : m "level" = some (.int level tl)) (hm3 : m "own" = some (.int own to)) (hm4 : m "names" = some (.ref NL)) (hm5 : m "behind" = some (.int behind tb)) (hm6 : m "form" = some (.int form tf))
    (hthr : (thr, (⟨.ref 311, some dT, .plain, #[]⟩ : Obj)) ∈ rest) (e1 : getL "stack" es = some (some (.ref S))) (e2 : getL "frames" es = some (some (.ref FR))) (e3 : getL "top" es = some (some v0)) (e4 : es.length ≤ 100)
    (h17 : (FR, listOf fs.toArray n5) ∈ rest) (hNL : (NL, listOf nvs.toArray n6) ∈ rest) (hnv : NvIn nvs nds) (hlen : (vs.length : Int) = 3 + many) (hnl : nds.length ≤ 20)
    (h2 : Has rest c1 190 "func" (.int 1 t1)) (h4 : vs[(1 : Int).toNat]? = some (.ref clo))
    (h5 : IsL rest (.ref clo) true) (h6 : Has rest clo 109 "proto" (.ref pr)) (h7 : Has rest pr 433 "max_stack" (.int many t2)) (h8 : Has rest c1 190 "base" (.int 2 t3)) (h9 : Has rest c1 190 "pc" (.int 2 t4))
    (h10 : Has rest pr 433 "locals" (.ref LV)) (h11 : (LV, listOf lvs.toArray n4) ∈ rest) (h12 : LvIn rest lvs nds) (h14 : 0 ≤ behind) (h15 : behind ≤ many)
    (h19 : Has rest c0 190 "func" (.int 0 t5)) (h20 : vs[(0 : Int).toNat]? = some .none) (h21 : Has rest c0 190 "tails" (.int 0 t6)) (h22 : Has rest c1 190 "tails" (.int 0 t7)) (h23 : many ≤ 6) (h24 : 1 ≤ many)
    (PF : PreForm rest vs c0 c1 many behind form fs level own)
    (hd : dp + 10 < recursionLimit) (hu : un + 600 < cLine) (hE : PassesOwn (model prog w) (ktrTop dp un gd "law" lawScope L fa ccd cl outer) (envX "law" lawScope L fa ccd cl) E)
    (ret : ∀ h' tk' (m' : Str → Option Value), Fr h₀ L h' m' → Q (.ret (.bool true)) { s with heap := h', toks := tk' }) :
    wpAny (model prog w) (ktrTop dp un gd "law" lawScope L fa ccd cl outer) (execs (lawBody.drop 10) (envX "law" lawScope L fa ccd cl)) Q E s := by
  rw [upd_eq hm1, upd_eq hm2, upd_eq hm3, upd_eq hm4, upd_eq hm5, upd_eq hm6] at F
  clear hm1 hm2 hm3 hm4 hm5 hm6
  conv in (occs := *) lawScope => all_goals whnf
  conv in lawBody.drop 10 => whnf
  cases PF
  case two hf0 hfs =>
    subst hf0 hfs
    repeat (fail_if_success (with_reducible show wpAny _ _ (execs (Stmt.For _ _ _ _ _ :: _) _) _ _ _)); (first | walk1 | (dsimp only; walk1))
    (rename Fr _ _ _ _ => F0)
    (rename News _ _ _ _ => N0)
    (rename getL (Str.ofString "top") _ = _ => g3)
    (rename ∀ (nm : Str) (u : Value), _ → _ → _ => gq)
    have g1 := gq _ _ (by decide) e1
    have g2 := gq _ _ (by decide) e2
    obtain ⟨es2, n2, N2, g1, g2, g3⟩ := pack_es N0 g1 g2 g3
    have sub : ∀ p ∈ rest, p ∈ (dT, dictOf es2 n2) :: rest := fun _ h => .tail _ h
    have q1 : Has ((dT, dictOf es2 n2) :: rest) thr 311 "stack" (.ref S) := ⟨dT, es2, n2, sub _ hthr, .head _, g1⟩
    have q2 : Has ((dT, dictOf es2 n2) :: rest) thr 311 "frames" (.ref FR) := ⟨dT, es2, n2, sub _ hthr, .head _, g2⟩
    have q3 : Has ((dT, dictOf es2 n2) :: rest) thr 311 "top" _ := ⟨dT, es2, n2, sub _ hthr, .head _, g3⟩
    refine loop_spec B F0 X (news_sub N2 (List.forall_mem_cons.mpr ⟨.tail _ (.head _), List.forall_mem_cons.mpr ⟨.head _, fun p hp => .tail _ (.tail _ hp)⟩⟩)) T (List.forall_mem_cons.mpr ⟨fun e => oT _ (.head _) e.symm, oS⟩) rfl rfl rfl rfl rfl q1 (.two q2 (sub _ h17) q3) q2 rfl (sub _ h17) (sub _ hNL) hnv hlen hnl (h2.more sub) h4 (h5.more sub) (h6.more sub) (h7.more sub) (h8.more sub) (h9.more sub) (h10.more sub) (sub _ h11) (h12.more sub) h14 h15 (h19.more sub) h20 (h21.more sub) (h22.more sub) h23 h24 hd hu hE ret
  case three c2 t u fv b hf0 hfs p1 p2 p3 p4 =>
    subst hfs
    rcases hf0 with rfl | rfl
    all_goals (
      repeat (fail_if_success (with_reducible show wpAny _ _ (execs (Stmt.For _ _ _ _ _ :: _) _) _ _ _)); (first | walk1 | (dsimp only; walk1))
      (rename Fr _ _ _ _ => F0)
      (rename News _ _ _ _ => N0)
      (rename getL (Str.ofString "top") _ = _ => g3)
      (rename ∀ (nm : Str) (u : Value), _ → _ → _ => gq)
      have g1 := gq _ _ (by decide) e1
      have g2 := gq _ _ (by decide) e2
      obtain ⟨es2, n2, N2, g1, g2, g3⟩ := pack_es N0 g1 g2 g3
      have sub : ∀ p ∈ rest, p ∈ (dT, dictOf es2 n2) :: rest := fun _ h => .tail _ h
      have q1 : Has ((dT, dictOf es2 n2) :: rest) thr 311 "stack" (.ref S) := ⟨dT, es2, n2, sub _ hthr, .head _, g1⟩
      have q2 : Has ((dT, dictOf es2 n2) :: rest) thr 311 "frames" (.ref FR) := ⟨dT, es2, n2, sub _ hthr, .head _, g2⟩
      have q3 : Has ((dT, dictOf es2 n2) :: rest) thr 311 "top" _ := ⟨dT, es2, n2, sub _ hthr, .head _, g3⟩
      refine loop_spec B F0 X (news_sub N2 (List.forall_mem_cons.mpr ⟨.tail _ (.head _), List.forall_mem_cons.mpr ⟨.head _, fun p hp => .tail _ (.tail _ hp)⟩⟩)) T (List.forall_mem_cons.mpr ⟨fun e => oT _ (.head _) e.symm, oS⟩) rfl rfl rfl rfl rfl q1 (.three q2 (sub _ h17) (p1.more sub) (p2.more sub) p3 (p4.more sub)) q2 rfl (sub _ h17) (sub _ hNL) hnv hlen hnl (h2.more sub) h4 (h5.more sub) (h6.more sub) (h7.more sub) (h8.more sub) (h9.more sub) (h10.more sub) (sub _ h11) (h12.more sub) h14 h15 (h19.more sub) h20 (h21.more sub) (h22.more sub) h23 h24 hd hu hE ret)
end
def fillStmt : Stmt := (lawBody[6]? : Option Stmt).getD (.Pass ⟨0, 0, 0, 0⟩)
section
variable {prog : Program} {w : World} {p : Program} {loose : List Str} {mean : ExcName → Option Value} {mg mb : Str → Option Value} {dp un : Nat} {gd : Option (List Code)} {fa : Addr} {ccd : Value} {cl : List (Str × Addr)} {outer : List Env} {A₀ : Around} {base h₀ : Heap} {L : Addr} {m : Str → Option Value} {s : Shared}
    {Q : Flow → Shared → Prop} {E : Value → Shared → Prop}
theorem fill_spec {rest : List (Addr × Obj)} {thr S NL : Addr} {vs : List Value} {v0 v1 : Value} {n tm tf : Nat} {many form : Int}
    (B : Below A₀ base outer h₀) (F : Fr h₀ L s.heap m) (X : (hd.heap_39 w.params).In h₀) (N : News h₀ L s.heap ((S, listOf vs.toArray n) :: rest)) (T : Top p loose mean mg mb h₀)
    (oS : ∀ p ∈ rest, p.1 ≠ S) (h1 : Has rest thr 311 "stack" (.ref S))
    (hm1 : m "thread" = some (.ref thr)) (hm2 : m "many" = some (.int many tm)) (hm3 : m "form" = some (.int form tf)) (hm4 : m "names" = some (.ref NL))
    (hlen : (vs.length : Int) = 3 + many) (h2 : 1 ≤ many) (h3 : many ≤ 6) (h4 : vs[(0 : Int).toNat]? = some v0) (h5 : vs[(1 : Int).toNat]? = some v1)
    (hd : dp + 10 < recursionLimit) (hu : un + 600 < cLine) (hE : PassesOwn (model prog w) (ktrTop dp un gd "law" lawScope L fa ccd cl outer) (envX "law" lawScope L fa ccd cl) E)
    (ret : ∀ h' tk' (m' : Str → Option Value) (vs' : List Value), Fr h₀ L h' m' → News h₀ L h' ((S, listOf vs'.toArray n) :: rest) → (vs'.length : Int) = 3 + many → vs'[(0 : Int).toNat]? = some v0 → vs'[(1 : Int).toNat]? = some v1 →
      m' "thread" = some (.ref thr) → m' "many" = some (.int many tm) → m' "form" = some (.int form tf) → m' "names" = some (.ref NL) → Q .next { s with heap := h', toks := tk' }) :
    wpAny (model prog w) (ktrTop dp un gd "law" lawScope L fa ccd cl outer) (exec fillStmt (envX "law" lawScope L fa ccd cl)) Q E s := by
  have hm1' := hm1; have hm2' := hm2; have hm3' := hm3; have hm4' := hm4
  rw [upd_eq hm1, upd_eq hm2] at F
  conv in (occs := *) lawScope => all_goals whnf
  conv in fillStmt => whnf
  (rename Fr _ _ _ _ => lF')
  with_unfolding_all refine' For_invVF (hE := hE) lF' ?k1 ?k2 ?_
  case k1 => exact rfl
  case k2 => exact rfl
  repeat (fail_if_success (with_reducible show wpAny _ _ (pyIter _) _ _ _)); (first | walk1 | (dsimp only; walk1))
  (rename IsRange _ _ _ _ _ _ _ _ => hR)
  (rename Fr _ _ _ _ => F0)
  (rename News _ _ _ _ => N0)
  refine iter_rng (n := many.toNat) (fun i m₁ nw => ∃ vs₁ : List Value, nw = (S, listOf vs₁.toArray n) :: rest ∧ (vs₁.length : Int) = 3 + many ∧ vs₁[(0 : Int).toNat]? = some v0 ∧ vs₁[(1 : Int).toNat]? = some v1 ∧
    m₁ "thread" = some (.ref thr) ∧ m₁ "many" = some (.int many tm) ∧ m₁ "form" = some (.int form tf) ∧ m₁ "names" = some (.ref NL)) (by rfl) F0 N0 hR ?ha ?hb ⟨vs, rfl, hlen, h4, h5, rfl, rfl, hm3', hm4'⟩ ?_ ?_
  case ha => exact small_one (by omega) (by omega) (by omega) (by omega)
  case hb => rw [rangeSize_nat]; congr 1; omega
  · rintro i t' m₁ _ h tk own' hi _ hoff ⟨vs₁, rfl, hlen', h4', h5', a1, a2, a3, a4⟩ F1 N1
    have oS' : ∀ p ∈ rest ++ own', p.1 ≠ S := by
      intro p hp
      rcases List.mem_append.mp hp with hp | hp
      · exact oS p hp
      · exact hoff p hp S (.head _)
    have sub : ∀ p ∈ rest, p ∈ rest ++ own' := fun _ h => List.mem_append_left _ h
    replace N1 : News h₀ L h ((S, listOf vs₁.toArray n) :: (rest ++ own')) := N1
    rw [upd_eq a1] at F1
    have b1 := h1.more sub
    k_steps
    (rename Fr _ _ _ _ => F2)
    (rename News _ _ _ _ => N2)
    exact InvEndN.intro F2 N2 ⟨vs₁.set _ _, rfl, by rw [List.length_set]; exact hlen', by rw [List.getElem?_set_ne (by omega)]; exact h4', by rw [List.getElem?_set_ne (by omega)]; exact h5', rfl, a2, a3, a4⟩ rfl (List.forall_mem_cons.mpr ⟨.head _, fun p hp => .tail _ (List.mem_append_left _ hp)⟩) (fun p hp => .tail _ (List.mem_append_right _ hp))
  · rintro m₁ _ h tk ⟨vs₁, rfl, hlen', h4', h5', a1, a2, a3, a4⟩ F1 N1
    exact ret h tk m₁ vs₁ F1 N1 hlen' h4' h5' a1 a2 a3 a4
end
theorem name_f1 {h₀ h : Heap} {L x d : Addr} {od : Obj} {tl rest : List (Addr × Obj)} {a0 a1 a2 a3 a4 efd eS eF eT : Addr × Obj} (N : News h₀ L h (a0 :: (tl ++ (a1 :: (x, instObj 157 d) :: (d, od) :: a2 :: a3 :: a4 :: efd :: eS :: eF :: eT :: rest)))) :
    ∃ x9 d9 od9, x9 = x ∧ d9 = d ∧ News h₀ L h (eS :: eF :: eT :: (x9, (⟨.ref 157, some d9, .plain, #[]⟩ : Obj)) :: (d9, od9) :: rest) := by
  refine ⟨x, d, od, rfl, rfl, news_sub N fun p hp => ?_⟩
  simp only [List.mem_cons, List.mem_append] at hp ⊢
  rcases hp with h | h | h | h | h | h <;> simp [h]
theorem name_f2 {h₀ h : Heap} {L clo S FR dT : Addr} {oS oF oT : Obj} {tl rest : List (Addr × Obj)} {a0 a1 b1 b2 a2 a3 a4 efd : Addr × Obj} (N : News h₀ L h (a0 :: (tl ++ (a1 :: b1 :: b2 :: a2 :: a3 :: a4 :: efd :: (S, oS) :: (FR, oF) :: (dT, oT) :: rest)))) (hI : IsL tl (.ref clo) true)
    (ho : ∀ p ∈ a1 :: b1 :: b2 :: a2 :: a3 :: a4 :: efd :: (S, oS) :: (FR, oF) :: (dT, oT) :: rest, ∀ q ∈ tl, p.1 ≠ q.1) :
    ∃ x9 d9 od9, x9 = clo ∧ News h₀ L h ((S, oS) :: (FR, oF) :: (dT, oT) :: (x9, (⟨.ref 109, some d9, .plain, #[]⟩ : Obj)) :: (d9, od9) :: rest) ∧ @Ne Nat x9 S ∧ @Ne Nat d9 S ∧ @Ne Nat x9 FR ∧ @Ne Nat d9 FR ∧ @Ne Nat x9 dT ∧ @Ne Nat d9 dT := by
  cases hI with
  | @lua _ dx od hx hd =>
    refine ⟨clo, dx, od, rfl, news_sub N fun p hp => ?_, Ne.symm (ho (S, oS) (by simp) _ hx), Ne.symm (ho (S, oS) (by simp) _ hd), Ne.symm (ho (FR, oF) (by simp) _ hx), Ne.symm (ho (FR, oF) (by simp) _ hd), Ne.symm (ho (dT, oT) (by simp) _ hx), Ne.symm (ho (dT, oT) (by simp) _ hd)⟩
    simp only [List.mem_cons, List.mem_append] at hp ⊢
    rcases hp with h | h | h | h | h | h
    · simp [h]
    · simp [h]
    · simp [h]
    · exact .inr (.inl (h ▸ hx))
    · exact .inr (.inl (h ▸ hd))
    · simp [h]
theorem nvIn_nil : NvIn [] [] := ⟨rfl, fun _ _ h => by simp at h⟩
local macro_rules | `(tactic| walk_at "call ref") => `(tactic| (k_here; (with_reducible show wpAny _ _ (call (Value.ref 442) _) _ _ _); k_dflt (refine' law_next_spec ?B ?F ?X ?N ?T ?hk ?hoff ?h1 ?h2 ?h3 ?h4 ?h5 ?h6 ?h7 ?hd ?hu ?_; (case B => k_asm); (case F => k_asm); (case X => k_asm); (case N => k_asm); (case T => k_asm); (case hk => first | exact rfl | assumption); (case hoff => assumption); (case h1 => assumption); (case h2 => assumption); (case h3 => omega); (case h4 => omega); (case h5 => omega); (case h6 => omega); (case h7 => omega); (case hd => ktr_room); (case hu => ktr_units); intro h' tk' r' t' u' r0' r1' F' N')))
local macro_rules | `(tactic| walk_at "call ref") => `(tactic| (k_here; (with_reducible show wpAny _ _ (call (Value.ref 447) _) _ _ _); k_dflt (refine' law_code_spec ?B ?F ?X ?N ?T ?hk ?h1 ?h2 ?h3 ?hd ?hu ?_; (case B => k_asm); (case F => k_asm); (case X => k_asm); (case N => k_asm); (case T => k_asm); (case hk => first | exact rfl | assumption); (case h1 => first | exact List.Mem.head _ | k_mem); (case h2 => first | assumption | exact nvIn_nil); (case h3 => first | omega | simp); (case hd => ktr_room); (case hu => ktr_units); intro h' tk' clo' pr' LV' lvs' nl' t1' tl' F' N' o' i1' i2' i3' i4' i5' i6')))
section
variable {prog : Program} {w : World} {p : Program} {loose : List Str} {mean : ExcName → Option Value} {mg mb : Str → Option Value} {dp un : Nat} {gd : Option (List Code)} {fa : Addr} {ccd : Value} {outer : List Env} {A₀ : Around} {base h₀ : Heap} {L : Addr} {m : Str → Option Value} {s : Shared}
    {Q : Flow → Shared → Prop} {E : Value → Shared → Prop}
theorem middle_spec {rest : List (Addr × Obj)} {es : List DictEntry} {ofc : Obj} {thr dT c0 c1 S fd c clo pr LV FR NL fc : Addr} {vs cvs lvs nvs : List Value} {cns : List Int} {nds : List (Option (Array UInt8))} {v0 : Value} {n nT nfd nf nc tt t1 t2 t3 t4 t5 t6 t7 n4 n6 tm tf : Nat} {many form turn : Int}
    (B : Below A₀ base outer h₀) (F : Fr h₀ L s.heap m) (X : (hd.heap_39 w.params).In h₀) (N : News h₀ L s.heap ((S, listOf vs.toArray n) :: (fd, listOf [Value.ref c, .int turn tt].toArray nfd) :: (FR, listOf [Value.ref c0, Value.ref c1].toArray nf) :: (dT, dictOf es nT) :: rest)) (T : Top p loose mean mg mb h₀)
    (oS : ∀ p ∈ rest, p.1 ≠ S) (oD : ∀ p ∈ rest, p.1 ≠ fd) (oR : ∀ p ∈ rest, p.1 ≠ FR) (oT : ∀ p ∈ rest, p.1 ≠ dT) (k1 : @Ne Nat S fd) (k2 : @Ne Nat S FR) (k3 : @Ne Nat S dT) (k4 : @Ne Nat fd FR) (k5 : @Ne Nat fd dT) (k6 : @Ne Nat FR dT)
    (hm1 : m "thread" = some (.ref thr)) (hm2 : m "many" = some (.int many tm)) (hm3 : m "form" = some (.int form tf)) (hm4 : m "names" = some (.ref NL))
    (hfc : (fc, ofc) ∈ rest) (hofc : ofc.data = .cell (some (.ref fd))) (hc : (c, listOf cvs.toArray nc) ∈ rest) (hci : IntsAre cvs cns) (hcl : cvs.length ≤ 100) (ht0 : 0 ≤ turn) (ht1 : turn ≤ 50)
    (hthr : (thr, (⟨.ref 311, some dT, .plain, #[]⟩ : Obj)) ∈ rest) (e1 : getL "stack" es = some (some (.ref S))) (e2 : getL "frames" es = some (some (.ref FR))) (e3 : getL "top" es = some (some v0)) (e4 : es.length ≤ 100)
    (hNL : (NL, listOf nvs.toArray n6) ∈ rest) (hnv : NvIn nvs nds) (hlen : (vs.length : Int) = 3 + many) (hnl : nds.length ≤ 20) (hf0 : 0 ≤ form) (hf1 : form < 3)
    (h2 : Has rest c1 190 "func" (.int 1 t1)) (h4 : vs[(1 : Int).toNat]? = some (.ref clo))
    (h5 : IsL rest (.ref clo) true) (h6 : Has rest clo 109 "proto" (.ref pr)) (h7 : Has rest pr 433 "max_stack" (.int many t2)) (h8 : Has rest c1 190 "base" (.int 2 t3)) (h9 : Has rest c1 190 "pc" (.int 2 t4))
    (h10 : Has rest pr 433 "locals" (.ref LV)) (h11 : (LV, listOf lvs.toArray n4) ∈ rest) (h12 : LvIn rest lvs nds)
    (h19 : Has rest c0 190 "func" (.int 0 t5)) (h20 : vs[(0 : Int).toNat]? = some .none) (h21 : Has rest c0 190 "tails" (.int 0 t6)) (h22 : Has rest c1 190 "tails" (.int 0 t7)) (h23 : many ≤ 6) (h24 : 1 ≤ many)
    (hd : dp + 10 < recursionLimit) (hu : un + 600 < cLine) (hE : PassesOwn (model prog w) (ktrTop dp un gd "law" lawScope L fa ccd [("feed", fc)] outer) (envX "law" lawScope L fa ccd [("feed", fc)]) E)
    (ret : ∀ h' tk' (m' : Str → Option Value), Fr h₀ L h' m' → Q (.ret (.bool true)) { s with heap := h', toks := tk' }) :
    wpAny (model prog w) (ktrTop dp un gd "law" lawScope L fa ccd [("feed", fc)] outer) (execs (lawBody.drop 6) (envX "law" lawScope L fa ccd [("feed", fc)])) Q E s := by
  conv in lawBody.drop 6 => whnf
  walk1
  refine fill_spec (m := m) (vs := vs) (many := many) (form := form) B F X N T (List.forall_mem_cons.mpr ⟨Ne.symm k1, List.forall_mem_cons.mpr ⟨Ne.symm k2, List.forall_mem_cons.mpr ⟨Ne.symm k3, oS⟩⟩⟩) ⟨dT, es, nT, .tail _ (.tail _ (.tail _ hthr)), .tail _ (.tail _ (.head _)), e1⟩ hm1 hm2 hm3 hm4 hlen h24 h23 h20 h4 hd hu hE ?_
  intro h' tk' m' vs' F' N' hlen' h20' h4' a1 a2 a3 a4
  rw [upd_eq a1, upd_eq a2, upd_eq a3, upd_eq a4] at F'
  clear hm1 hm2 hm3 hm4 a1 a2 a3 a4 F N hlen h20 h4
  replace N' : News h₀ L h' ((fd, listOf [Value.ref c, .int turn tt].toArray nfd) :: (S, listOf vs'.toArray n) :: (FR, listOf [Value.ref c0, Value.ref c1].toArray nf) :: (dT, dictOf es nT) :: rest) := news_sub N' (by intro p hp; simp only [List.mem_cons] at hp ⊢; rcases hp with h | h | h <;> simp [h])
  have oD' : ∀ p ∈ (S, listOf vs'.toArray n) :: (FR, listOf [Value.ref c0, Value.ref c1].toArray nf) :: (dT, dictOf es nT) :: rest, p.1 ≠ fd := List.forall_mem_cons.mpr ⟨k1, List.forall_mem_cons.mpr ⟨Ne.symm k4, List.forall_mem_cons.mpr ⟨Ne.symm k5, oD⟩⟩⟩
  have hc' : (c, listOf cvs.toArray nc) ∈ (S, listOf vs'.toArray n) :: (FR, listOf [Value.ref c0, Value.ref c1].toArray nf) :: (dT, dictOf es nT) :: rest := .tail _ (.tail _ (.tail _ hc))
  dsimp only
  have hE' := hE
  conv in (occs := *) lawScope => all_goals whnf
  have hform : form = 0 ∨ form = 1 ∨ form = 2 := by omega
  rcases hform with hf | hf | hf
  · subst hf
    repeat ((fail_if_success (with_reducible show wpAny _ _ (execs (Stmt.Assign [Expr.Attribute _ (Str.ofString "top") _] _ _ :: _) _) _ _ _)); first | walk1 | (dsimp only; walk1))
    (rename Fr _ _ _ _ => F2)
    (rename News _ _ _ _ => N2)
    dsimp only
    have sub : ∀ p ∈ rest, p ∈ (FR, listOf [Value.ref c0, Value.ref c1].toArray nf) :: rest := fun _ h => .tail _ h
    refine tail_spec (form := 0) (fs := [Value.ref c0, Value.ref c1]) (vs := vs') B F2 X (news_sub N2 (List.forall_mem_cons.mpr ⟨.tail _ (.tail _ (.tail _ (.tail _ (.head _)))), List.forall_mem_cons.mpr ⟨.tail _ (.tail _ (.head _)), List.forall_mem_cons.mpr ⟨.tail _ (.tail _ (.tail _ (.head _))), fun p hp => .tail _ (.tail _ (.tail _ (.tail _ (.tail _ hp))))⟩⟩⟩)) T (List.forall_mem_cons.mpr ⟨k3, List.forall_mem_cons.mpr ⟨k6, oT⟩⟩) (List.forall_mem_cons.mpr ⟨Ne.symm k2, oS⟩) rfl rfl rfl rfl rfl rfl (sub _ hthr) e1 e2 e3 e4 (.head _) (sub _ hNL) hnv hlen' hnl (h2.more sub) h4' (h5.more sub) (h6.more sub) (h7.more sub) (h8.more sub) (h9.more sub) (h10.more sub) (sub _ h11) (h12.more sub) (by assumption) (by omega) (h19.more sub) h20' (h21.more sub) (h22.more sub) h23 h24 (.two rfl rfl) hd hu hE ret
  · subst hf
    repeat ((fail_if_success (with_reducible show wpAny _ _ (call (Value.ref 454) _) _ _ _)); first | walk1 | (dsimp only; walk1))
    (rename Fr _ _ _ _ => F2)
    (rename News h₀ L _ _ => N2)
    obtain ⟨x9, d9, od9, rfl, rfl, N3⟩ := name_f1 N2
    refine law_begun_spec (S := S) (FR := FR) (vs := vs') (fs := [Value.ref c0, Value.ref c1]) B F2 X N3 T rfl (List.forall_mem_cons.mpr ⟨by k_ne, List.forall_mem_cons.mpr ⟨by k_ne, List.forall_mem_cons.mpr ⟨by k_ne, oS⟩⟩⟩) (List.forall_mem_cons.mpr ⟨by k_ne, List.forall_mem_cons.mpr ⟨by k_ne, List.forall_mem_cons.mpr ⟨by k_ne, oR⟩⟩⟩) k2 ⟨dT, es, nT, .tail _ (.tail _ (.tail _ hthr)), .head _, e1⟩ ⟨dT, es, nT, .tail _ (.tail _ (.tail _ hthr)), .head _, e2⟩ (by omega) (by omega) (by omega) (by simp) (by omega) (by omega) ?_
    intro h5' tk5 x5 d5 od5 nf5 u1 u2 u3 u4 F5 N5 q1 q2 q3 q4 y1 y2 y3 y4
    repeat ((fail_if_success (with_reducible show wpAny _ _ (execs (Stmt.Assign [Expr.Attribute _ (Str.ofString "top") _] _ _ :: _) _) _ _ _)); first | walk1 | (dsimp only; walk1))
    dsimp only
    have sub : ∀ p ∈ rest, p ∈ (FR, listOf ([Value.ref c0, Value.ref c1] ++ [Value.ref x5]).toArray nf5) :: (x5, (⟨.ref 190, some d5, .plain, #[]⟩ : Obj)) :: (d5, od5) :: (x9, (⟨.ref 157, some d9, .plain, #[]⟩ : Obj)) :: (d9, od9) :: rest := fun _ h => .tail _ (.tail _ (.tail _ (.tail _ (.tail _ h))))
    have sub2 : ∀ p ∈ [(x5, (⟨.ref 190, some d5, .plain, #[]⟩ : Obj)), (d5, od5)], p ∈ (FR, listOf ([Value.ref c0, Value.ref c1] ++ [Value.ref x5]).toArray nf5) :: (x5, (⟨.ref 190, some d5, .plain, #[]⟩ : Obj)) :: (d5, od5) :: (x9, (⟨.ref 157, some d9, .plain, #[]⟩ : Obj)) :: (d9, od9) :: rest := List.forall_mem_cons.mpr ⟨.tail _ (.head _), List.forall_mem_cons.mpr ⟨.tail _ (.tail _ (.head _)), fun _ h => nomatch h⟩⟩
    have z1 : @LT.lt Nat _ dT d5 := y1 _ (.head _)
    have z2 : @LT.lt Nat _ x9 d5 := y1 _ (.tail _ (.head _))
    have z3 : @LT.lt Nat _ d9 d5 := y1 _ (.tail _ (.tail _ (.head _)))
    refine tail_spec (form := 1) (fs := [Value.ref c0, Value.ref c1] ++ [Value.ref x5]) B F5 X (news_sub N5 (List.forall_mem_cons.mpr ⟨.tail _ (.tail _ (.tail _ (.tail _ (.head _)))), List.forall_mem_cons.mpr ⟨.tail _ (.tail _ (.head _)), List.forall_mem_cons.mpr ⟨.tail _ (.tail _ (.tail _ (.head _))), List.forall_mem_cons.mpr ⟨.head _, List.forall_mem_cons.mpr ⟨.tail _ (.head _), fun p hp => .tail _ (.tail _ (.tail _ (.tail _ (.tail _ hp))))⟩⟩⟩⟩⟩)) T
      (List.forall_mem_cons.mpr ⟨k3, List.forall_mem_cons.mpr ⟨k6, List.forall_mem_cons.mpr ⟨by k_ne, List.forall_mem_cons.mpr ⟨by k_ne, List.forall_mem_cons.mpr ⟨by k_ne, List.forall_mem_cons.mpr ⟨by k_ne, oT⟩⟩⟩⟩⟩⟩)
      (List.forall_mem_cons.mpr ⟨Ne.symm k2, List.forall_mem_cons.mpr ⟨by k_ne, List.forall_mem_cons.mpr ⟨by k_ne, List.forall_mem_cons.mpr ⟨by k_ne, List.forall_mem_cons.mpr ⟨by k_ne, oS⟩⟩⟩⟩⟩)
      rfl rfl rfl rfl rfl rfl (sub _ hthr) e1 e2 e3 e4 (.head _) (sub _ hNL) hnv (by rw [List.length_set]; exact hlen') hnl (h2.more sub) (by rw [List.getElem?_set_ne (by omega)]; exact h4') (h5.more sub) (h6.more sub) (h7.more sub) (h8.more sub) (h9.more sub) (h10.more sub) (sub _ h11) (h12.more sub) (by assumption) (by omega) (h19.more sub) (by rw [List.getElem?_set_ne (by omega)]; exact h20') (h21.more sub) (h22.more sub) h23 h24
      (.three (.inl rfl) rfl (q1.more sub2) (q4.more sub2) (List.getElem?_set_self (by omega)) (.py (.tail _ (.tail _ (.tail _ (.head _)))) (.tail _ (.tail _ (.tail _ (.tail _ (.head _))))))) hd hu hE ret
  · subst hf
    repeat ((fail_if_success (with_reducible show wpAny _ _ (call (Value.ref 454) _) _ _ _)); first | walk1 | (dsimp only; walk1))
    (rename Fr _ _ _ _ => F2)
    (rename News h₀ L _ _ => N2)
    obtain ⟨x9, d9, od9, rfl, N3, w1, w2, w3, w4, w5, w6⟩ := name_f2 N2 (by assumption) (by assumption)
    refine law_begun_spec (S := S) (FR := FR) (vs := vs') (fs := [Value.ref c0, Value.ref c1]) B F2 X N3 T rfl (List.forall_mem_cons.mpr ⟨by k_ne, List.forall_mem_cons.mpr ⟨by k_ne, List.forall_mem_cons.mpr ⟨by k_ne, oS⟩⟩⟩) (List.forall_mem_cons.mpr ⟨by k_ne, List.forall_mem_cons.mpr ⟨by k_ne, List.forall_mem_cons.mpr ⟨by k_ne, oR⟩⟩⟩) k2 ⟨dT, es, nT, .tail _ (.tail _ (.tail _ hthr)), .head _, e1⟩ ⟨dT, es, nT, .tail _ (.tail _ (.tail _ hthr)), .head _, e2⟩ (by omega) (by omega) (by omega) (by simp) (by omega) (by omega) ?_
    intro h5' tk5 x5 d5 od5 nf5 u1 u2 u3 u4 F5 N5 q1 q2 q3 q4 y1 y2 y3 y4
    repeat ((fail_if_success (with_reducible show wpAny _ _ (execs (Stmt.Assign [Expr.Attribute _ (Str.ofString "top") _] _ _ :: _) _) _ _ _)); first | walk1 | (dsimp only; walk1))
    dsimp only
    have sub : ∀ p ∈ rest, p ∈ (FR, listOf ([Value.ref c0, Value.ref c1] ++ [Value.ref x5]).toArray nf5) :: (x5, (⟨.ref 190, some d5, .plain, #[]⟩ : Obj)) :: (d5, od5) :: (x9, (⟨.ref 109, some d9, .plain, #[]⟩ : Obj)) :: (d9, od9) :: rest := fun _ h => .tail _ (.tail _ (.tail _ (.tail _ (.tail _ h))))
    have sub2 : ∀ p ∈ [(x5, (⟨.ref 190, some d5, .plain, #[]⟩ : Obj)), (d5, od5)], p ∈ (FR, listOf ([Value.ref c0, Value.ref c1] ++ [Value.ref x5]).toArray nf5) :: (x5, (⟨.ref 190, some d5, .plain, #[]⟩ : Obj)) :: (d5, od5) :: (x9, (⟨.ref 109, some d9, .plain, #[]⟩ : Obj)) :: (d9, od9) :: rest := List.forall_mem_cons.mpr ⟨.tail _ (.head _), List.forall_mem_cons.mpr ⟨.tail _ (.tail _ (.head _)), fun _ h => nomatch h⟩⟩
    have z1 : @LT.lt Nat _ dT d5 := y1 _ (.head _)
    have z2 : @LT.lt Nat _ x9 d5 := y1 _ (.tail _ (.head _))
    have z3 : @LT.lt Nat _ d9 d5 := y1 _ (.tail _ (.tail _ (.head _)))
    refine tail_spec (form := 2) (fs := [Value.ref c0, Value.ref c1] ++ [Value.ref x5]) B F5 X (news_sub N5 (List.forall_mem_cons.mpr ⟨.tail _ (.tail _ (.tail _ (.tail _ (.head _)))), List.forall_mem_cons.mpr ⟨.tail _ (.tail _ (.head _)), List.forall_mem_cons.mpr ⟨.tail _ (.tail _ (.tail _ (.head _))), List.forall_mem_cons.mpr ⟨.head _, List.forall_mem_cons.mpr ⟨.tail _ (.head _), fun p hp => .tail _ (.tail _ (.tail _ (.tail _ (.tail _ hp))))⟩⟩⟩⟩⟩)) T
      (List.forall_mem_cons.mpr ⟨k3, List.forall_mem_cons.mpr ⟨k6, List.forall_mem_cons.mpr ⟨by k_ne, List.forall_mem_cons.mpr ⟨by k_ne, List.forall_mem_cons.mpr ⟨by k_ne, List.forall_mem_cons.mpr ⟨by k_ne, oT⟩⟩⟩⟩⟩⟩)
      (List.forall_mem_cons.mpr ⟨Ne.symm k2, List.forall_mem_cons.mpr ⟨by k_ne, List.forall_mem_cons.mpr ⟨by k_ne, List.forall_mem_cons.mpr ⟨by k_ne, List.forall_mem_cons.mpr ⟨by k_ne, oS⟩⟩⟩⟩⟩)
      rfl rfl rfl rfl rfl rfl (sub _ hthr) e1 e2 e3 e4 (.head _) (sub _ hNL) hnv (by rw [List.length_set]; exact hlen') hnl (h2.more sub) (by rw [List.getElem?_set_ne (by omega)]; exact h4') (h5.more sub) (h6.more sub) (h7.more sub) (h8.more sub) (h9.more sub) (h10.more sub) (sub _ h11) (h12.more sub) (by assumption) (by omega) (h19.more sub) (by rw [List.getElem?_set_ne (by omega)]; exact h20') (h21.more sub) (h22.more sub) h23 h24
      (.three (.inr rfl) rfl (q1.more sub2) (q4.more sub2) (List.getElem?_set_self (by omega)) (.lua (.tail _ (.tail _ (.tail _ (.head _)))) (.tail _ (.tail _ (.tail _ (.tail _ (.head _))))))) hd hu hE ret
end
def NvPre (ys : List Value) (i : Nat) : Prop := ys.length = i ∧ ∀ v ∈ ys, ∃ d, NmV v d ∧ Nm12 d
theorem nvPre_snoc {ys : List Value} {i : Nat} {v : Value} {d : Option (Array UInt8)} (h : NvPre ys i) (h1 : NmV v d) (h2 : Nm12 d) : NvPre (ys ++ [v]) (i + 1) := by
  refine ⟨by rw [List.length_append, h.1]; rfl, fun x hx => ?_⟩
  rcases List.mem_append.mp hx with hx | hx
  · exact h.2 x hx
  · rw [List.mem_singleton.mp hx]; exact ⟨d, h1, h2⟩
theorem nvIn_of : ∀ {ys : List Value}, (∀ v ∈ ys, ∃ d, NmV v d ∧ Nm12 d) → ∃ nds, NvIn ys nds
  | [], _ => ⟨[], rfl, fun _ _ h => by simp at h⟩
  | v :: r, h => by
    obtain ⟨d, h1, h2⟩ := h v (.head _)
    obtain ⟨nds, h3, h4⟩ := nvIn_of fun v' hv => h v' (.tail _ hv)
    refine ⟨d :: nds, by rw [List.length_cons, List.length_cons, h3], fun i x hx => ?_⟩
    cases i with
    | zero => cases hx; exact ⟨d, rfl, h1, h2⟩
    | succ i => exact h4 i x hx
theorem name_c0 {h₀ h : Heap} {L x d FR : Addr} {es : List DictEntry} {n nf : Nat} {tl rest : List (Addr × Obj)} {eT eS eD eN : Addr × Obj} (N : News h₀ L h (tl ++ ((x, instObj 190 d) :: (d, dictOf es n) :: eT :: eS :: (FR, listOf (([] : List Value).toArray.push (.ref x)) nf) :: eD :: eN :: rest)))
    (g : ∃ t1 t2, getL "func" es = some (some (.int 0 t1)) ∧ getL "tails" es = some (some (.int 0 t2))) :
    ∃ c0 d0 od0 t1 t2, c0 = x ∧ d0 = d ∧ Has [(c0, (⟨.ref 190, some d0, .plain, #[]⟩ : Obj)), (d0, od0)] c0 190 "func" (.int 0 t1) ∧ Has [(c0, (⟨.ref 190, some d0, .plain, #[]⟩ : Obj)), (d0, od0)] c0 190 "tails" (.int 0 t2) ∧
      News h₀ L h (eS :: (FR, listOf [Value.ref c0].toArray nf) :: eT :: eD :: eN :: (c0, (⟨.ref 190, some d0, .plain, #[]⟩ : Obj)) :: (d0, od0) :: (tl ++ rest)) := by
  obtain ⟨t1, t2, g1, g2⟩ := g
  refine ⟨x, d, dictOf es n, t1, t2, rfl, rfl, ⟨d, es, n, .head _, .tail _ (.head _), g1⟩, ⟨d, es, n, .head _, .tail _ (.head _), g2⟩, news_sub N fun p hp => ?_⟩
  have e : listOf (([] : List Value).toArray.push (.ref x)) nf = listOf [Value.ref x].toArray nf := rfl
  rw [e]
  simp only [List.mem_cons, List.mem_append] at hp ⊢
  rcases hp with h | h | h | h | h | h | h | h | h <;> simp [h]
theorem perm3 {h₀ h : Heap} {L : Addr} {eS a b eD eF eT eN : Addr × Obj} {r : List (Addr × Obj)} (N : News h₀ L h (eS :: a :: b :: eD :: eF :: eT :: eN :: r)) : News h₀ L h (eT :: eS :: eF :: eD :: eN :: r) := by
  refine news_sub N fun p hp => ?_
  simp only [List.mem_cons] at hp ⊢
  rcases hp with h | h | h | h | h | h <;> simp [h]
section
variable {prog : Program} {w : World} {A : Around} {E : Value → Shared → Prop} {s : Shared} {K : Frag} {x C dx L : Addr} {h₀ : Heap} {m : Str → Option Value} {rest : List (Addr × Obj)} {es : List DictEntry} {n : Nat} {name : Str} {v v0 : Value}
theorem set_at2 {Q : Unit → Shared → Prop} (F : Fr h₀ L s.heap m) (X₀ : K.In h₀) (N : News h₀ L s.heap ((dx, dictOf es n) :: rest)) (hm : (x, (⟨.ref C, some dx, .plain, #[]⟩ : Obj)) ∈ rest) (off : ∀ p ∈ rest, p.1 ≠ dx)
    (hs : findIn K (.ref C) "__setattr__" = some (some (.builtin "object.__setattr__"))) (hp : plainOver K C = true) (ht : takerIn K C name = some none) (hh : hasDictIn K C = true) (hl : getL name es = some (some v0)) (hz : es.length ≤ 500)
    (h : ∀ h' es' n', Fr h₀ L h' m → News h₀ L h' ((dx, dictOf es' n') :: rest) → getL name es' = some (some v) → (∀ nm u, nm ≠ name → getL nm es = some (some u) → getL nm es' = some (some u)) → es'.length ≤ es.length + 1 → Q () { s with heap := h', toks := s.toks + 2 }) :
    wpAny (model prog w) A (setAttr (.ref x) name v) Q E s := by
  refine set_dict F X₀ N (InstAt.of_news N (List.mem_cons_of_mem _ hm) (List.mem_cons_self)) rfl hs hp ht hh (by rw [hl]; rfl) rfl (Upd.head off) (by have := putL_len (name := name) (hsh := PyData.keyHash w.params name) (key := .str name (s.toks + 1)) (v := v) es; omega) fun h' F' N' => ?_
  exact h h' _ _ F' N' (getL_put hl) (fun nm u hn hu => getL_put_other hn hu) (putL_len _)
end
theorem off_app {tl rest : List (Addr × Obj)} {p : Addr × Obj} (h1 : ∀ q ∈ tl, p.1 ≠ q.1) (h2 : ∀ q ∈ rest, q.1 ≠ p.1) : ∀ q ∈ tl ++ rest, q.1 ≠ p.1 :=
  fun q hq => (List.mem_append.mp hq).elim (fun h => Ne.symm (h1 q h)) (h2 q)
theorem in5l {a b c d e : Addr × Obj} {t r : List (Addr × Obj)} : ∀ {p}, p ∈ t → p ∈ a :: b :: c :: d :: e :: (t ++ r) := fun h => .tail _ (.tail _ (.tail _ (.tail _ (.tail _ (List.mem_append_left _ h)))))
theorem in5r {a b c d e : Addr × Obj} {t r : List (Addr × Obj)} : ∀ {p}, p ∈ r → p ∈ a :: b :: c :: d :: e :: (t ++ r) := fun h => .tail _ (.tail _ (.tail _ (.tail _ (.tail _ (List.mem_append_right _ h)))))
theorem in2 {a b : Addr × Obj} {r : List (Addr × Obj)} : ∀ p ∈ [a, b], p ∈ a :: b :: r := fun p hp => by
  simp only [List.mem_cons] at hp ⊢
  rcases hp with h | h | h <;> simp_all
theorem in22 {a b x y z : Addr × Obj} {r : List (Addr × Obj)} : ∀ p ∈ [a, b], p ∈ x :: y :: z :: a :: b :: r := fun p hp => .tail _ (.tail _ (.tail _ (in2 p hp)))
theorem perm5 {h₀ h : Heap} {L : Addr} {a b eS eF eT eD eN ec ed : Addr × Obj} {r : List (Addr × Obj)} (N : News h₀ L h (a :: b :: eS :: eF :: eT :: eD :: eN :: ec :: ed :: r)) : News h₀ L h (eS :: eD :: eF :: eT :: a :: b :: eN :: ec :: ed :: r) := by
  refine news_sub N fun p hp => ?_
  simp only [List.mem_cons] at hp ⊢
  rcases hp with h | h | h | h | h | h | h | h | h | h <;> simp [h]
theorem swap5 {h₀ h : Heap} {L : Addr} {a b c d e : Addr × Obj} {r : List (Addr × Obj)} (N : News h₀ L h (a :: b :: c :: d :: e :: r)) : News h₀ L h (e :: a :: b :: c :: d :: r) := by
  refine news_sub N fun p hp => ?_
  simp only [List.mem_cons] at hp ⊢
  rcases hp with h | h | h | h | h | h <;> simp [h]
section
variable {prog : Program} {w : World} {p : Program} {loose : List Str} {mean : ExcName → Option Value} {mg mb : Str → Option Value} {dp un : Nat} {gd : Option (List Code)} {fa : Addr} {ccd : Value} {outer : List Env} {A₀ : Around} {base h₀ : Heap} {L : Addr} {m : Str → Option Value} {s : Shared}
    {Q : Flow → Shared → Prop} {E : Value → Shared → Prop}
theorem names_spec {rest : List (Addr × Obj)} {es : List DictEntry} {ofc : Obj} {thr dT fd c FR fc : Addr} {cvs : List Value} {cns : List Int} {v0 v1 : Value} {nT nfd nf nc tt : Nat}
    (B : Below A₀ base outer h₀) (F : Fr h₀ L s.heap m) (X : (hd.heap_39 w.params).In h₀) (N : News h₀ L s.heap ((fd, listOf [Value.ref c, .int 0 tt].toArray nfd) :: (FR, listOf ([] : List Value).toArray nf) :: (dT, dictOf es nT) :: rest)) (T : Top p loose mean mg mb h₀)
    (oD : ∀ p ∈ rest, p.1 ≠ fd) (oR : ∀ p ∈ rest, p.1 ≠ FR) (oT : ∀ p ∈ rest, p.1 ≠ dT) (k4 : @Ne Nat fd FR) (k5 : @Ne Nat fd dT) (k6 : @Ne Nat FR dT)
    (hm1 : m "thread" = some (.ref thr))
    (hfc : (fc, ofc) ∈ rest) (hofc : ofc.data = .cell (some (.ref fd))) (hc : (c, listOf cvs.toArray nc) ∈ rest) (hci : IntsAre cvs cns) (hcl : cvs.length ≤ 100)
    (hthr : (thr, (⟨.ref 311, some dT, .plain, #[]⟩ : Obj)) ∈ rest) (e1 : getL "stack" es = some (some v1)) (e2 : getL "frames" es = some (some (.ref FR))) (e3 : getL "top" es = some (some v0)) (e4 : es.length ≤ 50)
    (hd : dp + 10 < recursionLimit) (hu : un + 600 < cLine) (hE : PassesOwn (model prog w) (ktrTop dp un gd "law" lawScope L fa ccd [("feed", fc)] outer) (envX "law" lawScope L fa ccd [("feed", fc)]) E)
    (ret : ∀ h' tk' (m' : Str → Option Value), Fr h₀ L h' m' → Q (.ret (.bool true)) { s with heap := h', toks := tk' }) :
    wpAny (model prog w) (ktrTop dp un gd "law" lawScope L fa ccd [("feed", fc)] outer) (execs (lawBody.drop 1) (envX "law" lawScope L fa ccd [("feed", fc)])) Q E s := by
  rw [upd_eq hm1] at F
  clear hm1
  have oD' : ∀ p ∈ (FR, listOf ([] : List Value).toArray nf) :: (dT, dictOf es nT) :: rest, p.1 ≠ fd := List.forall_mem_cons.mpr ⟨Ne.symm k4, List.forall_mem_cons.mpr ⟨Ne.symm k5, oD⟩⟩
  have hc' : (c, listOf cvs.toArray nc) ∈ (FR, listOf ([] : List Value).toArray nf) :: (dT, dictOf es nT) :: rest := .tail _ (.tail _ hc)
  conv in lawBody.drop 1 => whnf
  conv in (occs := *) lawScope => all_goals whnf
  repeat ((fail_if_success (show LCg.CompSrc _ _ _ _ _ _ _ _ _ _ _ _ _ _)); first | walk1 | (dsimp only; walk1))
  (rename IsRange _ _ _ _ _ _ _ _ => hR)
  (rename Fr _ _ _ _ => F0)
  (rename News _ _ _ _ => N0)
  rename_i r9 _ _ r90 r91 _ _ _ _ _ _ _ _
  refine LCg.CompSrc.range (n := r9.toNat) (by rfl) F0 N0 hR (small_one (by omega) (by omega) (by omega) (by omega)) (by rw [rangeSize_nat]; congr 1; omega) (by rw [sizeLine_eq]; omega) fun gg => ?_
  refine compRest_ind (fun i ys nw => ∃ u, nw = (fd, listOf [Value.ref c, .int (0 + 1 + (i : Int)) u].toArray nfd) :: (FR, listOf ([] : List Value).toArray nf) :: (dT, dictOf es nT) :: rest ∧ NvPre ys i) ⟨_, rfl, rfl, fun _ h => nomatch h⟩ ?_ ?_
  · rintro i ys _ v I oI C oC D m₂ h tk E' hin ⟨u, rfl, hnv⟩ hv hC hx F1 N1 off ne
    obtain ⟨tv, rfl⟩ := hv
    repeat ((fail_if_success (with_reducible show wpAny _ _ (call (Value.ref 442) _) _ _ _)); first | walk1 | (dsimp only; walk1))
    (rename Fr _ _ _ _ => F2)
    (rename News _ _ _ _ => N2)
    obtain ⟨⟨g1, g2, g3⟩, off2⟩ := off
    refine law_next_spec (turn := 0 + 1 + (i : Int)) B F2 X (swap5 N2) T rfl (List.forall_mem_cons.mpr ⟨by k_ne, List.forall_mem_cons.mpr ⟨Ne.symm g1, List.forall_mem_cons.mpr ⟨Ne.symm g2, List.forall_mem_cons.mpr ⟨Ne.symm g3, oD'⟩⟩⟩⟩) (.tail _ (.tail _ (.tail _ (.tail _ hc')))) hci hcl (by omega) (by omega) (by omega) (by omega) (by omega) (by omega) ?_
    intro h' tk' r t' u' y0 y1 F3 N3
    have hr : r = 0 ∨ r = 1 ∨ r = 2 := by omega
    rcases hr with rfl | rfl | rfl
    all_goals (
      k_steps
      refine LCg.CompEnd.intro F3 N3 ((fd, listOf [Value.ref c, .int (0 + 1 + (i : Int) + 1) u'].toArray nfd) :: (FR, listOf ([] : List Value).toArray nf) :: (dT, dictOf es nT) :: rest) (by intro p hp; simp only [List.mem_cons] at hp ⊢; rcases hp with h | h | h | h | h | h | h <;> simp [h]) ⟨⟨g1, g2, g3⟩, off2⟩ trivial ⟨u', by rw [show (0 + 1 + ((i + 1 : Nat) : Int)) = 0 + 1 + (i : Int) + 1 from by omega], ?_⟩
      first
        | exact nvPre_snoc hnv .none (fun b e => by cases e)
        | exact nvPre_snoc hnv (.bytes _ _) (fun b e => by cases e; exact .inl rfl)
        | exact nvPre_snoc hnv (.bytes _ _) (fun b e => by cases e; exact .inr rfl))
  · rintro ys _ ⟨u, rfl, hnv⟩
    unfold LCg.FinA
    intro D hh tk' F2 N2 o1
    dsimp only
    obtain ⟨nds, hnd⟩ := nvIn_of hnv.2
    have hyl : ys.length ≤ 10 := by rw [hnv.1]; omega
    have o1' := off1_mem o1
    have d1 : @Ne Nat fd D := o1' _ (.head _)
    have d2 : @Ne Nat FR D := o1' _ (.tail _ (.head _))
    have d3 : @Ne Nat dT D := o1' _ (.tail _ (.tail _ (.head _)))
    have d4 : ∀ p ∈ rest, p.1 ≠ D := fun p hp => o1' p (.tail _ (.tail _ (.tail _ hp)))
    clear o1 o1' F0 N0
    replace N2 : News h₀ L hh ((fd, listOf [Value.ref c, .int (0 + 1 + (r9.toNat : Int)) u].toArray nfd) :: (FR, listOf ([] : List Value).toArray nf) :: (dT, dictOf es nT) :: (D, listOf ys.toArray ys.length) :: rest) := news_sub N2 (by intro p hp; simp only [List.mem_cons] at hp ⊢; rcases hp with h | h | h | h | h <;> simp [h])
    have oD2 : ∀ p ∈ (FR, listOf ([] : List Value).toArray nf) :: (dT, dictOf es nT) :: (D, listOf ys.toArray ys.length) :: rest, p.1 ≠ fd := List.forall_mem_cons.mpr ⟨Ne.symm k4, List.forall_mem_cons.mpr ⟨Ne.symm k5, List.forall_mem_cons.mpr ⟨Ne.symm d1, oD⟩⟩⟩
    have hc2 : (c, listOf cvs.toArray nc) ∈ (FR, listOf ([] : List Value).toArray nf) :: (dT, dictOf es nT) :: (D, listOf ys.toArray ys.length) :: rest := .tail _ (.tail _ (.tail _ hc))
    clear oD' hc'
    repeat ((fail_if_success (with_reducible show wpAny _ _ (binaryOp Operator.Mult (Value.ref _) _) _ _ _)); first | walk1 | (dsimp only; walk1))
    (rename Fr _ _ _ _ => F4)
    (rename News _ _ _ _ => N4)
    refine KMa.mul (ws := List.replicate _ Value.none) F4 N4 ⟨_, (N4 _ (.head _)).1, rfl, _, rfl⟩ (by omega) (by omega) (by simp only [List.length_cons, List.length_nil]; omega) List.flatten_replicate_singleton ?_
    intro S hS FS NS lS
    k_lt lS
    repeat ((fail_if_success (with_reducible show wpAny _ _ (setAttr _ _ _) _ _ _)); first | walk1 | (dsimp only; walk1))
    have N5 := perm3 NS
    refine set_at2 (x := thr) (C := 311) FS X N5 (.tail _ (.tail _ (.tail _ (.tail _ hthr)))) (List.forall_mem_cons.mpr ⟨by k_ne, List.forall_mem_cons.mpr ⟨k6, List.forall_mem_cons.mpr ⟨k5, List.forall_mem_cons.mpr ⟨Ne.symm d3, oT⟩⟩⟩⟩) (by k_dflt k_is) (by k_dflt k_is) (by k_dflt k_is) (by k_dflt k_is) e1 (by omega) ?_
    intro hA es2 n2 FA NA q1 q2 q3
    have w2 := q2 _ _ (by decide) e2
    have w3 := q2 _ _ (by decide) e3
    clear q2
    have hfr : Has ((dT, dictOf es2 n2) :: rest) thr 311 "frames" (.ref FR) := ⟨dT, es2, n2, .tail _ hthr, .head _, w2⟩
    dsimp only
    repeat ((fail_if_success (with_reducible show wpAny _ _ (call (Value.ref 454) _) _ _ _)); first | walk1 | (dsimp only; walk1))
    (rename Fr _ _ _ _ => F6)
    (rename News h₀ L _ _ => N6)
    obtain ⟨c0, d0, od0, t10, t20, rfl, rfl, p1, p2, N7⟩ := name_c0 N6 ⟨_, _, rfl, rfl⟩
    have oS : ∀ p ∈ rest, p.1 ≠ S := fun p hp => Nat.ne_of_lt (ktn_ltOf (by first | exact And.right (And.right (And.right (And.right (And.right (And.right lS)))))) p hp)
    (rename ∀ (p : Addr × Obj), p ∈ _ → ∀ (q : Addr × Obj), q ∈ _ → p.1 ≠ q.1 => oo)
    (rename IsL _ _ _ => i1)
    (rename LvIn _ _ _ => i6)
    (rename Has _ _ 433 _ (Value.int _ _) => i3)
    (rename Has _ _ 433 _ (Value.ref _) => i4)
    (rename Has _ _ 109 _ (Value.ref _) => i2)
    have tS := off_app (oo (S, _) (by repeat (first | exact List.Mem.head _ | apply List.Mem.tail))) oS
    have tR := off_app (oo (FR, _) (by repeat (first | exact List.Mem.head _ | apply List.Mem.tail))) oR
    have tT := off_app (oo (dT, _) (by repeat (first | exact List.Mem.head _ | apply List.Mem.tail))) oT
    have tD := off_app (oo (fd, _) (by repeat (first | exact List.Mem.head _ | apply List.Mem.tail))) oD
    refine law_begun_spec (S := S) (FR := FR) (fs := [Value.ref c0]) B F6 X N7 T rfl (List.forall_mem_cons.mpr ⟨by k_ne, List.forall_mem_cons.mpr ⟨by k_ne, List.forall_mem_cons.mpr ⟨by k_ne, List.forall_mem_cons.mpr ⟨by k_ne, List.forall_mem_cons.mpr ⟨by k_ne, tS⟩⟩⟩⟩⟩) (List.forall_mem_cons.mpr ⟨by k_ne, List.forall_mem_cons.mpr ⟨by k_ne, List.forall_mem_cons.mpr ⟨by k_ne, List.forall_mem_cons.mpr ⟨by k_ne, List.forall_mem_cons.mpr ⟨by k_ne, tR⟩⟩⟩⟩⟩) (by k_ne) ⟨dT, es2, n2, .tail _ (.tail _ (.tail _ (.tail _ (.tail _ (List.mem_append_right _ hthr))))), .head _, q1⟩ ⟨dT, es2, n2, .tail _ (.tail _ (.tail _ (.tail _ (.tail _ (List.mem_append_right _ hthr))))), .head _, w2⟩ (by omega) (by rw [List.length_replicate]; omega) (by omega) (by simp) (by omega) (by omega) ?_
    intro h5' tk5 x5 d5 od5 nf5 u1 u2 u3 u4 F5 N9 z1 z2 z3 z4 y1 y2 y3 y4
    repeat ((fail_if_success (with_reducible show wpAny _ _ (execs (Stmt.For _ _ _ _ _ :: _) _) _ _ _)); first | walk1 | (dsimp only; walk1))
    dsimp only
    have g1 : @LT.lt Nat _ dT d5 := y1 _ (.head _)
    have g2 : @LT.lt Nat _ fd d5 := y1 _ (.tail _ (.head _))
    refine middle_spec (c1 := x5) (c0 := c0) (thr := thr) (FR := FR) (dT := dT) (NL := D) (v0 := v0) B F5 X (perm5 N9) T
      (List.forall_mem_cons.mpr ⟨by k_ne, List.forall_mem_cons.mpr ⟨by k_ne, List.forall_mem_cons.mpr ⟨by k_ne, List.forall_mem_cons.mpr ⟨by k_ne, List.forall_mem_cons.mpr ⟨by k_ne, tS⟩⟩⟩⟩⟩)
      (List.forall_mem_cons.mpr ⟨by k_ne, List.forall_mem_cons.mpr ⟨by k_ne, List.forall_mem_cons.mpr ⟨by k_ne, List.forall_mem_cons.mpr ⟨by k_ne, List.forall_mem_cons.mpr ⟨by k_ne, tD⟩⟩⟩⟩⟩)
      (List.forall_mem_cons.mpr ⟨by k_ne, List.forall_mem_cons.mpr ⟨by k_ne, List.forall_mem_cons.mpr ⟨by k_ne, List.forall_mem_cons.mpr ⟨by k_ne, List.forall_mem_cons.mpr ⟨by k_ne, tR⟩⟩⟩⟩⟩)
      (List.forall_mem_cons.mpr ⟨by k_ne, List.forall_mem_cons.mpr ⟨by k_ne, List.forall_mem_cons.mpr ⟨by k_ne, List.forall_mem_cons.mpr ⟨by k_ne, List.forall_mem_cons.mpr ⟨by k_ne, tT⟩⟩⟩⟩⟩)
      (by k_ne) (by k_ne) (by k_ne) k4 k5 k6 rfl rfl rfl rfl
      (in5r hfc) hofc (in5r hc) hci hcl (by omega) (by omega) (in5r hthr) q1 w2 w3 (by omega)
      (.tail _ (.tail _ (.head _))) hnd (by rw [List.length_set, List.length_replicate]; omega) (by have := hnd.1; omega) (by omega) (by omega)
      (z1.more in2) (List.getElem?_set_self (by rw [List.length_replicate]; omega))
      (i1.more fun _ => in5l) (i2.more fun _ => in5l) (i3.more fun _ => in5l) (z2.more in2) (z3.more in2) (i4.more fun _ => in5l) (in5l (by assumption)) (i6.more fun _ => in5l)
      (p1.more in22) (by rw [List.getElem?_set_ne (by decide), List.getElem?_replicate, if_pos (by omega)]) (p2.more in22) (z4.more in2) (by omega) (by omega) hd hu hE ret
end
theorem perm10 {h₀ h : Heap} {L : Addr} {e0 e1 eF e3 e4 eX eT eD eC eL : Addr × Obj} (N : News h₀ L h [e0, e1, eF, e3, e4, eX, eT, eD, eC, eL]) : News h₀ L h (eD :: eF :: eT :: [e0, e1, e3, e4, eX, eC, eL]) := by
  refine news_sub N fun p hp => ?_
  simp only [List.mem_cons] at hp ⊢
  rcases hp with h | h | h | h | h | h | h | h | h | h | h <;> simp [h]
theorem off7 {a b0 b1 b2 b3 b4 b5 b6 : Addr} {o0 o1 o2 o3 o4 o5 o6 : Obj} (h0 : b0 ≠ a) (h1 : b1 ≠ a) (h2 : b2 ≠ a) (h3 : b3 ≠ a) (h4 : b4 ≠ a) (h5 : b5 ≠ a) (h6 : b6 ≠ a) : ∀ p ∈ [(b0, o0), (b1, o1), (b2, o2), (b3, o3), (b4, o4), (b5, o5), (b6, o6)], p.1 ≠ a :=
  List.forall_mem_cons.mpr ⟨h0, List.forall_mem_cons.mpr ⟨h1, List.forall_mem_cons.mpr ⟨h2, List.forall_mem_cons.mpr ⟨h3, List.forall_mem_cons.mpr ⟨h4, List.forall_mem_cons.mpr ⟨h5, List.forall_mem_cons.mpr ⟨h6, fun _ h => nomatch h⟩⟩⟩⟩⟩⟩⟩
theorem holds : PySem.Challenge.rw_rh0160_01.Holds := hd (by
  k_go0
  (all_goals try k_fold)
  repeat ((fail_if_success (with_reducible show wpAny _ _ (execs (Stmt.Assign _ (Expr.ListComp _ _ _ _) _ :: _) _) _ _ _)); first | (k_unfold; try dsimp only) | walk1 | (dsimp only; walk1) | (leave1; try dsimp only))
  (rename Fr _ _ _ _ => F6)
  (rename News _ _ _ _ => N6)
  (rename IntsAre _ (List.take _ _) => II)
  (rename Below callerA _ _ _ => BB)
  (rename Obj.data _ = Data.cell _ => ocd)
  have hII := II.sizeZ
  refine names_spec BB F6 (by k_asm) (perm10 N6) (by k_asm) (off7 (by k_ne) (by k_ne) (by k_ne) (by k_ne) (by k_ne) (by k_ne) (by k_ne)) (off7 (by k_ne) (by k_ne) (by k_ne) (by k_ne) (by k_ne) (by k_ne) (by k_ne)) (off7 (by k_ne) (by k_ne) (by k_ne) (by k_ne) (by k_ne) (by k_ne) (by k_ne)) (by k_ne) (by k_ne) (by k_ne)
    rfl (.tail _ (.tail _ (.tail _ (.tail _ (.tail _ (.tail _ (.head _))))))) ocd (.tail _ (.tail _ (.tail _ (.tail _ (.tail _ (.head _)))))) II (by rw [List.size_toArray, List.length_take] at hII; omega) (.tail _ (.tail _ (.tail _ (.tail _ (.head _))))) rfl rfl rfl ?_ ?_ ?_ ?_ ?_
  · simp only [List.length_cons, List.length_nil]; omega
  · decide +kernel
  · decide +kernel
  · first | passes_own | exact PySem.PassesOwn.leaving | exact PySem.PassesOwn.leavingOf (by exact ⟨rfl, rfl⟩)
  · intro h' tk' m' F9
    k_unfold
    dsimp only
    k_steps
    all_goals k_data)
end Mine
theorem PySem.Challenge.cw_rh0160_01_holds : PySem.Challenge.rw_rh0160_01.Holds := by
  exact Mine.holds
