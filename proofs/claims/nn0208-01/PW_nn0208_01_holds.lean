import PyProof.Rows.All
import Wide.All
import OpenK.AllK
import Wide.FinOn
import PySem.Challenge.RW_nn0208_01
open PySem PySem.W PyProof.Rows PySem.Calls PySem.Spec
set_option Elab.async false
namespace Mine
def bt0 : List Obj → Nat → BT → BT
  | [], _, t => t
  | o :: l, n, t => bt0 l (n + 1) (t.ins n o)
def topRunT (tb : String → Option Builtin) (p : Program) (w : World) (n₀ : Nat) (ann : Option Value) : Nat → SharedT → Thread → Option SharedT
  | 0, _, _ => none
  | n + 1, s, t => match through t with
    | true => some s
    | false => match stepOk n₀ ann t with
      | false => none
      | true => match stepT (denote tb) p w s t with
        | some (s', t') => topRunT tb p w n₀ ann n s' t'
        | none => none
theorem topRun_of {tb : String → Option Builtin} {p : Program} {w : World} {n₀ : Nat} {ann : Option Value} : ∀ {n : Nat} {s s' : SharedT} {t : Thread}, topRunT tb p w n₀ ann n s t = some s' → topRun tb p w n₀ ann n s.abs t = some s'.abs
  | 0, _, _, _, h => by cases h
  | n + 1, s, s', t, h => by
    unfold topRunT at h
    unfold topRun
    cases he : through t with
    | true => rw [he] at h; cases h; rfl
    | false =>
      rw [he] at h
      cases hk : stepOk n₀ ann t with
      | false => rw [hk] at h; cases h
      | true =>
        rw [hk] at h
        cases hs : stepT (denote tb) p w s t with
        | none => rw [hs] at h; cases h
        | some r => obtain ⟨s₂, t₂⟩ := r; rw [hs] at h; rw [stepT_spec hs]; exact topRun_of h
noncomputable def topRunQ (p : Program) (w : World) (n₀ : Nat) (ann : Option Value) : Nat → SharedT → Thread → Option SharedT
  | 0, _, _ => none
  | n + 1, s, t => match through t with
    | true => some s
    | false => match Fast.tw6613529449190102663 n₀ ann t with
      | false => none
      | true => match Fast.tw10156331382660048174 (Fast.tw11892475500146522536 Fast.tw14364793385576792824) p w s t with
        | some (s', t') => topRunQ p w n₀ ann n s' t'
        | none => none
theorem topRunQ_eq {p : Program} {w : World} {n₀ : Nat} {ann : Option Value} : ∀ {n : Nat} {s : SharedT} {t : Thread}, topRunT treeTable p w n₀ ann n s t = topRunQ p w n₀ ann n s t
  | 0, _, _ => rfl
  | n + 1, s, t => by
    unfold topRunT topRunQ
    rw [← Fast.te6613529449190102663, ← Fast.te10156331382660048174, ← Fast.te11892475500146522536, ← Fast.te14364793385576792824]
    cases through t with
    | true => rfl
    | false =>
      cases stepOk n₀ ann t with
      | false => rfl
      | true =>
        dsimp only
        cases stepT (denote treeTable) p w s t with
        | none => rfl
        | some r => exact topRunQ_eq
set_option maxRecDepth 100000 in
theorem t0 : ∀ P : Params, absHeap (bt0 (boot_heap P).objs.toList 0 .nil) 11 {} = boot_heap P := by intro P; kernel_rfl
noncomputable abbrev start0 (w : World) (os : OsState) : SharedT := ⟨bt0 (boot_heap w.params).objs.toList 0 .nil, 11, {}, #[], boot_drawn, boot_toks, os⟩
set_option maxRecDepth 100000 in
theorem left_tree {p q : Program} {loose : List Str} {Xt : Shared → Bool} {α : Type} {Yf : Shared → α} {Ya : World → α} {N : Nat} {g0 : Bool}
    (e : opening p = plainProg p.main.scope.names) (hN : Nat.ble 600 N = true) (f : ∀ s, fenceModules? p s = some s)
    (a : ∀ w os, (topRunQ p w 11 (some (.ref 6)) N (start0 w os) (topStub p)).map (fun r => (Fast.tw4187177175401517315 q loose (importedModules p.main.body) Xt g0 r.abs, staticsOk (importedModules p.main.body) (boot_heap w.params) r.abs.heap && namesBound p r.abs.heap && gensDone r.abs && laidKept (boot_heap w.params) r.abs.heap)) = some (openGood q loose, true))
    (b : ∀ w os, (topRunQ p w 11 (some (.ref 6)) N (start0 w os) (topStub p)).map (fun r => Yf r.abs) = some (Ya w)) :
    LeftO p q loose Xt Yf Ya N g0 := by
  rw [← Fast.te4187177175401517315] at a
  intro w
  obtain ⟨⟨h, gs, d, k, os⟩, e1, e2⟩ := Option.map_eq_some_iff.mp (boot_open e hN f w)
  obtain ⟨rfl, rfl, rfl, rfl⟩ : h = boot_heap w.params ∧ gs = Array.mk [] ∧ d = boot_drawn ∧ k = boot_toks := by simpa using e2
  obtain ⟨r, h1, h32⟩ := Option.map_eq_some_iff.mp (a w os)
  obtain ⟨r', h1', h4⟩ := Option.map_eq_some_iff.mp (b w os)
  obtain rfl : r = r' := Option.some.inj (h1.symm.trans h1')
  obtain ⟨h3, h2⟩ := Prod.mk.inj h32
  have z1 : ((boot_heap w.params).isNs mainGlobals && (Array.mk [] : Array GenState).size == 0) = true := by kernel_rfl
  have z2 : (boot_heap w.params).objs.size = 11 := by kernel_rfl
  have z3 : (boot_heap w.params).nsMap mainGlobals "__annotations__" = some (.ref 6) := by kernel_rfl
  have h5 := topRun_of (topRunQ_eq.trans h1)
  have z4 : (start0 w os).abs = ⟨boot_heap w.params, #[], boot_drawn, boot_toks, os⟩ := by
    unfold start0 SharedT.abs
    dsimp only
    rw [t0]
  rw [z4] at h5
  have t : topFrom treeTable p w N ⟨boot_heap w.params, #[], boot_drawn, boot_toks, os⟩ = some r.abs := by
    unfold topFrom
    dsimp only
    rw [z1, z2, z3, h5]
    show (match staticsOk (importedModules p.main.body) (boot_heap w.params) r.abs.heap && namesBound p r.abs.heap && gensDone r.abs && laidKept (boot_heap w.params) r.abs.heap with | true => _ | false => _) = _
    rw [h2]
  unfold openEnds
  rw [e1]
  show (topFrom treeTable p w N _).map _ = _
  rw [t]
  exact congrArg some (Prod.ext h3 h4)
noncomputable abbrev pw : Program := PySem.Challenge.rw_nn0208_01.row.toRowW.1
noncomputable def view : Program := PySem.W.view pw [0, 2, 4, 5, 7, 8, 9, 10, 11, 12, 13, 14, 16, 17, 18, 19, 20, 21, 23, 24, 25, 26, 27, 28, 29, 30, 31, 32]
noncomputable abbrev loose0 : List Str := [Str.ofString "PaperError", Str.ofString "told_objects"]
noncomputable abbrev Xt0 : Shared → Bool := fun s => xlAt view [] s && recOk (RowW.records PySem.Challenge.rw_nn0208_01.row.toRowW) s
set_option maxRecDepth 100000 in
theorem ws1 : PySem.Challenge.rw_nn0208_01.row.wellSaid = true := Eq.trans (congrFun Fast.te17960256430627541270 _) (by kernel_rfl)
set_option maxRecDepth 100000 in
theorem ws2 : noRoadLSs { strict := true, foot := some PySem.Challenge.rw_nn0208_01.bound', writes := PySem.Challenge.rw_nn0208_01.writes, may := PySem.Challenge.rw_nn0208_01.may } PySem.Challenge.rw_nn0208_01.footing = true := Eq.trans (congrFun (congrFun Fast.te8326940854005059898 _) _) (by kernel_rfl)
set_option maxRecDepth 100000 in
theorem ws : PySem.Challenge.rw_nn0208_01.wellSaid = true := by
  unfold OpenLaw.wellSaid
  rw [ws1, ws2]
  kernel_rfl
set_option maxRecDepth 100000 in
theorem seen_ok : ∀ w os, (topRunQ pw w 11 (some (.ref 6)) 5384 (start0 w os) (topStub pw)).map (fun r => (Fast.tw4187177175401517315 view loose0 (importedModules pw.main.body) Xt0 true r.abs, staticsOk (importedModules pw.main.body) (boot_heap w.params) r.abs.heap && namesBound pw r.abs.heap && gensDone r.abs && laidKept (boot_heap w.params) r.abs.heap)) = some (openGood view loose0, true) := by intro w os; kernel_rfl
set_option hygiene false in
local macro_rules | `(tactic| o_law) => `(tactic| refine holds_law ws fun said => ?_)
set_option hygiene false in
local macro_rules | `(tactic| o_head $H) => `(tactic| (refine holds_open (q := view) (loose := loose0) (Xt := Xt0) (XP := XL view []) (Yf := Hook.obs $H) (Ya := Hook.val $H) (YP := Hook.says $H) (N := 5384) (left_tree (by rfl) (by rfl) (fun _ => by rfl) seen_ok ?hl1) (Hook.of $H) (Hook.keeps $H) (fun s e => xl_of s (Bool.and_eq_true_iff.mp e).1) XL.keeps (by rfl) (by rfl) (by rfl) (fun s e => recFacts_of (Bool.and_eq_true_iff.mp e).2) (by rfl) (by first | assumption | decide +kernel) (by decide +kernel) ⟨rfl, rfl, rfl, rfl, rfl, by decide +kernel⟩ ?hw ?hc; (case hl1 => intro w os; kernel_rfl)))
set_option maxRecDepth 100000 in
set_option maxHeartbeats 8000000 in
open_top hd for PySem.Challenge.rw_nn0208_01
end Mine
local macro_rules | `(tactic| walk_at $s:str) => `(tactic| k_extra $s)
local macro_rules | `(tactic| k_mem) => `(tactic| k_extra "k_mem")
local macro_rules | `(tactic| k_all) => `(tactic| k_extra "k_all")
local macro_rules | `(tactic| k_ne) => `(tactic| k_extra "k_ne")
local macro_rules | `(tactic| k_inst) => `(tactic| k_extra "k_inst")
namespace Mine
theorem wB00 : True := by k_with_none; w_top off; (k_with "k_ne" => (refine neN ?_; (try dsimp only); first | with_reducible assumption | with_reducible exact Ne.symm (by assumption) | fail)); trivial
/-- the ground under a call: what is hidden is told apart -/
theorem enter {K : Frag} {p : Program} {loose : List Str} {w : World} {mean : ExcName → Option Value} {mg mb : Str → Option Value} {A : Around} {R : Result → Shared → Prop} {s : Shared} {h₀ : Heap} {news : List (Addr × Obj)}
    {name qual : Str} {params : Arguments} {body : List Stmt} {scope : Scope} {dV kV doc pm cdv ct oc : Value} {an od : Option Addr} {osl : Array (Option Value)} {f : Addr} {args : Args} {binds : List (Str × Value)} {prog : Program}
    (X : K.In h₀) (T : Top p loose mean mg mb h₀) (hs : h₀.StaysIn s.heap) (hn : ∀ p ∈ news, s.heap.get? p.1 = some p.2 ∧ h₀.get? p.1 = none)
    (hroom : A.depth < recursionLimit)
    (ho : K.lookup f = some ⟨oc, od, .func (fnOf name qual params body scope dV kV doc pm an cdv ct), osl⟩) (hcd : codeIn K cdv qual = true)
    (hbind : BindsTo s (fnOf name qual params body scope dV kV doc pm an cdv ct) args binds) (hloc : ∀ y ∈ binds, scope.names.lookup y.1 = some .local)
    (hco : scope.isCoroutine = false) (hgen : scope.isGenerator = false) (hk : scope.kind = .function)
    (hcell : ∀ x ∈ scope.names, x.2 ≠ .cell)
    (h : ∀ g L' h₁, h₀.StaysIn g → g.StaysIn s.heap → GSub s.heap g (news.map (·.1)) → K.In g → Top p loose mean mg mb g →
      Fr g L' h₁ (fun y => binds.reverse.lookup y) → News g L' h₁ news → (∀ p ∈ news, p.1 < L') →
      wpAny (model prog w) (A.deeper (envOf qual scope L' f cdv)) (execs body (envOf qual scope L' f cdv))
        (fun fl s' => R (.ok (.ret (match fl with | .ret v => v | _ => .none))) s')
        (fun _ _ => False)
        { s with heap := h₁, toks := s.toks + binds.length }) : codeAny (model prog w) A (.call (.ref f) args) R s := by
  have st : h₀.StaysIn (hideAll s.heap (news.map (·.1))) := fun b o e => hideAll_get _ (hs b o e) fun hm => by
    obtain ⟨p, hp, rfl⟩ := List.mem_map.mp hm
    rw [(hn p hp).2] at e; cases e
  refine codeAny_call_def (fd := fnX name qual params body scope [] dV kV doc pm an cdv ct) (body := body) (binds := binds) hroom (hs _ _ (X _ _ ho)) rfl (T.nolimit.keeps hs) (codeRec_of (X.keeps hs) hcd) rfl hbind hcell hloc (fun h₁ hns hk₁ => ?_) hco hgen hk
  exact wpAny_mono (h _ s.heap.objs.size h₁ st (fun b o e => of_hideAll _ e) (fun b o e n => hideAll_get _ e n) (X.keeps st) (T.keeps st) ⟨hns, fun b o e => hk₁ b o (of_hideAll _ e), Nat.le_of_eq (hideAll_size _ _)⟩
    (fun p hp => ⟨hk₁ _ _ (hn p hp).1, Nat.ne_of_lt (Heap.lt_size (hn p hp).1), hideAll_none _ (List.mem_map_of_mem hp)⟩) fun p hp => Heap.lt_size (hn p hp).1) (fun fl s' hl => hl) fun _ _ y => y.elim

/-- the same for a def with captured names -/
theorem enterC {K : Frag} {p : Program} {loose : List Str} {w : World} {mean : ExcName → Option Value} {mg mb : Str → Option Value} {A : Around} {R : Result → Shared → Prop} {s : Shared} {h₀ : Heap} {news : List (Addr × Obj)}
    {name qual : Str} {params : Arguments} {body : List Stmt} {scope : Scope} {dV kV doc pm cdv ct oc : Value} {an od : Option Addr} {osl : Array (Option Value)} {f : Addr} {args : Args} {binds : List (Str × Value)} {prog : Program}
    (X : K.In h₀) (T : Top p loose mean mg mb h₀) (hs : h₀.StaysIn s.heap) (hn : ∀ p ∈ news, s.heap.get? p.1 = some p.2 ∧ h₀.get? p.1 = none)
    (hroom : A.depth < recursionLimit)
    (ho : K.lookup f = some ⟨oc, od, .func (fnOf name qual params body scope dV kV doc pm an cdv ct), osl⟩) (hcd : codeIn K cdv qual = true)
    (hbind : BindsTo s (fnOf name qual params body scope dV kV doc pm an cdv ct) args binds) (hkind : (binds.all fun y => scope.names.lookup y.1 == some .local || scope.names.lookup y.1 == some .cell) = true)
    (hnd : ((cellsFrom 0 scope.names []).map (·.1)).Nodup)
    (hco : scope.isCoroutine = false) (hgen : scope.isGenerator = false) (hk : scope.kind = .function)
    (h : ∀ g L' h₁ tk cells, h₀.StaysIn g → g.StaysIn s.heap → GSub s.heap g (news.map (·.1)) → K.In g → Top p loose mean mg mb g →
      Fr g L' h₁ (bindL (envOfC qual scope L' f cdv).kindOf binds fun _ => none) → News g L' h₁ (cells ++ news) →
      CellsAre (bindC (envOfC qual scope L' f cdv).kindOf binds fun _ => none) (cellsFrom (L' + 1) scope.names []) cells → (∀ p ∈ news, p.1 < L') →
      wpAny (model prog w) (A.deeper (envOfC qual scope L' f cdv)) (execs body (envOfC qual scope L' f cdv))
        (fun fl s' => R (.ok (.ret (match fl with | .ret v => v | _ => .none))) s')
        (fun _ _ => False)
        { s with heap := h₁, toks := tk }) : codeAny (model prog w) A (.call (.ref f) args) R s := by
  have st : h₀.StaysIn (hideAll s.heap (news.map (·.1))) := fun b o e => hideAll_get _ (hs b o e) fun hm => by
    obtain ⟨p, hp, rfl⟩ := List.mem_map.mp hm
    rw [(hn p hp).2] at e; cases e
  refine codeAny_call_function hroom (hs _ _ (X _ _ ho)) rfl hco hgen rfl (codeRec_of (X.keeps hs) hcd) (hbind _ _ _ _ ?_)
  refine wpAny_newFunctionEnv_cells hk (kindsX hkind _) fun env' he s' x => ?_
  subst he
  refine ⟨(T.nolimit.keeps hs).keeps x.toInCall.keep, codeAny_func ?_⟩
  obtain ⟨h₁, tk, rfl, _⟩ := x.done
  have hk₁ := x.toInCall.keep
  obtain ⟨cells, NC, Y⟩ := Cl.news (h₀ := s.heap) (Nat.le_refl _) fun n c hm => ⟨x.cell n c (lookup_of_mem_nodup (cellsFrom_names scope.names 0 (s.heap.objs.size + 1) [] [] rfl ▸ hnd) hm), x.above n c hm⟩
  refine wpAny_mono (h _ s.heap.objs.size h₁ tk cells st (fun b o e => of_hideAll _ e) (fun b o e n => hideAll_get _ e n) (X.keeps st) (T.keeps st) ⟨x.toInCall.ns, fun b o e => hk₁ b o (of_hideAll _ e), Nat.le_of_eq (hideAll_size _ _)⟩ (fun p hp => ?_) Y (fun p hp => Heap.lt_size (hn p hp).1)) (fun fl s' hl => hl) fun _ _ y => y.elim
  rcases List.mem_append.mp hp with hp | hp
  · refine ⟨(NC p hp).1, (NC p hp).2.1, ?_⟩
    cases q : (hideAll s.heap (news.map (·.1))).get? p.1 with
    | none => rfl
    | some o => have := of_hideAll _ q; rw [(NC p hp).2.2] at this; cases this
  · exact ⟨hk₁ _ _ (hn p hp).1, Nat.ne_of_lt (Heap.lt_size (hn p hp).1), hideAll_none _ (List.mem_map_of_mem hp)⟩

/-- room: the frames, the C units, nothing handled -/
structure Rm (A : Around) (d : Nat) : Prop where
  hh : A.handled = none
  dp : A.depth + d < recursionLimit
  un : A.units + 8 * d + 100 < cLine
theorem Rm.mono {A : Around} {d e : Nat} (h : Rm A d) (k : e ≤ d) : Rm A e := ⟨h.hh, by have := h.dp; omega, by have := h.un; omega⟩
theorem Rm.deeper {A : Around} {d : Nat} (h : Rm A (d + 1)) (env : Env) : Rm (A.deeper env) d :=
  ⟨h.hh, by have := h.dp; rw [depth_deeper]; omega, by have := h.un; rw [units_deeper]; omega⟩
theorem Rm.in1 {A : Around} {d : Nat} (h : Rm A (d + 1)) : Rm A.in1 d := ⟨h.hh, by have := h.dp; rw [depth_in1]; omega, by have := h.un; rw [units_in1]; omega⟩
theorem Rm.make {A : Around} {d : Nat} (h : Rm A (d + 1)) (C : Addr) (vals : List Value) : Rm (A.under (.builtin "type.__call__" ⟨.ref C :: vals, []⟩)) d :=
  ⟨h.hh, by have := h.dp; rw [depth_under_make]; omega, by have := h.un; rw [units_under_make]; omega⟩
theorem Rm.room {A : Around} {d : Nat} (h : Rm A d) : A.depth < recursionLimit := by have := h.dp; omega
theorem Rm.units {A : Around} {d : Nat} (h : Rm A d) : A.units < cLine := by have := h.un; omega
theorem Rm.units64 {A : Around} {d : Nat} (h : Rm A d) : A.units + 64 < cLine := by have := h.un; omega
theorem Rm.dp1 {A : Around} {d : Nat} (h : Rm A (d + 1)) (env : Env) : (A.deeper env).depth < recursionLimit := (h.deeper env).room

abbrev penObj (n c : Int) (t u : Tok) (k : Nat) : Obj := PySem.W.listOf #[.int n t, .int c u] k
/-- the pen: a list of two ints, both at least 0 -/
def IsPen (o : Obj) : Prop := ∃ n c t u k, o = penObj n c t u k ∧ 0 ≤ n ∧ 0 ≤ c
/-- all is kept but the pen -/
def KB (pen : Addr) (h h' : Heap) : Prop := ∀ b o, b ≠ pen → h.get? b = some o → h'.get? b = some o
theorem KB.refl (pen : Addr) (h : Heap) : KB pen h h := fun _ _ _ e => e
theorem KB.trans {pen : Addr} {h h' h'' : Heap} (a : KB pen h h') (b : KB pen h' h'') : KB pen h h'' := fun x o n e => b x o n (a x o n e)
/-- made since h -/
def Made (h h' : Heap) (nx : List (Addr × Obj)) : Prop := ∀ p ∈ nx, h'.get? p.1 = some p.2 ∧ h.get? p.1 = none
theorem kb_of {pen : Addr} {s g h' : Heap} {L : Addr} {m : Str → Option Value} {o : Obj} (G : GSub s g (List.map (fun x => x.1) [(pen, o)])) (F : Fr g L h' m) : KB pen s h' :=
  fun b o n e => F.keep b o (G b o e (by simpa using n))
theorem pen_of {pen : Addr} {g h' : Heap} {L : Addr} {n c : Int} {t u : Tok} {k : Nat} {r : List (Addr × Obj)} (N : News g L h' ((pen, penObj n c t u k) :: r)) (hn : 0 ≤ n) (hc : 0 ≤ c) : ∃ o, h'.get? pen = some o ∧ IsPen o :=
  ⟨_, (N _ (.head _)).1, n, c, t, u, k, rfl, hn, hc⟩

section
variable {g h h' : Heap} {L pen : Addr} {m : Str → Option Value} {all nx : List (Addr × Obj)} {u : Obj → List (Addr × Obj)} {po po' : Obj}
theorem fr_pen (F : Fr g L h m) (N : News g L h all) (U : UpdF pen po all u) (kb : KB pen h h') : Fr g L h' m := by
  obtain ⟨pre, post, rfl, hg, a, b⟩ := U.split
  have hm := N (pen, po) (List.mem_append_right _ (.head _))
  exact ⟨F.ns.at' fun o e => kb _ o (Ne.symm hm.2.1) e, fun b o e => kb b o (fun q => by rw [q] at e; rw [hm.2.2] at e; cases e) (F.keep b o e), F.above⟩
theorem news_pen (N : News g L h all) (U : UpdF pen po all u) (kb : KB pen h h') (hp : h'.get? pen = some po') : News g L h' (u po') := by
  obtain ⟨pre, post, rfl, hg, a, b⟩ := U.split
  have hm := N (pen, po) (List.mem_append_right _ (.head _))
  rw [hg]
  intro p hp'
  rcases List.mem_append.mp hp' with q | q
  · have z := N p (List.mem_append_left _ q)
    exact ⟨kb _ _ (a p q) z.1, z.2⟩
  · rcases List.mem_cons.mp q with rfl | q
    · exact ⟨hp, hm.2⟩
    · have z := N p (List.mem_append_right _ (.tail _ q))
      exact ⟨kb _ _ (b p q) z.1, z.2⟩
theorem news_made (F : Fr g L h m) (F' : Fr g L h' m) (N : News g L h' all) (md : Made h h' nx) : News g L h' (nx ++ all) := by
  intro p hp
  rcases List.mem_append.mp hp with q | q
  · have z := md p q
    refine ⟨z.1, fun e => ?_, ?_⟩
    · obtain ⟨o, _, _, ho, _⟩ := F.ns
      rw [e, ho] at z; exact nomatch z.2
    · cases e : g.get? p.1 with
      | none => rfl
      | some o => have := F.keep _ _ e; rw [z.2] at this; cases this
  · exact N p q
theorem made_off {all : List (Addr × Obj)} (N : News g L h all) (md : Made h h' nx) : ∀ q ∈ all, ∀ p ∈ nx, p.1 ≠ q.1 := fun q hq p hp e => by
  have z := (md p hp).2
  rw [e, (N q hq).1] at z; cases z
theorem kb_led {s : Heap} {news news9 : List (Addr × Obj)} {L' : Addr} {m' : Str → Option Value} (G : GSub s g (news.map (·.1))) (hs : ∀ p ∈ news, s.get? p.1 = some p.2) (F : Fr g L' h' m') (N : News g L' h' news9) (sub : ∀ p ∈ news, p.1 = pen ∨ p ∈ news9) : KB pen s h' := fun b o hb e => by
  by_cases hm : b ∈ news.map (·.1)
  · obtain ⟨p, hp, rfl⟩ := List.mem_map.mp hm
    rw [hs p hp] at e
    cases e
    exact (sub p hp).elim (fun q => absurd q hb) fun q => (N p q).1
  · exact F.keep b o (G b o e hm)
theorem stays_led {s : Heap} {news news9 : List (Addr × Obj)} {L' : Addr} {m' : Str → Option Value} (G : GSub s g (news.map (·.1))) (hs : ∀ p ∈ news, s.get? p.1 = some p.2) (F : Fr g L' h' m') (N : News g L' h' news9) (sub : ∀ p ∈ news, p ∈ news9) : s.StaysIn h' := fun b o e => by
  by_cases hm : b ∈ news.map (·.1)
  · obtain ⟨p, hp, rfl⟩ := List.mem_map.mp hm
    rw [hs p hp] at e
    cases e
    exact (N p (sub p hp)).1
  · exact F.keep b o (G b o e hm)
/-- behind a call whose own ledger was newsX -/
theorem leave_led {g₂ h₂ : Heap} {L₂ : Addr} {m₂ : Str → Option Value} {newsX newsX' : List (Addr × Obj)} (F1 : Fr g L h m) (N1 : News g L h (newsX ++ all)) (ap : ∀ p ∈ newsX, ∀ q ∈ all, q.1 ≠ p.1) (G : GSub h g₂ (newsX.map (·.1))) (F9 : Fr g₂ L₂ h₂ m₂) (N9 : News g₂ L₂ h₂ newsX') :
    Fr g L h₂ m ∧ News g L h₂ (newsX' ++ all) := by
  have hL : L ∉ newsX.map (·.1) := fun q => by
    obtain ⟨p, hp, e⟩ := List.mem_map.mp q
    exact (N1 p (List.mem_append_left _ hp)).2.1 e
  have hg : ∀ b o, g.get? b = some o → g₂.get? b = some o := fun b o e => G b o (F1.keep b o e) fun q => by
    obtain ⟨p, hp, rfl⟩ := List.mem_map.mp q
    rw [(N1 p (List.mem_append_left _ hp)).2.2] at e; cases e
  refine ⟨⟨F1.ns.at' fun o e => F9.keep L o (G L o e hL), fun b o e => F9.keep b o (hg b o e), F1.above⟩, fun p hp => ?_⟩
  rcases List.mem_append.mp hp with q | q
  · have z := N9 p q
    refine ⟨z.1, fun e => ?_, ?_⟩
    · obtain ⟨o, _, _, ho, _⟩ := F1.ns
      have := G L o ho hL
      rw [← e, z.2.2] at this; cases this
    · cases e : g.get? p.1 with
      | none => rfl
      | some o => have := hg _ _ e; rw [z.2.2] at this; cases this
  · have z := N1 p (List.mem_append_right _ q)
    refine ⟨F9.keep _ _ (G _ _ z.1 fun r => ?_), z.2⟩
    obtain ⟨p', hp', e⟩ := List.mem_map.mp r
    exact ap p' hp' p q e.symm
theorem with_led {P : Prop} (_ : News g L h all) (k : ∀ led : List (Addr × Obj), led = all → P) : P := k all rfl
/-- the ledger but the pen -/
def Off (pen : Addr) (l : List (Addr × Obj)) : List (Addr × Obj) := l.filter fun p => decide (p.1 ≠ pen)
theorem mem_off {p : Addr × Obj} {l : List (Addr × Obj)} (h : p ∈ l) (n : p.1 ≠ pen) : p ∈ Off pen l := List.mem_filter.mpr ⟨h, by simpa using n⟩
theorem of_off {p : Addr × Obj} {l : List (Addr × Obj)} (h : p ∈ Off pen l) : p ∈ l ∧ p.1 ≠ pen := ⟨(List.mem_filter.mp h).1, by simpa using (List.mem_filter.mp h).2⟩
theorem off_mono {l l' : List (Addr × Obj)} (hs : ∀ p ∈ l, p ∈ l') : ∀ p ∈ Off pen l, p ∈ Off pen l' := fun p hp => mem_off (hs p (of_off hp).1) (of_off hp).2
theorem made_offpen {s : Heap} {L' : Addr} {led : List (Addr × Obj)} {o : Obj} (G : GSub s g (List.map (fun x => x.1) [(pen, o)])) (N : News g L' h' led) : Made s h' (Off pen led) := fun p hp => by
  obtain ⟨h1, h2⟩ := of_off hp
  refine ⟨(N p h1).1, ?_⟩
  cases e : s.get? p.1 with
  | none => rfl
  | some o' => have := G p.1 o' e (by simpa using h2); rw [(N p h1).2.2] at this; cases this
theorem made_of {s : Heap} {L' : Addr} {newsX led : List (Addr × Obj)} (G : GSub s g (newsX.map (·.1))) (N : News g L' h' led) (nx : List (Addr × Obj)) (hs : ∀ p ∈ nx, p ∈ led) (hd : ∀ p ∈ nx, ∀ q ∈ newsX, p.1 ≠ q.1) : Made s h' nx := fun p hp => by
  refine ⟨(N p (hs p hp)).1, ?_⟩
  cases e : s.get? p.1 with
  | none => rfl
  | some o' => have := G p.1 o' e (fun q => by obtain ⟨q', hq', e'⟩ := List.mem_map.mp q; exact hd p hp q' hq' e'.symm); rw [(N p (hs p hp)).2.2] at this; cases this
theorem stays_kb (k : h.StaysIn h') : KB pen h h' := fun b o _ e => k b o e
end
theorem wNE0 : True := by k_with_none; w_top off; (k_with "k_ne" => (refine neN ?_; (try dsimp only); first | with_reducible assumption | with_reducible exact Ne.symm (by assumption) | fail)); trivial
section
variable {prog : Program} {w : World} {A : Around} {s : Shared} {E : Value → Shared → Prop} {a b : Value}

theorem tc_declines {name : Str} {id : String} {Q : Option Value → Shared → Prop} (hsp : Looks (model prog w) s.heap (specialOf a name) (some (.builtin id)))
    (hb : bindSpecial (.builtin id) a = pure (.builtin id, [a])) (hc : wpAny (model prog w) A (call (.builtin id) [a, b]) (fun v s' => v = .notImplemented ∧ Q none s') E s) :
    wpAny (model prog w) A (tryCompare a name b) Q E s := by
  unfold tryCompare
  simp only [callSpecialIfBound?, bindSpecialIfBound?]
  refine wpAny_bind (wpAny_holding (wpAny_bind (wpAny_bind (hsp.here ?_))))
  simp only [hb]
  refine wpAny_bind (wpAny_askSetting (wpAny_ite ?_))
  have fin : wpAny (model prog w) A (call (.builtin id) ([a] ++ [b]) >>= fun v => pure (some v)) (fun a s' => wpAny (model prog w) A (match a with
      | some .notImplemented | none => pure none
      | some v => pure (some v)) Q E s') E s :=
    wpAny_bind (wpAny_mono hc (fun v s' h' => by obtain ⟨rfl, h'⟩ := h'; exact wpAny_pure (wpAny_pure h')) fun _ _ h' => h')
  split
  · exact wpAny_bind (wpAny_pure (wpAny_pure fin))
  · exact wpAny_tryCatch (wpAny_bind (wpAny_pure (wpAny_pure fin)))

theorem ne_gen {ta tb : Value} {Q : Value → Shared → Prop} (hu : A.units < cLine) (h1 : oneThing? .NotEq a b = none) (hta : Looks (model prog w) s.heap (typeOf a) ta) (htb : Looks (model prog w) s.heap (typeOf b) tb) (hne : (ta != tb) = true)
    (hsub : Looks (model prog w) s.heap (isSubtype tb ta) false)
    (hc : wpAny (model prog w) A (tryCompare a "__ne__" b) (fun r s₁ => r = none ∧ wpAny (model prog w) A (tryCompare b "__ne__" a) (fun r s₂ => r = none ∧ wpAny (model prog w) A (isSame a b) (fun k s₃ => Q (.bool (!k)) s₃) E s₂) E s₁) E s) :
    wpAny (model prog w) A (compareOp .NotEq a b) Q E s := by
  show wpAny (model prog w) A (richCompare .NotEq a b) Q E s
  simp only [richCompare, cmpInfo_NotEq, h1]
  refine wpAny_holding (wpAny_bind (wpAny_cRoomFor hu ?_))
  refine wpAny_bind (hta.here (wpAny_bind (htb.here ?_)))
  simp only [hne, if_true]
  refine wpAny_bind (hsub.here ?_)
  simp only [Bool.false_eq_true, if_false, Bool.not_false, if_true]
  refine wpAny_bind (m := tryCompare a _ b) (wpAny_mono hc (fun r s₁ h₁ => ?_) fun _ _ x => x)
  obtain ⟨rfl, h₁⟩ := h₁
  refine wpAny_bind (m := tryCompare b _ a) (wpAny_mono h₁ (fun r s₂ h₂ => ?_) fun _ _ x => x)
  obtain ⟨rfl, h₂⟩ := h₂
  exact wpAny_bind (wpAny_rule (wpAny_bind (wpAny_mono h₂ (fun k s₃ h₃ => wpAny_pure h₃) fun _ _ x => x)))
end

theorem chk_ne {M : Model} {B : Around} {s : Shared} {x : Addr} {b : Str} {u : Tok} {E' : Value → Shared → Prop} {Q' : Unit → Shared → Prop} (hob : Looks M s.heap (isInstance (.ref x) (.type "object")) true) (q : Q' () s) : wpAny M B (checkBuiltinCall "object.__ne__" ⟨[.ref x, .str b u], []⟩) Q' E' s := by
  have a := F.cmpArgs_ne (.ref x) (.str b u)
  have h1 := F.cmpKind_ne
  have h2 := F.cmpSplit_ne
  have h3 := @PySem.W.check_slot M B E' s "object.__ne__" "object" "__ne__" (.ref x) [.str b u] [] Q' h1 h2 hob
  have h4 := h3 a
  exact h4 q
theorem chk_eq {M : Model} {B : Around} {s : Shared} {x : Addr} {b : Str} {u : Tok} {E' : Value → Shared → Prop} {Q' : Unit → Shared → Prop} (hob : Looks M s.heap (isInstance (.ref x) (.type "object")) true) (q : Q' () s) : wpAny M B (checkBuiltinCall "object.__eq__" ⟨[.ref x, .str b u], []⟩) Q' E' s := by
  have a := F.cmpArgs_eq (.ref x) (.str b u)
  have h1 := F.cmpKind_eq
  have h2 := F.cmpSplit_eq
  have h3 := @PySem.W.check_slot M B E' s "object.__eq__" "object" "__eq__" (.ref x) [.str b u] [] Q' h1 h2 hob
  have h4 := h3 a
  exact h4 q
theorem str_ne_other (prog : Program) (w : World) {A : Around} {E : Value → Shared → Prop} {s : Shared} {x : Addr} {o : Obj} {b : Str} {u : Tok} {Q : Value → Shared → Prop} (ho : s.heap.get? x = some o) (hd : o.data = .plain ∨ ∃ es n, o.data = .dict es n) (h : Q .notImplemented s) :
    wpAny (model prog w) A (call (.builtin "str.__ne__") [.str b u, .ref x]) Q E s := by
  refine wpAny_call_entry F.slot_str_ne (typeIs_str s b u) F.entry_str_ne ?_ (F.args_str_ne_2 _ _)
  obtain ⟨hp, g, d, tk, os⟩ := s
  obtain ⟨cl, dd, dt, sl⟩ := o
  dsimp only at ho hd
  rcases hd with rfl | ⟨es, n, rfl⟩
  · wp_walk
    exact ⟨_, rfl, h⟩
  · wp_walk
    exact ⟨_, rfl, h⟩

section
variable {prog : Program} {w : World} {A : Around} {s : Shared} {E : Value → Shared → Prop} {g : Heap} {L x : Addr} {b : Str} {u : Tok} {Q : Value → Shared → Prop}
theorem dict_ne_str {K : Type} [DecidableEq K] {knd : KeyKind prog w K} {kvs : List (K × Value)} {d : Addr} (hu : A.units + 8 < cLine) (hd : s.heap.DictOf knd d kvs) (h : Q (.bool true) s) : wpAny (model prog w) A (compareOp .NotEq (.ref d) (.str b u)) Q E s := by
  have ht := hd.typeIs
  obtain ⟨o, es, ep, ho, hc, hdt, _⟩ := id hd
  have hty : Looks (model prog w) s.heap (typeOf (.ref d)) (.type "dict") := by
    have := Looks.ld (M := model prog w) (part := none) ho
    exact (Looks.andThen this (by rw [hc.1]; exact Looks.now))
  refine ne_gen (by omega) rfl hty (Looks.of_pure rfl) (by decide) (Looks.of_pure F.sub_str_dict) ?_
  refine tc_declines (hty.andThen (Looks.of_pure F.slot_dict_ne.lookup)) (F.slot_dict_ne.bind _) ?_
  refine wpAny_call_entry F.slot_dict_ne ht F.entry_dict_ne ?_ (F.args_dict_ne_2 _ _)
  show wpAny _ _ (Builtin.Dict.dictSlotArgs "__ne__" ⟨[.ref d, .str b u], []⟩ >>= _) _ _ s
  refine wpAny_bind ?_
  unfold Builtin.Dict.dictSlotArgs
  refine wpAny_bind (wpAny_notOrdered_dict ht ?_)
  show wpAny _ _ (pure (Value.ref d, Value.str b u)) _ _ s
  refine wpAny_pure ?_
  refine wpAny_bind (wpAny_isInstance (T := "str") (typeIs_str s b u) F.sub_str_dict ?_)
  simp only [Bool.not_false, if_true]
  refine wpAny_bind (wpAny_rule ?_)
  refine wpAny_pure ⟨_, rfl, rfl, trivial, ?_⟩
  refine tc_declines ((Looks.of_pure rfl : Looks (model prog w) s.heap (typeOf (.str b u)) (.type "str")).andThen (Looks.of_pure F.slot_str_ne_refl.lookup)) (F.slot_str_ne_refl.bind _) ?_
  refine str_ne_other prog w ho (.inr ⟨_, _, hdt⟩) ⟨rfl, rfl, ?_⟩
  exact wpAny_pure h

set_option maxHeartbeats 4000000 in
theorem inst_ne_str {K : Frag} {C : Addr} {ox : Obj} {od : Option Obj} (hR : Rm A 2) (X : K.In s.heap) (I : InstAt s.heap x ox C od) (hpl : ox.data = .plain)
    (hne : findIn K (.ref C) "__ne__" = some (some (.builtin "object.__ne__"))) (heq : findIn K (.ref C) "__eq__" = some (some (.builtin "object.__eq__"))) (hm : mroIn K C (.type "object") = some true)
    (h : Q (.bool true) s) : wpAny (model prog w) A (compareOp .NotEq (.ref x) (.str b u)) Q E s := by
  have hty : Looks (model prog w) s.heap (typeOf (.ref x)) (.ref C) := I.type
  have hob : Looks (model prog w) s.heap (isInstance (.ref x) (.type "object")) true := hty.andThen (looks_mroIn X hm)
  have hst : Looks (model prog w) s.heap (typeOf (.str b u)) (.type "str") := Looks.of_pure rfl
  have sub : Looks (model prog w) s.heap (isSubtype (.type "str") (.ref C)) false := by
    have fm : fastBuiltinMro "str" = some [.type "str", .type "object"] := by kernel_rfl
    refine Looks.of_pure ?_
    rw [isSubtype_type, fm]
    rfl
  have ot : oneThing? .NotEq (.ref x) (.str b u) = none := oneThing_ref _ _ _
  have tn : (Value.ref C != Value.type "str") = true := by simp
  apply ne_gen hR.units ot hty hst tn sub
  have sp1 : Looks (model prog w) s.heap (specialOf (.ref x) (Str.ofString "__ne__")) (some (.builtin "object.__ne__")) := by
    show Looks _ _ (typeOf (.ref x) >>= fun t => typeLookup t (Str.ofString "__ne__")) _
    have := looks_findIn (M := model prog w) X hne
    exact hty.andThen this
  have bd1 := F.cmp_object.ne.bind (.ref x)
  apply tc_declines sp1 bd1
  refine wpAny_call (codeAny_call_builtin F.cmp_object.ne.plain F.cmpEntry_ne ?_)
  refine chk_ne hob ?_
  have hR1 : Rm A.in1 1 := hR.in1
  have inner : ∀ {B : Around} {Q' : Option Value → Shared → Prop}, Q' (some .notImplemented) s → wpAny (model prog w) B (callSpecialIfBound? (.ref x) "__eq__" [.str b u]) Q' E s := by
    intro B Q' hq
    simp only [callSpecialIfBound?, bindSpecialIfBound?]
    refine wpAny_holding (wpAny_bind (wpAny_bind ((hty.andThen (looks_findIn X heq)).here ?_)))
    simp only [F.cmp_object.eq.bind]
    refine wpAny_bind (wpAny_askSetting (wpAny_ite ?_))
    have hcall : wpAny (model prog w) B (call (.builtin "object.__eq__") [.ref x, .str b u]) (fun v => Q' (some v)) E s := by
      refine wpAny_call (codeAny_call_builtin F.cmp_object.eq.plain F.cmpEntry_eq ?_)
      refine chk_eq hob ?_
      have e1 : slotArgs "__eq__" 1 ⟨[.ref x, .str b u], []⟩ = pure (Value.ref x, [Value.str b u]) := by rfl
      have e2 : isSame (.ref x) (.str b u) = pure false := by rfl
      unfold Builtin.«object.__eq__»
      rw [e1]
      refine wpAny_bind (wpAny_pure ?_)
      dsimp only
      rw [e2]
      refine wpAny_bind (wpAny_pure ?_)
      rw [if_neg (by decide)]
      exact wpAny_pure hq
    have fin : wpAny (model prog w) B (call (.builtin "object.__eq__") ([.ref x] ++ [.str b u]) >>= fun v => pure (some v)) Q' E s :=
      wpAny_bind (wpAny_mono hcall (fun v s' h' => wpAny_pure h') fun _ _ h' => h')
    split
    · exact wpAny_bind (wpAny_pure (wpAny_pure fin))
    · exact wpAny_tryCatch (wpAny_bind (wpAny_pure (wpAny_pure fin)))
  have e1 : slotArgs "__ne__" 1 ⟨[.ref x, .str b u], []⟩ = pure (Value.ref x, [Value.str b u]) := by rfl
  unfold Builtin.«object.__ne__»
  rw [e1]
  refine wpAny_bind (wpAny_pure ?_)
  dsimp only
  refine wpAny_bind (wpAny_cRoomFor hR1.units ?_)
  refine wpAny_bind (inner ?_)
  dsimp only
  refine wpAny_pure ⟨rfl, rfl, ?_⟩
  refine tc_declines (hst.andThen (Looks.of_pure F.slot_str_ne_refl.lookup)) (F.slot_str_ne_refl.bind _) ?_
  refine str_ne_other prog w I.at_ (.inl hpl) ⟨rfl, rfl, ?_⟩
  exact wpAny_pure h
end
theorem wC00 : True := by k_with_none; w_top off; (k_with "k_ne" => (refine neN ?_; (try dsimp only); first | with_reducible assumption | with_reducible exact Ne.symm (by assumption) | fail)); trivial
open PyProof.Rows.LCg PyProof.Rows.LCt
section
variable {prog : Program} {w : World} {A : Around} {h₀ : Heap} {L : Addr} {m : Str → Option Value} {env : Env} {ct elt : Expr} {x : Str} {scope : Scope} {cl : List (Str × Addr)} {s : Shared} {S : List (Addr × Obj) → Prop} {P : Nat → Value → Prop} {Fin : List Value → List (Addr × Obj) → Prop} {news : List (Addr × Obj)}
/-- a comprehension by what holds between its turns -/
theorem comp_inv (Inv : Nat → List Value → List (Addr × Obj) → Prop) {n : Nat} (start : Inv 0 [] news)
    (turn : ∀ i v ys nw I oI C oC D m₂ h tk (E' : Value → Shared → Prop), i < n → P i v → Inv i ys nw → NsObj oC m₂ → m₂ x = some v → Fr h₀ L h m → News h₀ L h ((I, oI) :: (C, oC) :: (D, lst ys) :: nw) → Off3 I C D nw → ((@Ne Nat I C) ∧ (@Ne Nat I D) ∧ (@Ne Nat C D)) →
      wpAny (model prog w) A (eval elt (compEnvC scope cl C env)) (CompEnd h₀ L m { s with heap := h, toks := tk } I oI C oC D (lst ys) S (fun y nw' => Inv (i + 1) (ys ++ [y]) nw')) E' { s with heap := h, toks := tk })
    (fin : ∀ ys nw, Inv n ys nw → Fin ys nw) : CompRest prog w A h₀ L m env elt x scope cl s S P Fin n 0 [] news := by
  have key : ∀ (j i : Nat) (ys : List Value) (nw : List (Addr × Obj)), i + j = n → Inv i ys nw → CompRest prog w A h₀ L m env elt x scope cl s S P Fin j i ys nw := by
    intro j
    induction j with
    | zero =>
      intro i ys nw hi hv
      obtain rfl : i = n := by omega
      exact CompRest.zero (fin ys nw hv)
    | succ j ih =>
      intro i ys nw hi hv
      refine CompRest.succ ?_
      intro v I oI C oC D m₂ h tk E' hP hC hx F N off ne
      refine wpAny_mono (turn i v ys nw I oI C oC D m₂ h tk E' (by omega) hP hv hC hx F N off ne) (fun y s₂ hq => ?_) fun _ _ e => e
      obtain ⟨h', tk', nw', e, F', N', off', hS, hi'⟩ := hq
      exact ⟨h', tk', nw', e, F', N', off', hS, ih (i + 1) _ _ (by omega) hi'⟩
  exact key n 0 [] news (by omega) start
theorem comp_invT (Inv : Nat → List Value → List (Addr × Obj) → Prop) {n : Nat} (start : Inv 0 [] news)
    (turn : ∀ i v ys nw I oI C oC D m₂ h tk (E' : Value → Shared → Prop), i < n → P i v → Inv i ys nw → NsObj oC m₂ → m₂ x = some v → Fr h₀ L h m → News h₀ L h ((I, oI) :: (C, oC) :: (D, lst ys) :: nw) → Off3 I C D nw → ((@Ne Nat I C) ∧ (@Ne Nat I D) ∧ (@Ne Nat C D)) →
      wpAny (model prog w) A (isTrue ct (compEnvC scope cl C env) (eval ct (compEnvC scope cl C env))) (fun ok s' => if ok = true then
        wpAny (model prog w) A (eval elt (compEnvC scope cl C env)) (CompEnd h₀ L m { s with heap := h, toks := tk } I oI C oC D (lst ys) S (fun y nw' => Inv (i + 1) (ys ++ [y]) nw')) E' s'
        else CompEnd h₀ L m { s with heap := h, toks := tk } I oI C oC D (lst ys) S (fun _ nw' => Inv (i + 1) ys nw') Value.none s') E' { s with heap := h, toks := tk })
    (fin : ∀ ys nw, Inv n ys nw → Fin ys nw) : CompRestT prog w A h₀ L m env ct elt x scope cl s S P Fin n 0 [] news := by
  have key : ∀ (j i : Nat) (ys : List Value) (nw : List (Addr × Obj)), i + j = n → Inv i ys nw → CompRestT prog w A h₀ L m env ct elt x scope cl s S P Fin j i ys nw := by
    intro j
    induction j with
    | zero =>
      intro i ys nw hi hv
      obtain rfl : i = n := by omega
      exact CompRestT.zero (fin ys nw hv)
    | succ j ih =>
      intro i ys nw hi hv
      refine CompRestT.succ ?_
      intro v I oI C oC D m₂ h tk E' hP hC hx F N off ne
      refine wpAny_mono (turn i v ys nw I oI C oC D m₂ h tk E' (by omega) hP hv hC hx F N off ne) (fun ok s₂ hq => ?_) fun _ _ e => e
      cases ok with
      | true =>
        simp only [if_true] at hq ⊢
        refine wpAny_mono hq (fun y s₃ hr => ?_) fun _ _ e => e
        obtain ⟨h', tk', nw', e, F', N', off', hS, hi'⟩ := hr
        exact ⟨h', tk', nw', e, F', N', off', hS, ih (i + 1) _ _ (by omega) hi'⟩
      | false =>
        simp only [Bool.false_eq_true, if_false] at hq ⊢
        obtain ⟨h', tk', nw', e, F', N', off', hS, hi'⟩ := hq
        exact ⟨h', tk', nw', e, F', N', off', hS, ih (i + 1) _ _ (by omega) hi'⟩
  exact key n 0 [] news (by omega) start
theorem comp_pick {pen : Addr} {po : Obj} {u : Obj → List (Addr × Obj)} {n : Nat} (U : UpdF pen po news u) (hpo : IsPen po) {vs : List Value}
    (turn : ∀ v po' ys I oI C oC D m₂ h tk (E' : Value → Shared → Prop), P ys.length v → IsPen po' → NsObj oC m₂ → m₂ x = some v → Fr h₀ L h m → News h₀ L h ((I, oI) :: (C, oC) :: (D, lst ys) :: u po') → Off3 I C D (u po') → ((@Ne Nat I C) ∧ (@Ne Nat I D) ∧ (@Ne Nat C D)) →
      wpAny (model prog w) A (eval elt (compEnvC scope cl C env)) (CompEnd h₀ L m { s with heap := h, toks := tk } I oI C oC D (lst ys) S (fun y nw' => y ∈ vs ∧ ∃ po'', IsPen po'' ∧ nw' = u po'')) E' { s with heap := h, toks := tk })
    (fin : ∀ ys po', IsPen po' → (∀ y ∈ ys, y ∈ vs) → ys.length = n → Fin ys (u po')) : CompRest prog w A h₀ L m env elt x scope cl s S P Fin n 0 [] news := by
  have e0 : news = u po := by obtain ⟨pre, post, rfl, hg, _, _⟩ := U.split; rw [hg]
  refine comp_inv (fun i ys nw => ∃ po', IsPen po' ∧ nw = u po' ∧ (∀ y ∈ ys, y ∈ vs) ∧ ys.length = i) ⟨po, hpo, e0, fun _ h => (nomatch h), rfl⟩ ?_ ?_
  · rintro i v ys nw I oI C oC D m₂ h tk E' hi hP ⟨po', hpo', rfl, hV, rfl⟩ hC hx F N off ne
    refine wpAny_mono (turn v po' ys I oI C oC D m₂ h tk E' hP hpo' hC hx F N off ne) (fun y s₂ hq => ?_) fun _ _ e => e
    obtain ⟨h', tk', nw', e, F', N', off', hS, hV', po'', hpo'', rfl⟩ := hq
    refine ⟨h', tk', _, e, F', N', off', hS, po'', hpo'', rfl, ?_, by simp⟩
    intro z hz
    rcases List.mem_append.mp hz with hz | hz
    · exact hV z hz
    · rw [List.mem_singleton.mp hz]; exact hV'
  · rintro ys nw ⟨po', hpo', rfl, hV, hl⟩
    exact fin ys po' hpo' hV hl
end

section
variable {prog : Program} {w : World} {A : Around} {E : Value → Shared → Prop} {s : Shared} {h₀ : Heap} {L : Addr} {m : Str → Option Value} {env : Env}
def SrcStep (prog : Program) (w : World) (A : Around) (h₀ : Heap) (L : Addr) (m : Str → Option Value) (env : Env) (elt : Expr) (x : Str) (scope : Scope) (cl : List (Str × Addr)) (Fin : Shared → List Value → List (Addr × Obj) → Prop) (xv : Value) (s₁ : Shared) : Prop :=
  ∃ r a b c t u v n news, xv = .ref r ∧ A.handled = none ∧ Fr h₀ L s₁.heap m ∧ News h₀ L s₁.heap news ∧ IsRange s₁.heap r a b c t u v ∧ Builtin.Range.small a b c = true ∧ Builtin.Range.rangeSize a b c = ((n : Nat) : Int) ∧ n ≤ sizeLine ∧
    ∀ s₂ : Shared, (∃ h, s₂ = { s₁ with heap := h }) → CompRest prog w A h₀ L m env elt x scope cl s₂ (fun _ => True) (fun i v => ∃ t, v = .int (a + (i : Int) * c) t) (Fin s₂) n 0 [] news
theorem SrcStep.range {elt : Expr} {x : Str} {scope : Scope} {cl : List (Str × Addr)} {Fin : Shared → List Value → List (Addr × Obj) → Prop} {r : Addr} {a b c : Int} {t u v : Tok} {n : Nat} {news : List (Addr × Obj)} {s₁ : Shared}
    (hh : A.handled = none) (F : Fr h₀ L s₁.heap m) (N : News h₀ L s₁.heap news) (hr : IsRange s₁.heap r a b c t u v) (hsm : Builtin.Range.small a b c = true) (hn : Builtin.Range.rangeSize a b c = ((n : Nat) : Int)) (hsz : n ≤ sizeLine)
    (h : ∀ g, CompRest prog w A h₀ L m env elt x scope cl { s₁ with heap := g } (fun _ => True) (fun i v => ∃ t, v = .int (a + (i : Int) * c) t) (Fin { s₁ with heap := g }) n 0 [] news) :
    SrcStep prog w A h₀ L m env elt x scope cl Fin (.ref r) s₁ := ⟨r, a, b, c, t, u, v, n, news, rfl, hh, F, N, hr, hsm, hn, hsz, fun _ ⟨g, e⟩ => e ▸ h g⟩
theorem range_stC {I : Addr} {a c : Int} {n : Nat} : ∀ i (h h' : Heap) (o : Obj) (nw : List (Addr × Obj)), IsRangeIter h I (a + (i : Nat) * c) ((n : Int) - (i : Nat)) c → h.get? I = some o → h'.get? I = some o → (∀ b o, h₀.get? b = some o → h'.get? b = some o) → News h₀ L h' nw → True → IsRangeIter h' I (a + (i : Nat) * c) ((n : Int) - (i : Nat)) c :=
  fun i h h' o nw st e e' _ _ _ => by
    have st' : h.get? I = some _ := st
    show h'.get? I = some _
    rw [e', ← e]; exact st'
/-- a comprehension over a range of any step -/
theorem ListComp_R {elt iter : Expr} {x : Str} {px : Pos} {scope : Scope} {cl : List (Str × Addr)} {pos : Pos} {Q : Value → Shared → Prop} (_F₀ : Fr h₀ L s.heap m)
    (hclos : closureFor scope env = pure cl) (hcell : ∀ y ∈ scope.names, y.2 ≠ .cell) (hkind : scope.kind = .function)
    (hnames : ∀ y ∈ scope.names, y.2 = .local → scope.names.lookup y.1 = some .local) (hx : scope.names.lookup x = some .local)
    (h : wpAny (model prog w) A (eval iter env) (SrcStep prog w A h₀ L m env elt x scope cl (fun s₂ => FinE h₀ L m s₂ Q)) E s)
    (hs : ∀ x, foldedSetIterable iter env x = pure x := by intro _; rfl) :
    wpAny (model prog w) A (eval (.ListComp elt [⟨.Name x px, iter, [], 0⟩] scope pos) env) Q E s := by
  rw [eval_ListComp]
  refine wpAny_comprehension_free (use := none) rfl hs hclos hkind hnames (wpAny_mono h (fun xv s₁ h₁ => ?_) fun _ _ e => e)
  obtain ⟨r, a, b, c, t, u, v, n, news, rfl, hh, F, N, hr, hsm, hn, hsz, R⟩ := h₁
  refine wpAny_pyIter_range hr hsm ?_
  refine block_U (Walks.range hh _ a c n) hsz (fun i h st => ⟨_, st⟩) range_stC hcell hkind hx (by show IsRangeIter _ _ _ _ _; rw [hn]; simpa using Heap.get?_push_size _ rfl) (fun b hb => ?_)
    (F.keeps fun _ _ e => Heap.get?_push_of_some _ e) (N.grown fun _ _ e => Heap.get?_push_of_some _ e) (Nat.ne_of_lt F.ns.lt) (next_is_new F) (fun p hp => Nat.ne_of_lt (Heap.lt_size (N p hp).1)) trivial (R _ ⟨_, rfl⟩) ?_
  · rw [List.mem_singleton.mp hb]
    show s₁.heap.objs.size < (s₁.heap.push _).objs.size
    rw [Heap.size_push]; exact Nat.lt_succ_self _
  · intro D C h' tk m' ys news' F' N' o1 hn' hC₀ hD₀ hCL hDL hCD offC fin
    refine ⟨m', hn', fun h'' hs'' => fin D h'' tk (F'.change hs'' hCL hC₀) (fun p hp => ?_) o1⟩
    refine ⟨hs''.extBut _ _ ?_ (N' p hp).1, (N' p hp).2⟩
    rcases List.mem_cons.mp hp with rfl | hp
    · exact Ne.symm hCD
    · exact offC p hp
end
theorem wE10 : True := by k_with_none; w_top off; (k_with "k_ne" => (refine neN ?_; (try dsimp only); first | with_reducible assumption | with_reducible exact Ne.symm (by assumption) | fail)); trivial
abbrev TT (mean : ExcName → Option Value) (mg mb : Str → Option Value) (g : Heap) : Prop := Top Mine.view (looseW Mine.view [Str.ofString "PaperError", Str.ofString "told_objects"]) mean mg mb g

theorem my_item {prog : Program} {w : World} {A : Around} {E : Value → Shared → Prop} {s : Shared} {value slice : PySem.Expr} {l : Addr} {vs : List Value} {k : Int} {u : Tok} {Q : Value → Shared → Prop}
    (hl : s.heap.IsList l vs.toArray) (h0 : 0 ≤ k) (hhi : k < 2 ^ 63) (hlt : k < (vs.length : Int)) (h : ∀ (i : Nat) v, i < vs.length → vs[i]? = some v → Q v s)
    (hs : subscripted slice false (.ref l) (.int k u) = operate [.ref l, .int k u] (getItem (.ref l) (.int k u)) := by with_unfolding_all rfl) :
    wpAny (model prog w) A (subscriptTail value slice (.ref l) (.int k u)) Q E s := by
  have hi : k.toNat < vs.length := by omega
  exact tail_any hl.typeIs slot_list_getitem.lookup (wpAny_getItem_list hl h0 hhi (x := vs[k.toNat]) (by simp [hi]) (h _ _ hi (by simp [hi]))) hs

section
variable {prog : Program} {w : World} {mean : ExcName → Option Value} {mg mb : Str → Option Value} {A : Around} {s : Shared} {g : Heap} {L pen : Addr} {po : Obj} {m : Str → Option Value} {all : List (Addr × Obj)} {u : Obj → List (Addr × Obj)} {Q E : Value → Shared → Prop}
set_option maxRecDepth 100000 in
set_option maxHeartbeats 8000000 in
theorem draw_K {many : Int} {tm : Tok} (X : (Mine.hd.heap_1 w.params).In g) (T : TT mean mg mb g) (hR : Rm A 2) (F : Fr g L s.heap m) (N : News g L s.heap all) (U : UpdF pen po all u) (hpo : IsPen po) (hm : 0 < many) (hm2 : many < 100)
  (hQ : ∀ d td h' tk' po', IsPen po' → Fr g L h' m → News g L h' (u po') → 0 ≤ d → d < many → Q (.int d td) {s with heap := h', toks := tk'}) :
  wpAny (model prog w) A (call (.ref 336) [.ref pen, .int many tm]) Q E s := by
  obtain ⟨n, c, t, u', k, rfl, hn, hc⟩ := hpo
  have hmem : (pen, penObj n c t u' k) ∈ all := by obtain ⟨pre, post, rfl, _, _, _⟩ := U.split; exact List.mem_append_right _ (.head _)
  have fin : ∀ d td h' tk', KB pen s.heap h' → (∃ o, h'.get? pen = some o ∧ IsPen o) → 0 ≤ d → d < many → Q (.int d td) {s with heap := h', toks := tk'} := by
    rintro d td h' tk' kb ⟨o, ho, hpo⟩ h0 h1
    exact hQ d td h' tk' o hpo (fr_pen F N U kb) (news_pen N U kb ho) h0 h1
  refine wpAny_call ?_
  refine' enter (news := [(pen, penObj n c t u' k)]) X T F.keep (fun p hp' => by rw [List.mem_singleton.mp hp']; exact ⟨(N _ hmem).1, (N _ hmem).2.2⟩) hR.room (by k_is) (by k_is) (by exact BindsTo.of_eq rfl) (by exact locs rfl) (by exact rfl) (by exact rfl) (by exact rfl) (by decide) ?_
  clear F N U hQ hmem
  intro g L' h₁ hst hgs hgsub Xg Tg F' N' hlt
  dsimp only
  k_fold
  k_steps
  all_goals (rename Fr _ _ _ _ => F9; rename News _ _ _ _ => N9)
  all_goals (refine' fin _ _ _ _ (kb_of hgsub F9) (pen_of N9 ?_ ?_) ?_ ?_)
  all_goals (try simp only [Int.toNat_zero, Int.toNat_one, List.getD_cons_zero, List.getD_cons_succ])
  all_goals (first | exact Int.fmod_nonneg (by omega) (by omega) | exact Int.fmod_lt_of_pos _ (by omega) | exact Int.fdiv_nonneg (by omega) (by omega) | omega)

theorem wE11 : True := by (k_with "call ref" => (k_here; (with_reducible show wpAny _ _ (call (Value.ref 336) [Value.ref _, Value.int _ _]) _ _ _); (refine' draw_K (by k_asm) (by k_asm) (by first | assumption | exact Rm.mono (Rm.deeper (by assumption) _) (by decide)) (by k_asm) (by k_asm) (by k_updF) (by assumption) (by first | decide | (simp only [List.size_toArray]; omega) | omega) (by first | decide | (simp only [List.size_toArray]; omega) | omega) ?_); intro d'₉ td'₉ h'₉ tk'₉ po'₉ hpo'₉ F'₉ N'₉ h0'₉ h1'₉; (try k_sweep); (try dsimp only))); trivial
theorem wE12 : True := by (k_with "call builtin:len" => (k_here; (refine' len_list (News.isList (by k_asm) (by k_mem)) (by simp only [List.size_toArray]; omega) ?_))); trivial
theorem wE13 : True := by (k_with "subscriptTail Name Call ref int" => (k_here; (with_unfolding_all refine' my_item (News.isList (by k_asm) (by k_mem)) (by assumption) (by simp only [List.size_toArray] at *; omega) (by simp only [List.size_toArray] at *; omega) ?_ ?_); (try (with_unfolding_all rfl)); intro i'₉ v'₉ hi'₉ hv'₉)); trivial
set_option maxRecDepth 100000 in
set_option maxHeartbeats 8000000 in
theorem pick_K {l : Addr} {vs : List Value} {k : Nat} (X : (Mine.hd.heap_1 w.params).In g) (T : TT mean mg mb g) (hR : Rm A 4) (F : Fr g L s.heap m) (N : News g L s.heap all) (U : UpdF pen po all u) (hpo : IsPen po) (hl : (l, listOf vs.toArray k) ∈ all) (hlp : l ≠ pen) (hm : 0 < vs.length) (hm2 : vs.length < 100)
  (hQ : ∀ (i : Nat) v h' tk' po', i < vs.length → vs[i]? = some v → IsPen po' → Fr g L h' m → News g L h' (u po') → Q v {s with heap := h', toks := tk'}) :
  wpAny (model prog w) A (call (.ref 343) [.ref pen, .ref l]) Q E s := by
  have hmem : (pen, po) ∈ all := by obtain ⟨pre, post, rfl, _, _, _⟩ := U.split; exact List.mem_append_right _ (.head _)
  have fin : ∀ (i : Nat) v h' tk', i < vs.length → vs[i]? = some v → KB pen s.heap h' → (∃ o, h'.get? pen = some o ∧ IsPen o) → Q v {s with heap := h', toks := tk'} := by
    rintro i v h' tk' hi hv kb ⟨o, ho, hpo⟩
    exact hQ i v h' tk' o hi hv hpo (fr_pen F N U kb) (news_pen N U kb ho)
  refine wpAny_call ?_
  have hsub : ∀ p ∈ [(pen, po), (l, listOf vs.toArray k)], s.heap.get? p.1 = some p.2 ∧ g.get? p.1 = none := fun p hp' => by
    rcases List.mem_cons.mp hp' with rfl | hp'
    · exact ⟨(N _ hmem).1, (N _ hmem).2.2⟩
    · rw [List.mem_singleton.mp hp']; exact ⟨(N _ hl).1, (N _ hl).2.2⟩
  have hms : ∀ p ∈ [(pen, po), (l, listOf vs.toArray k)], s.heap.get? p.1 = some p.2 := fun p hp => (hsub p hp).1
  refine' enter (news := [(pen, po), (l, listOf vs.toArray k)]) X T F.keep hsub hR.room (by k_is) (by k_is) (by exact BindsTo.of_eq rfl) (by exact locs rfl) (by exact rfl) (by exact rfl) (by exact rfl) (by decide) ?_
  clear F N U hQ hmem hsub
  intro g L' h₁ hst hgs hgsub Xg Tg F' N' hlt
  dsimp only
  k_fold
  k_steps
  rename Fr _ _ _ _ => F9; rename News _ _ _ _ => N9
  exact fin _ _ _ _ (by assumption) (by assumption) (kb_led hgsub hms F9 N9 (by intro p hp; rcases List.mem_cons.mp hp with rfl | hp; exact .inl rfl; exact .inr (.tail _ hp))) ⟨_, (N9 _ (.head _)).1, by assumption⟩

/-- Name(t) -/
abbrev nameDict (w : World) (t : Str) (t1 t2 : Tok) (n : Nat) : Obj := dictOf [⟨PyData.keyHash w.params (Str.ofString "text"), .str (Str.ofString "text") t1, .str t t2⟩] n
set_option maxRecDepth 100000 in
set_option maxHeartbeats 8000000 in
theorem name_K {t : Str} {tk : Tok} (X : (Mine.hd.heap_1 w.params).In g) (T : TT mean mg mb g) (hR : Rm A 4) (F : Fr g L s.heap m) (N : News g L s.heap all)
  (hQ : ∀ (x dx : Addr) t1 t2 n h' tk', Fr g L h' m → News g L h' ((x, instObj 171 dx) :: (dx, nameDict w t t1 t2 n) :: all) → (∀ p ∈ all, p.1 < dx) → dx < x → Q (.ref x) {s with heap := h', toks := tk'}) :
  wpAny (model prog w) A (call (.ref 171) [.str t tk]) Q E s := by
  refine' call_cls F X N (by k_is) (by k_is) (by k_is) ?_
  intro x dx h' F1 N1 l1 l2
  have ap : ∀ p ∈ [(x, instObj 171 dx), (dx, dictOf [] 0)], ∀ q ∈ all, q.1 ≠ p.1 := by
    intro p hp q hq
    have := l1 q hq
    rcases List.mem_cons.mp hp with rfl | hp
    · exact Nat.ne_of_lt (Nat.lt_trans this l2)
    · rw [List.mem_singleton.mp hp]; exact Nat.ne_of_lt this
  refine' enter (news := [(x, instObj 171 dx), (dx, dictOf [] 0)]) X T F1.keep (fun p hp => ⟨(N1 p (List.mem_append_left _ hp)).1, (N1 p (List.mem_append_left _ hp)).2.2⟩) (Rm.make hR _ _).room (by k_is) (by k_is) (by exact BindsTo.of_eq rfl) (by exact locs rfl) (by exact rfl) (by exact rfl) (by exact rfl) (by decide) ?_
  have fin : ∀ t1 t2 n h2 tk2, Fr g L h2 m → News g L h2 ((x, instObj 171 dx) :: (dx, nameDict w t t1 t2 n) :: all) → Q (.ref x) {s with heap := h2, toks := tk2} := fun t1 t2 n h2 tk2 F2 N2 => hQ x dx t1 t2 n h2 tk2 F2 N2 l1 l2
  intro g₂ L' h₁ hst hgs hgsub Xg Tg F' N' hlt
  have lv := fun h₂ newsX' m₂ (F9 : Fr g₂ L' h₂ m₂) (N9 : News g₂ L' h₂ newsX') => leave_led (h₂ := h₂) (newsX' := newsX') (m₂ := m₂) F1 N1 ap hgsub F9 N9
  clear F N F1 N1 hQ ap l1
  have l2' := ltN l2
  dsimp only
  k_unmd
  k_fold
  k_steps
  rename Fr _ _ _ _ => F9; rename News _ _ _ _ => N9
  obtain ⟨F2, N2⟩ := lv _ _ _ F9 N9
  exact ⟨rfl, fin _ _ _ _ _ F2 N2⟩
end
theorem wE20 : True := by k_with_none; w_top off; (k_with "k_ne" => (refine neN ?_; (try dsimp only); first | with_reducible assumption | with_reducible exact Ne.symm (by assumption) | fail)); trivial
/-- an operand as the law makes it -/
inductive Opd where
  | nm (t : Str)
  | int (i : Int)
  | dct
structure Op where
  word : Str
  opds : List Opd
inductive OpdIn (prog : Program) (w : World) (nx : List (Addr × Obj)) : Value → Opd → Prop
  | nm {a dx : Addr} {t : Str} {t1 t2 : Tok} {n : Nat} : (a, instObj 171 dx) ∈ nx → (dx, nameDict w t t1 t2 n) ∈ nx → OpdIn prog w nx (.ref a) (.nm t)
  | int (i : Int) (tk : Tok) : OpdIn prog w nx (.int i tk) (.int i)
  | dct {a : Addr} {o : Obj} : (a, o) ∈ nx → o.IsDictOf (PySem.strKind prog w) [] → OpdIn prog w nx (.ref a) .dct
inductive OpdAll (prog : Program) (w : World) (nx : List (Addr × Obj)) : List Value → List Opd → Prop
  | nil : OpdAll prog w nx [] []
  | cons {v : Value} {d : Opd} {vs : List Value} {ds : List Opd} : OpdIn prog w nx v d → OpdAll prog w nx vs ds → OpdAll prog w nx (v :: vs) (d :: ds)
abbrev opDict (w : World) (v : Value) (l : Addr) (t1 t3 : Tok) (n : Nat) : Obj := dictOf [⟨PyData.keyHash w.params (Str.ofString "word"), .str (Str.ofString "word") t1, v⟩, ⟨PyData.keyHash w.params (Str.ofString "operands"), .str (Str.ofString "operands") t3, .ref l⟩] n
inductive OpIn (prog : Program) (w : World) (nx : List (Addr × Obj)) : Value → Op → Prop
  | mk {x dx l : Addr} {wd : Str} {t1 t2 t3 : Tok} {n k : Nat} {vs : List Value} {ds : List Opd} : (x, instObj 287 dx) ∈ nx → (dx, opDict w (.str wd t2) l t1 t3 n) ∈ nx → (l, listOf vs.toArray k) ∈ nx → OpdAll prog w nx vs ds → OpIn prog w nx (.ref x) ⟨wd, ds⟩
theorem OpdIn.mono {prog w} {nx nx' : List (Addr × Obj)} (hs : ∀ p ∈ nx, p ∈ nx') {v d} (h : OpdIn prog w nx v d) : OpdIn prog w nx' v d := by
  cases h with
  | nm a b => exact .nm (hs _ a) (hs _ b)
  | int i t => exact .int i t
  | dct a b => exact .dct (hs _ a) b
theorem OpdAll.mono {prog w} {nx nx' : List (Addr × Obj)} (hs : ∀ p ∈ nx, p ∈ nx') {vs ds} (h : OpdAll prog w nx vs ds) : OpdAll prog w nx' vs ds := by
  induction h with
  | nil => exact .nil
  | cons a _ ih => exact .cons (a.mono hs) ih
theorem OpIn.mono {prog w} {nx nx' : List (Addr × Obj)} (hs : ∀ p ∈ nx, p ∈ nx') {v d} (h : OpIn prog w nx v d) : OpIn prog w nx' v d := by
  cases h with
  | mk a b c d => exact .mk (hs _ a) (hs _ b) (hs _ c) (d.mono hs)

theorem OpdAll.len {prog w} {nx : List (Addr × Obj)} {vs ds} (h : OpdAll prog w nx vs ds) : vs.length = ds.length := by
  induction h with
  | nil => rfl
  | cons _ _ ih => simp [ih]
theorem OpdAll.at {prog w} {nx : List (Addr × Obj)} {vs ds} (h : OpdAll prog w nx vs ds) : ∀ {i : Nat} {v : Value}, vs[i]? = some v → ∃ d, ds[i]? = some d ∧ OpdIn prog w nx v d := by
  induction h with
  | nil => intro i v e; simp at e
  | cons a _ ih =>
    intro i v e
    cases i with
    | zero => simp only [List.getElem?_cons_zero, Option.some.injEq] at e; subst e; exact ⟨_, rfl, a⟩
    | succ i => simp only [List.getElem?_cons_succ] at e ⊢; exact ih e
theorem OpdAll.snoc {prog w} {nx : List (Addr × Obj)} {vs ds v d} (h : OpdAll prog w nx vs ds) (k : OpdIn prog w nx v d) : OpdAll prog w nx (vs ++ [v]) (ds ++ [d]) := by
  induction h with
  | nil => exact .cons k .nil
  | cons a _ ih => exact .cons a ih
def OpdsInv (prog : Program) (w : World) (pen : Addr) (led : List (Addr × Obj)) (ys : List Value) (nw : List (Addr × Obj)) : Prop := nw = led ∧ ∃ ds, OpdAll prog w (Off pen led) ys ds
/-- an item of the law's own row: an operand or the text 'none' -/
inductive RowIn (prog : Program) (w : World) (nx : List (Addr × Obj)) (v : Value) : Prop
  | opd (d : Opd) : OpdIn prog w nx v d → RowIn prog w nx v
  | none (tk : Tok) : v = .str (Str.ofString "none") tk → RowIn prog w nx v

section
variable {prog : Program} {w : World} {mean : ExcName → Option Value} {mg mb : Str → Option Value} {A : Around} {s : Shared} {g : Heap} {L pen : Addr} {po : Obj} {m : Str → Option Value} {all : List (Addr × Obj)} {u : Obj → List (Addr × Obj)} {Q E : Value → Shared → Prop}
set_option maxRecDepth 100000 in
set_option maxHeartbeats 8000000 in
theorem oper_K {v : Value} {l : Addr} (X : (Mine.hd.heap_1 w.params).In g) (T : TT mean mg mb g) (hR : Rm A 4) (F : Fr g L s.heap m) (N : News g L s.heap all)
  (hQ : ∀ (x dx : Addr) t1 t3 n h' tk', Fr g L h' m → News g L h' ((x, instObj 287 dx) :: (dx, opDict w v l t1 t3 n) :: all) → (∀ p ∈ all, p.1 < dx) → dx < x → Q (.ref x) {s with heap := h', toks := tk'}) :
  wpAny (model prog w) A (call (.ref 287) [v, .ref l]) Q E s := by
  refine' call_cls F X N (by k_is) (by k_is) (by k_is) ?_
  intro x dx h' F1 N1 l1 l2
  have ap : ∀ p ∈ [(x, instObj 287 dx), (dx, dictOf [] 0)], ∀ q ∈ all, q.1 ≠ p.1 := by
    intro p hp q hq
    have := l1 q hq
    rcases List.mem_cons.mp hp with rfl | hp
    · exact Nat.ne_of_lt (Nat.lt_trans this l2)
    · rw [List.mem_singleton.mp hp]; exact Nat.ne_of_lt this
  refine' enter (news := [(x, instObj 287 dx), (dx, dictOf [] 0)]) X T F1.keep (fun p hp => ⟨(N1 p (List.mem_append_left _ hp)).1, (N1 p (List.mem_append_left _ hp)).2.2⟩) (Rm.make hR _ _).room (by k_is) (by k_is) (by exact BindsTo.of_eq rfl) (by exact locs rfl) (by exact rfl) (by exact rfl) (by exact rfl) (by decide) ?_
  have fin : ∀ t1 t3 n h2 tk2, Fr g L h2 m → News g L h2 ((x, instObj 287 dx) :: (dx, opDict w v l t1 t3 n) :: all) → Q (.ref x) {s with heap := h2, toks := tk2} := fun t1 t2 n h2 tk2 F2 N2 => hQ x dx t1 t2 n h2 tk2 F2 N2 l1 l2
  intro g₂ L' h₁ hst hgs hgsub Xg Tg F' N' hlt
  have lv := fun h₂ newsX' m₂ (F9 : Fr g₂ L' h₂ m₂) (N9 : News g₂ L' h₂ newsX') => leave_led (h₂ := h₂) (newsX' := newsX') (m₂ := m₂) F1 N1 ap hgsub F9 N9
  clear F N F1 N1 hQ ap l1
  have l2' := ltN l2
  dsimp only
  k_unmd
  k_fold
  k_steps
  rename Fr _ _ _ _ => F9; rename News _ _ _ _ => N9
  obtain ⟨F2, N2⟩ := lv _ _ _ F9 N9
  exact ⟨rfl, fin _ _ _ _ _ F2 N2⟩

theorem wE21 : True := by (k_with "call ref" => (k_here; (with_reducible show wpAny _ _ (call (Value.ref 287) [_, Value.ref _]) _ _ _); (refine' oper_K (by k_asm) (by k_asm) (by first | assumption | exact Rm.mono (Rm.deeper (by assumption) _) (by decide)) (by k_asm) (by k_asm) ?_); intro x'₉ d'₉ t1'₉ t3'₉ n'₉ h'₉ tk'₉ F'₉ N'₉ l1₉ l2₉; (try k_lt l1₉); (try k_lt2 l2₉); (try k_sweep); (try dsimp only))); trivial
set_option maxRecDepth 100000 in
theorem row_ne {v : Value} {nx : List (Addr × Obj)} {tk : Tok} (hR : Rm A 2) (X : (Mine.hd.heap_1 w.params).In g) (F : Fr g L s.heap m) (N : News g L s.heap all) (hs : ∀ p ∈ nx, p ∈ all) (hr : RowIn prog w nx v)
    (h : ∀ b, (b = true → ∃ d, OpdIn prog w nx v d) → Q (.bool b) s) : wpAny (model prog w) A (compareOp .NotEq v (.str (Str.ofString "none") tk)) Q E s := by
  rcases hr with ⟨d, hd⟩ | ⟨t', rfl⟩
  · have q : Q (.bool true) s := h true fun _ => ⟨d, hd⟩
    cases hd with
    | nm a b => exact inst_ne_str hR (X.keeps F.keep) (InstAt.of_news N (hs _ a) (hs _ b)) rfl (by k_is) (by k_is) (by k_is) q
    | int i t => exact EqMixed.ne_int_str q
    | dct a b => exact dict_ne_str (by have := hR.un; omega) (kda_dict N (hs _ a) b) q
  · refine ne_str ?_
    have := h false (fun e => nomatch e)
    simpa using this

theorem wE22 : True := by (k_with "call ref" => (k_here; (with_reducible show wpAny _ _ (call (Value.ref 336) [Value.ref _, Value.int _ _]) _ _ _); (refine' draw_K (by k_asm) (by k_asm) (by first | assumption | exact Rm.mono (Rm.deeper (by assumption) _) (by decide)) (by k_asm) (by k_asm) (by k_updF) (by assumption) (by first | decide | (simp only [List.size_toArray]; omega) | omega) (by first | decide | (simp only [List.size_toArray]; omega) | omega) ?_); intro d'₉ td'₉ h'₉ tk'₉ po'₉ hpo'₉ F'₉ N'₉ h0'₉ h1'₉; (try k_sweep); (try dsimp only))); trivial
theorem wE23 : True := by (k_with "call ref" => (k_here; (with_reducible show wpAny _ _ (call (Value.ref 343) [Value.ref _, Value.ref _]) _ _ _); (refine' pick_K (by k_asm) (by k_asm) (by first | assumption | exact Rm.mono (Rm.deeper (by assumption) _) (by decide)) (by k_asm) (by k_asm) (by k_updF) (by assumption) (by k_mem) (by k_ne) (by exact Nat.le_of_ble_eq_true rfl) (by exact Nat.le_of_ble_eq_true rfl) ?_); intro i'₉ v'₉ h'₉ tk'₉ po'₉ hi'₉ hv'₉ hpo'₉ F'₉ N'₉; (try k_sweep); (try dsimp only))); trivial
theorem wE24 : True := by (k_with "call ref" => (k_here; (with_reducible show wpAny _ _ (call (Value.ref 171) [Value.str _ _]) _ _ _); (refine' name_K (by k_asm) (by k_asm) (by first | assumption | exact Rm.mono (Rm.deeper (by assumption) _) (by decide)) (by k_asm) (by k_asm) ?_); intro x'₉ d'₉ t1'₉ t2'₉ n'₉ h'₉ tk'₉ F'₉ N'₉ l1₉ l2₉; (try k_lt l1₉); (try k_lt2 l2₉); (try k_sweep); (try dsimp only))); trivial
theorem wE25 : True := by (k_with "CompEnd" => (k_here; (refine' LCg.CompEnd.intro (by k_asm) (by k_asm) _ (by exact fun p hp => hp) (by (simp only [LCg.Off3, and_true]); first | assumption | omega) trivial ⟨List.mem_of_getElem? (by assumption), _, by assumption, rfl⟩))); trivial
theorem wE26 : True := by (k_with "compareOp NotEq" => (k_here; (refine' row_ne (by first | assumption | exact Rm.mono (Rm.deeper (by assumption) _) (by decide)) (by k_asm) (by k_asm) (by k_asm) (by assumption) (by assumption) ?_); intro b'₉ hb'₉)); trivial
theorem wE27 : True := by (k_with "CompEnd" => (k_here; (refine' LCg.CompEnd.intro (by k_asm) (by k_asm) _ (by exact fun p hp => hp) (by assumption) (by assumption) ?_))); trivial
theorem wE28 : True := by (k_with "eval ListComp" => (k_here; k_dflt (refine LCt.ListComp_T (F₀ := by k_asm) (by with_unfolding_all rfl) (by decide) (by rfl) (by decide) (by rfl) ?_))); trivial
set_option maxRecDepth 100000 in
set_option maxHeartbeats 8000000 in
theorem operation_K (X : (Mine.hd.heap_1 w.params).In g) (T : TT mean mg mb g) (hR : Rm A 8) (F : Fr g L s.heap m) (N : News g L s.heap all) (U : UpdF pen po all u) (hpo : IsPen po)
  (hQ : ∀ v op nx h' tk' po', IsPen po' → Fr g L h' m → News g L h' (nx ++ u po') → (∀ q ∈ u po', ∀ p ∈ nx, p.1 ≠ q.1) → OpIn prog w nx v op → Q v {s with heap := h', toks := tk'}) :
  wpAny (model prog w) A (call (.ref 348) [.ref pen]) Q E s := by
  have hmem : (pen, po) ∈ all := by obtain ⟨pre, post, rfl, _, _, _⟩ := U.split; exact List.mem_append_right _ (.head _)
  have hsub : ∀ p ∈ [(pen, po)], s.heap.get? p.1 = some p.2 ∧ g.get? p.1 = none := fun p hp' => by rw [List.mem_singleton.mp hp']; exact ⟨(N _ hmem).1, (N _ hmem).2.2⟩
  have hms : ∀ p ∈ [(pen, po)], s.heap.get? p.1 = some p.2 := fun p hp => (hsub p hp).1
  refine wpAny_call ?_
  refine' enterC (news := [(pen, po)]) X T F.keep hsub hR.room (by k_is) (by k_is) (by exact BindsTo.of_eq rfl) (by exact rfl) (by decide +kernel) (by exact rfl) (by exact rfl) (by exact rfl) ?_
  have fin : ∀ v op nx h' tk' po', KB pen s.heap h' → h'.get? pen = some po' → IsPen po' → Made s.heap h' nx → OpIn prog w nx v op → Q v {s with heap := h', toks := tk'} := by
    intro v op nx h' tk' po' kb hp' hpo' md ho
    have F' := fr_pen F N U kb
    refine hQ v op nx h' tk' po' hpo' F' (news_made F F' (news_pen N U kb hp') md) ?_ ho
    intro q hq p hp e
    have z := (md p hp).2
    rw [e] at z
    obtain ⟨pre, post, e1, e2, _⟩ := U.split
    rw [e2] at hq
    have : ∃ o, s.heap.get? q.1 = some o := by
      rcases List.mem_append.mp hq with hq | hq
      · exact ⟨_, (N q (by rw [e1]; exact List.mem_append_left _ hq)).1⟩
      · rcases List.mem_cons.mp hq with rfl | hq
        · exact ⟨_, (N (pen, po) hmem).1⟩
        · exact ⟨_, (N q (by rw [e1]; exact List.mem_append_right _ (.tail _ hq))).1⟩
    obtain ⟨o, ho⟩ := this
    rw [ho] at z; cases z
  clear F N U hQ hmem hsub
  intro g L' h₁ tk cells hst hgs hgsub Xg Tg F' N' Y' hlt
  k_lt hlt
  k_cells Y'
  try simp only [List.cons_append, List.nil_append] at N'
  dsimp only
  try k_unmd
  k_fold
  k_steps
  rename IsPen _ => hpo1
  rename _ ≤ _ => hd0
  rename _ < (4 : Int) => hd1
  rename (_[_]? = some _) => hw
  refine LCg.CompSrc.range (Rm.deeper (d := 7) hR _).hh (by k_asm) (by k_asm) (by assumption) (small_one (by omega) (by omega) (by omega) (by omega)) (rangeSize_nat _ _) (by rw [PySem.sizeLine_eq]; omega) ?_
  intro g9
  refine' comp_pick (pen := pen) (by k_updF) hpo1 ?turn ?fin
  case turn =>
    intro v9 po9 ys9 I9 oI9 C9 oC9 D9 m9 h9 tk9 E9 hP9 hpo9 hC9 hx9 F9 N9 off9 ne9
    simp only [LCg.Off3, and_true] at off9
    k_steps
  case fin =>
    intro ys9 po9 hpo9 hys9 hlen9
    intro D9 h9 tk9 F9 N9 off9
    simp only [LCg.Off1, and_true] at off9
    k_steps
    refine LCt.CompSrcT.ledger (Rm.deeper (d := 7) hR _).hh (by k_asm) (by k_asm) (by k_mem) (by rw [PySem.sizeLine_eq]; simp only [List.size_toArray]; omega) ?_
    intro g8
    refine with_led N9 ?_
    intro led hled
    have hrow : ∀ y ∈ ys9, RowIn prog w (Off pen led) y := by
      intro y hy
      have hy2 := hys9 y hy
      rw [hled]
      simp only [List.mem_cons, List.not_mem_nil, or_false] at hy2
      rcases hy2 with rfl | rfl | rfl | rfl | rfl | rfl | rfl
      · exact .opd _ (.nm (mem_off (by k_mem) (by k_ne)) (mem_off (by k_mem) (by k_ne)))
      · exact .opd _ (.nm (mem_off (by k_mem) (by k_ne)) (mem_off (by k_mem) (by k_ne)))
      · exact .opd _ (.nm (mem_off (by k_mem) (by k_ne)) (mem_off (by k_mem) (by k_ne)))
      · exact .opd _ (.nm (mem_off (by k_mem) (by k_ne)) (mem_off (by k_mem) (by k_ne)))
      · exact .opd _ (.int _ _)
      · exact .opd _ (.dct (mem_off (by k_mem) (by k_ne)) (by assumption))
      · exact .none _ rfl
    have hsrc : LCg.SrcAt g D9 ys9.toArray led := .inr ⟨LCg.lst ys9, by rw [hled]; k_mem, rfl, _, rfl⟩
    refine comp_invT (fun i ys nw => OpdsInv prog w pen led ys nw) ⟨hled.symm, [], .nil⟩ ?turn2 ?fin2
    case turn2 =>
      clear hled hms fin
      intro i8 v8 ys8 nw8 I8 oI8 C8 oC8 D8 m8 h8 tk8 E8 hi8 hP8 hinv hC8 hx8 F8 N8 off8 ne8
      obtain ⟨rfl, ds, hds⟩ := hinv
      have hr8 : RowIn prog w (Off pen nw8) v8 := hrow v8 (List.mem_of_getElem? (by simpa using hP8))
      have hs8 : ∀ p ∈ Off pen nw8, p ∈ (I8, oI8) :: (C8, oC8) :: (D8, LCg.lst ys8) :: nw8 := fun p hp => .tail _ (.tail _ (.tail _ (of_off hp).1))
      clear hrow
      k_steps
      · obtain ⟨d, hd⟩ := (by assumption : _ = true → ∃ d, OpdIn prog w (Off pen nw8) v8 d) (by assumption)
        exact ⟨rfl, _, hds.snoc hd⟩
      · exact ⟨rfl, ds, hds⟩
    case fin2 =>
      intro ys8 nw8 hinv
      obtain ⟨rfl, ds, hds⟩ := hinv
      subst hled
      intro D8 h8 tk8 F8 N8 off8
      simp only [LCg.Off1, and_true] at off8
      k_steps
      rename Fr _ _ _ _ => Ff
      rename News _ _ _ _ => Nf
      obtain ⟨wd, t2, rfl⟩ : ∃ wd t2, _ = Value.str wd t2 := by
        have hw2 := List.mem_of_getElem? hw
        simp only [List.mem_cons, List.not_mem_nil, or_false] at hw2
        rcases hw2 with h | h | h | h | h | h | h | h | h | h | h | h | h | h <;> exact ⟨_, _, h⟩
      refine fin _ ⟨wd, ds⟩ (Off pen _) _ _ _ (kb_of hgsub Ff) (Nf (pen, po9) (by k_mem)).1 hpo9 (made_offpen hgsub Nf) (.mk (mem_off (by k_mem) (by k_ne)) (mem_off (by k_mem) (by k_ne)) (mem_off (by k_mem) (by k_ne)) (hds.mono (off_mono fun p hp => .tail _ (.tail _ (.tail _ hp)))))
end
theorem wLP0 : True := by k_with_none; w_top off; (k_with "k_ne" => (refine neN ?_; (try dsimp only); first | with_reducible assumption | with_reducible exact Ne.symm (by assumption) | fail)); trivial
section
variable {prog : Program} {w : World} {A : Around} {E : Value → Shared → Prop} {s : Shared} {env : Env} {h₀ : Heap} {x : Str} {body : List Stmt} {Q : Flow → Shared → Prop}
/-- a turn's end, for a loop told by J over the frame's names and the ledger -/
def LPost (h₀ : Heap) (L : Addr) (J : (Str → Option Value) → List (Addr × Obj) → Prop) (I : Addr) (oI : Obj) (s₁ : Shared) (Q : Flow → Shared → Prop) (fl : Flow) (s₂ : Shared) : Prop :=
  match fl with
  | .ret v => Q (.ret v) s₂
  | .brk => Q .next s₂
  | _ => ∃ h' tk m' nw, s₂ = { s₁ with heap := h', toks := tk } ∧ Fr h₀ L h' m' ∧ News h₀ L h' ((I, oI) :: nw) ∧ (∀ p ∈ nw, p.1 ≠ I) ∧ J m' nw
theorem LPost.next {L : Addr} {J : (Str → Option Value) → List (Addr × Obj) → Prop} {I : Addr} {oI : Obj} {s₁ : Shared} {h' : Heap} {tk : Nat} {m' : Str → Option Value} {all : List (Addr × Obj)}
    (F : Fr h₀ L h' m') (N : News h₀ L h' all) (nw : List (Addr × Obj)) (sub : ∀ p ∈ (I, oI) :: nw, p ∈ all) (off : ∀ p ∈ nw, p.1 ≠ I) (j : J m' nw) : LPost h₀ L J I oI s₁ Q .next { s₁ with heap := h', toks := tk } :=
  ⟨h', tk, m', nw, rfl, F, fun p hp => N p (sub p hp), off, j⟩

theorem loop_my {I : Addr} {fp : List Addr} {n : Nat} {P : Nat → Value → Prop} {St : Nat → Heap → Prop} {m₀ : Str → Option Value} {news : List (Addr × Obj)} (J : Nat → (Str → Option Value) → List (Addr × Obj) → Prop)
    (W : Walks prog w A I fp [I] n P St) (hIf : I ∈ fp) (hfp : ∀ b ∈ fp, b ≠ I → ∃ o, h₀.get? b = some o) (hLf : env.locals ∉ fp) (hI₀ : h₀.get? I = none) (hnw : ∀ p ∈ news, p.1 ≠ I) (hSt : ∀ i h, St i h → ∃ o, h.get? I = some o) (hst : St 0 s.heap) (F : Fr h₀ env.locals s.heap m₀) (N : News h₀ env.locals s.heap news)
    (hj : J 0 m₀ news)
    (turn : ∀ i v m₁ nw h tk oI, i < n → P i v → J i m₁ nw → (∀ p ∈ nw, p.1 ≠ I) → Fr h₀ env.locals h (fun y => if y = x then some v else m₁ y) → News h₀ env.locals h ((I, oI) :: nw) →
      wpAny (model prog w) A (execs body env) (LPost h₀ env.locals (J (i + 1)) I oI { s with heap := h, toks := tk } Q) E { s with heap := h, toks := tk })
    (done : ∀ m₁ nw h tk, J n m₁ nw → Fr h₀ env.locals h m₁ → News h₀ env.locals h nw → Q .next { s with heap := h, toks := tk }) :
    LoopAtV prog w A h₀ env x body Q E (.ref I) s := by
  refine ⟨I, fp, [I], n, P, St, m₀, news, J, rfl, W, hLf, ?_, ?_, hst, F, N, hj, ?_, ?_⟩
  · intro b hb
    rw [List.mem_singleton.mp hb]
    exact hI₀
  · intro p hp hI
    exact hnw p hp (List.mem_singleton.mp hI)
  · rintro i v m₁ news₁ s₁ own ⟨hh', tk', rfl⟩ hin hP hJ hoff h5 _ h7 hs F₁ N₁
    obtain ⟨oI, hoI⟩ := hSt _ _ hs
    have own1 : ∀ p ∈ own, p = (I, oI) := fun p hp => by
      have a := N₁ p (List.mem_append.mpr (.inl hp))
      have b : p.1 = I := by
        rcases Decidable.em (p.1 = I) with q | q
        · exact q
        · obtain ⟨o, ho⟩ := hfp p.1 (h5 p hp) q
          rw [a.2.2] at ho
          cases ho
      have c := a.1
      rw [b] at c
      exact Prod.ext b (Option.some.inj (c.symm.trans hoI))
    have NI : News h₀ env.locals hh' ((I, oI) :: news₁) := fun p hp => by
      rcases List.mem_cons.mp hp with rfl | hp
      · exact N₁ _ (List.mem_append.mpr (.inl (h7 I hIf hI₀ oI hoI)))
      · exact N₁ p (List.mem_append.mpr (.inr hp))
    have hoff' : ∀ p ∈ news₁, p.1 ≠ I := fun p hp q => hoff p hp (List.mem_singleton.mpr q)
    refine wpAny_mono (turn i v m₁ news₁ hh' tk' oI hin hP hJ hoff' F₁ NI) (fun f s₂ p => ?_) fun _ _ e => e
    have fin : (∃ h' tk m' nw, s₂ = ({ s with heap := h', toks := tk } : Shared) ∧ Fr h₀ env.locals h' m' ∧ News h₀ env.locals h' ((I, oI) :: nw) ∧ (∀ p ∈ nw, p.1 ≠ I) ∧ J (i + 1) m' nw) → LoopStepU h₀ env.locals [I] own (J (i + 1)) { s with heap := hh', toks := tk' } .next s₂ := by
      rintro ⟨h', tk, m', nw, e, F', N', ho, hj'⟩
      refine ⟨rfl, h', tk, m', nw, e, F', fun p hp => ?_, fun p hp q => ho p hp (List.mem_singleton.mp q), hj'⟩
      rcases List.mem_append.mp hp with hp | hp
      · obtain rfl := own1 p hp
        exact N' _ List.mem_cons_self
      · exact N' p (List.mem_cons_of_mem _ hp)
    cases f with
    | ret v => exact .ret p
    | brk => exact .brk p
    | next => exact .next (fin p)
    | cont => exact .cont (fin p)
  · rintro h' tk m' news' F' N' _ hJ
    exact done m' news' h' tk hJ F' N'

theorem for_list {l : Addr} {vs : List Value} {m₀ : Str → Option Value} {news : List (Addr × Obj)} (J : Nat → (Str → Option Value) → List (Addr × Obj) → Prop)
    (hh : A.handled = none) (hl : h₀.IsList l vs.toArray) (F : Fr h₀ env.locals s.heap m₀) (N : News h₀ env.locals s.heap news) (hj : J 0 m₀ news)
    (turn : ∀ i v m₁ nw h tk I oI, i < vs.length → vs[i]? = some v → J i m₁ nw → (∀ p ∈ nw, p.1 ≠ I) → (∀ p ∈ news, p.1 < I) → Fr h₀ env.locals h (fun y => if y = x then some v else m₁ y) → News h₀ env.locals h ((I, oI) :: nw) →
      wpAny (model prog w) A (execs body env) (LPost h₀ env.locals (J (i + 1)) I oI { s with heap := h, toks := tk } Q) E { s with heap := h, toks := tk })
    (done : ∀ m₁ nw h tk, J vs.length m₁ nw → Fr h₀ env.locals h m₁ → News h₀ env.locals h nw → Q .next { s with heap := h, toks := tk }) :
    wpAny (model prog w) A (pyIter (.ref l)) (fun it s₂ => LoopAtV prog w A h₀ env x body Q E it s₂) E s := by
  have hls : s.heap.IsList l vs.toArray := hl.at fun o e => F.keep l o e
  obtain ⟨ol, hol, _⟩ := id hl
  have hlt : l < h₀.objs.size := Heap.lt_size hol
  have hne : l ≠ s.heap.objs.size := Nat.ne_of_lt (Nat.lt_trans (Nat.lt_of_lt_of_le hlt F.above) F.ns.lt)
  have hlts : ∀ p ∈ news, p.1 < s.heap.objs.size := fun p hp => Heap.lt_size (N p hp).1
  refine wpAny_pyIter_list hls ?_
  have W := Walks.list (prog := prog) (w := w) hh s.heap.objs.size l hne vs.toArray
  refine loop_my J W List.mem_cons_self (fun b hb q => ?_) ?_ (next_is_new F) (fun p hp => Nat.ne_of_lt (hlts p hp)) (fun i h st => by obtain ⟨o, e, _⟩ := st.1; exact ⟨o, e⟩) ⟨⟨_, Heap.get?_push_size _ rfl, rfl, rfl⟩, hls.at fun o e => Heap.get?_push_of_some _ e⟩ (F.push _) (fun p hp => ⟨Heap.get?_push_of_some _ (N p hp).1, (N p hp).2⟩) hj ?_ ?_
  · rcases List.mem_cons.mp hb with e | hb
    · exact absurd e q
    · rw [List.mem_singleton.mp hb]
      exact ⟨ol, hol⟩
  · intro hm
    rcases List.mem_cons.mp hm with e | hm
    · exact absurd F.ns.lt (e ▸ Nat.lt_irrefl _)
    · exact absurd (Nat.lt_of_lt_of_le hlt F.above) ((List.mem_singleton.mp hm) ▸ Nat.lt_irrefl _)
  · intro i v m₁ nw h tk oI hi hP hJ ho F₁ N₁
    exact turn i v m₁ nw h tk _ oI (by simpa using hi) (by simpa using hP) hJ ho hlts F₁ N₁
  · intro m₁ nw h tk hJ F₁ N₁
    exact done m₁ nw h tk (by simpa using hJ) F₁ N₁

theorem for_range {r : Addr} {a₀ b₀ : Int} {t₀ u₀ v₀ : Tok} {n : Nat} {m₀ : Str → Option Value} {news : List (Addr × Obj)} (J : Nat → (Str → Option Value) → List (Addr × Obj) → Prop)
    (hh : A.handled = none) (hr : IsRange s.heap r a₀ b₀ 1 t₀ u₀ v₀) (hsmall : Builtin.Range.small a₀ b₀ 1 = true) (hn : Builtin.Range.rangeSize a₀ b₀ 1 = (n : Int)) (F : Fr h₀ env.locals s.heap m₀) (N : News h₀ env.locals s.heap news) (hj : J 0 m₀ news)
    (turn : ∀ i v m₁ nw h tk I oI, i < n → J i m₁ nw → (∀ p ∈ nw, p.1 ≠ I) → (∀ p ∈ news, p.1 < I) → Fr h₀ env.locals h (fun y => if y = x then some v else m₁ y) → News h₀ env.locals h ((I, oI) :: nw) →
      wpAny (model prog w) A (execs body env) (LPost h₀ env.locals (J (i + 1)) I oI { s with heap := h, toks := tk } Q) E { s with heap := h, toks := tk })
    (done : ∀ m₁ nw h tk, J n m₁ nw → Fr h₀ env.locals h m₁ → News h₀ env.locals h nw → Q .next { s with heap := h, toks := tk }) :
    wpAny (model prog w) A (pyIter (.ref r)) (fun it s₂ => LoopAtV prog w A h₀ env x body Q E it s₂) E s := by
  have hlts : ∀ p ∈ news, p.1 < s.heap.objs.size := fun p hp => Heap.lt_size (N p hp).1
  refine wpAny_pyIter_range hr hsmall ?_
  have W : Walks prog w A s.heap.objs.size [s.heap.objs.size] [s.heap.objs.size] n (fun i v => i < n ∧ ∃ t, v = .int (a₀ + i * 1) t)
      (fun i h => IsRangeIter h s.heap.objs.size (a₀ + (i : Nat) * 1) ((n : Int) - (i : Nat)) 1) := (Walks.range hh _ a₀ 1 n).bound
  refine loop_my J W (List.mem_singleton.mpr rfl) (fun b hb q => absurd (List.mem_singleton.mp hb) q) ?_ (next_is_new F) (fun p hp => Nat.ne_of_lt (hlts p hp)) (fun i h st => ⟨_, st⟩) (by show IsRangeIter _ _ _ _ _; rw [hn]; simpa using Heap.get?_push_size _ rfl) (F.push _) (fun p hp => ⟨Heap.get?_push_of_some _ (N p hp).1, (N p hp).2⟩) hj ?_ ?_
  · intro hm
    exact absurd F.ns.lt ((List.mem_singleton.mp hm) ▸ Nat.lt_irrefl _)
  · intro i v m₁ nw h tk oI hi _ hJ ho F₁ N₁
    exact turn i v m₁ nw h tk _ oI hi hJ ho hlts F₁ N₁
  · intro m₁ nw h tk hJ F₁ N₁
    exact done m₁ nw h tk hJ F₁ N₁

theorem for_dict {d : Addr} {kvs : List (Str × Value)} {m₀ : Str → Option Value} {news : List (Addr × Obj)} (J : Nat → (Str → Option Value) → List (Addr × Obj) → Prop)
    (hh : A.handled = none) (lo : (d == sysModules) = false) (hl : h₀.DictOf (PySem.strKind prog w) d kvs) (F : Fr h₀ env.locals s.heap m₀) (N : News h₀ env.locals s.heap news) (hj : J 0 m₀ news)
    (turn : ∀ i k v t m₁ nw h tk I oI, i < kvs.length → kvs[i]? = some (k, v) → J i m₁ nw → (∀ p ∈ nw, p.1 ≠ I) → (∀ p ∈ news, p.1 < I) → Fr h₀ env.locals h (fun y => if y = x then some (.str k t) else m₁ y) → News h₀ env.locals h ((I, oI) :: nw) →
      wpAny (model prog w) A (execs body env) (LPost h₀ env.locals (J (i + 1)) I oI { s with heap := h, toks := tk } Q) E { s with heap := h, toks := tk })
    (done : ∀ m₁ nw h tk, J kvs.length m₁ nw → Fr h₀ env.locals h m₁ → News h₀ env.locals h nw → Q .next { s with heap := h, toks := tk }) :
    wpAny (model prog w) A (pyIter (.ref d)) (fun it s₂ => LoopAtV prog w A h₀ env x body Q E it s₂) E s := by
  obtain ⟨ep, hat⟩ := hl.dictAt
  have hats : s.heap.DictAt (PySem.strKind prog w) d kvs ep := hat.at' fun o e => F.keep d o e
  obtain ⟨od, _, hod, _⟩ := id hat
  have hlt : d < h₀.objs.size := Heap.lt_size hod
  have hne : d ≠ s.heap.objs.size := Nat.ne_of_lt (Nat.lt_trans (Nat.lt_of_lt_of_le hlt F.above) F.ns.lt)
  have hlts : ∀ p ∈ news, p.1 < s.heap.objs.size := fun p hp => Heap.lt_size (N p hp).1
  refine wpAny_pyIter_dict lo hats ?_
  have W := Walks.dictKeys (knd := PySem.strKind prog w) hh s.heap.objs.size d hne kvs ep
  refine loop_my J W List.mem_cons_self (fun b hb q => ?_) ?_ (next_is_new F) (fun p hp => Nat.ne_of_lt (hlts p hp)) (fun i h st => by obtain ⟨o, e, _⟩ := st.1; exact ⟨o, e⟩) ⟨⟨_, Heap.get?_push_size _ rfl, rfl, rfl⟩, hats.at' fun o e => Heap.get?_push_of_some _ e⟩ (F.push _) (fun p hp => ⟨Heap.get?_push_of_some _ (N p hp).1, (N p hp).2⟩) hj ?_ ?_
  · rcases List.mem_cons.mp hb with e | hb
    · exact absurd e q
    · rw [List.mem_singleton.mp hb]
      exact ⟨od, hod⟩
  · intro hm
    rcases List.mem_cons.mp hm with e | hm
    · exact absurd F.ns.lt (e ▸ Nat.lt_irrefl _)
    · exact absurd (Nat.lt_of_lt_of_le hlt F.above) ((List.mem_singleton.mp hm) ▸ Nat.lt_irrefl _)
  · rintro i v m₁ nw h tk oI hi ⟨k, x', hx, hk⟩ hJ ho F₁ N₁
    obtain ⟨t, rfl⟩ := Value.isStrOf_shape hk
    exact turn i k x' t m₁ nw h tk _ oI hi hx hJ ho hlts F₁ N₁
  · exact done
end
theorem map_again {m : Str → Option Value} {y : Str} {v : Value} (h : m y = some v) : m = fun z => if z = y then some v else m z := by
  funext z
  by_cases e : z = y
  · subst e; rw [if_pos rfl, h]
  · rw [if_neg e]
section
variable {prog : Program} {w : World} {A : Around} {E : Value → Shared → Prop} {s : Shared} {env : Env} {h₀ : Heap} {target : Expr} {body : List Stmt} {Q : Flow → Shared → Prop}
/-- a loop whose target is any, over a list of the ledger -/
theorem for_turns {ax : Addr} {vs : List Value} {c : Nat} {m₀ : Str → Option Value} {news : List (Addr × Obj)} (J : Nat → (Str → Option Value) → List (Addr × Obj) → Prop)
    (hh : A.handled = none) (F : Fr h₀ env.locals s.heap m₀) (N : News h₀ env.locals s.heap news) (hm : (ax, listOf vs.toArray c) ∈ news) (hj : J 0 m₀ news)
    (hk : ∀ i m nw, J i m nw → (ax, listOf vs.toArray c) ∈ nw)
    (turn : ∀ i v m₁ nw h tk I oI, i < vs.length → vs[i]? = some v → J i m₁ nw → (∀ p ∈ nw, p.1 ≠ I) → Fr h₀ env.locals h m₁ → News h₀ env.locals h ((I, oI) :: nw) →
      wpAny (model prog w) A (assign target env v) (fun _ s₂ => wpAny (model prog w) A (execs body env) (LPost h₀ env.locals (J (i + 1)) I oI { s with heap := h, toks := tk } Q) E s₂) E { s with heap := h, toks := tk })
    (done : ∀ m₁ nw h tk, J vs.length m₁ nw → Fr h₀ env.locals h m₁ → News h₀ env.locals h nw → Q .next { s with heap := h, toks := tk }) :
    wpAny (model prog w) A (pyIter (.ref ax)) (fun it s₂ => TurnsAt prog w A h₀ env target body Q E it s₂) E s := by
  refine iter_listTurns hh F N hm rfl rfl fun I hI => ?_
  have key : ∀ (r : List Value) (i : Nat) (m : Str → Option Value) (nw : List (Addr × Obj)), vs.drop i = r → i ≤ vs.length → J i m nw → (∀ p ∈ nw, p.1 ≠ I) →
      ItemsRest prog w A E h₀ env target body Q s [(I, "list_iterator")] [(ax, listOf vs.toArray c)] (r.map .val) m nw := by
    intro r
    induction r with
    | nil =>
      intro i m nw hd hi hJ off
      have : i = vs.length := by
        have := List.drop_eq_nil_iff.mp hd
        omega
      subst this
      exact ItemsRest.zero fun h tk F N => done m nw h tk hJ F N
    | cons v r ih =>
      intro i m nw hd hi hJ off
      have hlt : i < vs.length := by
        rcases Nat.lt_or_ge i vs.length with h | h
        · exact h
        · rw [List.drop_eq_nil_of_le h] at hd; cases hd
      rw [List.drop_eq_getElem_cons hlt] at hd
      injection hd with e1 e2
      refine ItemsRest.val fun h tk F₁ => AllObj.cons fun oI ho => AllObj.nil fun N₁ => ?_
      have hv : vs[i]? = some v := by rw [List.getElem?_eq_getElem hlt, e1]
      refine wpAny_mono (turn i v m nw h tk I oI hlt hv hJ off F₁ N₁) (fun _ s₂ h₂ => wpAny_mono h₂ (fun f s₃ p => ?_) fun _ _ e => e) fun _ _ e => e
      have fin : (∃ h' tk' m' nw', s₃ = ({ s with heap := h', toks := tk' } : Shared) ∧ Fr h₀ env.locals h' m' ∧ News h₀ env.locals h' ((I, oI) :: nw') ∧ (∀ p ∈ nw', p.1 ≠ I) ∧ J (i + 1) m' nw') →
          UnrEndW h₀ env.locals { s with heap := h, toks := tk } [(I, oI)] (fun m' n' => SubL [(ax, listOf vs.toArray c)] n' ∧ ItemsRest prog w A E h₀ env target body Q s [(I, "list_iterator")] [(ax, listOf vs.toArray c)] (r.map .val) m' n') s₃ := by
        rintro ⟨h', tk', m', nw', e, F', N', off', hJ'⟩
        refine ⟨h', tk', m', nw', e, F', N', fun p hp q hq => ?_, ⟨hk _ _ _ hJ', trivial⟩, ih (i + 1) m' nw' e2 hlt hJ' off'⟩
        rw [List.mem_singleton.mp hq]
        exact off' p hp
      cases f with
      | ret v => exact p
      | brk => exact p
      | next => exact fin p
      | cont => exact fin p
  exact key vs 0 m₀ news rfl (Nat.zero_le _) hj fun p hp => Nat.ne_of_lt (hI p hp)
/-- a loop whose target is any, over a tuple of the ledger -/
theorem for_turnsT {ax : Addr} {vs : List Value} {m₀ : Str → Option Value} {news : List (Addr × Obj)} (J : Nat → (Str → Option Value) → List (Addr × Obj) → Prop)
    (hh : A.handled = none) (F : Fr h₀ env.locals s.heap m₀) (N : News h₀ env.locals s.heap news) (hm : (ax, ({ cls := .type "tuple", data := .seq vs.toArray } : Obj)) ∈ news) (hj : J 0 m₀ news)
    (hk : ∀ i m nw, J i m nw → (ax, ({ cls := .type "tuple", data := .seq vs.toArray } : Obj)) ∈ nw)
    (turn : ∀ i v m₁ nw h tk I oI, i < vs.length → vs[i]? = some v → J i m₁ nw → (∀ p ∈ nw, p.1 ≠ I) → Fr h₀ env.locals h m₁ → News h₀ env.locals h ((I, oI) :: nw) →
      wpAny (model prog w) A (assign target env v) (fun _ s₂ => wpAny (model prog w) A (execs body env) (LPost h₀ env.locals (J (i + 1)) I oI { s with heap := h, toks := tk } Q) E s₂) E { s with heap := h, toks := tk })
    (done : ∀ m₁ nw h tk, J vs.length m₁ nw → Fr h₀ env.locals h m₁ → News h₀ env.locals h nw → Q .next { s with heap := h, toks := tk }) :
    wpAny (model prog w) A (pyIter (.ref ax)) (fun it s₂ => TurnsAt prog w A h₀ env target body Q E it s₂) E s := by
  refine iter_tupTurns hh F N hm rfl rfl fun I hI => ?_
  have key : ∀ (r : List Value) (i : Nat) (m : Str → Option Value) (nw : List (Addr × Obj)), vs.drop i = r → i ≤ vs.length → J i m nw → (∀ p ∈ nw, p.1 ≠ I) →
      ItemsRest prog w A E h₀ env target body Q s [(I, "tuple_iterator")] [(ax, ({ cls := .type "tuple", data := .seq vs.toArray } : Obj))] (r.map .val) m nw := by
    intro r
    induction r with
    | nil =>
      intro i m nw hd hi hJ off
      have : i = vs.length := by
        have := List.drop_eq_nil_iff.mp hd
        omega
      subst this
      exact ItemsRest.zero fun h tk F N => done m nw h tk hJ F N
    | cons v r ih =>
      intro i m nw hd hi hJ off
      have hlt : i < vs.length := by
        rcases Nat.lt_or_ge i vs.length with h | h
        · exact h
        · rw [List.drop_eq_nil_of_le h] at hd; cases hd
      rw [List.drop_eq_getElem_cons hlt] at hd
      injection hd with e1 e2
      refine ItemsRest.val fun h tk F₁ => AllObj.cons fun oI ho => AllObj.nil fun N₁ => ?_
      have hv : vs[i]? = some v := by rw [List.getElem?_eq_getElem hlt, e1]
      refine wpAny_mono (turn i v m nw h tk I oI hlt hv hJ off F₁ N₁) (fun _ s₂ h₂ => wpAny_mono h₂ (fun f s₃ p => ?_) fun _ _ e => e) fun _ _ e => e
      have fin : (∃ h' tk' m' nw', s₃ = ({ s with heap := h', toks := tk' } : Shared) ∧ Fr h₀ env.locals h' m' ∧ News h₀ env.locals h' ((I, oI) :: nw') ∧ (∀ p ∈ nw', p.1 ≠ I) ∧ J (i + 1) m' nw') →
          UnrEndW h₀ env.locals { s with heap := h, toks := tk } [(I, oI)] (fun m' n' => SubL [(ax, ({ cls := .type "tuple", data := .seq vs.toArray } : Obj))] n' ∧ ItemsRest prog w A E h₀ env target body Q s [(I, "tuple_iterator")] [(ax, ({ cls := .type "tuple", data := .seq vs.toArray } : Obj))] (r.map .val) m' n') s₃ := by
        rintro ⟨h', tk', m', nw', e, F', N', off', hJ'⟩
        refine ⟨h', tk', m', nw', e, F', N', fun p hp q hq => ?_, ⟨hk _ _ _ hJ', trivial⟩, ih (i + 1) m' nw' e2 hlt hJ' off'⟩
        rw [List.mem_singleton.mp hq]
        exact off' p hp
      cases f with
      | ret v => exact p
      | brk => exact p
      | next => exact fin p
      | cont => exact fin p
  exact key vs 0 m₀ news rfl (Nat.zero_le _) hj fun p hp => Nat.ne_of_lt (hI p hp)
end
theorem wKR0 : True := by k_with_none; w_top off; (k_with "k_ne" => (refine neN ?_; (try dsimp only); first | with_reducible assumption | with_reducible exact Ne.symm (by assumption) | fail)); trivial
/-! reading what stands in the ground -/
section
variable {prog : Program} {w : World} {A : Around} {E : Value → Shared → Prop} {s : Shared} {g : Heap} {L : Addr} {m : Str → Option Value} {all nx : List (Addr × Obj)} {Q : Value → Shared → Prop}

theorem inst_g {x C dx : Addr} {od : Obj} {h : Heap} (F : Fr g L h m) (G : ∀ p ∈ nx, g.get? p.1 = some p.2) (h1 : (x, instObj C dx) ∈ nx) (h2 : (dx, od) ∈ nx) : W.InstAt h x (instObj C dx) C (some od) :=
  ⟨F.keep _ _ (G _ h1), rfl, rfl, F.keep _ _ (G _ h2)⟩
theorem list_g {h : Heap} {l : Addr} {vs : List Value} {k : Nat} (F : Fr g L h m) (G : ∀ p ∈ nx, g.get? p.1 = some p.2) (hl : (l, listOf vs.toArray k) ∈ nx) : h.IsList l vs.toArray := ⟨_, F.keep _ _ (G _ hl), rfl, _, rfl⟩
theorem list_gg {l : Addr} {vs : List Value} {k : Nat} (G : ∀ p ∈ nx, g.get? p.1 = some p.2) (hl : (l, listOf vs.toArray k) ∈ nx) : g.IsList l vs.toArray := ⟨_, G _ hl, rfl, _, rfl⟩

theorem ne_nil {l b : Addr} {vs : List Value} (hl : s.heap.IsList l vs.toArray) (hb : s.heap.IsList b #[]) (hu : A.units < cLine) (h : Q (.bool (!vs.isEmpty)) s) : wpAny (model prog w) A (compareOp .NotEq (.ref l) (.ref b)) Q E s := by
  show wpAny (model prog w) A (richCompare .NotEq (.ref l) (.ref b)) Q E s
  cases vs with
  | nil =>
    have := SeqAt.RcNeAt.lists (A := A) (e := fun _ => true) hl hb rfl hu (fun j h1 => absurd h1 (by simp))
    exact this prog w E Q (by simpa using h)
  | cons v r =>
    have := SeqAt.RcNeAt.lists_lengths (A := A) hl hb (by simp) hu
    exact this prog w E Q (by simpa using h)

/-- isinstance(v, Name) -/
def isNm : Opd → Bool
  | .nm _ => true
  | _ => false
set_option maxRecDepth 100000 in
theorem isi_opd {v : Value} {d : Opd} (X : (Mine.hd.heap_1 w.params).In g) (F : Fr g L s.heap m) (G : ∀ p ∈ nx, g.get? p.1 = some p.2) (hv : OpdIn prog w nx v d)
    (h : ∀ tk, Q (.bool (isNm d)) { s with toks := tk }) : wpAny (model prog w) A (call (.builtin "isinstance") [v, .ref 171]) Q E s := by
  have Xs := X.keeps F.keep
  cases hv with
  | nm a b => exact isi_call Xs (fun M => W.InstAt.type (inst_g F G a b)) (by k_is) (fun e => by cases e) (h s.toks)
  | int i t => exact isn_call (P := fun _ => True) Xs (fun M => Looks.of_pure rfl) (by k_not) (fun e => by cases e) trivial int_cls (h _)
  | @dct a o ho hd =>
    have hc : o.cls = .type "dict" := by obtain ⟨es, ep, hx, _⟩ := hd; exact hx.1
    have hg := F.keep _ _ (G _ ho)
    exact isn_call (P := fun hp => ∃ o, hp.get? a = some o ∧ o.cls = .type "dict") Xs (fun M => by rw [← hc]; exact (Looks.ld (part := none) hg).andThen Looks.now) (by k_not) (fun e => by cases e) ⟨o, hg, hc⟩ dict_cls (h _)

/-- an item from the front, an item from behind -/
theorem item_first {value slice : PySem.Expr} {l : Addr} {v : Value} {r : List Value} {u : Tok} (hl : s.heap.IsList l (v :: r).toArray) (h : Q v s)
    (hs : subscripted slice false (.ref l) (.int 0 u) = operate [.ref l, .int 0 u] (getItem (.ref l) (.int 0 u)) := by with_unfolding_all rfl) :
    wpAny (model prog w) A (subscriptTail value slice (.ref l) (.int 0 u)) Q E s :=
  tail_any hl.typeIs slot_list_getitem.lookup (wpAny_getItem_list hl (by decide) (by decide) (by simp) h) hs
theorem item_last {value slice : PySem.Expr} {l : Addr} {vs : List Value} {v : Value} {u : Tok} (hl : s.heap.IsList l vs.toArray) (hv : vs.getLast? = some v) (h : Q v s)
    (hs : subscripted slice false (.ref l) (.int (-1) u) = operate [.ref l, .int (-1) u] (getItem (.ref l) (.int (-1) u)) := by with_unfolding_all rfl) :
    wpAny (model prog w) A (subscriptTail value slice (.ref l) (.int (-1) u)) Q E s := by
  have hne : vs ≠ [] := by rintro rfl; simp at hv
  have hlen : 0 < vs.length := List.length_pos_iff.mpr hne
  refine tail_any hl.typeIs slot_list_getitem.lookup (wpAny_getItem_list_neg hl (by decide) (by rw [List.size_toArray]; omega) (by decide) ?_ h) hs
  rw [List.size_toArray]
  have e : ((-1 : Int) + (vs.length : Int)).toNat = vs.length - 1 := by omega
  rw [e]
  rw [List.getLast?_eq_getElem?] at hv
  simpa using hv
end
/-- a written table of texts -/
inductive StrTab : List (Str × Value) → List (Str × Str) → Prop
  | nil : StrTab [] []
  | cons {k x : Str} {t : Tok} {kvs : List (Str × Value)} {l : List (Str × Str)} : StrTab kvs l → StrTab ((k, .str x t) :: kvs) ((k, x) :: l)
theorem StrTab.at {kvs : List (Str × Value)} {l : List (Str × Str)} (h : StrTab kvs l) (k : Str) : (valueAt kvs k = none ∧ l.lookup k = none) ∨ ∃ x t, valueAt kvs k = some (.str x t) ∧ l.lookup k = some x := by
  induction h with
  | nil => exact .inl ⟨rfl, rfl⟩
  | @cons k' x t kvs l _ ih =>
    by_cases e : k' = k
    · subst e
      exact .inr ⟨x, t, by simp [valueAt], by simp⟩
    · have e' : (k == k') = false := by simpa using fun q => e q.symm
      simp only [valueAt, List.find?_cons, e, decide_false, List.lookup_cons, e']
      simpa [valueAt] using ih
section
variable {prog : Program} {w : World} {A : Around} {E : Value → Shared → Prop} {s : Shared} {g : Heap} {L : Addr} {m : Str → Option Value} {news : List (Addr × Obj)} {Q : Value → Shared → Prop}
theorem sorted_my {l : Addr} {vs : List Value} {ss : List Str} {k : Nat} (F : Fr g L s.heap m) (N : News g L s.heap news) (hm : (l, listOf vs.toArray k) ∈ news) (hS : StrsAre vs ss) (h64 : vs.length < 64)
    (h : ∀ D h' (vs' : List Value) (ss' : List Str) (e : Nat), Fr g L h' m → News g L h' ((D, listOf vs'.toArray e) :: news) → (∀ p ∈ news, p.1 < D) → StrsAre vs' ss' → ss'.Perm ss → sortedS ss' = true → Q (.ref D) { s with heap := h' }) :
    wpAny (model prog w) A (call (.builtin "sorted") [.ref l]) Q E s :=
  sorted_N_str F N (News.isList N hm) hS h64 fun h' vs' ss' e F' N' a b c => h _ h' vs' ss' e F' N' (fun p hp => Nat.lt_succ_of_lt (Heap.lt_size (N p hp).1)) a b c
theorem add_my {a b : Addr} {vs ws : List Value} {i j : Nat} (F : Fr g L s.heap m) (N : News g L s.heap news) (ha : (a, listOf vs.toArray i) ∈ news) (hb : (b, listOf ws.toArray j) ∈ news) (hz : vs.length + ws.length ≤ 16777216)
    (h : ∀ D h', Fr g L h' m → News g L h' ((D, listOf (vs ++ ws).toArray 0) :: news) → (∀ p ∈ news, p.1 < D) → Q (.ref D) { s with heap := h' }) : wpAny (model prog w) A (binaryOp .Add (.ref a) (.ref b)) Q E s :=
  kmk_add_lit F N (News.isList N ha) (News.isList N hb) rfl h (by rw [PySem.sizeLine_eq]; exact hz)
theorem strs_one (x : Str) (t : Tok) : StrsAre [.str x t] [x] := .cons x t .nil
end
theorem wPL0 : True := by k_with_none; w_top off; (k_with "k_ne" => (refine neN ?_; (try dsimp only); first | with_reducible assumption | with_reducible exact Ne.symm (by assumption) | fail)); trivial
/-! plain: risen lists of texts -/
theorem rising_pw : ∀ (l : List Str) (p : Str), risingS p l = true → (p :: l).Pairwise (fun a b => a.cps.toList ≤ b.cps.toList)
  | [], p, _ => List.pairwise_singleton _ _
  | x :: r, p, h => by
    simp only [risingS, Bool.and_eq_true, Bool.not_eq_true', ltCps_eq, decide_eq_false_iff_not] at h
    have ih := rising_pw r x h.2
    have hpx : p.cps.toList ≤ x.cps.toList := h.1
    refine List.pairwise_cons.mpr ⟨fun y hy => ?_, ih⟩
    rcases List.mem_cons.mp hy with rfl | hy
    · exact hpx
    · exact List.le_trans hpx (List.rel_of_pairwise_cons ih hy)
theorem sorted_pw {l : List Str} (h : sortedS l = true) : l.Pairwise (fun a b => a.cps.toList ≤ b.cps.toList) := by
  cases l with
  | nil => exact .nil
  | cons x r => exact rising_pw r x h
theorem str_antisymm {a b : Str} (h1 : a.cps.toList ≤ b.cps.toList) (h2 : b.cps.toList ≤ a.cps.toList) : a = b := by
  have := List.le_antisymm h1 h2
  cases a; cases b
  simp only at this
  congr
  exact Array.toList_inj.mp this
theorem risen_eq {l₁ l₂ : List Str} (h1 : sortedS l₁ = true) (h2 : sortedS l₂ = true) (n1 : l₁.Nodup) (n2 : l₂.Nodup) (h : ∀ t, t ∈ l₁ ↔ t ∈ l₂) : l₁ = l₂ :=
  List.Perm.eq_of_pairwise (fun _ _ _ _ a b => str_antisymm a b) (sorted_pw h1) (sorted_pw h2) ((List.perm_ext_iff_of_nodup n1 n2).mpr h)

/-- what a dict of lists of texts holds -/
structure FoundIn (nx : List (Addr × Obj)) (kvs : List (Str × Value)) (U : Str → Str → Prop) : Prop where
  item : ∀ k v, valueAt kvs k = some v → ∃ l vs c ss, v = .ref l ∧ (l, listOf vs.toArray c) ∈ nx ∧ StrsAre vs ss ∧ ss.Nodup ∧ sortedS ss = true ∧ (∀ t, t ∈ ss ↔ U k t)
  key : ∀ k, (valueAt kvs k).isSome = true ↔ ∃ t, U k t
theorem valueAt_stored (kvs : List (Str × Value)) (k : Str) (v : Value) (x : Str) : valueAt (stored kvs k v) x = if x = k then some v else valueAt kvs x := by
  unfold stored
  by_cases ha : kvs.any (fun kv => decide (kv.1 = k)) = true
  · rw [if_pos ha]
    unfold valueAt
    rw [List.find?_map]
    by_cases hx : x = k
    · subst hx
      rw [if_pos rfl]
      rw [List.any_eq_true] at ha
      obtain ⟨p, hp, hk⟩ := ha
      have hk' : p.1 = x := by simpa using hk
      have hf : (kvs.find? ((fun kv => decide (kv.1 = x)) ∘ fun kv => if kv.1 = x then (kv.1, v) else kv)).isSome = true := by
        rw [List.find?_isSome]
        exact ⟨p, hp, by simp [hk']⟩
      obtain ⟨q, hq⟩ := Option.isSome_iff_exists.mp hf
      rw [hq]
      have := List.find?_some hq
      simp only [Function.comp, decide_eq_true_eq] at this
      by_cases e : q.1 = x
      · simp [e]
      · rw [if_neg e] at this; exact absurd this e
    · rw [if_neg hx]
      have hfun : ((fun kv : Str × Value => decide (kv.1 = x)) ∘ fun kv => if kv.1 = k then (kv.1, v) else kv) = fun kv => decide (kv.1 = x) := by
        funext kv
        by_cases e : kv.1 = k <;> simp [Function.comp, e]
      rw [hfun]
      cases hf : kvs.find? (fun kv => decide (kv.1 = x)) with
      | none => rfl
      | some q =>
        have := List.find?_some hf
        simp only [decide_eq_true_eq] at this
        have e : ¬ q.1 = k := fun e => hx (this ▸ e)
        simp [e]
  · rw [if_neg ha]
    unfold valueAt
    rw [List.find?_append]
    have hn : ∀ p ∈ kvs, ¬ p.1 = k := by
      intro p hp e
      exact ha (List.any_eq_true.mpr ⟨p, hp, by simp [e]⟩)
    by_cases hx : x = k
    · subst hx
      rw [if_pos rfl]
      have : kvs.find? (fun kv => decide (kv.1 = x)) = none := List.find?_eq_none.mpr fun p hp => by simpa using hn p hp
      rw [this]
      simp
    · rw [if_neg hx]
      have e : ¬ k = x := fun q => hx q.symm
      simp [e]
theorem stored_len (kvs : List (Str × Value)) (k : Str) (v : Value) : (stored kvs k v).length ≤ kvs.length + 1 := by
  unfold stored
  split <;> simp
theorem FoundIn.empty (nx : List (Addr × Obj)) {U : Str → Str → Prop} (h : ∀ k t, ¬ U k t) : FoundIn nx [] U :=
  ⟨fun _ _ e => (nomatch e), fun k => ⟨fun e => (nomatch e), fun ⟨t, ht⟩ => absurd ht (h k t)⟩⟩
theorem FoundIn.mono {nx nx' : List (Addr × Obj)} {kvs : List (Str × Value)} {U U' : Str → Str → Prop} (h : FoundIn nx kvs U) (hs : ∀ p ∈ nx, p ∈ nx') (e : ∀ k t, U k t ↔ U' k t) : FoundIn nx' kvs U' := by
  refine ⟨fun k v q => ?_, fun k => ?_⟩
  · obtain ⟨l, vs, c, ss, a, b, c', d, f, g⟩ := h.item k v q
    exact ⟨l, vs, c, ss, a, hs _ b, c', d, f, fun t => (g t).trans (e k t)⟩
  · exact (h.key k).trans ⟨fun ⟨t, ht⟩ => ⟨t, (e k t).mp ht⟩, fun ⟨t, ht⟩ => ⟨t, (e k t).mpr ht⟩⟩
/-- one entry written anew -/
theorem FoundIn.put {nx nx' : List (Addr × Obj)} {kvs : List (Str × Value)} {U U' : Str → Str → Prop} {key : Str} {l : Addr} {vs : List Value} {c : Nat} {ss : List Str}
    (h : FoundIn nx kvs U) (hs : ∀ p ∈ nx, p ∈ nx') (hl : (l, listOf vs.toArray c) ∈ nx') (hv : StrsAre vs ss) (hn : ss.Nodup) (hr : sortedS ss = true) (hne : ss ≠ [])
    (h1 : ∀ t, t ∈ ss ↔ U' key t) (h2 : ∀ k t, k ≠ key → (U k t ↔ U' k t)) : FoundIn nx' (stored kvs key (.ref l)) U' := by
  refine ⟨fun k v q => ?_, fun k => ?_⟩
  · rw [valueAt_stored] at q
    by_cases e : k = key
    · subst e
      rw [if_pos rfl] at q
      cases q
      exact ⟨l, vs, c, ss, rfl, hl, hv, hn, hr, h1⟩
    · rw [if_neg e] at q
      obtain ⟨l, vs, c, ss, a, b, c', d, f, g⟩ := h.item k v q
      exact ⟨l, vs, c, ss, a, hs _ b, c', d, f, fun t => (g t).trans (h2 k t e)⟩
  · rw [valueAt_stored]
    by_cases e : k = key
    · subst e
      rw [if_pos rfl]
      obtain ⟨t, ht⟩ := List.exists_mem_of_ne_nil ss hne
      exact ⟨fun _ => ⟨t, (h1 t).mp ht⟩, fun _ => rfl⟩
    · rw [if_neg e]
      exact (h.key k).trans ⟨fun ⟨t, ht⟩ => ⟨t, (h2 k t e).mp ht⟩, fun ⟨t, ht⟩ => ⟨t, (h2 k t e).mpr ht⟩⟩
/-- the list with one text put in: what the program sorts -/
theorem put_list {ss ss' : List Str} {t : Str} (hn : ss.Nodup) (hp : ss'.Perm (ss.filter (fun x => x != t) ++ [t])) : ss'.Nodup ∧ ss' ≠ [] ∧ ∀ x, x ∈ ss' ↔ x ∈ ss ∨ x = t := by
  refine ⟨hp.nodup_iff.mpr ?_, ?_, fun x => ?_⟩
  · rw [List.nodup_append]
    refine ⟨hn.filter _, by simp, ?_⟩
    intro a ha b hb e
    simp only [List.mem_singleton] at hb
    subst hb; subst e
    simp at ha
  · rintro rfl
    have := hp.length_eq
    simp at this
  · rw [hp.mem_iff]
    simp only [List.mem_append, List.mem_filter, List.mem_singleton, bne_iff_ne, ne_eq]
    by_cases e : x = t <;> simp [e]
theorem nodup_len {α : Type} [DecidableEq α] : ∀ {l l' : List α}, l.Nodup → (∀ x ∈ l, x ∈ l') → l.length ≤ l'.length
  | [], _, _, _ => Nat.zero_le _
  | a :: r, l', h, hs => by
    have ha : a ∈ l' := hs a (.head _)
    have hr := List.nodup_cons.mp h
    have ih := nodup_len (l' := l'.erase a) hr.2 (fun x hx => (List.mem_erase_of_ne (by rintro rfl; exact hr.1 hx)).mpr (hs x (.tail _ hx)))
    rw [List.length_erase_of_mem ha] at ih
    have := List.length_pos_of_mem ha
    simp only [List.length_cons]
    omega
theorem filter_snoc {ss : List Str} {i : Nat} {t x : Str} (h : ss[i]? = some x) : (ss.take (i + 1)).filter (fun y => y != t) = (ss.take i).filter (fun y => y != t) ++ (if (x != t) = true then [x] else []) := by
  rw [List.take_add_one, h, List.filter_append]
  by_cases e : (x != t) = true
  · simp [e]
  · simp only [Bool.not_eq_true] at e; simp [e]
theorem strs_item {vs : List Value} {ss : List Str} (h : StrsAre vs ss) {i : Nat} {v : Value} (hv : vs[i]? = some v) : ∃ y t, v = .str y t ∧ ss[i]? = some y := StrsAre.item h i v hv
theorem strs_snoc {vs : List Value} {ss : List Str} (h : StrsAre vs ss) (x : Str) (t : Tok) : StrsAre (vs ++ [.str x t]) (ss ++ [x]) := strsAre_append h (.cons x t .nil)
theorem wUN0 : True := by k_with_none; w_top off; (k_with "k_ne" => (refine neN ?_; (try dsimp only); first | with_reducible assumption | with_reducible exact Ne.symm (by assumption) | fail)); trivial
/-! used_names -/
def sortsL : List (Str × Str) := [(Str.ofString "Tf", Str.ofString "Font"), (Str.ofString "Do", Str.ofString "XObject"), (Str.ofString "gs", Str.ofString "ExtGState"), (Str.ofString "sh", Str.ofString "Shading"), (Str.ofString "CS", Str.ofString "ColorSpace"), (Str.ofString "cs", Str.ofString "ColorSpace")]
def spotsL : List (Str × Str) := [(Str.ofString "SCN", Str.ofString "Pattern"), (Str.ofString "scn", Str.ofString "Pattern"), (Str.ofString "BDC", Str.ofString "Properties"), (Str.ofString "DP", Str.ofString "Properties")]
/-- the sort and the name that an operation uses -/
def useOf (op : Op) : Option (Str × Str) :=
  match sortsL.lookup op.word with
  | some key => (match op.opds.head? with | some (.nm t) => some (key, t) | _ => none)
  | none => (match spotsL.lookup op.word with
    | some key => (match op.opds.getLast? with | some (.nm t) => some (key, t) | _ => none)
    | none => none)
def Used (ops : List Op) (key t : Str) : Prop := ∃ op ∈ ops, useOf op = some (key, t)
inductive OpsAll (prog : Program) (w : World) (nx : List (Addr × Obj)) : List Value → List Op → Prop
  | nil : OpsAll prog w nx [] []
  | cons {v : Value} {d : Op} {vs : List Value} {ds : List Op} : OpIn prog w nx v d → OpsAll prog w nx vs ds → OpsAll prog w nx (v :: vs) (d :: ds)
theorem OpsAll.len {prog : Program} {w : World} {nx : List (Addr × Obj)} {vs : List Value} {ds : List Op} (h : OpsAll prog w nx vs ds) : vs.length = ds.length := by
  induction h with
  | nil => rfl
  | cons _ _ ih => simp [ih]
theorem OpsAll.at {prog : Program} {w : World} {nx : List (Addr × Obj)} {vs : List Value} {ds : List Op} (h : OpsAll prog w nx vs ds) : ∀ {i : Nat} {v : Value}, vs[i]? = some v → ∃ d, ds[i]? = some d ∧ OpIn prog w nx v d := by
  induction h with
  | nil => intro i v e; simp at e
  | cons a _ ih =>
    intro i v e
    cases i with
    | zero => simp only [List.getElem?_cons_zero, Option.some.injEq] at e; subst e; exact ⟨_, rfl, a⟩
    | succ i => simp only [List.getElem?_cons_succ] at e ⊢; exact ih e
theorem Used.next {ops : List Op} {i : Nat} {op : Op} (h : ops[i]? = some op) (k t : Str) : Used (ops.take (i + 1)) k t ↔ Used (ops.take i) k t ∨ useOf op = some (k, t) := by
  unfold Used
  rw [List.take_add_one, h]
  simp only [Option.toList_some, List.mem_append, List.mem_singleton]
  constructor
  · rintro ⟨o, h1 | rfl, h2⟩
    · exact .inl ⟨o, h1, h2⟩
    · exact .inr h2
  · rintro (⟨o, h1, h2⟩ | h2)
    · exact ⟨o, .inl h1, h2⟩
    · exact ⟨op, .inr rfl, h2⟩
/-- the loop of used_names between its turns -/
structure UJ (prog : Program) (w : World) (ops : List Op) (fd pd sd cc : Addr) (o1 o2 : Obj) (i : Nat) (m : Str → Option Value) (nw : List (Addr × Obj)) : Prop where
  out : ∃ fo oc cv kvs nx', nw = (fd, fo) :: (pd, o1) :: (sd, o2) :: (cc, oc) :: nx' ∧ fo.IsDictOf (PySem.strKind prog w) kvs ∧ oc.data = .cell cv ∧ kvs.length ≤ i ∧ FoundIn nx' kvs (Used (ops.take i)) ∧ (∀ p ∈ nx', p.1 ≠ fd) ∧ (∀ p ∈ nx', p.1 ≠ cc)
  found : m (Str.ofString "found") = some (.ref fd)
  spots : m (Str.ofString "spots") = some (.ref pd)
  sorts : m (Str.ofString "sorts") = some (.ref sd)

section
variable {prog : Program} {w : World} {mean : ExcName → Option Value} {mg mb : Str → Option Value} {A : Around} {s : Shared} {h₀ : Heap} {nx : List (Addr × Obj)} {Q E : Value → Shared → Prop}
theorem For_my {env : Env} {x : Str} {body : List Stmt} {Q : Flow → Shared → Prop} {px pos : Pos} {iter : Expr} {m : Str → Option Value} {g : Heap} (F : Fr g env.locals s.heap m) (hx : env.kindOf x = some .local)
    (hp : (env.scope.kind == .class || (env.scope.kind == .module && env.locals != env.globals)) = false)
    (h : wpAny (model prog w) A (eval iter env) (fun xv s₁ => wpAny (model prog w) A (pyIter xv) (fun it s₂ => LoopAtV prog w A g env x body Q (fun _ _ => False) it s₂) (fun _ _ => False) s₁) (fun _ _ => False) s)
    (hs : ∀ x, foldedSetIterable iter env x = pure x := by intro _; rfl) :
    wpAny (model prog w) A (exec (.For (.Name x px) iter body [] pos) env) Q (fun _ _ => False) s := For_invV g hx hp h hs PassesOwn.never
theorem wUN1 : True := by (k_with "exec For" => (k_here; (with_reducible show wpAny _ _ (exec (Stmt.For (Expr.Name _ _) _ _ [] _) _) _ _ _); (rename Fr _ _ _ _ => F'₉); with_unfolding_all refine For_my F'₉ (by rfl) (by rfl) ?_)); trivial
theorem un_loop {env : Env} {body : List Stmt} {Q : Flow → Shared → Prop} {E : Value → Shared → Prop} {m : Str → Option Value} {g : Heap} {l fd pd sd cc : Addr} {fo o1 o2 oc : Obj} {cv : Option Value} {vs : List Value} {ops : List Op} {c : Nat} {kS kP : List (Str × Value)}
    (hh : A.handled = none) (G : ∀ p ∈ nx, g.get? p.1 = some p.2) (hl : (l, listOf vs.toArray c) ∈ nx) (ho : OpsAll prog w nx vs ops)
    (F : Fr g env.locals s.heap m) (N : News g env.locals s.heap [(fd, fo), (pd, o1), (sd, o2), (cc, oc)])
    (hf : fo.IsDictOf (PySem.strKind prog w) []) (hP : o1.IsDictOf (PySem.strKind prog w) kP) (hS : o2.IsDictOf (PySem.strKind prog w) kS) (hc : oc.data = .cell cv) (tS : StrTab kS sortsL) (tP : StrTab kP spotsL)
    (lf : (fd == sysModules) = false) (lp : (pd == sysModules) = false) (ls : (sd == sysModules) = false)
    (m1 : m (Str.ofString "found") = some (.ref fd)) (m2 : m (Str.ofString "spots") = some (.ref pd)) (m3 : m (Str.ofString "sorts") = some (.ref sd))
    (n1 : @Ne Nat fd cc) (n2 : @Ne Nat pd cc) (n3 : @Ne Nat sd cc) (n4 : @Ne Nat pd fd) (n5 : @Ne Nat sd fd)
    (turn : ∀ i v op (m₁ : Str → Option Value) fd pd sd fo o1 o2 oc cv kS kP kvs nx' h tk I oI, ops[i]? = some op → OpIn prog w nx v op → (fd == sysModules) = false → (pd == sysModules) = false → (sd == sysModules) = false →
      fo.IsDictOf (PySem.strKind prog w) kvs → o1.IsDictOf (PySem.strKind prog w) kP → o2.IsDictOf (PySem.strKind prog w) kS → StrTab kS sortsL → StrTab kP spotsL → oc.data = .cell cv → kvs.length ≤ i → i < ops.length → FoundIn nx' kvs (Used (ops.take i)) →
      (∀ p ∈ nx', p.1 ≠ fd) → (∀ p ∈ nx', p.1 ≠ cc) → (∀ p ∈ nx', p.1 ≠ I) → @Ne Nat fd cc → @Ne Nat pd cc → @Ne Nat sd cc → @Ne Nat pd fd → @Ne Nat sd fd → @Ne Nat fd I → @Ne Nat pd I → @Ne Nat sd I → @Ne Nat cc I →
      Fr g env.locals h (fun y => if y = Str.ofString "operation" then some v else if y = Str.ofString "found" then some (.ref fd) else if y = Str.ofString "spots" then some (.ref pd) else if y = Str.ofString "sorts" then some (.ref sd) else m₁ y) →
      News g env.locals h ((I, oI) :: (fd, fo) :: (pd, o1) :: (sd, o2) :: (cc, oc) :: nx') →
      wpAny (model prog w) A (execs body env) (LPost g env.locals (UJ prog w ops fd pd sd cc o1 o2 (i + 1)) I oI { s with heap := h, toks := tk } Q) E { s with heap := h, toks := tk })
    (done : ∀ m₁ fo oc kvs nx' h tk, Fr g env.locals h m₁ → m₁ (Str.ofString "found") = some (.ref fd) → News g env.locals h ((fd, fo) :: (pd, o1) :: (sd, o2) :: (cc, oc) :: nx') → fo.IsDictOf (PySem.strKind prog w) kvs → FoundIn nx' kvs (Used ops) → Q .next { s with heap := h, toks := tk }) :
    wpAny (model prog w) A (pyIter (.ref l)) (fun it s₂ => LoopAtV prog w A g env (Str.ofString "operation") body Q E it s₂) E s := by
  refine for_list (UJ prog w ops fd pd sd cc o1 o2) hh (list_gg G hl) F N ⟨⟨fo, oc, cv, [], [], rfl, hf, hc, Nat.le_refl _, FoundIn.empty _ (fun k t ⟨o, ho, _⟩ => by simp at ho), fun _ h => (nomatch h), fun _ h => (nomatch h)⟩, m1, m2, m3⟩ ?_ ?_
  · rintro i v m₁ nw h tk I oI hi hv ⟨⟨fo', oc', cv', kvs', nx', rfl, hf', hc', hk', hF', ha, hb⟩, e1, e2, e3⟩ off _ F₁ N₁
    obtain ⟨op, hop, hin⟩ := ho.at hv
    simp only [List.mem_cons, forall_eq_or_imp] at off
    obtain ⟨f1, f2, f3, f4, f5⟩ := off
    refine turn i v op m₁ fd pd sd fo' o1 o2 oc' cv' kS kP kvs' nx' h tk I oI hop hin lf lp ls hf' hP hS tS tP hc' hk' (ho.len ▸ hi) hF' ha hb f5 n1 n2 n3 n4 n5 f1 f2 f3 f4 ?_ N₁
    have em : m₁ = fun y => if y = Str.ofString "found" then some (.ref fd) else if y = Str.ofString "spots" then some (.ref pd) else if y = Str.ofString "sorts" then some (.ref sd) else m₁ y := by
      funext y
      repeat' split
      all_goals first | rfl | (subst_vars; assumption)
    have F₂ := F₁
    rw [em] at F₂
    exact F₂
  · rintro m₁ nw h tk ⟨⟨fo', oc', cv', kvs', nx', rfl, hf', hc', hk', hF', ha, hb⟩, e1, e2, e3⟩ F₁ N₁
    refine done m₁ fo' oc' kvs' nx' h tk F₁ e1 N₁ hf' (hF'.mono (fun _ h => h) fun k t => ?_)
    rw [ho.len, List.take_length]
theorem wUN2 : True := by (k_with "k_inst" => (refine' inst_g (by k_asm) (by assumption) (by assumption) (by assumption))); trivial
theorem wUN3 : True := by (k_with "k_all" => (assumption)); trivial
theorem wUN4 : True := by (k_with "k_mem" => (assumption)); trivial
theorem wUN5 : True := by (k_with "compareOp In str ref" => (k_here; k_dflt (refine kda_in (by k_asm) (by k_mem) (by assumption) (by assumption) (strKind_is _ _ _ _) _ (by assumption) ?_))); trivial
theorem wUN6 : True := by (k_with "compareOp NotEq ref ref" => (k_here; (refine ne_nil (list_g (by k_asm) (by assumption) (by assumption)) (News.isList (by k_asm) (by k_mem)) (Rm.units (Rm.deeper (d := 7) (by assumption) _)) ?_); (try dsimp only [List.isEmpty, Bool.not]))); trivial
theorem wUN7 : True := by (k_with "call builtin:dict.get" => (k_here; k_dflt (first
  | refine kdg_get1 (by k_asm) (by k_mem) (by assumption) (by assumption) (strKind_is _ _ _ _) _ (by assumption) ?_
  | refine kdg_get2 (by k_asm) (by k_mem) (by assumption) (by assumption) (strKind_is _ _ _ _) _ (by assumption) ?_); (try dsimp only [Option.getD]))); trivial
theorem un_end {g h' : Heap} {L I fd pd sd cc : Addr} {fo o1 o2 oc oI : Obj} {cv : Option Value} {s₁ : Shared} {Q : Flow → Shared → Prop} {m' : Str → Option Value} {tk i : Nat} {kvs : List (Str × Value)} {nx' all : List (Addr × Obj)} {ops : List Op}
    (F : Fr g L h' m') (N : News g L h' all) (sub : ∀ p ∈ (I, oI) :: (fd, fo) :: (pd, o1) :: (sd, o2) :: (cc, oc) :: nx', p ∈ all)
    (hf : fo.IsDictOf (PySem.strKind prog w) kvs) (hc : oc.data = .cell cv) (hk : kvs.length ≤ i) (hF : FoundIn nx' kvs (Used (ops.take i)))
    (a1 : ∀ p ∈ nx', p.1 ≠ fd) (a2 : ∀ p ∈ nx', p.1 ≠ cc) (a3 : ∀ p ∈ nx', p.1 ≠ I) (n6 : @Ne Nat fd I) (n7 : @Ne Nat pd I) (n8 : @Ne Nat sd I) (n9 : @Ne Nat cc I)
    (m1 : m' (Str.ofString "found") = some (.ref fd)) (m2 : m' (Str.ofString "spots") = some (.ref pd)) (m3 : m' (Str.ofString "sorts") = some (.ref sd)) :
    LPost g L (UJ prog w ops fd pd sd cc o1 o2 i) I oI s₁ Q .next { s₁ with heap := h', toks := tk } := by
  refine LPost.next F N _ sub ?_ ⟨⟨fo, oc, cv, kvs, nx', rfl, hf, hc, hk, hF, a1, a2⟩, m1, m2, m3⟩
  intro p hp
  simp only [List.mem_cons] at hp
  rcases hp with rfl | rfl | rfl | rfl | hp
  · exact n6
  · exact n7
  · exact n8
  · exact n9
  · exact a3 p hp
theorem Used.none {nx : List (Addr × Obj)} {kvs : List (Str × Value)} {ops : List Op} {i : Nat} {op : Op} (hF : FoundIn nx kvs (Used (ops.take i))) (h : ops[i]? = some op) (hu : useOf op = none) : FoundIn nx kvs (Used (ops.take (i + 1))) :=
  hF.mono (fun _ h => h) fun k t => by rw [Used.next h, hu]; simp
theorem sorts_spots {wd key : Str} (h : sortsL.lookup wd = some key) : spotsL.lookup wd = none := by
  have hm : wd ∈ sortsL.map (·.1) := by
    rw [List.lookup_eq_some_iff] at h
    obtain ⟨l1, l2, e, _⟩ := h
    rw [e]; simp
  simp only [sortsL, List.map_cons, List.map_nil, List.mem_cons, List.not_mem_nil, or_false] at hm
  rcases hm with rfl | rfl | rfl | rfl | rfl | rfl <;> decide +kernel
theorem wUN8 : True := by (k_with "subscriptTail" => (k_here; (with_reducible show wpAny _ _ (subscriptTail _ _ (Value.ref _) (Value.int 0 _)) _ _ _); (with_unfolding_all refine' item_first (list_g (by k_asm) (by assumption) (by assumption)) ?_ ?_); (try (with_unfolding_all rfl)))); trivial
theorem wUN9 : True := by (k_with "subscriptTail" => (k_here; (with_reducible show wpAny _ _ (subscriptTail _ _ (Value.ref _) (Value.int (-1) _)) _ _ _); (with_unfolding_all refine' item_last (list_g (by k_asm) (by assumption) (by assumption)) (by assumption) ?_ ?_); (try (with_unfolding_all rfl)))); trivial
theorem wUN10 : True := by (k_with "eval ListComp" => (k_here; k_dflt (refine LCt.ListComp_T (F₀ := by k_asm) (by with_unfolding_all rfl) (by decide) (by rfl) (by decide) (by rfl) ?_))); trivial
theorem wUN11 : True := by (k_with "call builtin:isinstance" => (k_here; (refine' isi_opd (by k_asm) (by k_asm) (by assumption) (by assumption) ?_); intro tki₉)); trivial
theorem found_get {g : Heap} {L : Addr} {news nx' : List (Addr × Obj)} {fd D : Addr} {fo : Obj} {kvs : List (Str × Value)} {U : Str → Str → Prop} {key : Str} {tk : Tok} (N : News g L s.heap news) (hp : (fd, fo) ∈ news) (hd : fo.IsDictOf (PySem.strKind prog w) kvs) (lo : (fd == sysModules) = false)
    (hF : FoundIn nx' kvs U) (hsub : ∀ p ∈ nx', p ∈ news) (hD : (D, listOf #[] 0) ∈ news)
    (h : ∀ l7 (vs7 : List Value) ss7 c7 tk', (l7, listOf vs7.toArray c7) ∈ news → StrsAre vs7 ss7 → ss7.Nodup → (∀ t, t ∈ ss7 ↔ U key t) → Q (.ref l7) { s with toks := tk' }) :
    wpAny (model prog w) A (call (.builtin "dict.get") [.ref fd, .str key tk, .ref D]) Q E s := by
  cases hv : valueAt kvs key with
  | none =>
    refine kdg_get2 N hp hd lo (strKind_is _ _ _ _) _ hv (h D [] [] 0 _ hD .nil List.nodup_nil fun t => ⟨fun h => (nomatch h), fun hu => ?_⟩)
    have := (hF.key key).mpr ⟨t, hu⟩
    rw [hv] at this; cases this
  | some vl =>
    obtain ⟨l7, vs7, c7, ss7, rfl, m7, s7, d7, r7, i7⟩ := hF.item _ _ hv
    exact kdg_get2 N hp hd lo (strKind_is _ _ _ _) _ hv (h l7 vs7 ss7 c7 _ (hsub _ m7) s7 d7 i7)
theorem used_len {ops : List Op} {i : Nat} {key : Str} {ss : List Str} (hn : ss.Nodup) (h : ∀ t, t ∈ ss ↔ Used (ops.take i) key t) : ss.length ≤ i := by
  have h1 : ∀ x ∈ ss, x ∈ (ops.take i).filterMap (fun op => (useOf op).map (·.2)) := by
    intro x hx
    obtain ⟨op, ho, hu⟩ := (h x).mp hx
    exact List.mem_filterMap.mpr ⟨op, ho, by rw [hu]; rfl⟩
  have h2 := nodup_len hn h1
  have h3 := List.length_filterMap_le (fun op => (useOf op).map (·.2)) (ops.take i)
  have h4 : (ops.take i).length ≤ i := by rw [List.length_take]; omega
  omega
theorem OpdAll.last {nx : List (Addr × Obj)} {v d vs ds} (h : OpdIn prog w nx v d) (hs : OpdAll prog w nx vs ds) : ∃ v' d', (v :: vs).getLast? = some v' ∧ (d :: ds).getLast? = some d' ∧ OpdIn prog w nx v' d' := by
  induction hs generalizing v d with
  | nil => exact ⟨v, d, rfl, rfl, h⟩
  | cons a _ ih =>
    obtain ⟨v', d', e1, e2, e3⟩ := ih a
    exact ⟨v', d', by rw [List.getLast?_cons_cons]; exact e1, by rw [List.getLast?_cons_cons]; exact e2, e3⟩
theorem wUN12 : True := by (k_with "binaryOp Add ref ref" => (k_here; (with_reducible show wpAny _ _ (binaryOp _ (Value.ref _) (Value.ref _)) _ _ _); k_dflt (refine' add_my (by k_asm) (by k_asm) (by k_mem) (by k_mem) (by simp only [List.length_cons, List.length_nil]; omega) ?_); intro D'₉ h'₉ F'₉ N'₉ l1₉; (try k_lt l1₉); (try k_sweep))); trivial
theorem wUN13 : True := by (k_with "call builtin:sorted" => (k_here; (with_reducible show wpAny _ _ (call (Value.builtin _) [Value.ref _]) _ _ _); k_dflt (refine' sorted_my (by k_asm) (by k_asm) (by k_mem) (by assumption) (by assumption) ?_); intro D'₉ h'₉ vs'₉ ss'₉ e'₉ F'₉ N'₉ l1₉ s'₉ p'₉ o'₉; (try k_lt l1₉); (try k_sweep))); trivial
theorem wUN14 : True := by (k_with "setItem ref str" => (k_here; k_dflt (refine' kda_set (knd := PySem.strKind _ _) ?F ?N ?U ?d (strKind_is _ _ _ _) ?z ?_; (case F => k_asm); (case N => k_asm); (case U => k_updF); (case d => assumption); (case z => rw [PySem.sizeLine_eq]; omega)); intro h'₉ o'₉ F'₉ N'₉ hd'₉; (try dsimp only at N'₉))); trivial
theorem wUN15 : True := by (k_with "call builtin:dict.get" => (k_here; (with_reducible show wpAny _ _ (call _ [_, Value.str _ _, Value.ref _]) _ _ _); k_dflt (refine found_get (by k_asm) (by k_mem) (by assumption) (by assumption) (by assumption) (fun p hp => by repeat (first | exact hp | apply List.Mem.tail)) (by k_mem) ?_); intro l7₉ vs7₉ ss7₉ c7₉ tk7₉ m7₉ s7₉ d7₉ i7₉)); trivial
set_option maxRecDepth 100000 in
set_option maxHeartbeats 8000000 in
theorem used_names_K {l : Addr} {vs : List Value} {ops : List Op} {c : Nat} (X : (Mine.hd.heap_1 w.params).In h₀) (T : TT mean mg mb h₀) (hR : Rm A 8) (hs : h₀.StaysIn s.heap)
  (hnx : ∀ p ∈ nx, s.heap.get? p.1 = some p.2) (hl : (l, listOf vs.toArray c) ∈ nx) (ho : OpsAll prog w nx vs ops) (h64 : vs.length < 60)
  (hQ : ∀ fd fo kvs nx' h' tk', s.heap.StaysIn h' → Made s.heap h' nx' → (fd, fo) ∈ nx' → (fd == sysModules) = false → fo.IsDictOf (PySem.strKind prog w) kvs → FoundIn nx' kvs (Used ops) → Q (.ref fd) {s with heap := h', toks := tk'}) :
  wpAny (model prog w) A (call (.ref 296) [.ref l]) Q E s := by
  refine wpAny_call ?_
  refine' enterC (news := []) X T hs (fun p hp => nomatch hp) hR.room (by k_is) (by k_is) (by exact BindsTo.of_eq rfl) (by exact rfl) (by decide +kernel) (by exact rfl) (by exact rfl) (by exact rfl) ?_
  intro g L' h₁ tk cells hst hgs hgsub Xg Tg F' N' Y' hlt
  have G : ∀ p ∈ nx, g.get? p.1 = some p.2 := fun p hp => hgsub _ _ (hnx p hp) (by simp)
  clear hlt
  k_cells Y'
  try simp only [List.cons_append, List.nil_append] at N'
  dsimp only
  try k_unmd
  k_fold
  k_steps
  rename Fr _ _ _ _ => F1
  rename News _ _ _ _ => N1
  rename Obj.IsDictOf (PySem.strKind _ _) _ [] => hd0
  rename Obj.IsDictOf (PySem.strKind _ _) _ (strPairs _) => hdP
  obtain ⟨kP, tP, hdP2⟩ : ∃ kP, StrTab kP spotsL ∧ Obj.IsDictOf (PySem.strKind prog w) _ kP := ⟨_, by exact .cons (.cons (.cons (.cons .nil))), hdP⟩
  clear hdP
  rename Obj.IsDictOf (PySem.strKind _ _) _ (strPairs _) => hdS
  obtain ⟨kS, tS, hdS2⟩ : ∃ kS, StrTab kS sortsL ∧ Obj.IsDictOf (PySem.strKind prog w) _ kS := ⟨_, by exact .cons (.cons (.cons (.cons (.cons (.cons .nil))))), hdS⟩
  clear hdS
  refine un_loop (Rm.deeper (d := 7) hR _).hh G hl ho F1 N1 hd0 hdP2 hdS2 (by assumption) tS tP (by assumption) (by assumption) (by assumption) (by rfl) (by rfl) (by rfl) (by k_ne) (by k_ne) (by k_ne) (by k_ne) (by k_ne) ?turn ?done
  case turn =>
    clear F1 N1 hd0 hdP2 hdS2 tS tP
    intro i v op m₁ fd pd sd fo o1 o2 oc cv kS kP kvs nx' h tk I oI hop hin lf lp ls hf hP hS tS tP hc hk hi hF a1 a2 a3 n1 n2 n3 n4 n5 n6 n7 n8 n9 F N
    have h60 : ops.length < 60 := by rw [← ho.len]; exact h64
    obtain ⟨b1, b2, b3, b4⟩ := hin
    rename Str => wd
    rename OpdAll _ _ _ _ _ => hops
    rcases tS.at wd with ⟨q1, r1⟩ | ⟨key, tt, q1, r1⟩
    · have q1' : (valueAt kS wd).isSome = false := by rw [q1]; rfl
      rcases tP.at wd with ⟨q2, r2⟩ | ⟨key, tt, q2, r2⟩
      · have q2' : (valueAt kP wd).isSome = false := by rw [q2]; rfl
        k_steps
        refine un_end (by assumption) (by assumption) (List.Sublist.subset (by repeat (first | exact List.Sublist.refl _ | apply List.Sublist.cons₂ | apply List.Sublist.cons))) hf (by assumption) (by omega) (Used.none hF hop (by simp only [useOf, r1, r2])) a1 a2 a3 n6 n7 n8 n9 rfl rfl rfl
      · have q2' : (valueAt kP wd).isSome = true := by rw [q2]; rfl
        cases hops with
        | nil =>
          k_steps
          refine un_end (by assumption) (by assumption) (List.Sublist.subset (by repeat (first | exact List.Sublist.refl _ | apply List.Sublist.cons₂ | apply List.Sublist.cons))) hf (by assumption) (by omega) (Used.none hF hop (by simp only [useOf, r1, r2, List.getLast?])) a1 a2 a3 n6 n7 n8 n9 rfl rfl rfl
        | cons hd0 hr =>
          obtain ⟨v', d', gv, gd, hd⟩ := OpdAll.last hd0 hr
          k_steps
          rotate_left
          · rename isNm _ = false => hnm
            refine un_end (by assumption) (by assumption) (List.Sublist.subset (by repeat (first | exact List.Sublist.refl _ | apply List.Sublist.cons₂ | apply List.Sublist.cons))) hf (by assumption) (by omega) (Used.none hF hop (by cases hd <;> first | (cases hnm; done) | simp only [useOf, r1, r2, gd])) a1 a2 a3 n6 n7 n8 n9 rfl rfl rfl
          rename isNm _ = true => hnm
          cases hd with
          | int i8 t8 => cases hnm
          | dct x8 x9 => cases hnm
          | @nm a8 dx8 t8 u8 v8 nn8 x8 x9 =>
            rename StrsAre _ _ => s7
            rename List.Nodup _ => d7
            rename (∀ t, t ∈ _ ↔ _) => i7
            have b7 := used_len d7 i7
            rename (_, W.listOf _ _) ∈ (_ :: _) => m7
            rename List Str => ss7
            rename List Value => vs7
            refine LCt.CompSrcT.ledger (its := List.toArray vs7) (Rm.deeper (d := 7) hR _).hh (by k_asm) (by k_asm) m7 (by rw [PySem.sizeLine_eq]; simp only [List.size_toArray, StrsAre.length s7]; omega) ?_
            intro g8
            rename Fr _ _ _ _ => Fc
            rename News _ _ _ _ => Nc
            refine with_led Nc ?_
            intro led hled
            refine comp_invT (fun i ys nw => nw = led ∧ ∃ zs, StrsAre ys zs ∧ zs = (List.take i ss7).filter (fun x => x != t8)) ⟨hled.symm, [], .nil, by simp⟩ ?turn2 ?fin2
            case turn2 =>
              clear Fc Nc
              intro i8 v8 ys8 nw8 I8 oI8 C8 oC8 D8 m8 h8 tk8 E8 hi8 hP8 hinv hC8 hx8 F8 N8 off8 ne8
              obtain ⟨e8, zs, hzs, ez⟩ := hinv
              have hP9 : vs7[i8]? = some v8 := by simpa using hP8
              obtain ⟨y, ty, rfl, hy⟩ := strs_item s7 hP9
              subst e8
              have m9 := m7
              rw [← hled] at m9
              subst hled
              have off9 := off8
              simp only [LCg.Off3, and_true] at off8
              k_steps
              · rename (_ != _) = true => hne
                exact LCg.CompEnd.intro (by assumption) (by assumption) _ (fun _ h => h) off9 (.inr ⟨_, m9, rfl, _, rfl⟩) ⟨rfl, _, strs_snoc hzs _ _, by rw [filter_snoc hy, if_pos hne, ez]⟩
              · rename (_ != _) = false => hne
                exact LCg.CompEnd.intro (by assumption) (by assumption) _ (fun _ h => h) off9 (.inr ⟨_, m9, rfl, _, rfl⟩) ⟨rfl, _, hzs, by rw [filter_snoc hy, if_neg (by rw [hne]; decide), ez, List.append_nil]⟩
            case fin2 =>
              clear Fc Nc
              intro ys8 nw8 hinv
              obtain ⟨e8, zs, hzs, ez⟩ := hinv
              subst e8
              subst hled
              intro D8 h8 tk8 F8 N8 off8
              simp only [LCg.Off1, and_true] at off8
              have hzl : ys8.length ≤ i := by
                have a1 := StrsAre.length hzs
                have a2 := List.length_filter_le (fun x => x != t8) (List.take (List.toArray vs7).size ss7)
                have a3 : (List.take (List.toArray vs7).size ss7).length ≤ ss7.length := by rw [List.length_take]; omega
                rw [← ez] at a2
                omega
              have hzs2 : StrsAre (ys8 ++ [.str t8 v8]) (zs ++ [t8]) := strs_snoc hzs t8 v8
              have hzl2 : (ys8 ++ [Value.str t8 v8]).length < 64 := by rw [List.length_append, List.length_singleton]; omega
              k_steps
              rename Fr _ _ _ _ => Fz
              rename News _ _ _ _ => Nz
              rename StrsAre _ _ => sz
              rename List.Perm _ _ => pz
              rename sortedS _ = true => oz
              rename Obj.IsDictOf (PySem.strKind _ _) _ (stored _ _ _) => dz
              have ez2 : zs = ss7.filter (fun x => x != t8) := by rw [ez, List.size_toArray, StrsAre.length s7, List.take_length]
              rw [ez2] at pz
              obtain ⟨nz, nez, mz⟩ := put_list d7 pz
              exact un_end Fz Nz (List.forall_mem_cons.mpr ⟨by k_mem, List.forall_mem_cons.mpr ⟨by k_mem, List.forall_mem_cons.mpr ⟨by k_mem, List.forall_mem_cons.mpr ⟨by k_mem, List.forall_mem_cons.mpr ⟨by k_mem, List.forall_mem_cons.mpr ⟨by k_mem, fun p hp => by repeat (first | exact hp | apply List.Mem.tail)⟩⟩⟩⟩⟩⟩) dz (by assumption) (Nat.le_trans (stored_len _ _ _) (by omega))
                (hF.put (fun _ h => .tail _ h) (.head _) sz nz oz nez (fun t => by rw [mz, i7, Used.next hop, (by simp only [useOf, r1, r2, gd] : useOf ⟨wd, _⟩ = some (key, t8))]; simp [eq_comm]) (fun k t hk => by rw [Used.next hop, (by simp only [useOf, r1, r2, gd] : useOf ⟨wd, _⟩ = some (key, t8))]; simp [Ne.symm hk]))
                (List.forall_mem_cons.mpr ⟨by k_ne, a1⟩) (List.forall_mem_cons.mpr ⟨by k_ne, a2⟩) (List.forall_mem_cons.mpr ⟨by k_ne, a3⟩) n6 n7 n8 n9 rfl rfl rfl
    · have q1' : (valueAt kS wd).isSome = true := by rw [q1]; rfl
      have r2 := sorts_spots r1
      have q2 : valueAt kP wd = none := by
        rcases tP.at wd with ⟨q2, _⟩ | ⟨_, _, _, q⟩
        · exact q2
        · rw [r2] at q; cases q
      have q2' : (valueAt kP wd).isSome = false := by rw [q2]; rfl
      cases hops with
      | nil =>
        k_steps
        refine un_end (by assumption) (by assumption) (List.Sublist.subset (by repeat (first | exact List.Sublist.refl _ | apply List.Sublist.cons₂ | apply List.Sublist.cons))) hf (by assumption) (by omega) (Used.none hF hop (by simp only [useOf, r1, List.head?])) a1 a2 a3 n6 n7 n8 n9 rfl rfl rfl
      | cons hd hr =>
        k_steps
        rotate_left
        · rename isNm _ = false => hnm
          refine un_end (by assumption) (by assumption) (List.Sublist.subset (by repeat (first | exact List.Sublist.refl _ | apply List.Sublist.cons₂ | apply List.Sublist.cons))) hf (by assumption) (by omega) (Used.none hF hop (by cases hd <;> first | (cases hnm; done) | simp only [useOf, r1, List.head?])) a1 a2 a3 n6 n7 n8 n9 rfl rfl rfl
        rename isNm _ = true => hnm
        cases hd with
        | int i8 t8 => cases hnm
        | dct x8 x9 => cases hnm
        | @nm a8 dx8 t8 u8 v8 nn8 x8 x9 =>
          rename StrsAre _ _ => s7
          rename List.Nodup _ => d7
          rename (∀ t, t ∈ _ ↔ _) => i7
          have b7 := used_len d7 i7
          rename (_, W.listOf _ _) ∈ (_ :: _) => m7
          rename List Str => ss7
          rename List Value => vs7
          refine LCt.CompSrcT.ledger (its := List.toArray vs7) (Rm.deeper (d := 7) hR _).hh (by k_asm) (by k_asm) m7 (by rw [PySem.sizeLine_eq]; simp only [List.size_toArray, StrsAre.length s7]; omega) ?_
          intro g8
          rename Fr _ _ _ _ => Fc
          rename News _ _ _ _ => Nc
          refine with_led Nc ?_
          intro led hled
          refine comp_invT (fun i ys nw => nw = led ∧ ∃ zs, StrsAre ys zs ∧ zs = (List.take i ss7).filter (fun x => x != t8)) ⟨hled.symm, [], .nil, by simp⟩ ?turn2 ?fin2
          case turn2 =>
            clear Fc Nc
            intro i8 v8 ys8 nw8 I8 oI8 C8 oC8 D8 m8 h8 tk8 E8 hi8 hP8 hinv hC8 hx8 F8 N8 off8 ne8
            obtain ⟨e8, zs, hzs, ez⟩ := hinv
            have hP9 : vs7[i8]? = some v8 := by simpa using hP8
            obtain ⟨y, ty, rfl, hy⟩ := strs_item s7 hP9
            subst e8
            have m9 := m7
            rw [← hled] at m9
            subst hled
            have off9 := off8
            simp only [LCg.Off3, and_true] at off8
            k_steps
            · rename (_ != _) = true => hne
              exact LCg.CompEnd.intro (by assumption) (by assumption) _ (fun _ h => h) off9 (.inr ⟨_, m9, rfl, _, rfl⟩) ⟨rfl, _, strs_snoc hzs _ _, by rw [filter_snoc hy, if_pos hne, ez]⟩
            · rename (_ != _) = false => hne
              exact LCg.CompEnd.intro (by assumption) (by assumption) _ (fun _ h => h) off9 (.inr ⟨_, m9, rfl, _, rfl⟩) ⟨rfl, _, hzs, by rw [filter_snoc hy, if_neg (by rw [hne]; decide), ez, List.append_nil]⟩
          case fin2 =>
            clear Fc Nc
            intro ys8 nw8 hinv
            obtain ⟨e8, zs, hzs, ez⟩ := hinv
            subst e8
            subst hled
            intro D8 h8 tk8 F8 N8 off8
            simp only [LCg.Off1, and_true] at off8
            have hzl : ys8.length ≤ i := by
              have a1 := StrsAre.length hzs
              have a2 := List.length_filter_le (fun x => x != t8) (List.take (List.toArray vs7).size ss7)
              have a3 : (List.take (List.toArray vs7).size ss7).length ≤ ss7.length := by rw [List.length_take]; omega
              rw [← ez] at a2
              omega
            have hzs2 : StrsAre (ys8 ++ [.str t8 v8]) (zs ++ [t8]) := strs_snoc hzs t8 v8
            have hzl2 : (ys8 ++ [Value.str t8 v8]).length < 64 := by rw [List.length_append, List.length_singleton]; omega
            k_steps
            rename Fr _ _ _ _ => Fz
            rename News _ _ _ _ => Nz
            rename StrsAre _ _ => sz
            rename List.Perm _ _ => pz
            rename sortedS _ = true => oz
            rename Obj.IsDictOf (PySem.strKind _ _) _ (stored _ _ _) => dz
            have ez2 : zs = ss7.filter (fun x => x != t8) := by rw [ez, List.size_toArray, StrsAre.length s7, List.take_length]
            rw [ez2] at pz
            obtain ⟨nz, nez, mz⟩ := put_list d7 pz
            exact un_end Fz Nz (List.forall_mem_cons.mpr ⟨by k_mem, List.forall_mem_cons.mpr ⟨by k_mem, List.forall_mem_cons.mpr ⟨by k_mem, List.forall_mem_cons.mpr ⟨by k_mem, List.forall_mem_cons.mpr ⟨by k_mem, List.forall_mem_cons.mpr ⟨by k_mem, fun p hp => by repeat (first | exact hp | apply List.Mem.tail)⟩⟩⟩⟩⟩⟩) dz (by assumption) (Nat.le_trans (stored_len _ _ _) (by omega))
              (hF.put (fun _ h => .tail _ h) (.head _) sz nz oz nez (fun t => by rw [mz, i7, Used.next hop, (by simp only [useOf, r1, List.head?] : useOf ⟨wd, _⟩ = some (key, t8))]; simp [eq_comm]) (fun k t hk => by rw [Used.next hop, (by simp only [useOf, r1, List.head?] : useOf ⟨wd, _⟩ = some (key, t8))]; simp [Ne.symm hk]))
              (List.forall_mem_cons.mpr ⟨by k_ne, a1⟩) (List.forall_mem_cons.mpr ⟨by k_ne, a2⟩) (List.forall_mem_cons.mpr ⟨by k_ne, a3⟩) n6 n7 n8 n9 rfl rfl rfl
  case done =>
    clear F1 N1 hd0 hdP2 hdS2 tS tP
    intro m₁ fo oc kvs nx' h tk F m1 N hf hF
    rw [map_again m1] at F
    k_steps
    rename Fr _ _ _ _ => F9
    rename News _ _ _ _ => N9
    exact hQ _ fo kvs ((_, fo) :: nx') _ _ (stays_led (news := []) hgsub (fun _ h => nomatch h) F9 N9 (fun _ h => nomatch h)) (made_of (newsX := []) hgsub N9 _ (List.forall_mem_cons.mpr ⟨by k_mem, fun p hp => by repeat (first | exact hp | apply List.Mem.tail)⟩) (fun _ _ _ h => nomatch h)) (.head _) (by assumption) hf (hF.mono (fun _ h => .tail _ h) fun _ _ => Iff.rfl)
end
theorem wDP0 : True := by k_with_none; w_top off; (k_with "k_ne" => (refine neN ?_; (try dsimp only); first | with_reducible assumption | with_reducible exact Ne.symm (by assumption) | fail)); trivial
/-! dict(list of pairs) -/
section
open PySem.Calls
variable {prog : Program} {w : World} {A : Around} {E : Value → Shared → Prop} {s : Shared}
theorem list_no_keys : typeLookup (.type "list") "keys" = pure none := by rw [typeLookup_type, builtinLookup_eq_fast]; kernel_rfl
theorem keys_none {a : Addr} {xs : Array Value} {k : Nat} {Q : Option Value → Shared → Prop} (hx0 : s.heap.get? a = some (listOf xs k)) (hA : A.handled = none)
    (h : ∀ h' tk, s.heap.StaysIn h' → Q none { s with heap := h', toks := tk }) : wpAny (model prog w) A (getAttr? (.ref a) "keys") Q E s := by
  have hx : s.heap.get? a = some { cls := .type "list", dict := none, data := .seq xs k, slots := #[] } := hx0
  obtain ⟨hp, g, d, tk, os⟩ := s
  have hT : ∀ tk', (⟨hp, g, d, tk', os⟩ : Shared).TypeIs (.ref a) "list" := fun _ => ⟨_, hx, rfl⟩
  have f1 := sub_AttributeError
  have f3 := F.slot_list_getattribute.lookup
  have f4 := F.slot_list_getattribute.bind (.ref a)
  have f5 := am_list_getattr_none
  unfold getAttr? getAttrBy? getAttrBy
  repeat (any_goals (first | assumption | exact hT _ | ((with_reducible show wpAny _ _ (call (Value.builtin "list.__getattribute__") _ _) _ _ _); refine call_meets F.slot_list_getattribute (hT _) am_entry_list_getattribute (F.args_list_getattribute_2 _ _) (meets_getattribute_miss_list a xs k #[] "keys" _ list_no_keys (by decide) (by rw [PySem.sizeLine_eq]; decide)) ⟨hx, hA, fun h' tk' e hx' => ?_⟩) | wp_step))
  obtain ⟨t', u', he⟩ := hx'.there
  show wpAny _ _ (getattributeRaised _ _ _ _ _ _ _) _ _ _
  unfold getattributeRaised
  repeat (any_goals (first | assumption | wp_step))
  exact h _ _ hx'.keeps
end
/-- a pair of a text and something -/
def IsPair (o : Obj) (k : Str) (x : Value) : Prop := o.cls = .type "tuple" ∧ ∃ tk n, o.data = .seq #[.str k tk, x] n
inductive PairsIn (nx : List (Addr × Obj)) : List Value → List (Str × Value) → Prop
  | nil : PairsIn nx [] []
  | cons {t : Addr} {o : Obj} {k : Str} {x : Value} {vs : List Value} {kvs : List (Str × Value)} : (t, o) ∈ nx → IsPair o k x → PairsIn nx vs kvs → PairsIn nx (.ref t :: vs) ((k, x) :: kvs)
theorem PairsIn.mono {nx nx' : List (Addr × Obj)} (hs : ∀ p ∈ nx, p ∈ nx') {vs kvs} (h : PairsIn nx vs kvs) : PairsIn nx' vs kvs := by
  induction h with
  | nil => exact .nil
  | cons a b _ ih => exact .cons (hs _ a) b ih
theorem PairsIn.snoc {nx : List (Addr × Obj)} {t : Addr} {o : Obj} {k : Str} {x : Value} {vs kvs} (h : PairsIn nx vs kvs) (hm : (t, o) ∈ nx) (hp : IsPair o k x) : PairsIn nx (vs ++ [.ref t]) (kvs ++ [(k, x)]) := by
  induction h with
  | nil => exact .cons hm hp .nil
  | cons a b _ ih => exact .cons a b ih
theorem PairsIn.len {nx : List (Addr × Obj)} {vs kvs} (h : PairsIn nx vs kvs) : vs.length = kvs.length := by
  induction h with
  | nil => rfl
  | cons _ _ _ ih => simp [ih]
theorem PairsIn.at {nx : List (Addr × Obj)} {vs kvs} (h : PairsIn nx vs kvs) : ∀ {i : Nat} {v : Value}, vs[i]? = some v → ∃ t o k x, v = .ref t ∧ kvs[i]? = some (k, x) ∧ (t, o) ∈ nx ∧ IsPair o k x := by
  induction h with
  | nil => intro i v e; simp at e
  | cons a b _ ih =>
    intro i v e
    cases i with
    | zero => simp only [List.getElem?_cons_zero, Option.some.injEq] at e; subst e; exact ⟨_, _, _, _, rfl, rfl, a, b⟩
    | succ i => simp only [List.getElem?_cons_succ] at e ⊢; exact ih e

theorem plain_update_loop : plainId "dict.update.loop" = true := by decide +kernel
theorem entry_update_loop : entryFor table "dict.update.loop" = some Builtin.«dict.update.loop» := entryFor_of_fast (by kernel_rfl)
section
variable {prog : Program} {w : World} {A : Around} {E : Value → Shared → Prop} {s : Shared}
theorem pairs_loop {R : Result → Shared → Prop} {I l d : Addr} {vs : List Value} {kvs : List (Str × Value)} {nx : List (Addr × Obj)} (hh : A.handled = none) (hlI : l ≠ I) (hdI : d ≠ I) (hdl : d ≠ l) (hp : PairsIn nx vs kvs) (hn : kvs.length ≤ sizeLine)
    (off : ∀ p ∈ nx, p.1 ≠ I ∧ p.1 ≠ d) :
    ∀ (k i : Nat) (s : Shared) (tn : Tok), vs.length - i = k → i ≤ vs.length → (s.heap.IsListIter I l i ∧ s.heap.IsList l vs.toArray) → (∀ p ∈ nx, s.heap.get? p.1 = some p.2) → s.heap.DictOf (PySem.strKind prog w) d (merged [] (kvs.take i)) →
      (∀ h' tk, (∀ b o, b ≠ I → b ≠ d → s.heap.get? b = some o → h'.get? b = some o) → h'.DictOf (PySem.strKind prog w) d (merged [] kvs) → R (.ok (.ret .none)) { s with heap := h', toks := tk }) →
      codeAny (model prog w) A (.builtin "dict.update.loop" ⟨[.ref d, .ref I, .int i tn, .none], []⟩) R s := by
  have W := Walks.list (prog := prog) (w := w) (A := A.in1) hh I l hlI vs.toArray
  have hlen := hp.len
  intro k
  induction k with
  | zero =>
    intro i s tn hk hi hst hnx hd hR
    obtain rfl : i = vs.length := by omega
    refine codeAny_builtin entry_update_loop ?_
    rw [Around.under_plainId plain_update_loop _]
    show wpAny _ A.in1 (pyNext (.ref I) >>= _) _ _ s
    refine wpAny_bind (W.done s _ _ (by simpa using hst) fun h' tk hk' => ?_)
    refine wpAny_bind (wpAny_pure (wpAny_pure ?_))
    refine hR h' tk (fun b o hb _ e => hk' b o (by simpa using hb) e) ?_
    rw [hlen, List.take_length] at hd
    obtain ⟨o, es, ep, ho, r⟩ := hd
    exact ⟨o, es, ep, hk' d o (by simpa using hdI) ho, r⟩
  | succ k ih =>
    intro i s tn hk hi hst hnx hd hR
    have hlt : i < vs.length := by omega
    refine codeAny_builtin entry_update_loop ?_
    rw [Around.under_plainId plain_update_loop _]
    show wpAny _ A.in1 (pyNext (.ref I) >>= _) _ _ s
    refine wpAny_bind (W.item i s _ _ (by simpa using hlt) hst fun v h1 tk1 hP hst1 hk1 => ?_)
    obtain ⟨t, o, ky, x, rfl, hkv, hm, hc, tky, nn, hdat⟩ := hp.at (by simpa using hP)
    have hget : h1.get? t = some o := hk1 _ _ (by simpa using (off _ hm).1) (hnx _ hm)
    have hT : (⟨h1, s.gens, s.drawn, tk1, s.os⟩ : Shared).TypeIs (.ref t) "tuple" := ⟨_, hget, hc⟩
    dsimp only
    refine wpAny_bind (wpAny_holding (wpAny_bind (wpAny_tryCatch ?_)))
    unfold Builtin.Dict.pairItems
    refine wpAny_bind (wpAny_typeOf hT ?_)
    rw [if_pos (by decide)]
    refine wpAny_bind (wpAny_seqItems hget hdat ?_)
    refine wpAny_pure ?_
    dsimp only [Option.getD]
    have hd1 : h1.DictOf (PySem.strKind prog w) d (merged [] (kvs.take i)) := by
      obtain ⟨o, es, ep, ho, r⟩ := hd
      exact ⟨o, es, ep, hk1 d o (by simpa using hdI) ho, r⟩
    refine wpAny_holding (wpAny_dictSet_pairs (k := ky) (strKind_is _ _ _ _) hd1 (fun h2 hd2 hs2 => ?_) ?_)
    · refine wpAny_pure ⟨plainId_quiet plain_update_loop _, ih (i + 1) _ _ (by omega) hlt ?_ ?_ ?_ ?_⟩
      · exact W.frame _ _ _ hst1 fun b hb o e => (hs2.2 b (by
          rcases List.mem_cons.mp hb with rfl | hb
          · exact Ne.symm hdI
          · rw [List.mem_singleton.mp hb]; exact Ne.symm hdl)).trans e
      · intro p hp'
        exact (hs2.2 _ (off _ hp').2).trans (hk1 _ _ (by simpa using (off _ hp').1) (hnx _ hp'))
      · rw [merged_take_succ _ _ _ _ hkv]; exact hd2
      · intro h' tk hk' hd'
        refine hR h' tk (fun b o hb hb2 e => hk' b o hb hb2 ((hs2.2 b hb2).trans (hk1 b o (by simpa using hb) e))) hd'
    · have := merged_length_le ([] : List (Str × Value)) (kvs.take i)
      simp only [List.length_nil, List.length_take] at this
      omega

theorem dict_pairs {l : Addr} {vs : List Value} {c : Nat} {kvs : List (Str × Value)} {nx : List (Addr × Obj)} {Q : Value → Shared → Prop} (hh : A.handled = none) (hl : s.heap.get? l = some (listOf vs.toArray c)) (hp : PairsIn nx vs kvs) (hnx : ∀ p ∈ nx, s.heap.get? p.1 = some p.2) (hn : kvs.length ≤ 16777216)
    (h : ∀ h' tk, s.heap.StaysIn h' → h'.DictOf (PySem.strKind prog w) s.heap.objs.size (merged [] kvs) → Q (.ref s.heap.objs.size) { s with heap := h', toks := tk }) :
    wpAny (model prog w) A (call (.type "dict") [.ref l]) Q E s := by
  refine callType_codes (Q₁ := fun obj s₁ => obj = .ref s.heap.objs.size ∧ s₁ = { s with heap := s.heap.push { cls := .type "dict", data := .dict #[] } }) F.kt_called_dict (F.kt_typeCall_dict_1 _) F.entry_dict_init (kt_code_dict_new _ ⟨rfl, rfl⟩) ?_
  rintro obj s₁ ⟨rfl, rfl⟩
  have hnew : (s.heap.push { cls := .type "dict", data := .dict #[] }).DictOf (PySem.strKind prog w) s.heap.objs.size [] := Heap.DictOf.new s.heap
  have hl1 := Heap.get?_push_of_some ({ cls := .type "dict", data := .dict #[] } : Obj) hl
  refine ⟨hnew.typeIs, F.args_dict_init_2 _ _, ?_⟩
  unfold Builtin.«dict.__init__»
  refine wpAny_bind ?_
  unfold Builtin.Dict.selfAndRest
  refine wpAny_bind (wpAny_notOrdered_dict hnew.typeIs ?_)
  show wpAny _ _ (pure (s.heap.objs.size, [Value.ref l])) _ _ _
  refine wpAny_pure ?_
  show wpAny _ _ (Builtin.Dict.updateFrom "dict.__init__" s.heap.objs.size (.ref l) [] .none) _ _ _
  unfold Builtin.Dict.updateFrom
  refine wpAny_bind (wpAny_typeOf (T := "list") ⟨_, hl1, rfl⟩ ?_)
  rw [if_pos (by decide)]
  refine wpAny_bind (m := getAttr? (.ref l) "keys") (keys_none hl1 hh fun h2 tk2 hs2 => ?_)
  rw [if_pos (show (Option.none : Option Value).isNone = true from rfl)]
  refine wpAny_bind (wpAny_rule ?_)
  have hl2 := hs2 _ _ hl1
  refine wpAny_bind (wpAny_pyIter_list ⟨_, hl2, rfl, _, rfl⟩ ?_)
  have up : ∀ b o, s.heap.get? b = some o → (h2.push { cls := .type "list_iterator", data := .fields #[.ref l, .int 0 0] }).get? b = some o := fun b o e => Heap.get?_push_of_some _ (hs2 _ _ (Heap.get?_push_of_some _ e))
  have hls : l < s.heap.objs.size := Heap.lt_size hl
  have hd2 : ∀ o, (s.heap.push { cls := .type "dict", data := .dict #[] }).get? s.heap.objs.size = some o → h2.get? s.heap.objs.size = some o := fun o e => hs2 _ _ e
  have hsz : s.heap.objs.size < h2.objs.size := by
    obtain ⟨o, es, ep, ho, r⟩ := hnew
    exact Heap.lt_size (hd2 _ ho)
  refine wpAny_pure ⟨plainId_quiet plain_update_loop _, pairs_loop (A := A.in1) hh (Nat.ne_of_lt (Nat.lt_trans hls hsz)) (Nat.ne_of_lt hsz) (Nat.ne_of_gt hls) hp (by rw [PySem.sizeLine_eq]; exact hn) (fun p hp' => ?_) vs.length 0 _ _ (by omega) (Nat.zero_le _) ⟨⟨_, Heap.get?_push_size _ rfl, rfl, rfl⟩, ⟨_, up _ _ hl, rfl, _, rfl⟩⟩ (fun p hp' => up _ _ (hnx p hp')) ?_ ?_⟩
  · have := Heap.lt_size (hnx p hp')
    exact ⟨Nat.ne_of_lt (Nat.lt_trans this hsz), Nat.ne_of_lt this⟩
  · obtain ⟨o, es, ep, ho, r⟩ := hnew
    exact ⟨o, es, ep, Heap.get?_push_of_some _ (hs2 _ _ ho), r⟩
  · intro h' tk hk hd
    refine ⟨rfl, h h' tk (fun b o e => ?_) hd⟩
    have hb := Heap.lt_size e
    exact hk b o (Nat.ne_of_lt (Nat.lt_trans hb hsz)) (Nat.ne_of_lt hb) (up b o e)
end
section
variable {prog : Program} {w : World} {A : Around} {E : Value → Shared → Prop} {s : Shared} {g : Heap} {L : Addr} {m : Str → Option Value} {news nx : List (Addr × Obj)} {Q : Value → Shared → Prop}
theorem fr_stays {h h' : Heap} (F : Fr g L h m) (k : h.StaysIn h') : Fr g L h' m := ⟨F.ns.at' fun o e => k L o e, fun b o e => k b o (F.keep b o e), F.above⟩
theorem news_stays {h h' : Heap} (N : News g L h news) (k : h.StaysIn h') : News g L h' news := fun p hp => ⟨k _ _ (N p hp).1, (N p hp).2⟩
theorem dict_pairs_K {l : Addr} {vs : List Value} {c : Nat} {kvs : List (Str × Value)} (F : Fr g L s.heap m) (N : News g L s.heap news) (hbig : g.NoLimit) (hh : A.handled = none) (hl : (l, listOf vs.toArray c) ∈ news) (hp : PairsIn nx vs kvs) (hnx : ∀ p ∈ nx, p ∈ news) (hn : kvs.length ≤ 16777216)
    (h : ∀ d o h' tk, Fr g L h' m → News g L h' ((d, o) :: news) → (∀ p ∈ news, p.1 < d) → (d == sysModules) = false → o.IsDictOf (PySem.strKind prog w) (merged [] kvs) → Q (.ref d) { s with heap := h', toks := tk }) :
    wpAny (model prog w) A (call (.type "dict") [.ref l]) Q E s := by
  refine dict_pairs hh (N _ hl).1 hp (fun p hp => (N _ (hnx _ hp)).1) hn fun h' tk hs hd => ?_
  obtain ⟨o, ho, hd'⟩ := Heap.dictOf_iff.mp hd
  refine h s.heap.objs.size o h' tk (fr_stays F hs) (fun p hp => ?_) (fun p hp => Heap.lt_size (N p hp).1) (F.notModules (modules_low hbig)) hd'
  rcases List.mem_cons.mp hp with rfl | hp
  · exact ⟨ho, Nat.ne_of_gt F.ns.lt, next_is_new F⟩
  · exact ⟨hs _ _ (N p hp).1, (N p hp).2⟩
theorem dict_pairs_H {l : Addr} {vs : List Value} {c : Nat} {kvs : List (Str × Value)} (F : Fr g L s.heap m) (N : News g L s.heap news) (hbig : g.NoLimit) (hh : A.handled = none) (hl : (l, listOf vs.toArray c) ∈ news) (hp : PairsIn nx vs kvs) (hnx : ∀ p ∈ nx, s.heap.get? p.1 = some p.2) (hn : kvs.length ≤ 16777216)
    (h : ∀ d o h' tk, Fr g L h' m → News g L h' ((d, o) :: news) → (∀ p ∈ news, p.1 < d) → (d == sysModules) = false → o.IsDictOf (PySem.strKind prog w) (merged [] kvs) → Q (.ref d) { s with heap := h', toks := tk }) :
    wpAny (model prog w) A (call (.type "dict") [.ref l]) Q E s := by
  refine dict_pairs hh (N _ hl).1 hp hnx hn fun h' tk hs hd => ?_
  obtain ⟨o, ho, hd'⟩ := Heap.dictOf_iff.mp hd
  refine h s.heap.objs.size o h' tk (fr_stays F hs) (fun p hp => ?_) (fun p hp => Heap.lt_size (N p hp).1) (F.notModules (modules_low hbig)) hd'
  rcases List.mem_cons.mp hp with rfl | hp
  · exact ⟨ho, Nat.ne_of_gt F.ns.lt, next_is_new F⟩
  · exact ⟨hs _ _ (N p hp).1, (N p hp).2⟩
theorem merged_nodup {kvs : List (Str × Value)} {o : Obj} (h : o.IsDictOf (PySem.strKind prog w) kvs) : (kvs.map (·.1)).Nodup := by
  obtain ⟨es, ep, _, _, _, _, hn⟩ := h
  exact hn
theorem off1_right {D : Addr} : ∀ {l l' : List (Addr × Obj)}, LCg.Off1 D (l ++ l') → LCg.Off1 D l'
  | [], _, h => h
  | _ :: r, _, h => off1_right (l := r) h.2
end
theorem wPU0 : True := by k_with_none; w_top off; (k_with "k_ne" => (refine neN ?_; (try dsimp only); first | with_reducible assumption | with_reducible exact Ne.symm (by assumption) | fail)); trivial
/-! _law_used -/
structure Row where
  sort : Str
  words : List Str
  spot : Int
def rowsL : List Row := [⟨Str.ofString "Font", [Str.ofString "Tf"], 0⟩, ⟨Str.ofString "XObject", [Str.ofString "Do"], 0⟩, ⟨Str.ofString "ExtGState", [Str.ofString "gs"], 0⟩, ⟨Str.ofString "Shading", [Str.ofString "sh"], 0⟩,
  ⟨Str.ofString "ColorSpace", [Str.ofString "CS", Str.ofString "cs"], 0⟩, ⟨Str.ofString "Pattern", [Str.ofString "SCN", Str.ofString "scn"], -1⟩, ⟨Str.ofString "Properties", [Str.ofString "BDC", Str.ofString "DP"], -1⟩]
inductive RowAt (RO : List (Addr × Obj)) : Value → Row → Prop
  | mk {t w : Addr} {sort : Str} {words : List Str} {spot : Int} {tk tk2 : Tok} {ws : List Value} {c : Nat} :
    (t, ({ cls := .type "tuple", data := .seq #[.str sort tk, .ref w, .int spot tk2] } : Obj)) ∈ RO → (w, listOf ws.toArray c) ∈ RO → StrsAre ws words → (spot = 0 ∨ spot = -1) → RowAt RO (.ref t) ⟨sort, words, spot⟩
inductive RowsAt (RO : List (Addr × Obj)) : List Value → List Row → Prop
  | nil : RowsAt RO [] []
  | cons {v r vs rs} : RowAt RO v r → RowsAt RO vs rs → RowsAt RO (v :: vs) (r :: rs)
theorem RowsAt.at {RO : List (Addr × Obj)} {vs rs} (h : RowsAt RO vs rs) : ∀ {i : Nat} {v : Value}, vs[i]? = some v → ∃ r, rs[i]? = some r ∧ RowAt RO v r := by
  induction h with
  | nil => intro i v e; simp at e
  | cons a _ ih =>
    intro i v e
    cases i with
    | zero => simp only [List.getElem?_cons_zero, Option.some.injEq] at e; subst e; exact ⟨_, rfl, a⟩
    | succ i => simp only [List.getElem?_cons_succ] at e ⊢; exact ih e
/-- what stands at a row's spot of an operation -/
def endOf (r : Row) (op : Op) : Option Opd := if r.words.any (· == op.word) = true then (if r.spot = 0 then op.opds.head? else op.opds.getLast?) else none
def LUsed (ops : List Op) (rs : List Row) (k t : Str) : Prop := ∃ r ∈ rs, r.sort = k ∧ ∃ op ∈ ops, endOf r op = some (.nm t)
theorem rows_hit {wd key : Str} {ws : List Str} {sp : Int} (h : rowsL.filter (fun r => r.words.any (· == wd)) = [⟨key, ws, sp⟩]) (ds : List Opd) (k t : Str) :
    (∃ r ∈ rowsL, r.sort = k ∧ endOf r ⟨wd, ds⟩ = some (.nm t)) ↔ key = k ∧ (if sp = 0 then ds.head? else ds.getLast?) = some (.nm t) := by
  constructor
  · rintro ⟨r, hr, hk, he⟩
    unfold endOf at he
    split at he
    · rename_i hw
      have : r ∈ rowsL.filter (fun r => r.words.any (· == wd)) := List.mem_filter.mpr ⟨hr, hw⟩
      rw [h] at this
      obtain rfl := List.mem_singleton.mp this
      exact ⟨hk, he⟩
    · cases he
  · rintro ⟨rfl, he⟩
    have : (⟨key, ws, sp⟩ : Row) ∈ rowsL.filter (fun r => r.words.any (· == wd)) := by rw [h]; exact .head _
    obtain ⟨hr, hw⟩ := List.mem_filter.mp this
    exact ⟨_, hr, rfl, by unfold endOf; rw [if_pos hw]; exact he⟩
theorem rows_miss {wd : Str} (h : rowsL.filter (fun r => r.words.any (· == wd)) = []) (ds : List Opd) (k t : Str) : ¬ ∃ r ∈ rowsL, r.sort = k ∧ endOf r ⟨wd, ds⟩ = some (.nm t) := by
  rintro ⟨r, hr, hk, he⟩
  unfold endOf at he
  split at he
  · rename_i hw
    have : r ∈ rowsL.filter (fun r => r.words.any (· == wd)) := List.mem_filter.mpr ⟨hr, hw⟩
    rw [h] at this; cases this
  · cases he
theorem use_key (o : Option Opd) (k' k t : Str) : (match o with | some (.nm t) => some (k', t) | _ => none) = some (k, t) ↔ k' = k ∧ o = some (.nm t) := by
  rcases o with _ | _ | _ | _ <;> simp
theorem use_s {wd key : Str} {ws : List Str} (h1 : sortsL.lookup wd = some key) (h : rowsL.filter (fun r => r.words.any (· == wd)) = [⟨key, ws, 0⟩]) (ds : List Opd) (k t : Str) :
    (∃ r ∈ rowsL, r.sort = k ∧ endOf r ⟨wd, ds⟩ = some (.nm t)) ↔ useOf ⟨wd, ds⟩ = some (k, t) := by
  rw [rows_hit h, if_pos rfl]
  simp only [useOf, h1]
  exact (use_key _ _ _ _).symm
theorem use_p {wd key : Str} {ws : List Str} (h1 : sortsL.lookup wd = none) (h2 : spotsL.lookup wd = some key) (h : rowsL.filter (fun r => r.words.any (· == wd)) = [⟨key, ws, -1⟩]) (ds : List Opd) (k t : Str) :
    (∃ r ∈ rowsL, r.sort = k ∧ endOf r ⟨wd, ds⟩ = some (.nm t)) ↔ useOf ⟨wd, ds⟩ = some (k, t) := by
  rw [rows_hit h, if_neg (by decide)]
  simp only [useOf, h1, h2]
  exact (use_key _ _ _ _).symm
theorem useOf_rows (op : Op) (k t : Str) : (∃ r ∈ rowsL, r.sort = k ∧ endOf r op = some (.nm t)) ↔ useOf op = some (k, t) := by
  obtain ⟨wd, ds⟩ := op
  by_cases hm : wd ∈ [Str.ofString "Tf", Str.ofString "Do", Str.ofString "gs", Str.ofString "sh", Str.ofString "CS", Str.ofString "cs", Str.ofString "SCN", Str.ofString "scn", Str.ofString "BDC", Str.ofString "DP"]
  · simp only [List.mem_cons, List.not_mem_nil, or_false] at hm
    rcases hm with rfl | rfl | rfl | rfl | rfl | rfl | rfl | rfl | rfl | rfl
    · exact use_s (key := Str.ofString "Font") (ws := [Str.ofString "Tf"]) (by kernel_rfl) (by kernel_rfl) ds k t
    · exact use_s (key := Str.ofString "XObject") (ws := [Str.ofString "Do"]) (by kernel_rfl) (by kernel_rfl) ds k t
    · exact use_s (key := Str.ofString "ExtGState") (ws := [Str.ofString "gs"]) (by kernel_rfl) (by kernel_rfl) ds k t
    · exact use_s (key := Str.ofString "Shading") (ws := [Str.ofString "sh"]) (by kernel_rfl) (by kernel_rfl) ds k t
    · exact use_s (key := Str.ofString "ColorSpace") (ws := [Str.ofString "CS", Str.ofString "cs"]) (by kernel_rfl) (by kernel_rfl) ds k t
    · exact use_s (key := Str.ofString "ColorSpace") (ws := [Str.ofString "CS", Str.ofString "cs"]) (by kernel_rfl) (by kernel_rfl) ds k t
    · exact use_p (key := Str.ofString "Pattern") (ws := [Str.ofString "SCN", Str.ofString "scn"]) (by kernel_rfl) (by kernel_rfl) (by kernel_rfl) ds k t
    · exact use_p (key := Str.ofString "Pattern") (ws := [Str.ofString "SCN", Str.ofString "scn"]) (by kernel_rfl) (by kernel_rfl) (by kernel_rfl) ds k t
    · exact use_p (key := Str.ofString "Properties") (ws := [Str.ofString "BDC", Str.ofString "DP"]) (by kernel_rfl) (by kernel_rfl) (by kernel_rfl) ds k t
    · exact use_p (key := Str.ofString "Properties") (ws := [Str.ofString "BDC", Str.ofString "DP"]) (by kernel_rfl) (by kernel_rfl) (by kernel_rfl) ds k t
  · simp only [List.mem_cons, List.not_mem_nil, or_false, not_or] at hm
    obtain ⟨n1, n2, n3, n4, n5, n6, n7, n8, n9, n10⟩ := hm
    have e : ∀ {x : Str}, ¬ wd = x → (wd == x) = false := fun h => by simpa using h
    have e' : ∀ {x : Str}, ¬ wd = x → (x == wd) = false := fun h => by simpa using fun q => h q.symm
    have l1 : sortsL.lookup wd = none := by simp only [sortsL, List.lookup, e n1, e n2, e n3, e n4, e n5, e n6]
    have l2 : spotsL.lookup wd = none := by simp only [spotsL, List.lookup, e n7, e n8, e n9, e n10]
    have l3 : rowsL.filter (fun r => r.words.any (· == wd)) = [] := by
      simp only [rowsL, List.filter, List.any, e' n1, e' n2, e' n3, e' n4, e' n5, e' n6, e' n7, e' n8, e' n9, e' n10, Bool.or_false]
    exact iff_of_false (rows_miss l3 ds k t) (by simp only [useOf, l1, l2]; simp)
theorem LUsed.all (ops : List Op) (k t : Str) : LUsed ops rowsL k t ↔ Used ops k t := by
  unfold LUsed Used
  constructor
  · rintro ⟨r, hr, hk, op, ho, he⟩
    exact ⟨op, ho, (useOf_rows op k t).mp ⟨r, hr, hk, he⟩⟩
  · rintro ⟨op, ho, hu⟩
    obtain ⟨r, hr, hk, he⟩ := (useOf_rows op k t).mpr hu
    exact ⟨r, hr, hk, op, ho, he⟩
theorem rows_sorts : (rowsL.map (·.sort)).Nodup := by decide +kernel
theorem LUsed.next {ops : List Op} {i : Nat} {r : Row} (h : rowsL[i]? = some r) (k t : Str) : LUsed ops (rowsL.take (i + 1)) k t ↔ LUsed ops (rowsL.take i) k t ∨ (r.sort = k ∧ ∃ op ∈ ops, endOf r op = some (.nm t)) := by
  unfold LUsed
  rw [List.take_add_one, h]
  simp only [Option.toList_some, List.mem_append, List.mem_singleton]
  constructor
  · rintro ⟨o, h1 | rfl, h2⟩
    · exact .inl ⟨o, h1, h2⟩
    · exact .inr h2
  · rintro (⟨o, h1, h2⟩ | h2)
    · exact ⟨o, .inl h1, h2⟩
    · exact ⟨r, .inr rfl, h2⟩
theorem LUsed.fresh {ops : List Op} {i : Nat} {r : Row} (h : rowsL[i]? = some r) (t : Str) : ¬ LUsed ops (rowsL.take i) r.sort t := by
  rintro ⟨r', hr', hk, _⟩
  have hn := rows_sorts
  have e : rowsL = rowsL.take i ++ rowsL.drop i := (List.take_append_drop i rowsL).symm
  rw [e, List.map_append, List.nodup_append] at hn
  refine hn.2.2 r'.sort (List.mem_map.mpr ⟨r', hr', rfl⟩) r.sort (List.mem_map.mpr ⟨r, ?_, rfl⟩) hk
  have hi : i < rowsL.length := by
    rw [List.getElem?_eq_some_iff] at h
    exact h.1
  rw [List.drop_eq_getElem_cons hi]
  rw [List.getElem?_eq_getElem hi] at h
  cases h
  exact .head _
def nmOf : Opd → Option Str
  | .nm t => some t
  | _ => none
theorem mem_names {ops : List Op} {r : Row} {t : Str} : t ∈ (ops.filterMap (endOf r)).filterMap nmOf ↔ ∃ op ∈ ops, endOf r op = some (.nm t) := by
  simp only [List.mem_filterMap]
  constructor
  · rintro ⟨d, ⟨op, ho, he⟩, hd⟩
    cases d with
    | nm x => simp only [nmOf, Option.some.injEq] at hd; subst hd; exact ⟨op, ho, he⟩
    | int i => cases hd
    | dct => cases hd
  · rintro ⟨op, ho, he⟩
    exact ⟨_, ⟨op, ho, he⟩, rfl⟩
theorem stored_keys (kvs : List (Str × Value)) (k : Str) (v : Value) (t : Str) : t ∈ (stored kvs k v).map (·.1) ↔ t ∈ kvs.map (·.1) ∨ t = k := by
  unfold stored
  split
  · rename_i h
    have e : (kvs.map fun kv => if kv.1 = k then (kv.1, v) else kv).map (·.1) = kvs.map (·.1) := by
      rw [List.map_map]
      refine List.map_congr_left fun kv _ => ?_
      simp only [Function.comp]
      split <;> rfl
    rw [e]
    refine ⟨.inl, fun h' => h'.elim id fun e' => ?_⟩
    subst e'
    obtain ⟨p, hp, hk⟩ := List.any_eq_true.mp h
    exact List.mem_map.mpr ⟨p, hp, by simpa using hk⟩
  · simp
theorem merged_keys : ∀ (more kvs : List (Str × Value)) (t : Str), t ∈ (merged kvs more).map (·.1) ↔ t ∈ kvs.map (·.1) ∨ t ∈ more.map (·.1)
  | [], kvs, t => by simp [merged]
  | p :: r, kvs, t => by
    have := merged_keys r (stored kvs p.1 p.2) t
    rw [stored_keys] at this
    show t ∈ (merged (stored kvs p.1 p.2) r).map (·.1) ↔ _
    rw [this]
    simp only [List.map_cons, List.mem_cons]
    constructor
    · rintro ((h | h) | h)
      · exact .inl h
      · exact .inr (.inl h)
      · exact .inr (.inr h)
    · rintro (h | h | h)
      · exact .inl (.inl h)
      · exact .inl (.inr h)
      · exact .inr h
theorem endOf_spot {prog : Program} {w : World} {nx : List (Addr × Obj)} {v d vs ds} (h : OpdIn prog w nx v d) (hs : OpdAll prog w nx vs ds) (sp : Int) :
    ∃ v' d', (if sp = 0 then (v :: vs).head? else (v :: vs).getLast?) = some v' ∧ (if sp = 0 then (d :: ds).head? else (d :: ds).getLast?) = some d' ∧ OpdIn prog w nx v' d' := by
  by_cases e : sp = 0
  · rw [if_pos e, if_pos e]; exact ⟨v, d, rfl, rfl, h⟩
  · rw [if_neg e, if_neg e]; exact OpdAll.last h hs
theorem take_filter {α β : Type} {f : α → Option β} {l : List α} {i : Nat} {x : α} (h : l[i]? = some x) : (l.take (i + 1)).filterMap f = (l.take i).filterMap f ++ (match f x with | some y => [y] | none => []) := by
  rw [List.take_add_one, h, List.filterMap_append]
  congr 1
  simp only [Option.toList_some, List.filterMap_cons, List.filterMap_nil]
  cases f x <;> rfl
/-! the pairs of _law_pairs -/
def keysL : List (Str × Str) := [(Str.ofString "BPC", Str.ofString "BitsPerComponent"), (Str.ofString "CS", Str.ofString "ColorSpace"), (Str.ofString "D", Str.ofString "Decode"), (Str.ofString "DP", Str.ofString "DecodeParms"), (Str.ofString "F", Str.ofString "Filter"), (Str.ofString "H", Str.ofString "Height"), (Str.ofString "IM", Str.ofString "ImageMask"), (Str.ofString "I", Str.ofString "Interpolate"), (Str.ofString "W", Str.ofString "Width")]
def namesL : List (Str × Str) := [(Str.ofString "G", Str.ofString "DeviceGray"), (Str.ofString "RGB", Str.ofString "DeviceRGB"), (Str.ofString "CMYK", Str.ofString "DeviceCMYK"), (Str.ofString "I", Str.ofString "Indexed"), (Str.ofString "AHx", Str.ofString "ASCIIHexDecode"), (Str.ofString "A85", Str.ofString "ASCII85Decode"), (Str.ofString "LZW", Str.ofString "LZWDecode"), (Str.ofString "Fl", Str.ofString "FlateDecode"), (Str.ofString "RL", Str.ofString "RunLengthDecode"), (Str.ofString "CCF", Str.ofString "CCITTFaxDecode"), (Str.ofString "DCT", Str.ofString "DCTDecode")]
def flatL (l : List (Str × Str)) : List Str := l.flatMap fun p => [p.1, p.2]
theorem flat_at : ∀ {l : List (Str × Str)} {i : Nat} {p : Str × Str}, l[i]? = some p → (flatL l)[2 * i]? = some p.1 ∧ (flatL l)[2 * i + 1]? = some p.2
  | [], _, _, h => by simp at h
  | q :: r, 0, p, h => by simp only [List.getElem?_cons_zero, Option.some.injEq] at h; subst h; exact ⟨rfl, rfl⟩
  | q :: r, i + 1, p, h => by
    have ih := flat_at (l := r) (i := i) (p := p) (by simpa using h)
    have e : 2 * (i + 1) = 2 * i + 1 + 1 := by omega
    rw [e]
    show ((q.1 :: q.2 :: flatL r)[2 * i + 1 + 1]? = _) ∧ ((q.1 :: q.2 :: flatL r)[2 * i + 1 + 1 + 1]? = _)
    simpa using ih
theorem strs_at {vs : List Value} {ss : List Str} (h : StrsAre vs ss) : ∀ {i : Nat} {y : Str}, ss[i]? = some y → ∃ t, vs[i]? = some (.str y t) := by
  induction h with
  | nil => intro i y e; simp at e
  | cons x t _ ih =>
    intro i y e
    cases i with
    | zero => simp only [List.getElem?_cons_zero, Option.some.injEq] at e; subst e; exact ⟨t, rfl⟩
    | succ i => simp only [List.getElem?_cons_succ] at e ⊢; exact ih e
theorem StrTab.snoc {kvs : List (Str × Value)} {l : List (Str × Str)} (h : StrTab kvs l) (k x : Str) (t : Tok) : StrTab (kvs ++ [(k, .str x t)]) (l ++ [(k, x)]) := by
  induction h with
  | nil => exact .cons .nil
  | cons _ ih => exact .cons ih
theorem StrTab.keys {kvs : List (Str × Value)} {l : List (Str × Str)} (h : StrTab kvs l) : kvs.map (·.1) = l.map (·.1) := by
  induction h with
  | nil => rfl
  | cons _ ih => simp only [List.map_cons, ih]
inductive DictsIn (prog : Program) (w : World) (nx : List (Addr × Obj)) : List Value → List (List (Str × Str)) → Prop
  | nil : DictsIn prog w nx [] []
  | cons {d : Addr} {o : Obj} {kvs : List (Str × Value)} {tab : List (Str × Str)} {vs tabs} : (d, o) ∈ nx → (d == sysModules) = false → o.IsDictOf (PySem.strKind prog w) kvs → StrTab kvs tab → DictsIn prog w nx vs tabs → DictsIn prog w nx (.ref d :: vs) (tab :: tabs)
theorem DictsIn.mono {prog : Program} {w : World} {nx nx' : List (Addr × Obj)} (hs : ∀ p ∈ nx, p ∈ nx') {vs tabs} (h : DictsIn prog w nx vs tabs) : DictsIn prog w nx' vs tabs := by
  induction h with
  | nil => exact .nil
  | cons a b c d _ ih => exact .cons (hs _ a) b c d ih
theorem DictsIn.snoc {prog : Program} {w : World} {nx : List (Addr × Obj)} {d : Addr} {o : Obj} {kvs : List (Str × Value)} {tab : List (Str × Str)} {vs tabs} (h : DictsIn prog w nx vs tabs) (a : (d, o) ∈ nx) (b : (d == sysModules) = false) (c : o.IsDictOf (PySem.strKind prog w) kvs) (t : StrTab kvs tab) : DictsIn prog w nx (vs ++ [.ref d]) (tabs ++ [tab]) := by
  induction h with
  | nil => exact .cons a b c t .nil
  | cons a' b' c' d' _ ih => exact .cons a' b' c' d' ih
theorem wLU0 : True := by k_with_none; w_top off; (k_with "k_ne" => (refine neN ?_; (try dsimp only); first | with_reducible assumption | with_reducible exact Ne.symm (by assumption) | fail)); trivial
section
/-- the ledger but some -/
def OffL (as : List Addr) (l : List (Addr × Obj)) : List (Addr × Obj) := l.filter fun p => decide (p.1 ∉ as)
theorem mem_offL {as : List Addr} {p : Addr × Obj} {l : List (Addr × Obj)} (h : p ∈ l) (n : p.1 ∉ as) : p ∈ OffL as l := List.mem_filter.mpr ⟨h, by simpa using n⟩
theorem of_offL {as : List Addr} {p : Addr × Obj} {l : List (Addr × Obj)} (h : p ∈ OffL as l) : p ∈ l ∧ p.1 ∉ as := ⟨(List.mem_filter.mp h).1, by simpa using (List.mem_filter.mp h).2⟩
theorem not3 {a b c x : Addr} (h1 : @Ne Nat x a) (h2 : @Ne Nat x b) (h3 : @Ne Nat x c) : x ∉ [a, b, c] := by
  simp only [List.mem_cons, List.not_mem_nil, or_false, not_or]; exact ⟨h1, h2, h3⟩
/-- the loop of _law_used between its turns -/
structure LJ (prog : Program) (w : World) (ops : List Op) (l fd c1 c2 ax : Addr) (RO : List (Addr × Obj)) (i : Nat) (m : Str → Option Value) (nw : List (Addr × Obj)) : Prop where
  out : ∃ fo o1 o2 v1 v2 kvs nx', nw = (fd, fo) :: (c1, o1) :: (c2, o2) :: nx' ∧ (∀ p ∈ RO, p ∈ nx') ∧ fo.IsDictOf (PySem.strKind prog w) kvs ∧ o1.data = .cell v1 ∧ o2.data = .cell v2 ∧ kvs.length ≤ i ∧
    FoundIn nx' kvs (LUsed ops (rowsL.take i)) ∧ (∀ p ∈ nx', p.1 ≠ fd) ∧ (∀ p ∈ nx', p.1 ≠ c1) ∧ (∀ p ∈ nx', p.1 ≠ c2)
  found : m (Str.ofString "found") = some (.ref fd)
  opers : m (Str.ofString "operations") = some (.ref l)
variable {prog : Program} {w : World} {mean : ExcName → Option Value} {mg mb : Str → Option Value} {A : Around} {s : Shared} {h₀ : Heap} {nx : List (Addr × Obj)} {Q E : Value → Shared → Prop}
theorem For_tup {env : Env} {target : Expr} {body : List Stmt} {Q : Flow → Shared → Prop} {pos : Pos} {iter : Expr} {m : Str → Option Value} {g : Heap} (F : Fr g env.locals s.heap m)
    (h : wpAny (model prog w) A (eval iter env) (fun xv s₁ => wpAny (model prog w) A (pyIter xv) (fun it s₂ => TurnsAt prog w A g env target body Q (fun _ _ => False) it s₂) (fun _ _ => False) s₁) (fun _ _ => False) s)
    (hs : ∀ x, foldedSetIterable iter env x = pure x := by intro _; rfl) :
    wpAny (model prog w) A (exec (.For target iter body [] pos) env) Q (fun _ _ => False) s := For_turns F h hs PassesOwn.never
theorem wLU1 : True := by (k_with "k_inst" => (refine' inst_g (by k_asm) (by assumption) (by assumption) (by assumption))); trivial
theorem wLU2 : True := by (k_with "k_all" => (assumption)); trivial
theorem wLU3 : True := by (k_with "k_mem" => (assumption)); trivial
theorem wLU4 : True := by (k_with "k_ne" => (first | assumption | (refine Ne.symm ?_; assumption))); trivial
theorem wLU5 : True := by (k_with "assign Tuple" => (k_here; (with_reducible show wpAny _ _ (assign (Expr.Tuple _ _ _) _ (Value.ref _)) _ _ _); k_dflt (refine' unpackN_ ?F ?N ?T ?k1 ?k2 ?k3 ?_; (case F => k_asm); (case N => k_asm); (case T => first | with_reducible assumption | (refine News.isTup (by k_asm) (by k_mem))); (case k1 => exact Rm.hh (Rm.deeper (d := 7) (by assumption) _)); (case k2 => exact rfl); (case k3 => exact rfl)); intro h'₉ F'₉ N'₉; (try k_sweep))); trivial
theorem wLU6 : True := by (k_with "exec Assign cons ListComp" => (k_here; k_dflt (refine LCt.Assign_ListComp_T (F₀ := by k_asm) rfl (by with_unfolding_all rfl) (by with_unfolding_all rfl) (by decide) (by rfl) (by decide) (by rfl) (by rfl) (by rfl) ?_))); trivial
theorem wLU7 : True := by (k_with "eval ListComp" => (k_here; k_dflt (refine LCt.ListComp_T (F₀ := by k_asm) (by with_unfolding_all rfl) (by decide) (by rfl) (by decide) (by rfl) ?_))); trivial
theorem wLU8 : True := by (k_with "exec For" => (k_here; (with_reducible show wpAny _ _ (exec (Stmt.For (Expr.Tuple _ _ _) _ _ [] _) _) _ _ _); (rename Fr _ _ _ _ => F'₉); with_unfolding_all refine For_tup F'₉ ?_)); trivial
theorem lu_loop {env : Env} {target : Expr} {body : List Stmt} {Q : Flow → Shared → Prop} {E : Value → Shared → Prop} {m : Str → Option Value} {g : Heap} {l fd c1 c2 ax : Addr} {fo o1 o2 : Obj} {v1 v2 : Option Value} {rv : List Value} {ops : List Op} {c : Nat} {RO led : List (Addr × Obj)}
    (hh : A.handled = none) (F : Fr g env.locals s.heap m) (N : News g env.locals s.heap led) (hs : ∀ p ∈ (fd, fo) :: (c1, o1) :: (c2, o2) :: RO, p ∈ led)
    (hf : fo.IsDictOf (PySem.strKind prog w) []) (h1 : o1.data = .cell v1) (h2 : o2.data = .cell v2) (hax : (ax, listOf rv.toArray c) ∈ RO) (hr : RowsAt RO rv rowsL)
    (a1 : ∀ p ∈ RO, p.1 ≠ fd) (a2 : ∀ p ∈ RO, p.1 ≠ c1) (a3 : ∀ p ∈ RO, p.1 ≠ c2) (lf : (fd == sysModules) = false)
    (m1 : m (Str.ofString "found") = some (.ref fd)) (m2 : m (Str.ofString "operations") = some (.ref l)) (n1 : @Ne Nat fd c1) (n2 : @Ne Nat fd c2) (n3 : @Ne Nat c1 c2)
    (turn : ∀ i r (m₁ : Str → Option Value) fd fo o1 o2 v1 v2 kvs nx' h tk I oI (t : Addr) (w' : Addr) tk1 tk2 (ws : List Value) c', rowsL[i]? = some r → (fd == sysModules) = false → (∀ p ∈ RO, p ∈ nx') →
      (w', listOf ws.toArray c') ∈ nx' → StrsAre ws r.words → (r.spot = 0 ∨ r.spot = -1) →
      fo.IsDictOf (PySem.strKind prog w) kvs → o1.data = .cell v1 → o2.data = .cell v2 → kvs.length ≤ i → i < 7 → FoundIn nx' kvs (LUsed ops (rowsL.take i)) →
      (∀ p ∈ nx', p.1 ≠ fd) → (∀ p ∈ nx', p.1 ≠ c1) → (∀ p ∈ nx', p.1 ≠ c2) → (∀ p ∈ nx', p.1 ≠ I) → @Ne Nat fd c1 → @Ne Nat fd c2 → @Ne Nat c1 c2 → @Ne Nat fd I → @Ne Nat c1 I → @Ne Nat c2 I → 
      @Ne Nat t fd → @Ne Nat t c1 → @Ne Nat t c2 → @Ne Nat t I → @Ne Nat w' fd → @Ne Nat w' c1 → @Ne Nat w' c2 → @Ne Nat w' I →
      Fr g env.locals h (fun y => if y = Str.ofString "found" then some (.ref fd) else if y = Str.ofString "operations" then some (.ref l) else m₁ y) →
      News g env.locals h ((t, { cls := .type "tuple", data := .seq #[.str r.sort tk1, .ref w', .int r.spot tk2] }) :: (w', listOf ws.toArray c') :: (I, oI) :: (fd, fo) :: (c1, o1) :: (c2, o2) :: nx') →
      wpAny (model prog w) A (assign target env (.ref t)) (fun _ s₂ => wpAny (model prog w) A (execs body env) (LPost g env.locals (LJ prog w ops l fd c1 c2 ax RO (i + 1)) I oI { s with heap := h, toks := tk } Q) E s₂) E { s with heap := h, toks := tk })
    (done : ∀ m₁ fo o1 o2 kvs nx' h tk, Fr g env.locals h m₁ → m₁ (Str.ofString "found") = some (.ref fd) → News g env.locals h ((fd, fo) :: (c1, o1) :: (c2, o2) :: nx') → fo.IsDictOf (PySem.strKind prog w) kvs → FoundIn nx' kvs (Used ops) → Q .next { s with heap := h, toks := tk }) :
    wpAny (model prog w) A (pyIter (.ref ax)) (fun it s₂ => TurnsAt prog w A g env target body Q E it s₂) E s := by
  have hlen : rv.length = 7 := by
    have : ∀ {vs rs}, RowsAt RO vs rs → vs.length = rs.length := by
      intro vs rs h
      induction h with
      | nil => rfl
      | cons _ _ ih => simp [ih]
    rw [this hr]; rfl
  have N0 : News g env.locals s.heap ((fd, fo) :: (c1, o1) :: (c2, o2) :: RO) := fun p hp => N p (hs p hp)
  refine for_turns (LJ prog w ops l fd c1 c2 ax RO) hh F N0 (.tail _ (.tail _ (.tail _ hax))) ⟨⟨fo, o1, o2, v1, v2, [], RO, rfl, fun _ h => h, hf, h1, h2, Nat.le_refl _, FoundIn.empty _ (fun k t ⟨r, hr, _⟩ => by simp at hr), a1, a2, a3⟩, m1, m2⟩ ?_ ?_ ?_
  · rintro i m nw ⟨⟨fo, o1, o2, v1, v2, kvs, nx', rfl, hRO, _⟩, _, _⟩
    exact .tail _ (.tail _ (.tail _ (hRO _ hax)))
  · rintro i v m₁ nw h tk I oI hi hv ⟨⟨fo', o1', o2', v1', v2', kvs', nx', rfl, hRO, hd', h1', h2', hk', hF', b1, b2, b3⟩, e1, e2⟩ off F₁ N₁
    obtain ⟨r, hr', hrow⟩ := hr.at hv
    obtain @⟨t, w', sort, words, spot, tk1, tk2, ws, c', ht, hw, hss, hsp⟩ := hrow
    simp only [List.mem_cons, forall_eq_or_imp] at off
    obtain ⟨f1, f2, f3, f4⟩ := off
    have ht' := hRO _ ht
    have hw' := hRO _ hw
    refine turn i _ m₁ fd fo' o1' o2' v1' v2' kvs' nx' h tk I oI t w' tk1 tk2 ws c' hr' lf hRO hw' hss hsp hd' h1' h2' hk' (hlen ▸ hi) hF' b1 b2 b3 f4 n1 n2 n3 f1 f2 f3 (b1 _ ht') (b2 _ ht') (b3 _ ht') (f4 _ ht') (b1 _ hw') (b2 _ hw') (b3 _ hw') (f4 _ hw') ?_ ?_
    · have em : m₁ = fun y => if y = Str.ofString "found" then some (.ref fd) else if y = Str.ofString "operations" then some (.ref l) else m₁ y := by
        funext y
        repeat' split
        all_goals first | rfl | (subst_vars; assumption)
      have F₂ := F₁
      rw [em] at F₂
      exact F₂
    · intro p hp
      rcases List.mem_cons.mp hp with rfl | hp
      · exact N₁ _ (.tail _ (.tail _ (.tail _ (.tail _ ht'))))
      · rcases List.mem_cons.mp hp with rfl | hp
        · exact N₁ _ (.tail _ (.tail _ (.tail _ (.tail _ hw'))))
        · exact N₁ _ hp
  · rintro m₁ nw h tk ⟨⟨fo', o1', o2', v1', v2', kvs', nx', rfl, hRO, hd', h1', h2', hk', hF', b1, b2, b3⟩, e1, e2⟩ F₁ N₁
    refine done m₁ fo' o1' o2' kvs' nx' h tk F₁ e1 N₁ hd' (hF'.mono (fun _ h => h) fun k t => ?_)
    rw [← LUsed.all]
    have : rowsL.take rv.length = rowsL := by rw [hlen]; rfl
    rw [this]
theorem ne_empty {g : Heap} {L a b : Addr} {oa ob : Obj} {news : List (Addr × Obj)} {kvs : List (Str × Value)} (N : News g L s.heap news) (ha : (a, oa) ∈ news) (hb : (b, ob) ∈ news) (da : oa.IsDictOf (PySem.strKind prog w) kvs) (db : ob.IsDictOf (PySem.strKind prog w) []) (la : (a == sysModules) = false) (lb : (b == sysModules) = false) (hu : A.units < cLine)
    (h : Q (.bool (!kvs.isEmpty)) s) : wpAny (model prog w) A (compareOp .NotEq (.ref a) (.ref b)) Q E s := by
  refine keq_ne (r := true) la lb (kda_dict N ha da) (kda_dict N hb db) hu (fun hl => ?_) ?_
  · have : kvs = [] := List.length_eq_zero_iff.mp hl
    subst this
    exact .nil
  · cases kvs with
    | nil => simpa using h
    | cons x r => simpa using h
theorem list_keys_K {g : Heap} {L d : Addr} {o : Obj} {m : Str → Option Value} {news : List (Addr × Obj)} {kvs : List (Str × Value)} (hh : A.handled = none) (F : Fr g L s.heap m) (N : News g L s.heap news) (hp : (d, o) ∈ news) (hd : o.IsDictOf (PySem.strKind prog w) kvs) (lo : (d == sysModules) = false) (hn : kvs.length ≤ 16777216)
    (h : ∀ (B : Addr) (vs : List Value) c h' tk, Fr g L h' m → News g L h' ((B, listOf vs.toArray c) :: news) → (∀ q ∈ news, q.1 < B) → StrsAre vs (kvs.map (·.1)) → vs.length = kvs.length → Q (.ref B) { s with heap := h', toks := tk }) :
    wpAny (model prog w) A (call (.type "list") [.ref d]) Q E s := by
  obtain ⟨ep, hat⟩ := (kda_dict N hp hd).dictAt
  refine kdl_N (kdl_dict (knd := PySem.strKind prog w) (kvs := kvs) (ep := ep) lo) hh F N hat (kdl_size hn) fun B c h' tk vs F' N' l1 hl hv => h B vs c h' tk F' N' l1 ?_ hl
  have : ∀ (vs : List Value) (kvs : List (Str × Value)), vs.length = kvs.length → (∀ (j : Nat) (v : Value), vs[j]? = some v → ∃ k x, kvs[j]? = some (k, x) ∧ (PySem.strKind prog w).is k v = true) → StrsAre vs (kvs.map (·.1)) := by
    intro vs
    induction vs with
    | nil =>
      intro kvs hl _
      have : kvs = [] := List.length_eq_zero_iff.mp hl.symm
      subst this
      exact .nil
    | cons v r ih =>
      intro kvs hl hv
      cases kvs with
      | nil => simp at hl
      | cons p q =>
        obtain ⟨k, x, e, hk⟩ := hv 0 v rfl
        simp only [List.getElem?_cons_zero, Option.some.injEq] at e
        subst e
        obtain ⟨t, rfl⟩ := Value.isStrOf_shape hk
        exact .cons k t (ih q (by simpa using hl) fun j u hu => by simpa using hv (j + 1) u (by simpa using hu))
  exact this vs kvs hl hv
theorem item_spot {value slice : PySem.Expr} {l : Addr} {vs : List Value} {v : Value} {sp : Int} {u : Tok} (hsp : sp = 0 ∨ sp = -1) (hl : s.heap.IsList l vs.toArray) (hv : (if sp = 0 then vs.head? else vs.getLast?) = some v) (h : Q v s)
    (hs : ∀ i : Int, subscripted slice false (.ref l) (.int i u) = operate [.ref l, .int i u] (getItem (.ref l) (.int i u)) := by intro _; with_unfolding_all rfl) :
    wpAny (model prog w) A (subscriptTail value slice (.ref l) (.int sp u)) Q E s := by
  rcases hsp with rfl | rfl
  · rw [if_pos rfl] at hv
    cases vs with
    | nil => cases hv
    | cons x r => cases hv; exact item_first hl h (hs 0)
  · rw [if_neg (by decide)] at hv
    exact item_last hl hv h (hs (-1))
theorem wLU9 : True := by (k_with "compareOp NotEq ref ref" => (k_here; (refine ne_nil (list_g (by k_asm) (by assumption) (by assumption)) (News.isList (by k_asm) (by k_mem)) (Rm.units (Rm.deeper (d := 7) (by assumption) _)) ?_); (try dsimp only [List.isEmpty, Bool.not]))); trivial
theorem wLU10 : True := by (k_with "compareOp In str ref" => (k_here; k_dflt (refine in_list_strs (News.isList (by k_asm) (by k_mem)) (by assumption) ?_))); trivial
theorem wLU11 : True := by (k_with "subscriptTail" => (k_here; (with_reducible show wpAny _ _ (subscriptTail _ _ (Value.ref _) (Value.int _ _)) _ _ _); (with_unfolding_all refine' item_spot (by assumption) (list_g (by k_asm) (by assumption) (by assumption)) (by assumption) ?_ ?_); (try (intro _; with_unfolding_all rfl)))); trivial
theorem lu_end {g h' : Heap} {L I l fd c1 c2 ax : Addr} {fo o1 o2 oI : Obj} {v1 v2 : Option Value} {s₁ : Shared} {Q : Flow → Shared → Prop} {m' : Str → Option Value} {tk i : Nat} {kvs : List (Str × Value)} {nx' all RO : List (Addr × Obj)} {ops : List Op}
    (F : Fr g L h' m') (N : News g L h' all) (sub : ∀ p ∈ (I, oI) :: (fd, fo) :: (c1, o1) :: (c2, o2) :: nx', p ∈ all) (hRO : ∀ p ∈ RO, p ∈ nx')
    (hf : fo.IsDictOf (PySem.strKind prog w) kvs) (h1 : o1.data = .cell v1) (h2 : o2.data = .cell v2) (hk : kvs.length ≤ i) (hF : FoundIn nx' kvs (LUsed ops (rowsL.take i)))
    (a1 : ∀ p ∈ nx', p.1 ≠ fd) (a2 : ∀ p ∈ nx', p.1 ≠ c1) (a3 : ∀ p ∈ nx', p.1 ≠ c2) (a4 : ∀ p ∈ nx', p.1 ≠ I) (n6 : @Ne Nat fd I) (n7 : @Ne Nat c1 I) (n8 : @Ne Nat c2 I)
    (m1 : m' (Str.ofString "found") = some (.ref fd)) (m2 : m' (Str.ofString "operations") = some (.ref l)) :
    LPost g L (LJ prog w ops l fd c1 c2 ax RO i) I oI s₁ Q .next { s₁ with heap := h', toks := tk } := by
  refine LPost.next F N _ sub ?_ ⟨⟨fo, o1, o2, v1, v2, kvs, nx', rfl, hRO, hf, h1, h2, hk, hF, a1, a2, a3⟩, m1, m2⟩
  intro p hp
  simp only [List.mem_cons] at hp
  rcases hp with rfl | rfl | rfl | hp
  · exact n6
  · exact n7
  · exact n8
  · exact a4 p hp
theorem wLU12 : True := by (k_with "call builtin:isinstance" => (k_here; (refine' isi_opd (by k_asm) (by k_asm) (by assumption) (by assumption) ?_); intro tki₉)); trivial
theorem wLU13 : True := by (k_with "call type:dict" => (k_here; k_dflt (refine dict_pairs_H (by k_asm) (by k_asm) (Top.nolimit (by k_asm)) (Rm.hh (Rm.deeper (d := 7) (by assumption) _)) (by k_mem) (by assumption) (by assumption) (by omega) ?_); intro d'₉ o'₉ h'₉ tk'₉ F'₉ N'₉ l1₉ lo'₉ hd'₉; (try k_lt l1₉))); trivial
theorem wLU14 : True := by (k_with "compareOp NotEq ref ref" => (k_here; k_dflt (refine ne_empty (by k_asm) (by k_mem) (by k_mem) (by assumption) (by assumption) (by assumption) (by assumption) (Rm.units (Rm.deeper (d := 7) (by assumption) _)) ?_))); trivial
theorem wLU15 : True := by (k_with "call type:list" => (k_here; (with_reducible show wpAny _ _ (call (Value.type "list") [Value.ref _]) _ _ _); k_dflt (refine list_keys_K (Rm.hh (Rm.deeper (d := 7) (by assumption) _)) (by k_asm) (by k_asm) (by k_mem) (by assumption) (by assumption) (by omega) ?_); intro B'₉ vs'₉ c'₉ h'₉ tk'₉ F'₉ N'₉ l1₉ s'₉ e'₉; (try k_lt l1₉); (try k_sweep))); trivial
theorem wLU16 : True := by (k_with "call builtin:sorted" => (k_here; (with_reducible show wpAny _ _ (call (Value.builtin _) [Value.ref _]) _ _ _); k_dflt (refine' sorted_my (by k_asm) (by k_asm) (by k_mem) (by assumption) (by omega) ?_); intro D'₉ h'₉ vs'₉ ss'₉ e'₉ F'₉ N'₉ l1₉ s'₉ p'₉ o'₉; (try k_lt l1₉); (try k_sweep))); trivial
theorem wLU17 : True := by (k_with "setItem ref str" => (k_here; k_dflt (refine' kda_set (knd := PySem.strKind _ _) ?F ?N ?U ?d (strKind_is _ _ _ _) ?z ?_; (case F => k_asm); (case N => k_asm); (case U => k_updF); (case d => assumption); (case z => rw [PySem.sizeLine_eq]; omega)); intro h'₉ o'₉ F'₉ N'₉ hd'₉; (try dsimp only at N'₉))); trivial
set_option maxRecDepth 100000 in
set_option maxHeartbeats 2000000 in
theorem law_used_K {l : Addr} {vs : List Value} {ops : List Op} {c : Nat} (X : (Mine.hd.heap_1 w.params).In h₀) (T : TT mean mg mb h₀) (hR : Rm A 8) (hs : h₀.StaysIn s.heap)
  (hnx : ∀ p ∈ nx, s.heap.get? p.1 = some p.2) (hl : (l, listOf vs.toArray c) ∈ nx) (ho : OpsAll prog w nx vs ops) (h64 : vs.length < 60)
  (hQ : ∀ fd fo kvs nx' h' tk', s.heap.StaysIn h' → Made s.heap h' nx' → (fd, fo) ∈ nx' → (fd == sysModules) = false → fo.IsDictOf (PySem.strKind prog w) kvs → FoundIn nx' kvs (Used ops) → Q (.ref fd) {s with heap := h', toks := tk'}) :
  wpAny (model prog w) A (call (.ref 353) [.ref l]) Q E s := by
  refine wpAny_call ?_
  refine' enterC (news := []) X T hs (fun p hp => nomatch hp) hR.room (by k_is) (by k_is) (by exact BindsTo.of_eq rfl) (by exact rfl) (by decide +kernel) (by exact rfl) (by exact rfl) (by exact rfl) ?_
  intro g L' h₁ tk cells hst hgs hgsub Xg Tg F' N' Y' hlt
  have G : ∀ p ∈ nx, g.get? p.1 = some p.2 := fun p hp => hgsub _ _ (hnx p hp) (by simp)
  clear hlt
  k_cells Y'
  try simp only [List.cons_append, List.nil_append] at N'
  dsimp only
  try k_unmd
  k_fold
  k_steps
  rename Fr _ _ _ _ => F1
  rename News _ _ _ _ => N1
  rename Obj.IsDictOf (PySem.strKind _ _) _ [] => hd0
  rename Addr => fd
  refine with_led N1 ?_
  intro led hled
  have hm := fun (p : Addr × Obj) (h : p ∈ _) => (hled ▸ h : p ∈ led)
  have N2 := hled ▸ N1
  have hro : ∀ (p : Addr × Obj), p ∈ led → p.1 ∉ [fd, L' + 1 + 1, L' + 1] → p ∈ OffL [fd, L' + 1 + 1, L' + 1] led := fun p h n => mem_offL h n
  refine lu_loop (l := l) (ops := ops) (led := led) (c1 := L' + 1 + 1) (c2 := L' + 1) (RO := OffL [fd, L' + 1 + 1, L' + 1] led) (Rm.deeper (d := 7) hR _).hh F1 N2 (List.forall_mem_cons.mpr ⟨hm _ (by k_mem), List.forall_mem_cons.mpr ⟨hm _ (by k_mem), List.forall_mem_cons.mpr ⟨hm _ (by k_mem), fun p hp => (of_offL hp).1⟩⟩⟩) hd0 (by assumption) (by assumption) (hro _ (hm _ (by k_mem)) (not3 (by k_ne) (by k_ne) (by k_ne))) ?hr ?a1 ?a2 ?a3 (by assumption) (by rfl) (by rfl) (by k_ne) (by k_ne) (by k_ne) ?turn ?done
  case hr =>
    repeat' (first | exact RowsAt.nil | refine RowsAt.cons (RowAt.mk (hro _ (hm _ (by k_mem)) (not3 (by k_ne) (by k_ne) (by k_ne))) (hro _ (hm _ (by k_mem)) (not3 (by k_ne) (by k_ne) (by k_ne))) (by repeat' (first | exact StrsAre.nil | refine StrsAre.cons _ _ ?_)) (by decide)) ?_)
  case a1 => exact fun p hp e => (of_offL hp).2 (by rw [e]; exact .head _)
  case a2 => exact fun p hp e => (of_offL hp).2 (by rw [e]; exact .tail _ (.head _))
  case a3 => exact fun p hp e => (of_offL hp).2 (by rw [e]; exact .tail _ (.tail _ (.head _)))
  case turn =>
    clear N1 N2 hm hro hled F1 hd0
    repeat (rename ((_ : Nat) < _ ∧ _) => hz; clear hz)
    intro i r m₁ fd fo o1 o2 v1 v2 kvs nx' h tk I oI t w' tk1 tk2 ws c' hr lf hRO hw hss hsp hd h1 h2 hk hi hF a1 a2 a3 a4 n1 n2 n3 n4 n5 n6 t1 t2 t3 t4 w1 w2 w3 w4 F N
    have h60 : ops.length < 60 := by rw [← ho.len]; exact h64
    k_steps
    refine LCt.CompSrcT.base (its := List.toArray vs) (Rm.deeper (d := 7) hR _).hh (by k_asm) (by k_asm) (list_gg G hl) (by rw [PySem.sizeLine_eq, List.size_toArray]; omega) ?_
    intro g8
    rename Fr _ _ _ _ => Fc
    rename News _ _ _ _ => Nc
    refine with_led Nc ?_
    intro led hled
    refine comp_invT (fun i ys nw => nw = led ∧ ∃ ds, OpdAll prog w nx ys ds ∧ ds = (ops.take i).filterMap (endOf r)) ⟨hled.symm, [], .nil, by simp⟩ ?turn2 ?fin2
    case turn2 =>
      clear Fc Nc
      intro i8 v8 ys8 nw8 I8 oI8 C8 oC8 D8 m8 h8 tk8 E8 hi8 hP8 hinv hC8 hx8 F8 N8 off8 ne8
      obtain ⟨e8, zs, hzs, ez⟩ := hinv
      have hP9 : vs[i8]? = some v8 := by simpa using hP8
      obtain ⟨op, hop, hin⟩ := ho.at hP9
      obtain ⟨b1, b2, b3, b4⟩ := hin
      rename Str => wd
      rename OpdAll _ _ _ _ _ => hops
      subst e8
      subst hled
      have off9 := off8
      simp only [LCg.Off3, and_true] at off8
      cases hops with
      | nil =>
        k_steps
        · rename List.any _ _ = true => hw1
          rename Fr _ _ _ _ => Fz
          rename News _ _ _ _ => Nz
          exact LCg.CompEnd.intro Fz Nz _ (List.Sublist.subset (by repeat (first | exact List.Sublist.refl _ | apply List.Sublist.cons₂ | apply List.Sublist.cons))) off9 (.inl (list_gg G hl)) ⟨rfl, _, hzs, by rw [take_filter hop, ez]; simp [endOf, hw1]⟩
        · rename List.any _ _ = false => hw1
          rename Fr _ _ _ _ => Fz
          rename News _ _ _ _ => Nz
          exact LCg.CompEnd.intro Fz Nz _ (List.Sublist.subset (by repeat (first | exact List.Sublist.refl _ | apply List.Sublist.cons₂ | apply List.Sublist.cons))) off9 (.inl (list_gg G hl)) ⟨rfl, _, hzs, by rw [take_filter hop, ez]; simp [endOf, hw1]⟩
      | cons hd9 hr9 =>
        obtain ⟨v', d', gv, gd, hdd⟩ := endOf_spot hd9 hr9 r.spot
        k_steps
        · rename List.any _ _ = true => hw1
          rename Fr _ _ _ _ => Fz
          rename News _ _ _ _ => Nz
          exact LCg.CompEnd.intro Fz Nz _ (List.Sublist.subset (by repeat (first | exact List.Sublist.refl _ | apply List.Sublist.cons₂ | apply List.Sublist.cons))) off9 (.inl (list_gg G hl)) ⟨rfl, _, hzs.snoc hdd, by rw [take_filter hop, ez]; simp only [endOf, hw1, if_true, gd]⟩
        · rename List.any _ _ = false => hw1
          rename Fr _ _ _ _ => Fz
          rename News _ _ _ _ => Nz
          exact LCg.CompEnd.intro Fz Nz _ (List.Sublist.subset (by repeat (first | exact List.Sublist.refl _ | apply List.Sublist.cons₂ | apply List.Sublist.cons))) off9 (.inl (list_gg G hl)) ⟨rfl, _, hzs, by rw [take_filter hop, ez]; simp [endOf, hw1]⟩
    case fin2 =>
      clear Fc Nc
      intro ys8 nw8 hinv
      obtain ⟨e8, ds, hds, eds⟩ := hinv
      subst e8
      subst hled
      intro D8 h8 tk8 F8 N8 off8
      simp only [LCg.Off1, and_true] at off8
      k_steps
      have hdl : ds.length ≤ 60 := by
        have := List.length_filterMap_le (endOf r) (List.take (List.toArray vs).size ops)
        have h3 : (List.take (List.toArray vs).size ops).length ≤ ops.length := by rw [List.length_take]; omega
        rw [← eds] at this
        omega
      have hyl : ys8.length ≤ 60 := by rw [OpdAll.len hds]; exact hdl
      have hdn : ds = ops.filterMap (endOf r) := by rw [eds, List.size_toArray, ho.len, List.take_length]
      refine LCt.CompSrcT.ledger (its := List.toArray ys8) (Rm.deeper (d := 7) hR _).hh (by k_asm) (by k_asm) (by k_mem) (by rw [PySem.sizeLine_eq]; simp only [List.size_toArray]; omega) ?_
      intro g7
      rename Fr _ _ _ _ => Fc
      rename News _ _ _ _ => Nc
      refine with_led Nc ?_
      intro led2 hled2
      have hD8 : (D8, LCg.lst ys8) ∈ led2 := by rw [hled2]; k_mem
      refine comp_invT (fun i ys nw => ∃ nw1 ks, nw = nw1 ++ led2 ∧ PairsIn nw1 ys ks ∧ ks.map (·.1) = (ds.take i).filterMap nmOf) ⟨[], [], hled2.symm, .nil, by simp⟩ ?turn3 ?fin3
      case turn3 =>
        clear Fc Nc hled2
        intro i8 v8 ys7 nw8 I8 oI8 C8 oC8 D7 m8 h8 tk8 E8 hi8 hP8 hinv hC8 hx8 F8 N8 off8 ne8
        obtain ⟨nw1, ks, e8, hps, eks⟩ := hinv
        have hP9 : ys8[i8]? = some v8 := by simpa using hP8
        obtain ⟨d9, hd9, hin⟩ := OpdAll.at hds hP9
        have hin' := hin
        have hD9 : (D8, LCg.lst ys8) ∈ nw8 := by rw [e8]; exact List.mem_append_right _ hD8
        have z1 : I8 < h8.objs.size := Heap.lt_size (N8 _ (.head _)).1
        have z2 : C8 < h8.objs.size := Heap.lt_size (N8 _ (.tail _ (.head _))).1
        have z3 : D7 < h8.objs.size := Heap.lt_size (N8 _ (.tail _ (.tail _ (.head _)))).1
        k_steps
        · rename isNm _ = true => hnm
          cases hin' with
          | int i8 t8 => cases hnm
          | dct x8 x9 => cases hnm
          | @nm a8 dx8 t8 u8 v9 nn8 x8 x9 =>
            k_steps
            rename Fr _ _ _ _ => Fz
            rename News _ _ _ _ => Nz
            exact LCg.CompEnd.intro Fz Nz ((_, _) :: nw8) (List.forall_mem_cons.mpr ⟨by k_mem, List.forall_mem_cons.mpr ⟨by k_mem, List.forall_mem_cons.mpr ⟨by k_mem, List.forall_mem_cons.mpr ⟨List.Mem.head _, fun p hp => by repeat (first | exact hp | apply List.Mem.tail)⟩⟩⟩⟩) ⟨⟨Nat.ne_of_gt z1, Nat.ne_of_gt z2, Nat.ne_of_gt z3⟩, off8⟩ (.inr ⟨_, .tail _ hD9, rfl, _, rfl⟩)
              ⟨(_, _) :: nw1, ks ++ [(t8, .bool true)], by rw [e8]; rfl, PairsIn.snoc (hps.mono fun _ h => .tail _ h) (.head _) ⟨rfl, _, _, rfl⟩, by rw [List.map_append, eks, take_filter hd9]; rfl⟩
        · rename isNm _ = false => hnm
          rename Fr _ _ _ _ => Fz
          rename News _ _ _ _ => Nz
          exact LCg.CompEnd.intro Fz Nz nw8 (fun _ h => h) off8 (.inr ⟨_, hD9, rfl, _, rfl⟩) ⟨nw1, ks, e8, hps, by rw [eks, take_filter hd9]; cases d9 <;> first | (cases hnm; done) | simp [nmOf]⟩
      case fin3 =>
        clear Fc Nc
        intro ys7 nw8 hinv
        obtain ⟨nw1, ks, e8, hps, eks⟩ := hinv
        subst e8
        intro D7 h7 tk7 F7 N7 off7
        have hH : ∀ p ∈ nw1, h7.get? p.1 = some p.2 := fun p hp => (N7 _ (.tail _ (List.mem_append_left _ hp))).1
        have N6 : News g _ h7 ((D7, LCg.lst ys7) :: led2) := fun p hp => N7 p (by
          rcases List.mem_cons.mp hp with rfl | hp
          · exact .head _
          · exact .tail _ (List.mem_append_right _ hp))
        have off6 := off1_right off7
        clear N7 off7
        subst hled2
        simp only [LCg.Off1, and_true] at off6
        have hkl : ks.length ≤ 60 := by
          have h1 := List.length_filterMap_le nmOf (List.take (List.toArray ys8).size ds)
          have h3 : (List.take (List.toArray ys8).size ds).length ≤ ds.length := by rw [List.length_take]; omega
          rw [← eks, List.length_map] at h1
          omega
        have hml : (merged [] ks).length ≤ 60 := by
          have := merged_length_le ([] : List (Str × Value)) ks
          simp only [List.length_nil] at this
          omega
        have hkeys : ∀ t, t ∈ (merged [] ks).map (·.1) ↔ ∃ op ∈ ops, endOf r op = some (.nm t) := fun t => by
          rw [merged_keys, eks, List.size_toArray, OpdAll.len hds, List.take_length, hdn, mem_names]
          simp
        k_steps
        · rename List.isEmpty _ = true => hemp
          have hno : ∀ t, ¬ ∃ op ∈ ops, endOf r op = some (.nm t) := fun t h => by
            have := (hkeys t).mpr h
            rw [List.isEmpty_iff] at hemp
            rw [hemp] at this; cases this
          rename Fr _ _ _ _ => Fz
          rename News _ _ _ _ => Nz
          exact lu_end Fz Nz (List.forall_mem_cons.mpr ⟨by k_mem, List.forall_mem_cons.mpr ⟨by k_mem, List.forall_mem_cons.mpr ⟨by k_mem, List.forall_mem_cons.mpr ⟨by k_mem, fun p hp => by repeat (first | exact hp | apply List.Mem.tail)⟩⟩⟩⟩) hRO hd (by assumption) (by assumption) (by omega) (hF.mono (fun _ h => h) fun k t => by rw [LUsed.next hr]; exact ⟨.inl, fun h => h.elim id fun h => absurd h.2 (hno t)⟩) a1 a2 a3 a4 n4 n5 n6 rfl rfl
        · rename List.isEmpty _ = false => hemp
          rename Fr _ _ _ _ => Fz
          rename News _ _ _ _ => Nz
          rename List.Perm _ _ => pz
          rename sortedS _ = true => oz
          rename StrsAre _ _ => sz
          rename Obj.IsDictOf (PySem.strKind _ _) _ (stored _ _ _) => dz
          rename Obj.IsDictOf (PySem.strKind _ _) _ (merged _ _) => dm
          have nz := pz.nodup_iff.mpr (merged_nodup dm)
          exact lu_end Fz Nz (List.forall_mem_cons.mpr ⟨by k_mem, List.forall_mem_cons.mpr ⟨by k_mem, List.forall_mem_cons.mpr ⟨by k_mem, List.forall_mem_cons.mpr ⟨by k_mem, List.forall_mem_cons.mpr ⟨by k_mem, fun p hp => by repeat (first | exact hp | apply List.Mem.tail)⟩⟩⟩⟩⟩) (fun p hp => .tail _ (hRO p hp)) dz (by assumption) (by assumption) (Nat.le_trans (stored_len _ _ _) (by omega))
            (hF.put (fun _ h => .tail _ h) (.head _) sz nz oz (fun e => by rw [e] at pz; have := pz.length_eq; simp only [List.length_nil, List.length_map] at this; rw [List.isEmpty_eq_false_iff] at hemp; exact hemp (List.length_eq_zero_iff.mp this.symm))
              (fun t => by rw [pz.mem_iff, hkeys, LUsed.next hr]; exact ⟨fun h => .inr ⟨rfl, h⟩, fun h => h.elim (fun h => absurd h (LUsed.fresh hr t)) fun h => h.2⟩)
              (fun k t hk => by rw [LUsed.next hr]; exact ⟨.inl, fun h => h.elim id fun h => absurd h.1.symm hk⟩))
            (List.forall_mem_cons.mpr ⟨by k_ne, a1⟩) (List.forall_mem_cons.mpr ⟨by k_ne, a2⟩) (List.forall_mem_cons.mpr ⟨by k_ne, a3⟩) (List.forall_mem_cons.mpr ⟨by k_ne, a4⟩) n4 n5 n6 rfl rfl
  case done =>
    clear N1 N2 hm hro hled F1 hd0
    repeat (rename ((_ : Nat) < _ ∧ _) => hz; clear hz)
    intro m₁ fo o1 o2 kvs nx' h tk F m1 N hf hF
    rw [map_again m1] at F
    k_steps
    rename Fr _ _ _ _ => F9
    rename News _ _ _ _ => N9
    exact hQ _ fo kvs ((_, fo) :: nx') _ _ (stays_led (news := []) hgsub (fun _ h => nomatch h) F9 N9 (fun _ h => nomatch h)) (made_of (newsX := []) hgsub N9 _ (List.forall_mem_cons.mpr ⟨by k_mem, fun p hp => by repeat (first | exact hp | apply List.Mem.tail)⟩) (fun _ _ _ h => nomatch h)) (.head _) (by assumption) hf (hF.mono (fun _ h => .tail _ h) fun _ _ => Iff.rfl)
end
theorem wPR0 : True := by k_with_none; w_top off; (k_with "k_ne" => (refine neN ?_; (try dsimp only); first | with_reducible assumption | with_reducible exact Ne.symm (by assumption) | fail)); trivial
/-! _law_pairs -/
section
def tabsL : List (List (Str × Str)) := [keysL, namesL]
structure PJ (prog : Program) (w : World) (f cc : Addr) (RO : List (Addr × Obj)) (i : Nat) (m : Str → Option Value) (nw : List (Addr × Obj)) : Prop where
  out : ∃ c ds oc cv nx', nw = (f, listOf (List.toArray ds) c) :: (cc, oc) :: nx' ∧ (∀ p ∈ RO, p ∈ nx') ∧ oc.data = .cell cv ∧ ds.length = i ∧ DictsIn prog w nx' ds (tabsL.take i) ∧ (∀ p ∈ nx', p.1 ≠ f) ∧ (∀ p ∈ nx', p.1 ≠ cc)
  found : m (Str.ofString "found") = some (.ref f)
/-- rows of texts -/
inductive FlatsIn (nx : List (Addr × Obj)) : List Value → List (List (Str × Str)) → Prop
  | nil : FlatsIn nx [] []
  | cons {l : Addr} {vs : List Value} {c : Nat} {tab : List (Str × Str)} {us tabs} : (l, listOf vs.toArray c) ∈ nx → StrsAre vs (flatL tab) → FlatsIn nx us tabs → FlatsIn nx (.ref l :: us) (tab :: tabs)
theorem FlatsIn.at {nx : List (Addr × Obj)} {us tabs} (h : FlatsIn nx us tabs) : ∀ {i : Nat} {v : Value}, us[i]? = some v → ∃ l vs c tab, v = .ref l ∧ tabs[i]? = some tab ∧ (l, listOf (List.toArray vs) c) ∈ nx ∧ StrsAre vs (flatL tab) := by
  induction h with
  | nil => intro i v e; simp at e
  | cons a b _ ih =>
    intro i v e
    cases i with
    | zero => simp only [List.getElem?_cons_zero, Option.some.injEq] at e; subst e; exact ⟨_, _, _, _, rfl, rfl, a, b⟩
    | succ i => simp only [List.getElem?_cons_succ] at e ⊢; exact ih e
theorem FlatsIn.len {nx : List (Addr × Obj)} {us tabs} (h : FlatsIn nx us tabs) : us.length = tabs.length := by
  induction h with
  | nil => rfl
  | cons _ _ _ ih => simp [ih]
theorem of_ss {vs : List Value} {ss ts : List Str} (h : StrsAre vs ss) (e : ss = ts) : StrsAre vs ts := e ▸ h
theorem with_ref {g : Heap} {L : Addr} {h : Heap} {m : Str → Option Value} (_ : Fr g L h m) (k : Str) {a : Addr} (e : m k = some (.ref a)) {P : Prop} (c : ∀ f : Addr, f = a → P) : P := c a rfl
variable {prog : Program} {w : World} {mean : ExcName → Option Value} {mg mb : Str → Option Value} {A : Around} {s : Shared} {h₀ : Heap} {nx : List (Addr × Obj)} {Q E : Value → Shared → Prop}
theorem item_idx {value slice : PySem.Expr} {l : Addr} {vs : List Value} {k : Int} {u : Tok} {x : Value} (hl : s.heap.IsList l vs.toArray) (h0 : 0 ≤ k) (hhi : k < 2 ^ 63) (hx : vs[k.toNat]? = some x) (h : Q x s)
    (hs : subscripted slice false (.ref l) (.int k u) = operate [.ref l, .int k u] (getItem (.ref l) (.int k u)) := by with_unfolding_all rfl) :
    wpAny (model prog w) A (subscriptTail value slice (.ref l) (.int k u)) Q E s :=
  tail_any hl.typeIs slot_list_getitem.lookup (wpAny_getItem_list hl h0 hhi (by simpa using hx) h) hs
theorem pr_loop {env : Env} {target : Expr} {body : List Stmt} {Q : Flow → Shared → Prop} {E : Value → Shared → Prop} {m : Str → Option Value} {g : Heap} {f cc ax : Addr} {oc : Obj} {cv : Option Value} {us : List Value} {c : Nat} {RO led : List (Addr × Obj)}
    (hh : A.handled = none) (F : Fr g env.locals s.heap m) (N : News g env.locals s.heap led) (hs : ∀ p ∈ (f, listOf #[] c) :: (cc, oc) :: RO, p ∈ led)
    (hc : oc.data = .cell cv) (hax : (ax, ({ cls := .type "tuple", data := .seq us.toArray } : Obj)) ∈ RO) (hr : FlatsIn RO us tabsL)
    (a1 : ∀ p ∈ RO, p.1 ≠ f) (a2 : ∀ p ∈ RO, p.1 ≠ cc) (m1 : m (Str.ofString "found") = some (.ref f)) (n1 : @Ne Nat f cc)
    (turn : ∀ i tab (m₁ : Str → Option Value) c ds oc cv nx' h tk I oI (rl : Addr) (vs : List Value) c', tabsL[i]? = some tab → i < 2 → (∀ p ∈ RO, p ∈ nx') → (rl, listOf vs.toArray c') ∈ nx' → StrsAre vs (flatL tab) →
      oc.data = .cell cv → ds.length = i → DictsIn prog w nx' ds (tabsL.take i) → (∀ p ∈ nx', p.1 ≠ f) → (∀ p ∈ nx', p.1 ≠ cc) → (∀ p ∈ nx', p.1 ≠ I) → @Ne Nat f cc → @Ne Nat f I → @Ne Nat cc I → @Ne Nat rl f → @Ne Nat rl cc → @Ne Nat rl I →
      Fr g env.locals h (fun y => if y = Str.ofString "found" then some (.ref f) else m₁ y) →
      News g env.locals h ((rl, listOf vs.toArray c') :: (I, oI) :: (f, listOf (List.toArray ds) c) :: (cc, oc) :: nx') →
      wpAny (model prog w) A (assign target env (.ref rl)) (fun _ s₂ => wpAny (model prog w) A (execs body env) (LPost g env.locals (PJ prog w f cc RO (i + 1)) I oI { s with heap := h, toks := tk } Q) E s₂) E { s with heap := h, toks := tk })
    (done : ∀ m₁ c ds oc nx' h tk, Fr g env.locals h m₁ → m₁ (Str.ofString "found") = some (.ref f) → News g env.locals h ((f, listOf (List.toArray ds) c) :: (cc, oc) :: nx') → DictsIn prog w nx' ds tabsL → Q .next { s with heap := h, toks := tk }) :
    wpAny (model prog w) A (pyIter (.ref ax)) (fun it s₂ => TurnsAt prog w A g env target body Q E it s₂) E s := by
  have hlen : us.length = 2 := hr.len
  have N0 : News g env.locals s.heap ((f, listOf #[] c) :: (cc, oc) :: RO) := fun p hp => N p (hs p hp)
  refine for_turnsT (PJ prog w f cc RO) hh F N0 (.tail _ (.tail _ hax)) ⟨⟨c, [], oc, cv, RO, rfl, fun _ h => h, hc, rfl, .nil, a1, a2⟩, m1⟩ ?_ ?_ ?_
  · rintro i m nw ⟨⟨c, ds, oc, cv, nx', rfl, hRO, _⟩, _⟩
    exact .tail _ (.tail _ (hRO _ hax))
  · rintro i v m₁ nw h tk I oI hi hv ⟨⟨c', ds', oc', cv', nx', rfl, hRO, hc', hd', hD', b1, b2⟩, e1⟩ off F₁ N₁
    obtain ⟨rl, vs, c2, tab, rfl, htab, hm, hss⟩ := hr.at hv
    simp only [List.mem_cons, forall_eq_or_imp] at off
    obtain ⟨f1, f2, f4⟩ := off
    have hm' := hRO _ hm
    refine turn i tab m₁ c' ds' oc' cv' nx' h tk I oI rl vs c2 htab (hlen ▸ hi) hRO hm' hss hc' hd' hD' b1 b2 f4 n1 f1 f2 (b1 _ hm') (b2 _ hm') (f4 _ hm') ?_ ?_
    · rw [map_again e1] at F₁
      exact F₁
    · intro p hp
      rcases List.mem_cons.mp hp with rfl | hp
      · exact N₁ _ (.tail _ (.tail _ (.tail _ hm')))
      · exact N₁ _ hp
  · rintro m₁ nw h tk ⟨⟨c', ds', oc', cv', nx', rfl, hRO, hc', hd', hD', b1, b2⟩, e1⟩ F₁ N₁
    refine done m₁ c' ds' oc' nx' h tk F₁ e1 N₁ ?_
    rw [hlen] at hD'
    exact hD'
theorem wPR1 : True := by (k_with "k_all" => (assumption)); trivial
theorem wPR2 : True := by (k_with "k_mem" => (assumption)); trivial
theorem wPR3 : True := by (k_with "k_ne" => (first | assumption | (refine Ne.symm ?_; assumption))); trivial
theorem wPR4 : True := by (k_with "eval ListComp" => (k_here; k_dflt (refine ListComp_R (by k_asm) (by with_unfolding_all rfl) (by decide) (by rfl) (by decide) (by rfl) ?_))); trivial
theorem wPR5 : True := by (k_with "call builtin:len" => (k_here; (refine' len_list (News.isList (by k_asm) (by k_mem)) (by simp only [List.size_toArray]; omega) ?_))); trivial
theorem wPR6 : True := by (k_with "call type:range" => (k_here; k_dflt (refine range3_rows (by k_asm) (by k_asm) (by decide) ?_ (Or.inl (PyProof.noPylong_small (by omega)))); intro h'₉ tk'₉ t1'₉ u1'₉ v1'₉ R'₉ F'₉ N'₉ k'₉)); trivial
theorem wPR7 : True := by (k_with "subscriptTail" => (k_here; (with_reducible show wpAny _ _ (subscriptTail _ _ (Value.ref _) (Value.int _ _)) _ _ _); (with_unfolding_all refine' item_idx (News.isList (by k_asm) (by k_mem)) (by omega) (by omega) (by assumption) ?_ ?_); (try (with_unfolding_all rfl)))); trivial
theorem wPR8 : True := by (k_with "call type:dict" => (k_here; k_dflt (refine dict_pairs_H (by k_asm) (by k_asm) (Top.nolimit (by k_asm)) (Rm.hh (Rm.deeper (d := 7) (by assumption) _)) (by k_mem) (by assumption) (by assumption) (by omega) ?_); intro d'₉ o'₉ h'₉ tk'₉ F'₉ N'₉ l1₉ lo'₉ hd'₉; (try k_lt l1₉))); trivial
theorem wPR9 : True := by (k_with "call builtin:list.append" => (k_here; k_dflt (refine' append_K ?k1 ?k2 ?k3 ?_ ?z; (case k1 => k_asm); (case k2 => k_asm); (case k3 => k_upd); (case z => rw [PySem.sizeLine_eq]; simp only [List.size_toArray]; omega)); intro h'₉ F'₉ N'₉; (try k_sweep))); trivial
set_option maxRecDepth 100000 in
set_option maxHeartbeats 2000000 in
theorem law_pairs_K (X : (Mine.hd.heap_1 w.params).In h₀) (T : TT mean mg mb h₀) (hR : Rm A 8) (hs : h₀.StaysIn s.heap)
  (hQ : ∀ f c ds nx' h' tk', s.heap.StaysIn h' → Made s.heap h' nx' → (f, listOf (List.toArray ds) c) ∈ nx' → DictsIn prog w nx' ds tabsL → Q (.ref f) {s with heap := h', toks := tk'}) :
  wpAny (model prog w) A (call (.ref 358) []) Q E s := by
  refine wpAny_call ?_
  refine' enterC (news := []) X T hs (fun p hp => nomatch hp) hR.room (by k_is) (by k_is) (by exact BindsTo.of_eq rfl) (by exact rfl) (by decide +kernel) (by exact rfl) (by exact rfl) (by exact rfl) ?_
  intro g L' h₁ tk cells hst hgs hgsub Xg Tg F' N' Y' hlt
  clear hlt
  k_cells Y'
  try simp only [List.cons_append, List.nil_append] at N'
  dsimp only
  try k_unmd
  k_fold
  k_steps
  rename Fr _ _ _ _ => F1
  rename News _ _ _ _ => N1
  refine with_ref F1 (Str.ofString "found") rfl ?_
  intro f ef
  subst ef
  refine with_led N1 ?_
  intro led hled
  have hm := fun (p : Addr × Obj) (h : p ∈ _) => (hled ▸ h : p ∈ led)
  have N2 := hled ▸ N1
  have hro : ∀ (p : Addr × Obj), p ∈ led → p.1 ∉ [f, L' + 1] → p ∈ OffL [f, L' + 1] led := fun p h n => mem_offL h n
  have not2 : ∀ {a b x : Addr}, @Ne Nat x a → @Ne Nat x b → x ∉ [a, b] := fun h1 h2 => by
    simp only [List.mem_cons, List.not_mem_nil, or_false, not_or]; exact ⟨h1, h2⟩
  refine pr_loop (f := f) (cc := L' + 1) (led := led) (RO := OffL [f, L' + 1] led) (Rm.deeper (d := 7) hR _).hh F1 N2 (List.forall_mem_cons.mpr ⟨hm _ (by k_mem), List.forall_mem_cons.mpr ⟨hm _ (by k_mem), fun p hp => (of_offL hp).1⟩⟩) (by assumption) (hro _ (hm _ (by k_mem)) (not2 (by k_ne) (by k_ne))) ?hr ?a1 ?a2 (by rfl) (by k_ne) ?turn ?done
  case hr =>
    refine FlatsIn.cons (hro _ (hm _ (by k_mem)) (not2 (by k_ne) (by k_ne))) ?_ (FlatsIn.cons (hro _ (hm _ (by k_mem)) (not2 (by k_ne) (by k_ne))) ?_ FlatsIn.nil)
    · exact of_ss (by assumption) (by kernel_rfl)
    · exact of_ss (by assumption) (by kernel_rfl)
  case a1 => exact fun p hp e => (of_offL hp).2 (by rw [e]; exact .head _)
  case a2 => exact fun p hp e => (of_offL hp).2 (by rw [e]; exact .tail _ (.head _))
  case turn =>
    clear N1 N2 hm hro hled F1 not2
    repeat (rename ((_ : Nat) < _ ∧ _) => hz; clear hz)
    repeat (rename (List.map _ _ = _) => hz; clear hz)
    repeat (rename StrsAre _ _ => hz; clear hz)
    intro i tab m₁ c ds oc cv nx' h tk I oI rl vs c' htab hi hRO hrl hss hc hdl hD a1 a2 a3 n1 n2 n3 r1 r2 r3 F N
    have hvl : (((vs.length : Int) = 18 ∧ tab.length = 9) ∨ ((vs.length : Int) = 22 ∧ tab.length = 11)) ∧ (tab.map (·.1)).Nodup := by
      have hl := StrsAre.length hss
      have hi2 : i = 0 ∨ i = 1 := by omega
      rcases hi2 with rfl | rfl
      · obtain rfl : keysL = tab := Option.some.inj htab
        exact ⟨.inl ⟨by rw [hl]; decide +kernel, by decide +kernel⟩, by decide +kernel⟩
      · obtain rfl : namesL = tab := Option.some.inj htab
        exact ⟨.inr ⟨by rw [hl]; decide +kernel, by decide +kernel⟩, by decide +kernel⟩
    obtain ⟨hvl, htn⟩ := hvl
    k_steps
    rename IsRange _ _ _ _ _ _ _ _ => hrg
    refine SrcStep.range (n := tab.length) (Rm.deeper (d := 7) hR _).hh (by k_asm) (by k_asm) hrg (by rw [List.size_toArray]; rcases hvl with h | h <;> rw [h.1] <;> decide) (by rw [List.size_toArray]; rcases hvl with h | h <;> rw [h.1, h.2] <;> decide) (by rw [PySem.sizeLine_eq]; omega) ?_
    intro g8
    rename Fr _ _ _ _ => Fc
    rename News _ _ _ _ => Nc
    refine with_led Nc ?_
    intro led hled
    have hrow : (rl, listOf vs.toArray c') ∈ led := by rw [hled]; k_mem
    obtain ⟨o2, hcell, ho2⟩ : ∃ o2 : Obj, (L' + 1, o2) ∈ led ∧ o2.data = .cell (some (.ref rl)) := ⟨_, by rw [hled]; k_mem, by assumption⟩
    refine comp_inv (fun i ys nw => ∃ nw1 ks, nw = nw1 ++ led ∧ PairsIn nw1 ys ks ∧ StrTab ks (tab.take i)) ⟨[], [], hled.symm, .nil, .nil⟩ ?turn2 ?fin2
    case turn2 =>
      clear Fc Nc hled
      intro i8 v8 ys8 nw8 I8 oI8 C8 oC8 D8 m8 h8 tk8 E8 hi8 hP8 hinv hC8 hx8 F8 N8 off8 ne8
      obtain ⟨nw1, ks, e8, hps, hst8⟩ := hinv
      obtain ⟨t8, rfl⟩ := hP8
      have r8 : (rl, listOf vs.toArray c') ∈ nw8 := by rw [e8]; exact List.mem_append_right _ hrow
      have c8 : (L' + 1, o2) ∈ nw8 := by rw [e8]; exact List.mem_append_right _ hcell
      obtain ⟨p8, hp8⟩ : ∃ p, tab[i8]? = some p := ⟨_, List.getElem?_eq_getElem hi8⟩
      obtain ⟨f1, f2⟩ := flat_at hp8
      obtain ⟨q1, y1⟩ := strs_at hss f1
      obtain ⟨q2, y2⟩ := strs_at hss f2
      have x1 : vs[(0 + (i8 : Int) * 2).toNat]? = some (.str p8.1 q1) := by rw [show (0 + (i8 : Int) * 2).toNat = 2 * i8 by omega]; exact y1
      have x2 : vs[(0 + (i8 : Int) * 2 + 1).toNat]? = some (.str p8.2 q2) := by rw [show (0 + (i8 : Int) * 2 + 1).toNat = 2 * i8 + 1 by omega]; exact y2
      have z1 : I8 < h8.objs.size := Heap.lt_size (N8 _ (.head _)).1
      have z2 : C8 < h8.objs.size := Heap.lt_size (N8 _ (.tail _ (.head _))).1
      have z3 : D8 < h8.objs.size := Heap.lt_size (N8 _ (.tail _ (.tail _ (.head _)))).1
      k_steps
      rename Fr _ _ _ _ => Fz
      rename News _ _ _ _ => Nz
      rename ((I8 : Nat) < _ ∧ (C8 : Nat) < _ ∧ (D8 : Nat) < _ ∧ _) => l1
      obtain ⟨i1, i2, i3, _⟩ := l1
      exact LCg.CompEnd.intro Fz Nz ((_, _) :: nw8) (List.forall_mem_cons.mpr ⟨.tail _ (.head _), List.forall_mem_cons.mpr ⟨.tail _ (.tail _ (.head _)), List.forall_mem_cons.mpr ⟨.tail _ (.tail _ (.tail _ (.head _))), List.forall_mem_cons.mpr ⟨List.Mem.head _, fun p hp => .tail _ (.tail _ (.tail _ (.tail _ hp)))⟩⟩⟩⟩) ⟨⟨Nat.ne_of_gt i1, Nat.ne_of_gt i2, Nat.ne_of_gt i3⟩, off8⟩ trivial
        ⟨(_, _) :: nw1, ks ++ [(p8.1, .str p8.2 q2)], by rw [e8]; rfl, PairsIn.snoc (hps.mono fun _ h => .tail _ h) (.head _) ⟨rfl, _, _, rfl⟩, by rw [List.take_add_one, hp8]; exact hst8.snoc _ _ _⟩
    case fin2 =>
      clear Fc Nc
      intro ys7 nw8 hinv
      obtain ⟨nw1, ks, e8, hps, hst8⟩ := hinv
      subst e8
      intro D7 h7 tk7 F7 N7 off7
      have hH : ∀ p ∈ nw1, h7.get? p.1 = some p.2 := fun p hp => (N7 _ (.tail _ (List.mem_append_left _ hp))).1
      have N6 : News g _ h7 ((D7, LCg.lst ys7) :: led) := fun p hp => N7 p (by
        rcases List.mem_cons.mp hp with rfl | hp
        · exact .head _
        · exact .tail _ (List.mem_append_right _ hp))
      have off6 := off1_right off7
      clear N7 off7
      subst hled
      simp only [LCg.Off1, and_true] at off6
      rw [List.take_length] at hst8
      have hkl : ks.length ≤ 60 := by
        have := congrArg List.length (StrTab.keys hst8)
        simp only [List.length_map] at this
        omega
      have hkn : (ks.map (·.1)).Nodup := by rw [StrTab.keys hst8]; exact htn
      k_steps
      rename Fr _ _ _ _ => Fz
      rename News _ _ _ _ => Nz
      rename Obj.IsDictOf (PySem.strKind _ _) _ (merged _ _) => dm
      rw [merged_nil_of_nodup _ hkn] at dm
      simp only [List.push_toArray] at Nz
      refine LPost.next Fz Nz ((_, listOf (List.toArray _) _) :: (_, _) :: (_, _) :: nx') (List.forall_mem_cons.mpr ⟨by k_mem, List.forall_mem_cons.mpr ⟨by k_mem, List.forall_mem_cons.mpr ⟨by k_mem, List.forall_mem_cons.mpr ⟨by k_mem, fun p hp => by repeat (first | exact hp | apply List.Mem.tail)⟩⟩⟩⟩) ?_ ⟨⟨_, _, _, _, (_, _) :: nx', rfl, fun p hp => .tail _ (hRO p hp), by assumption, ?_, ?_, ?_, ?_⟩, rfl⟩
      · exact List.forall_mem_cons.mpr ⟨n2, List.forall_mem_cons.mpr ⟨n3, List.forall_mem_cons.mpr ⟨by k_ne, a3⟩⟩⟩
      · rw [List.length_append, hdl]; rfl
      · rw [List.take_add_one, htab]
        exact (hD.mono fun _ h => .tail _ h).snoc (.head _) (by assumption) dm hst8
      · exact List.forall_mem_cons.mpr ⟨by k_ne, a1⟩
      · exact List.forall_mem_cons.mpr ⟨by k_ne, a2⟩
  case done =>
    clear N1 N2 hm hro hled F1 not2
    repeat (rename ((_ : Nat) < _ ∧ _) => hz; clear hz)
    repeat (rename (List.map _ _ = _) => hz; clear hz)
    repeat (rename StrsAre _ _ => hz; clear hz)
    intro m₁ c ds oc nx' h tk F m1 N hD
    rw [map_again m1] at F
    k_steps
    rename Fr _ _ _ _ => F9
    rename News _ _ _ _ => N9
    exact hQ _ c ds ((_, _) :: nx') _ _ (stays_led (news := []) hgsub (fun _ h => nomatch h) F9 N9 (fun _ h => nomatch h)) (made_of (newsX := []) hgsub N9 _ (List.forall_mem_cons.mpr ⟨by k_mem, fun p hp => by repeat (first | exact hp | apply List.Mem.tail)⟩) (fun _ _ _ h => nomatch h)) (.head _) (hD.mono fun _ h => .tail _ h)
end
theorem wTD0 : True := by k_with_none; w_top off; (k_with "k_ne" => (refine neN ?_; (try dsimp only); first | with_reducible assumption | with_reducible exact Ne.symm (by assumption) | fail)); trivial
/-! told -/
/-- what a dict of the law holds -/
inductive Leaf where
  | nm (t : Str)
  | int (i : Int)
inductive LeafIn (w : World) (nx : List (Addr × Obj)) : Value → Leaf → Prop
  | nm {a dx : Addr} {t : Str} {t1 t2 : Tok} {n : Nat} : (a, instObj 171 dx) ∈ nx → (dx, nameDict w t t1 t2 n) ∈ nx → LeafIn w nx (.ref a) (.nm t)
  | int (i : Int) (tk : Tok) : LeafIn w nx (.int i tk) (.int i)
theorem LeafIn.mono {w : World} {nx nx' : List (Addr × Obj)} (hs : ∀ p ∈ nx, p ∈ nx') {v : Value} {d : Leaf} (h : LeafIn w nx v d) : LeafIn w nx' v d := by
  cases h with
  | nm a b => exact .nm (hs _ a) (hs _ b)
  | int i t => exact .int i t
inductive Leaves (w : World) (nx : List (Addr × Obj)) : List Value → List Leaf → Prop
  | nil : Leaves w nx [] []
  | cons {v d vs ds} : LeafIn w nx v d → Leaves w nx vs ds → Leaves w nx (v :: vs) (d :: ds)
theorem Leaves.mono {w : World} {nx nx' : List (Addr × Obj)} (hs : ∀ p ∈ nx, p ∈ nx') {vs ds} (h : Leaves w nx vs ds) : Leaves w nx' vs ds := by
  induction h with
  | nil => exact .nil
  | cons a _ ih => exact .cons (a.mono hs) ih
theorem Leaves.snoc {w : World} {nx : List (Addr × Obj)} {vs ds v d} (h : Leaves w nx vs ds) (k : LeafIn w nx v d) : Leaves w nx (vs ++ [v]) (ds ++ [d]) := by
  induction h with
  | nil => exact .cons k .nil
  | cons a _ ih => exact .cons a ih
theorem Leaves.len {w : World} {nx : List (Addr × Obj)} {vs ds} (h : Leaves w nx vs ds) : vs.length = ds.length := by
  induction h with
  | nil => rfl
  | cons _ _ ih => simp [ih]
theorem Leaves.at {w : World} {nx : List (Addr × Obj)} {vs ds} (h : Leaves w nx vs ds) : ∀ {i : Nat} {v : Value}, vs[i]? = some v → ∃ d, ds[i]? = some d ∧ LeafIn w nx v d := by
  induction h with
  | nil => intro i v e; simp at e
  | cons a _ ih =>
    intro i v e
    cases i with
    | zero => simp only [List.getElem?_cons_zero, Option.some.injEq] at e; subst e; exact ⟨_, rfl, a⟩
    | succ i => simp only [List.getElem?_cons_succ] at e ⊢; exact ih e
inductive Val where
  | one (d : Leaf)
  | arr (ds : List Leaf)
inductive ValIn (w : World) (nx : List (Addr × Obj)) : Value → Val → Prop
  | one {v d} : LeafIn w nx v d → ValIn w nx v (.one d)
  | arr {l : Addr} {vs : List Value} {k : Nat} {ds} : (l, listOf vs.toArray k) ∈ nx → Leaves w nx vs ds → ds.length ≤ 8 → ValIn w nx (.ref l) (.arr ds)
theorem ValIn.mono {w : World} {nx nx' : List (Addr × Obj)} (hs : ∀ p ∈ nx, p ∈ nx') {v : Value} {d : Val} (h : ValIn w nx v d) : ValIn w nx' v d := by
  cases h with
  | one a => exact .one (a.mono hs)
  | arr a b c => exact .arr (hs _ a) (b.mono hs) c
/-- a value that reads as told data -/
def Tree (nx : List (Addr × Obj)) (v : Value) (d : PyData) : Prop := ∀ h : Heap, (∀ p ∈ nx, h.get? p.1 = some p.2) → ∃ as, Reads h v d as
def Trees (nx : List (Addr × Obj)) (vs : List Value) (ds : List PyData) : Prop := ∀ h : Heap, (∀ p ∈ nx, h.get? p.1 = some p.2) → ∃ as, ReadsAll h vs ds as
theorem Tree.mono {nx nx' : List (Addr × Obj)} {v d} (hs : ∀ p ∈ nx, p ∈ nx') (r : Tree nx v d) : Tree nx' v d := fun h hn => r h fun p hp => hn p (hs p hp)
theorem Trees.mono {nx nx' : List (Addr × Obj)} {v d} (hs : ∀ p ∈ nx, p ∈ nx') (r : Trees nx v d) : Trees nx' v d := fun h hn => r h fun p hp => hn p (hs p hp)
theorem Tree.str {nx : List (Addr × Obj)} (x : Str) (t : Tok) : Tree nx (.str x t) (.str x) := fun _ _ => ⟨[], .str x t⟩
theorem Tree.int {nx : List (Addr × Obj)} (x : Int) (t : Tok) : Tree nx (.int x t) (.int x) := fun _ _ => ⟨[], .int x t⟩
theorem Trees.nil {nx : List (Addr × Obj)} : Trees nx [] [] := fun _ _ => ⟨[], .nil⟩
theorem Trees.cons {nx : List (Addr × Obj)} {v d vs ds} (r : Tree nx v d) (rs : Trees nx vs ds) : Trees nx (v :: vs) (d :: ds) := fun h hn => by
  obtain ⟨_, r1⟩ := r h hn
  obtain ⟨_, r2⟩ := rs h hn
  exact ⟨_, .cons r1 r2⟩
theorem Trees.snoc {nx : List (Addr × Obj)} {v d} : ∀ {vs ds}, Trees nx vs ds → Tree nx v d → Trees nx (vs ++ [v]) (ds ++ [d]) := by
  intro vs ds rs r h hn
  obtain ⟨_, r1⟩ := r h hn
  obtain ⟨_, r2⟩ := rs h hn
  clear rs r
  have : ∀ {vs ds as}, ReadsAll h vs ds as → ∃ bs, ReadsAll h (vs ++ [v]) (ds ++ [d]) bs := by
    intro vs ds as r2
    induction vs generalizing ds as with
    | nil => cases r2; exact ⟨_, .cons r1 .nil⟩
    | cons x xs ih =>
      cases r2 with
      | cons a b => obtain ⟨_, z⟩ := ih b; exact ⟨_, .cons a z⟩
  exact this r2
theorem Tree.tuple {nx : List (Addr × Obj)} {a : Addr} {o : Obj} {vs : Array Value} {n : Nat} {ds : List PyData} (hm : (a, o) ∈ nx) (hc : o.cls = .type "tuple") (hd : o.data = .seq vs n) (r : Trees nx vs.toList ds) : Tree nx (.ref a) (.tuple ds) := fun h hn => by
  obtain ⟨_, r1⟩ := r h hn
  exact ⟨_, .tuple (hn _ hm) hc hd r1⟩
def Leaf.kind : Leaf → Str
  | .nm _ => Str.ofString "name"
  | .int _ => Str.ofString "int"
def Leaf.told : Leaf → PyData
  | .nm t => .tuple [.str (Str.ofString "name"), .str t]
  | .int i => .tuple [.str (Str.ofString "int"), .int i]
def Val.kind : Val → Str
  | .one d => d.kind
  | .arr _ => Str.ofString "array"
def Val.told : Val → PyData
  | .one d => d.told
  | .arr ds => .tuple (.str (Str.ofString "array") :: ds.map Leaf.told)
section
variable {prog : Program} {w : World} {mean : ExcName → Option Value} {mg mb : Str → Option Value} {A : Around} {s : Shared} {h₀ : Heap} {nx : List (Addr × Obj)} {Q E : Value → Shared → Prop}
/-- made, and not in the ground -/
def Own (h₀ h : Heap) (nx : List (Addr × Obj)) : Prop := ∀ p ∈ nx, h.get? p.1 = some p.2 ∧ h₀.get? p.1 = none
set_option maxRecDepth 100000 in
set_option maxHeartbeats 2000000 in
theorem kind_leaf_K {v : Value} {d : Leaf} (X : (Mine.hd.heap_1 w.params).In h₀) (T : TT mean mg mb h₀) (hR : Rm A 4) (hs : h₀.StaysIn s.heap) (hnx : Own h₀ s.heap nx) (hv : LeafIn w nx v d)
  (hQ : ∀ t h' tk', s.heap.StaysIn h' → Q (.str d.kind t) {s with heap := h', toks := tk'}) :
  wpAny (model prog w) A (call (.ref 253) [v]) Q E s := by
  refine wpAny_call ?_
  cases hv with
  | @nm a dx t t1 t2 n ha hd =>
    have hn : ∀ p ∈ [(a, instObj 171 dx), (dx, nameDict w t t1 t2 n)], s.heap.get? p.1 = some p.2 ∧ h₀.get? p.1 = none := List.forall_mem_cons.mpr ⟨hnx _ ha, List.forall_mem_cons.mpr ⟨hnx _ hd, fun _ h => nomatch h⟩⟩
    refine' enter (news := [(a, instObj 171 dx), (dx, nameDict w t t1 t2 n)]) X T hs hn hR.room (by k_is) (by k_is) (by exact BindsTo.of_eq rfl) (by exact locs rfl) (by exact rfl) (by exact rfl) (by exact rfl) (by decide) ?_
    intro g L' h₁ hst hgs hgsub Xg Tg F' N' hlt
    clear hlt
    dsimp only
    k_fold
    k_steps
    rename Fr _ _ _ _ => F9; rename News _ _ _ _ => N9
    exact hQ _ _ _ (stays_led hgsub (fun p hp => (hn p hp).1) F9 N9 (fun p hp => by repeat (first | exact hp | apply List.Mem.tail)))
  | int i t =>
    refine' enter (news := []) X T hs (fun _ h => nomatch h) hR.room (by k_is) (by k_is) (by exact BindsTo.of_eq rfl) (by exact locs rfl) (by exact rfl) (by exact rfl) (by exact rfl) (by decide) ?_
    intro g L' h₁ hst hgs hgsub Xg Tg F' N' hlt
    clear hlt
    dsimp only
    k_fold
    k_steps
    rename Fr _ _ _ _ => F9; rename News _ _ _ _ => N9
    exact hQ _ _ _ (stays_led hgsub (fun p hp => nomatch hp) F9 N9 (fun _ h => nomatch h))
set_option maxRecDepth 100000 in
set_option maxHeartbeats 2000000 in
theorem kind_list_K {l : Addr} {vs : List Value} {k : Nat} (X : (Mine.hd.heap_1 w.params).In h₀) (T : TT mean mg mb h₀) (hR : Rm A 4) (hs : h₀.StaysIn s.heap) (hnx : s.heap.get? l = some (listOf vs.toArray k) ∧ h₀.get? l = none)
  (hQ : ∀ t h' tk', s.heap.StaysIn h' → Q (.str (Str.ofString "array") t) {s with heap := h', toks := tk'}) :
  wpAny (model prog w) A (call (.ref 253) [.ref l]) Q E s := by
  refine wpAny_call ?_
  have hn : ∀ p ∈ [(l, listOf vs.toArray k)], s.heap.get? p.1 = some p.2 ∧ h₀.get? p.1 = none := List.forall_mem_cons.mpr ⟨hnx, fun _ h => nomatch h⟩
  refine' enter (news := [(l, listOf vs.toArray k)]) X T hs hn hR.room (by k_is) (by k_is) (by exact BindsTo.of_eq rfl) (by exact locs rfl) (by exact rfl) (by exact rfl) (by exact rfl) (by decide) ?_
  intro g L' h₁ hst hgs hgsub Xg Tg F' N' hlt
  clear hlt
  dsimp only
  k_fold
  k_steps
  rename Fr _ _ _ _ => F9; rename News _ _ _ _ => N9
  exact hQ _ _ _ (stays_led hgsub (fun p hp => (hn p hp).1) F9 N9 (fun p hp => by repeat (first | exact hp | apply List.Mem.tail)))
set_option maxRecDepth 100000 in
set_option maxHeartbeats 2000000 in
theorem kind_dict_K {d : Addr} {o : Obj} {kvs : List (Str × Value)} (X : (Mine.hd.heap_1 w.params).In h₀) (T : TT mean mg mb h₀) (hR : Rm A 4) (hs : h₀.StaysIn s.heap) (hnx : s.heap.get? d = some o ∧ h₀.get? d = none) (ho : o.IsDictOf (PySem.strKind prog w) kvs)
  (hQ : ∀ t h' tk', s.heap.StaysIn h' → Q (.str (Str.ofString "dict") t) {s with heap := h', toks := tk'}) :
  wpAny (model prog w) A (call (.ref 253) [.ref d]) Q E s := by
  refine wpAny_call ?_
  obtain ⟨cl, dd, dt, sl⟩ := o
  obtain rfl : cl = .type "dict" := by obtain ⟨es, ep, hx, _⟩ := ho; exact hx.1
  have hn : ∀ p ∈ [(d, (⟨.type "dict", dd, dt, sl⟩ : Obj))], s.heap.get? p.1 = some p.2 ∧ h₀.get? p.1 = none := List.forall_mem_cons.mpr ⟨hnx, fun _ h => nomatch h⟩
  refine' enter (news := [(d, (⟨.type "dict", dd, dt, sl⟩ : Obj))]) X T hs hn hR.room (by k_is) (by k_is) (by exact BindsTo.of_eq rfl) (by exact locs rfl) (by exact rfl) (by exact rfl) (by exact rfl) (by decide) ?_
  intro g L' h₁ hst hgs hgsub Xg Tg F' N' hlt
  clear hlt
  dsimp only
  k_fold
  k_steps
  rename Fr _ _ _ _ => F9; rename News _ _ _ _ => N9
  exact hQ _ _ _ (stays_led hgsub (fun p hp => (hn p hp).1) F9 N9 (fun p hp => by repeat (first | exact hp | apply List.Mem.tail)))
end
theorem wTE0 : True := by k_with_none; w_top off; (k_with "k_ne" => (refine neN ?_; (try dsimp only); first | with_reducible assumption | with_reducible exact Ne.symm (by assumption) | fail)); trivial
/-! told of a leaf -/
section
variable {prog : Program} {w : World} {mean : ExcName → Option Value} {mg mb : Str → Option Value} {A : Around} {s : Shared} {h₀ g : Heap} {L : Addr} {m : Str → Option Value} {nx all : List (Addr × Obj)} {Q E : Value → Shared → Prop}
theorem kind_leaf_F {v : Value} {d : Leaf} (X : (Mine.hd.heap_1 w.params).In g) (T : TT mean mg mb g) (hR : Rm A 4) (F : Fr g L s.heap m) (N : News g L s.heap all) (hv : LeafIn w all v d)
  (hQ : ∀ t h' tk', Fr g L h' m → News g L h' all → Q (.str d.kind t) {s with heap := h', toks := tk'}) :
  wpAny (model prog w) A (call (.ref 253) [v]) Q E s :=
  kind_leaf_K X T hR F.keep (fun p hp => ⟨(N p hp).1, (N p hp).2.2⟩) hv fun t h' tk' hst => hQ t h' tk' (fr_stays F hst) (news_stays N hst)
theorem wTE1 : True := by (k_with "call ref" => (k_here; (with_reducible show wpAny _ _ (call (Value.ref 253) [_]) _ _ _); (refine' kind_leaf_F (by k_asm) (by k_asm) (by first | assumption | exact Rm.mono (Rm.deeper (by assumption) _) (by decide)) (by k_asm) (by k_asm) (by first | exact LeafIn.int _ _ | exact LeafIn.nm (by k_mem) (by k_mem)) ?_); intro tk₉ h'₉ tk'₉ F'₉ N'₉; (try k_sweep); (try dsimp only [Leaf.kind]))); trivial
set_option maxRecDepth 100000 in
set_option maxHeartbeats 2000000 in
theorem plain_leaf_K {v : Value} {d : Leaf} {tk0 : Tok} (X : (Mine.hd.heap_1 w.params).In h₀) (T : TT mean mg mb h₀) (hR : Rm A 4) (hs : h₀.StaysIn s.heap) (hnx : Own h₀ s.heap nx) (hv : LeafIn w nx v d)
  (hQ : ∀ r o h' tk', s.heap.StaysIn h' → Made s.heap h' [(r, o)] → Tree [(r, o)] (.ref r) d.told → Q (.ref r) {s with heap := h', toks := tk'}) :
  wpAny (model prog w) A (call (.ref 260) [.str d.kind tk0, v]) Q E s := by
  refine wpAny_call ?_
  cases hv with
  | @nm a dx t t1 t2 n ha hd =>
    have hn : ∀ p ∈ [(a, instObj 171 dx), (dx, nameDict w t t1 t2 n)], s.heap.get? p.1 = some p.2 ∧ h₀.get? p.1 = none := List.forall_mem_cons.mpr ⟨hnx _ ha, List.forall_mem_cons.mpr ⟨hnx _ hd, fun _ h => nomatch h⟩⟩
    dsimp only [Leaf.kind]
    refine' enter (news := [(a, instObj 171 dx), (dx, nameDict w t t1 t2 n)]) X T hs hn hR.room (by k_is) (by k_is) (by exact BindsTo.of_eq rfl) (by exact locs rfl) (by exact rfl) (by exact rfl) (by exact rfl) (by decide) ?_
    intro g L' h₁ hst hgs hgsub Xg Tg F' N' hlt
    k_lt hlt
    dsimp only
    try k_unmd
    k_fold
    k_steps
    rename Fr _ _ _ _ => F9; rename News _ _ _ _ => N9
    exact hQ _ _ _ _ (stays_led hgsub (fun p hp => (hn p hp).1) F9 N9 (fun p hp => by repeat (first | exact hp | apply List.Mem.tail))) (made_of hgsub N9 _ (List.forall_mem_cons.mpr ⟨by k_mem, fun _ h => nomatch h⟩) (List.forall_mem_cons.mpr ⟨List.forall_mem_cons.mpr ⟨by k_ne, List.forall_mem_cons.mpr ⟨by k_ne, fun _ h => nomatch h⟩⟩, fun _ h => nomatch h⟩)) (Tree.tuple (.head _) rfl rfl (.cons (.str _ _) (.cons (.str _ _) .nil)))
  | int i t =>
    dsimp only [Leaf.kind]
    refine' enter (news := []) X T hs (fun _ h => nomatch h) hR.room (by k_is) (by k_is) (by exact BindsTo.of_eq rfl) (by exact locs rfl) (by exact rfl) (by exact rfl) (by exact rfl) (by decide) ?_
    intro g L' h₁ hst hgs hgsub Xg Tg F' N' hlt
    clear hlt
    dsimp only
    try k_unmd
    k_fold
    k_steps
    rename Fr _ _ _ _ => F9; rename News _ _ _ _ => N9
    exact hQ _ _ _ _ (stays_led hgsub (fun p hp => nomatch hp) F9 N9 (fun _ h => nomatch h)) (made_of hgsub N9 _ (List.forall_mem_cons.mpr ⟨by k_mem, fun _ h => nomatch h⟩) (fun _ _ _ h => nomatch h)) (Tree.tuple (.head _) rfl rfl (.cons (.str _ _) (.cons (.int _ _) .nil)))
theorem made_news {h h' : Heap} (F : Fr g L h m) (hst : h.StaysIn h') (N : News g L h all) (md : Made h h' nx) : News g L h' (nx ++ all) := news_made F (fr_stays F hst) (news_stays N hst) md
theorem plain_leaf_F {v : Value} {d : Leaf} {tk0 : Tok} (X : (Mine.hd.heap_1 w.params).In g) (T : TT mean mg mb g) (hR : Rm A 4) (F : Fr g L s.heap m) (N : News g L s.heap all) (hv : LeafIn w all v d)
  (hQ : ∀ r o h' tk', Fr g L h' m → News g L h' ((r, o) :: all) → (∀ p ∈ all, @Ne Nat r p.1) → Tree [(r, o)] (.ref r) d.told → Q (.ref r) {s with heap := h', toks := tk'}) :
  wpAny (model prog w) A (call (.ref 260) [.str d.kind tk0, v]) Q E s :=
  plain_leaf_K X T hR F.keep (fun p hp => ⟨(N p hp).1, (N p hp).2.2⟩) hv fun r o h' tk' hst md tr => hQ r o h' tk' (fr_stays F hst) (made_news F hst N md) (fun p hp => made_off N md p hp _ (.head _)) tr
theorem wTE2 : True := by (k_with "call ref" => (k_here; (with_reducible show wpAny _ _ (call (Value.ref 260) [Value.str _ _, Value.int _ _]) _ _ _); (refine' plain_leaf_F (d := .int _) (by k_asm) (by k_asm) (by first | assumption | exact Rm.mono (Rm.deeper (by assumption) _) (by decide)) (by k_asm) (by k_asm) (LeafIn.int _ _) ?_); intro r'₉ o'₉ h'₉ tk'₉ F'₉ N'₉ l1₉ tr₉; (try simp only [List.forall_mem_cons, List.not_mem_nil, false_implies, implies_true, and_true] at l1₉))); trivial
theorem wTE3 : True := by (k_with "call ref" => (k_here; (with_reducible show wpAny _ _ (call (Value.ref 260) [Value.str _ _, Value.ref _]) _ _ _); (refine' plain_leaf_F (d := .nm _) (by k_asm) (by k_asm) (by first | assumption | exact Rm.mono (Rm.deeper (by assumption) _) (by decide)) (by k_asm) (by k_asm) (LeafIn.nm (by k_mem) (by k_mem)) ?_); intro r'₉ o'₉ h'₉ tk'₉ F'₉ N'₉ l1₉ tr₉; (try simp only [List.forall_mem_cons, List.not_mem_nil, false_implies, implies_true, and_true] at l1₉))); trivial
set_option maxRecDepth 100000 in
set_option maxHeartbeats 2000000 in
theorem told_leaf_K {v : Value} {d : Leaf} (X : (Mine.hd.heap_1 w.params).In h₀) (T : TT mean mg mb h₀) (hR : Rm A 8) (hs : h₀.StaysIn s.heap) (hnx : Own h₀ s.heap nx) (hv : LeafIn w nx v d)
  (hQ : ∀ r nx' h' tk', s.heap.StaysIn h' → Made s.heap h' nx' → Tree nx' r d.told → Q r {s with heap := h', toks := tk'}) :
  wpAny (model prog w) A (call (.ref 265) [v]) Q E s := by
  refine wpAny_call ?_
  cases hv with
  | @nm a dx t t1 t2 n ha hd =>
    have hn : ∀ p ∈ [(a, instObj 171 dx), (dx, nameDict w t t1 t2 n)], s.heap.get? p.1 = some p.2 ∧ h₀.get? p.1 = none := List.forall_mem_cons.mpr ⟨hnx _ ha, List.forall_mem_cons.mpr ⟨hnx _ hd, fun _ h => nomatch h⟩⟩
    refine' enterC (news := [(a, instObj 171 dx), (dx, nameDict w t t1 t2 n)]) X T hs hn hR.room (by k_is) (by k_is) (by exact BindsTo.of_eq rfl) (by exact rfl) (by decide +kernel) (by exact rfl) (by exact rfl) (by exact rfl) ?_
    intro g L' h₁ tk cells hst hgs hgsub Xg Tg F' N' Y' hlt
    k_lt hlt
    k_cells Y'
    try simp only [List.cons_append, List.nil_append] at N'
    dsimp only
    try k_unmd
    k_fold
    k_steps
    rename Fr _ _ _ _ => F9; rename News _ _ _ _ => N9
    exact hQ _ [(_, _)] _ _ (stays_led hgsub (fun p hp => (hn p hp).1) F9 N9 (fun p hp => by repeat (first | exact hp | apply List.Mem.tail))) (made_of hgsub N9 _ (List.forall_mem_cons.mpr ⟨List.Mem.head _, fun _ h => nomatch h⟩) (List.forall_mem_cons.mpr ⟨List.forall_mem_cons.mpr ⟨by k_ne, List.forall_mem_cons.mpr ⟨by k_ne, fun _ h => nomatch h⟩⟩, fun _ h => nomatch h⟩)) (by assumption)
  | int i t =>
    refine' enterC (news := []) X T hs (fun _ h => nomatch h) hR.room (by k_is) (by k_is) (by exact BindsTo.of_eq rfl) (by exact rfl) (by decide +kernel) (by exact rfl) (by exact rfl) (by exact rfl) ?_
    intro g L' h₁ tk cells hst hgs hgsub Xg Tg F' N' Y' hlt
    clear hlt
    k_cells Y'
    try simp only [List.cons_append, List.nil_append] at N'
    dsimp only
    try k_unmd
    k_fold
    k_steps
    rename Fr _ _ _ _ => F9; rename News _ _ _ _ => N9
    exact hQ _ [(_, _)] _ _ (stays_led hgsub (fun p hp => nomatch hp) F9 N9 (fun _ h => nomatch h)) (made_of hgsub N9 _ (List.forall_mem_cons.mpr ⟨List.Mem.head _, fun _ h => nomatch h⟩) (fun _ _ _ h => nomatch h)) (by assumption)
end
theorem wGL0 : True := by k_with_none; w_top off; (k_with "k_ne" => (refine neN ?_; (try dsimp only); first | with_reducible assumption | with_reducible exact Ne.symm (by assumption) | fail)); trivial
/-! small lemmas -/
section
variable {prog : Program} {w : World} {A : Around} {s : Shared} {h₀ g h : Heap} {L : Addr} {m : Str → Option Value} {nx all news : List (Addr × Obj)} {Q E : Value → Shared → Prop}
theorem own_keep {h h' : Heap} (G : Own h₀ h nx) (k : h.StaysIn h') : Own h₀ h' nx := fun p hp => ⟨k _ _ (G p hp).1, (G p hp).2⟩
theorem off3_app {I C D : Addr} {a b : List (Addr × Obj)} (ha : ∀ p ∈ a, p.1 ≠ I ∧ p.1 ≠ C ∧ p.1 ≠ D) (hb : LCg.Off3 I C D b) : LCg.Off3 I C D (a ++ b) := LCg.Off3.of fun p hp => (List.mem_append.mp hp).elim (ha p) fun h => LCg.Off3.mem hb p h
/-- two ledgers of other addresses -/
def Apart (a b : List (Addr × Obj)) : Prop := ∀ q ∈ b, ∀ p ∈ a, p.1 ≠ q.1
theorem news_swap {a b : List (Addr × Obj)} (N : News g L h (a ++ b)) : News g L h (b ++ a) := fun p hp => N p (List.mem_append.mpr ((List.mem_append.mp hp).symm))
theorem tup_my {l : Addr} {vs : List Value} {k : Nat} (F : Fr g L s.heap m) (N : News g L s.heap news) (hm : (l, listOf vs.toArray k) ∈ news) (hz : vs.length ≤ 16000)
    (h : ∀ D h', Fr g L h' m → News g L h' ((D, ({ cls := .type "tuple", data := .seq vs.toArray } : Obj)) :: news) → (∀ p ∈ news, p.1 < D) → Q (.ref D) { s with heap := h' }) : wpAny (model prog w) A (call (.type "tuple") [.ref l]) Q E s :=
  kde_tupleOf F N (News.isList N hm) (by rw [List.size_toArray]; omega) rfl h
theorem addT_my {t b : Addr} {x : Str} {tk : Tok} {ys : List Value} {ds : List PyData} (F : Fr g L s.heap m) (N : News g L s.heap news)
    (ht : (t, ({ cls := .type "tuple", data := .seq #[.str x tk] } : Obj)) ∈ news) (hb : (b, ({ cls := .type "tuple", data := .seq ys.toArray } : Obj)) ∈ news) (hz : ys.length ≤ 16000) (hT : Trees nx ys ds) (hs : ∀ p ∈ nx, p ∈ news)
    (h : ∀ r h' news', Fr g L h' m → News g L h' news' → (∀ p ∈ news, p ∈ news') → Tree news' (.ref r) (.tuple (.str x :: ds)) → Q (.ref r) { s with heap := h' }) : wpAny (model prog w) A (binaryOp .Add (.ref t) (.ref b)) Q E s := by
  cases ys with
  | nil =>
    obtain rfl : ds = [] := by
      obtain ⟨_, hr⟩ := hT s.heap fun p hp => (N p (hs p hp)).1
      cases hr; rfl
    refine kde_addT1 F N (News.isTup N ht) (News.isTup N hb) (by simp) rfl (by simp) ?_
    exact h t s.heap news F N (fun _ h => h) (Tree.tuple ht rfl rfl (.cons (.str _ _) .nil))
  | cons v r =>
    refine kde_addT F N (News.isTup N ht) (News.isTup N hb) (by simp) (by simp) (by simp only [List.length_cons, List.length_nil] at hz ⊢; omega) rfl fun D h' F' N' l1 => ?_
    exact h D h' _ F' N' (fun _ h => .tail _ h) (Tree.tuple (.head _) rfl rfl (.cons (.str _ _) (hT.mono fun p hp => .tail _ (hs p hp))))
end
theorem wTF0 : True := by k_with_none; w_top off; (k_with "k_ne" => (refine neN ?_; (try dsimp only); first | with_reducible assumption | with_reducible exact Ne.symm (by assumption) | fail)); trivial
/-! told of a value -/
section
variable {prog : Program} {w : World} {mean : ExcName → Option Value} {mg mb : Str → Option Value} {A : Around} {s : Shared} {h₀ g : Heap} {L : Addr} {m : Str → Option Value} {nx all : List (Addr × Obj)} {Q E : Value → Shared → Prop}
theorem told_leaf_G {v : Value} {d : Leaf} (G : Own h₀ g nx) (X : (Mine.hd.heap_1 w.params).In h₀) (T : TT mean mg mb h₀) (hst : h₀.StaysIn g) (hR : Rm A 8) (F : Fr g L s.heap m) (N : News g L s.heap all) (hv : LeafIn w nx v d)
  (hQ : ∀ r nx' h' tk', Fr g L h' m → News g L h' (nx' ++ all) → Apart nx' all → Tree nx' r d.told → Q r {s with heap := h', toks := tk'}) :
  wpAny (model prog w) A (call (.ref 265) [v]) Q E s :=
  told_leaf_K X T hR (fun b o e => F.keep _ _ (hst b o e)) (own_keep G F.keep) hv fun r nx' h' tk' hst' md tr => hQ r nx' h' tk' (fr_stays F hst') (made_news F hst' N md) (made_off N md) tr
theorem kind_list_G {l : Addr} {vs : List Value} {k : Nat} (G : Own h₀ g nx) (X : (Mine.hd.heap_1 w.params).In h₀) (T : TT mean mg mb h₀) (hst : h₀.StaysIn g) (hR : Rm A 4) (F : Fr g L s.heap m) (N : News g L s.heap all) (hl : (l, listOf vs.toArray k) ∈ nx)
  (hQ : ∀ t h' tk', Fr g L h' m → News g L h' all → Q (.str (Str.ofString "array") t) {s with heap := h', toks := tk'}) :
  wpAny (model prog w) A (call (.ref 253) [.ref l]) Q E s :=
  kind_list_K X T hR (fun b o e => F.keep _ _ (hst b o e)) (own_keep G F.keep _ hl) fun t h' tk' hst' => hQ t h' tk' (fr_stays F hst') (news_stays N hst')
theorem wTF1 : True := by (k_with "call ref" => (k_here; (with_reducible show wpAny _ _ (call (Value.ref 253) [Value.ref _]) _ _ _); (refine' kind_list_G (by assumption) (by assumption) (by assumption) (by assumption) (by first | assumption | exact Rm.mono (Rm.deeper (by assumption) _) (by decide)) (by k_asm) (by k_asm) (by assumption) ?_); intro tk₉ h'₉ tk'₉ F'₉ N'₉)); trivial
theorem wTF2 : True := by (k_with "call ref" => (k_here; (with_reducible show wpAny _ _ (call (Value.ref 265) [_]) _ _ _); (refine' told_leaf_G (by assumption) (by assumption) (by assumption) (by assumption) (by first | assumption | exact Rm.mono (Rm.deeper (by assumption) _) (by decide)) (by k_asm) (by k_asm) (by assumption) ?_); intro r'₉ nx'₉ h'₉ tk'₉ F'₉ N'₉ l1₉ tr₉)); trivial
theorem wTF3 : True := by (k_with "eval ListComp" => (k_here; k_dflt (refine LCg.ListComp_U (by k_asm) (by with_unfolding_all rfl) (by decide) (by rfl) (by decide) (by rfl) ?_))); trivial
theorem wTF4 : True := by (k_with "call type:tuple" => (k_here; (with_reducible show wpAny _ _ (call (Value.type _) [Value.ref _]) _ _ _); (refine' tup_my (by k_asm) (by k_asm) (by k_mem) (by omega) ?_); intro D'₉ h'₉ F'₉ N'₉ l1₉; (try k_lt l1₉))); trivial
theorem wTF5 : True := by (k_with "binaryOp Add ref ref" => (k_here; (with_reducible show wpAny _ _ (binaryOp _ (Value.ref _) (Value.ref _)) _ _ _); (refine' addT_my (by k_asm) (by k_asm) (by k_mem) (by k_mem) (by omega) (by assumption) (fun p hp => by repeat (first | exact hp | apply List.Mem.tail)) ?_); intro r'₉ h'₉ news'₉ F'₉ N'₉ hs'₉ tr'₉)); trivial
set_option maxRecDepth 100000 in
set_option maxHeartbeats 2000000 in
theorem told_val_K {v : Value} {d : Val} (X : (Mine.hd.heap_1 w.params).In h₀) (T : TT mean mg mb h₀) (hR : Rm A 10) (hs : h₀.StaysIn s.heap) (hnx : Own h₀ s.heap nx) (hv : ValIn w nx v d)
  (hQ : ∀ r nx' h' tk', s.heap.StaysIn h' → Made s.heap h' nx' → Tree nx' r d.told → Q r {s with heap := h', toks := tk'}) :
  wpAny (model prog w) A (call (.ref 265) [v]) Q E s := by
  cases hv with
  | one hv => exact told_leaf_K X T (hR.mono (by decide)) hs hnx hv hQ
  | @arr l vs k ds hl hvs h8 =>
    refine wpAny_call ?_
    refine' enterC (news := []) X T hs (fun _ h => nomatch h) hR.room (by k_is) (by k_is) (by exact BindsTo.of_eq rfl) (by exact rfl) (by decide +kernel) (by exact rfl) (by exact rfl) (by exact rfl) ?_
    intro g L' h₁ tk cells hst hgs hgsub Xg Tg F' N' Y' hlt
    have G : Own h₀ g nx := fun p hp => ⟨hgsub _ _ (hnx p hp).1 (by simp), (hnx p hp).2⟩
    have GG : ∀ p ∈ nx, g.get? p.1 = some p.2 := fun p hp => (G p hp).1
    clear hlt
    k_cells Y'
    try simp only [List.cons_append, List.nil_append] at N'
    dsimp only
    try k_unmd
    k_fold
    k_steps
    rename Fr _ _ _ _ => F9; rename News _ _ _ _ => N9
    have hlen := hvs.len
    refine LCg.CompSrc.base (its := List.toArray vs) (Rm.deeper (d := 9) hR _).hh F9 N9 (list_gg GG hl) (by rw [PySem.sizeLine_eq, List.size_toArray]; omega) ?_
    intro g8
    refine with_led N9 ?_
    intro led hled
    refine comp_inv (fun i ys nw => ∃ nw1, nw = nw1 ++ led ∧ Trees nw1 ys ((ds.take i).map Leaf.told) ∧ ys.length = i) ⟨[], hled.symm, .nil, rfl⟩ ?turn ?fin
    case turn =>
      clear F9 N9
      intro i8 v8 ys8 nw8 I8 oI8 C8 oC8 D8 m8 h8 tk8 E8 hi8 hP8 hinv hC8 hx8 F8 N8 off8 ne8
      obtain ⟨nw1, e8, hts, hyi⟩ := hinv
      have hP9 : vs[i8]? = some v8 := by simpa using hP8
      obtain ⟨d9, hd9, hin⟩ := hvs.at hP9
      k_steps
      rename Fr _ _ _ _ => Fz
      rename News _ _ _ _ => Nz
      rename Tree _ _ _ => tr
      rename Apart _ _ => l1
      refine LCg.CompEnd.intro Fz Nz (_ ++ nw8) ?sub (off3_app (fun p hp => ⟨l1 _ (.head _) p hp, l1 _ (.tail _ (.head _)) p hp, l1 _ (.tail _ (.tail _ (.head _))) p hp⟩) off8) (.inl (list_gg GG hl)) ⟨_ ++ nw1, by rw [e8, List.append_assoc], ?ts, by rw [List.length_append, hyi]; rfl⟩
      case sub =>
        intro p hp
        rcases List.mem_cons.mp hp with rfl | hp
        · exact List.mem_append_right _ (.head _)
        rcases List.mem_cons.mp hp with rfl | hp
        · exact List.mem_append_right _ (.tail _ (.head _))
        rcases List.mem_cons.mp hp with rfl | hp
        · exact List.mem_append_right _ (.tail _ (.tail _ (.head _)))
        rcases List.mem_append.mp hp with hp | hp
        · exact List.mem_append_left _ hp
        · exact List.mem_append_right _ (.tail _ (.tail _ (.tail _ hp)))
      case ts =>
        rw [List.take_add_one, hd9, List.map_append]
        exact Trees.snoc (hts.mono fun p hp => List.mem_append_right _ hp) (tr.mono fun p hp => List.mem_append_left _ hp)
    case fin =>
      clear F9 N9
      intro ys8 nw8 hinv
      obtain ⟨nw1, e8, hts, hyi⟩ := hinv
      subst e8
      subst hled
      intro D8 h8 tk8 F8 N8 off8
      have hyl : ys8.length ≤ 1000 := by rw [hyi, List.size_toArray]; omega
      have N7 := news_swap (a := (D8, LCg.lst ys8) :: nw1) N8
      clear N8
      have htl : ((ds.take (List.toArray vs).size).map Leaf.told) = ds.map Leaf.told := by rw [List.size_toArray, hlen, List.take_length]
      rw [htl] at hts
      k_steps
      rename Fr _ _ _ _ => F9; rename News _ _ _ _ => N9
      exact hQ _ _ _ _ (stays_led (news := []) hgsub (fun _ h => nomatch h) F9 N9 (fun _ h => nomatch h)) (made_of (newsX := []) hgsub N9 _ (fun _ h => h) (fun _ _ _ h => nomatch h)) (by assumption)
end
theorem wTG0 : True := by k_with_none; w_top off; (k_with "k_ne" => (refine neN ?_; (try dsimp only); first | with_reducible assumption | with_reducible exact Ne.symm (by assumption) | fail)); trivial
/-! told of a dict -/
inductive HeadIn (w : World) (nx : List (Addr × Obj)) : List (Str × Value) → List (Str × Val) → Prop
  | nil : HeadIn w nx [] []
  | cons {k v d kvs ks} : ValIn w nx v d → HeadIn w nx kvs ks → HeadIn w nx ((k, v) :: kvs) ((k, d) :: ks)
theorem HeadIn.mono {w : World} {nx nx' : List (Addr × Obj)} (hs : ∀ p ∈ nx, p ∈ nx') {kvs ks} (h : HeadIn w nx kvs ks) : HeadIn w nx' kvs ks := by
  induction h with
  | nil => exact .nil
  | cons a _ ih => exact .cons (a.mono hs) ih
theorem HeadIn.snoc {w : World} {nx : List (Addr × Obj)} {kvs ks k v d} (h : HeadIn w nx kvs ks) (a : ValIn w nx v d) : HeadIn w nx (kvs ++ [(k, v)]) (ks ++ [(k, d)]) := by
  induction h with
  | nil => exact .cons a .nil
  | cons b _ ih => exact .cons b ih
theorem HeadIn.keys {w : World} {nx : List (Addr × Obj)} {kvs ks} (h : HeadIn w nx kvs ks) : kvs.map (·.1) = ks.map (·.1) := by
  induction h with
  | nil => rfl
  | cons _ _ ih => simp only [List.map_cons, ih]
theorem HeadIn.len {w : World} {nx : List (Addr × Obj)} {kvs ks} (h : HeadIn w nx kvs ks) : kvs.length = ks.length := by
  induction h with
  | nil => rfl
  | cons _ _ ih => simp [ih]
theorem HeadIn.at {w : World} {nx : List (Addr × Obj)} {kvs ks} (h : HeadIn w nx kvs ks) : ∀ {i : Nat} {k : Str} {v : Value}, kvs[i]? = some (k, v) → ∃ d, ks[i]? = some (k, d) ∧ ValIn w nx v d := by
  induction h with
  | nil => intro i k v e; simp at e
  | cons a _ ih =>
    intro i k v e
    cases i with
    | zero => simp only [List.getElem?_cons_zero, Option.some.injEq, Prod.mk.injEq] at e; obtain ⟨rfl, rfl⟩ := e; exact ⟨_, rfl, a⟩
    | succ i => simp only [List.getElem?_cons_succ] at e ⊢; exact ih e
/-- the value under a key -/
def valOf (ks : List (Str × Val)) (k : Str) : Val := (ks.lookup k).getD (.one (.int 0))
theorem HeadIn.get {w : World} {nx : List (Addr × Obj)} {kvs ks} (h : HeadIn w nx kvs ks) {k : Str} (hk : k ∈ kvs.map (·.1)) : ∃ v, valueAt kvs k = some v ∧ ValIn w nx v (valOf ks k) := by
  induction h with
  | nil => cases hk
  | @cons k' v d kvs ks a _ ih =>
    by_cases e : k' = k
    · subst e
      exact ⟨v, by simp [valueAt], by simpa [valOf] using a⟩
    · have hk' : k ∈ kvs.map (·.1) := by
        rcases List.mem_cons.mp hk with q | q
        · exact absurd q.symm e
        · exact q
      obtain ⟨v', h1, h2⟩ := ih hk'
      have e' : (k == k') = false := by simpa using fun q => e q.symm
      refine ⟨v', ?_, ?_⟩
      · simpa [valueAt, e] using h1
      · unfold valOf at h2 ⊢
        rw [List.lookup_cons, e']
        exact h2
theorem ValIn.some {w : World} {nx : List (Addr × Obj)} {v d} (h : ValIn w nx v d) : v ≠ .none := by
  rintro rfl
  cases h with
  | one a => cases a
/-- the dict as it is told, its keys in the order l -/
def headTold (ks : List (Str × Val)) (l : List Str) : PyData := .tuple (.str (Str.ofString "dict") :: l.map fun k => .tuple [.str k, (valOf ks k).told])
section
variable {prog : Program} {w : World} {mean : ExcName → Option Value} {mg mb : Str → Option Value} {A : Around} {s : Shared} {h₀ g : Heap} {L : Addr} {m : Str → Option Value} {nx all : List (Addr × Obj)} {Q E : Value → Shared → Prop}
theorem sorted_dict {d : Addr} {o : Obj} {kvs : List (Str × Value)} (hh : A.handled = none) (F : Fr g L s.heap m) (N : News g L s.heap all) (ho : s.heap.get? d = some o) (hd : o.IsDictOf (PySem.strKind prog w) kvs) (lo : (d == sysModules) = false) (hn : kvs.length < 64)
    (h : ∀ D h' tk (vs' : List Value) (ss' : List Str) (e : Nat), Fr g L h' m → News g L h' ((D, listOf vs'.toArray e) :: all) → (∀ p ∈ all, p.1 < D) → StrsAre vs' ss' → ss'.Perm (kvs.map (·.1)) → sortedS ss' = true → Q (.ref D) { s with heap := h', toks := tk }) :
    wpAny (model prog w) A (call (.builtin "sorted") [.ref d]) Q E s := by
  obtain ⟨ep, hat⟩ := (Heap.dictOf_iff.mpr ⟨o, ho, hd⟩ : s.heap.DictOf (PySem.strKind prog w) d kvs).dictAt
  refine kdu_sorted (kdl_dict (knd := PySem.strKind prog w) (kvs := kvs) (ep := ep) lo) hh F N hat (kdl_size (by omega)) fun D h' tk vs F' N' l1 hl hv => ?_
  have hS : StrsAre vs (kvs.map (·.1)) := by
    have : ∀ (vs : List Value) (kvs : List (Str × Value)), vs.length = kvs.length → (∀ (j : Nat) (v : Value), vs[j]? = some v → ∃ k x, kvs[j]? = some (k, x) ∧ (PySem.strKind prog w).is k v = true) → StrsAre vs (kvs.map (·.1)) := by
      intro vs
      induction vs with
      | nil =>
        intro kvs hl _
        obtain rfl : kvs = [] := List.length_eq_zero_iff.mp hl.symm
        exact .nil
      | cons v r ih =>
        intro kvs hl hv
        cases kvs with
        | nil => simp at hl
        | cons p q =>
          obtain ⟨k, x, e, hk⟩ := hv 0 v rfl
          simp only [List.getElem?_cons_zero, Option.some.injEq] at e
          subst e
          obtain ⟨t, rfl⟩ := Value.isStrOf_shape hk
          exact .cons k t (ih q (by simpa using hl) fun j u hu => by simpa using hv (j + 1) u (by simpa using hu))
    exact this vs kvs hl hv
  have hD := (N' _ (.head _))
  refine wpAny_call_entry slot_list_sort ⟨_, hD.1, rfl⟩ entry_list_sort (list_sort_treeK strKind_oneLt (n := 0) hD.1 hS.keysOf (fun v₁ v₂ rest e => keyKind_strs (by rw [← e]; exact hS)) (by omega) fun st' hp hs => ⟨_, rfl, ?_⟩) (args_list_sort _)
  obtain ⟨ss', a1, a2, a3⟩ := sorted_out_str hS hp hs
  obtain ⟨e, he⟩ := sortedHeap_at (vs := vs) (out := (arrOf st').map (·.2)) hD.1
  have keep : ∀ b o, b ≠ D → h'.get? b = some o → (sortedHeap h' D vs ((arrOf st').map (·.2))).get? b = some o := fun b o hb e => by rw [sortedHeap_old hb (Heap.lt_size e)]; exact e
  have F2 : Fr g L (sortedHeap h' D vs ((arrOf st').map (·.2))) m := ⟨F'.ns.at' fun o e => keep L o (Ne.symm hD.2.1) e, fun b o e => keep b o (fun q => by rw [q, hD.2.2] at e; cases e) (F'.keep b o e), F'.above⟩
  have N2 : News g L (sortedHeap h' D vs ((arrOf st').map (·.2))) ((D, listOf (((arrOf st').map (·.2)).toList).toArray e) :: all) := fun p hp => by
    rcases List.mem_cons.mp hp with rfl | hp
    · exact ⟨by rw [Array.toArray_toList]; exact he, hD.2⟩
    · have z := N' p (.tail _ hp)
      exact ⟨keep _ _ (Nat.ne_of_lt (l1 p hp)) z.1, z.2⟩
  exact h D _ tk _ ss' e F2 N2 l1 a1 a2 a3
theorem item_dict {value slice : PySem.Expr} {d : Addr} {o : Obj} {kvs : List (Str × Value)} {k : Str} {t : Tok} {v : Value} (ho : s.heap.get? d = some o) (hd : o.IsDictOf (PySem.strKind prog w) kvs) (hl : valueAt kvs k = some v) (h : Q v { s with toks := s.toks + 1 })
    (hs : subscripted slice false (.ref d) (.str k t) = operate [.ref d, .str k t] (getItem (.ref d) (.str k t)) := by with_unfolding_all rfl) (hg : ∀ r, letTemporaryGo value (.ref d) r = pure () := by intro _; with_unfolding_all rfl) :
    wpAny (model prog w) A (subscriptTail value slice (.ref d) (.str k t)) Q E s := by
  have hD : s.heap.DictOf (PySem.strKind prog w) d kvs := Heap.dictOf_iff.mpr ⟨o, ho, hd⟩
  exact subscriptTail_builtin hD.typeIs slot_dict_getitem.lookup (wpAny_getItem_of (strKind_is _ _ _ _) hD.mapOf hl h) hs hg
theorem told_val_G {v : Value} {d : Val} (G : Own h₀ g nx) (X : (Mine.hd.heap_1 w.params).In h₀) (T : TT mean mg mb h₀) (hst : h₀.StaysIn g) (hR : Rm A 10) (F : Fr g L s.heap m) (N : News g L s.heap all) (hv : ValIn w nx v d)
  (hQ : ∀ r nx' h' tk', Fr g L h' m → News g L h' (nx' ++ all) → Apart nx' all → Tree nx' r d.told → Q r {s with heap := h', toks := tk'}) :
  wpAny (model prog w) A (call (.ref 265) [v]) Q E s :=
  told_val_K X T hR (fun b o e => F.keep _ _ (hst b o e)) (own_keep G F.keep) hv fun r nx' h' tk' hst' md tr => hQ r nx' h' tk' (fr_stays F hst') (made_news F hst' N md) (made_off N md) tr
theorem kind_dict_G {d : Addr} {o : Obj} {kvs : List (Str × Value)} (G : Own h₀ g nx) (X : (Mine.hd.heap_1 w.params).In h₀) (T : TT mean mg mb h₀) (hst : h₀.StaysIn g) (hR : Rm A 4) (F : Fr g L s.heap m) (N : News g L s.heap all) (hl : (d, o) ∈ nx) (ho : o.IsDictOf (PySem.strKind prog w) kvs)
  (hQ : ∀ t h' tk', Fr g L h' m → News g L h' all → Q (.str (Str.ofString "dict") t) {s with heap := h', toks := tk'}) :
  wpAny (model prog w) A (call (.ref 253) [.ref d]) Q E s :=
  kind_dict_K X T hR (fun b o e => F.keep _ _ (hst b o e)) (own_keep G F.keep _ hl) ho fun t h' tk' hst' => hQ t h' tk' (fr_stays F hst') (news_stays N hst')
theorem wTG1 : True := by (k_with "call ref" => (k_here; (with_reducible show wpAny _ _ (call (Value.ref 253) [Value.ref _]) _ _ _); (refine' kind_dict_G (by assumption) (by assumption) (by assumption) (by assumption) (by first | assumption | exact Rm.mono (Rm.deeper (by assumption) _) (by decide)) (by k_asm) (by k_asm) (by assumption) (by assumption) ?_); intro tk₉ h'₉ tk'₉ F'₉ N'₉)); trivial
theorem wTG2 : True := by (k_with "call ref" => (k_here; (with_reducible show wpAny _ _ (call (Value.ref 265) [_]) _ _ _); (refine' told_val_G (by assumption) (by assumption) (by assumption) (by assumption) (by first | assumption | exact Rm.mono (Rm.deeper (by assumption) _) (by decide)) (by k_asm) (by k_asm) (by assumption) ?_); intro r'₉ nx'₉ h'₉ tk'₉ F'₉ N'₉ l1₉ tr₉)); trivial
theorem wTG3 : True := by (k_with "eval ListComp" => (k_here; k_dflt (refine LCt.ListComp_T (F₀ := by k_asm) (by with_unfolding_all rfl) (by decide) (by rfl) (by decide) (by rfl) ?_))); trivial
theorem wTG4 : True := by (k_with "call type:tuple" => (k_here; (with_reducible show wpAny _ _ (call (Value.type _) [Value.ref _]) _ _ _); (refine' tup_my (by k_asm) (by k_asm) (by k_mem) (by omega) ?_); intro D'₉ h'₉ F'₉ N'₉ l1₉; (try k_lt l1₉))); trivial
theorem wTG5 : True := by (k_with "binaryOp Add ref ref" => (k_here; (with_reducible show wpAny _ _ (binaryOp _ (Value.ref _) (Value.ref _)) _ _ _); (refine' addT_my (by k_asm) (by k_asm) (by k_mem) (by k_mem) (by omega) (by assumption) (fun p hp => by repeat (first | exact hp | apply List.Mem.tail)) ?_); intro r'₉ h'₉ news'₉ F'₉ N'₉ hs'₉ tr'₉)); trivial
theorem wTG6 : True := by (k_with "compareOp IsNot" => (k_here; refine isnot_none_ne (ValIn.some (by assumption)) ?_)); trivial
theorem compEnd_push {I C D T : Addr} {oI oC oD o : Obj} {s₁ : Shared} {S : List (Addr × Obj) → Prop} {rest : Value → List (Addr × Obj) → Prop} {y : Value} {h' : Heap} {tk : Nat} {nx' nw : List (Addr × Obj)}
    (F : Fr g L h' m) (N : News g L h' ((T, o) :: (nx' ++ (I, oI) :: (C, oC) :: (D, oD) :: nw))) (l1 : Apart nx' ((I, oI) :: (C, oC) :: (D, oD) :: nw)) (l2 : ∀ p ∈ nx' ++ (I, oI) :: (C, oC) :: (D, oD) :: nw, p.1 < T) (off : LCg.Off3 I C D nw)
    (hS : S ((T, o) :: (nx' ++ nw))) (r : rest y ((T, o) :: (nx' ++ nw))) : LCg.CompEnd g L m s₁ I oI C oC D oD S rest y { s₁ with heap := h', toks := tk } := by
  refine LCg.CompEnd.intro F N ((T, o) :: (nx' ++ nw)) ?_ ⟨⟨Nat.ne_of_gt (l2 _ (List.mem_append_right _ (.head _))), Nat.ne_of_gt (l2 _ (List.mem_append_right _ (.tail _ (.head _)))), Nat.ne_of_gt (l2 _ (List.mem_append_right _ (.tail _ (.tail _ (.head _)))))⟩, off3_app (fun p hp => ⟨l1 _ (.head _) p hp, l1 _ (.tail _ (.head _)) p hp, l1 _ (.tail _ (.tail _ (.head _))) p hp⟩) off⟩ hS r
  intro p hp
  rcases List.mem_cons.mp hp with rfl | hp
  · exact .tail _ (List.mem_append_right _ (.head _))
  rcases List.mem_cons.mp hp with rfl | hp
  · exact .tail _ (List.mem_append_right _ (.tail _ (.head _)))
  rcases List.mem_cons.mp hp with rfl | hp
  · exact .tail _ (List.mem_append_right _ (.tail _ (.tail _ (.head _))))
  rcases List.mem_cons.mp hp with rfl | hp
  · exact .head _
  rcases List.mem_append.mp hp with hp | hp
  · exact .tail _ (List.mem_append_left _ hp)
  · exact .tail _ (List.mem_append_right _ (.tail _ (.tail _ (.tail _ hp))))
theorem fr_get {h : Heap} {a : Addr} {o : Obj} (F : Fr g L h m) (e : g.get? a = some o) : h.get? a = some o := F.keep _ _ e
theorem wTG7 : True := by (k_with "subscriptTail" => (k_here; (with_reducible show wpAny _ _ (subscriptTail _ _ (Value.ref _) (Value.str _ _)) _ _ _); (with_unfolding_all refine' item_dict (fr_get (by k_asm) (by assumption)) (by assumption) (by assumption) ?_ ?_ ?_); rotate_left; (with_unfolding_all rfl); (intro _; with_unfolding_all rfl))); trivial
theorem wTG8 : True := by (k_with "call builtin:sorted" => (k_here; (with_reducible show wpAny _ _ (call (Value.builtin _) [Value.ref _]) _ _ _); k_dflt (refine' sorted_dict (Rm.hh (Rm.deeper (d := 11) (by assumption) _)) (by k_asm) (by k_asm) (fr_get (by k_asm) (by assumption)) (by assumption) (by assumption) (by omega) ?_); intro D'₉ h'₉ tk'₉ vs'₉ ss'₉ e'₉ F'₉ N'₉ l1₉ s'₉ p'₉ o'₉; (try k_lt l1₉))); trivial
theorem wTG9 : True := by (k_with "k_mem" => (assumption)); trivial
set_option maxRecDepth 100000 in
set_option maxHeartbeats 2000000 in
theorem told_head_K {d : Addr} {o : Obj} {kvs : List (Str × Value)} {ks : List (Str × Val)} (X : (Mine.hd.heap_1 w.params).In h₀) (T : TT mean mg mb h₀) (hR : Rm A 12) (hs : h₀.StaysIn s.heap) (hnx : Own h₀ s.heap nx) (hd : (d, o) ∈ nx) (ho : o.IsDictOf (PySem.strKind prog w) kvs) (lo : (d == sysModules) = false) (hk : HeadIn w nx kvs ks) (hn : kvs.length < 60)
  (hQ : ∀ r nx' l h' tk', s.heap.StaysIn h' → Made s.heap h' nx' → List.Perm l (ks.map (·.1)) → sortedS l = true → Tree nx' r (headTold ks l) → Q r {s with heap := h', toks := tk'}) :
  wpAny (model prog w) A (call (.ref 265) [.ref d]) Q E s := by
  refine wpAny_call ?_
  refine' enterC (news := []) X T hs (fun _ h => nomatch h) hR.room (by k_is) (by k_is) (by exact BindsTo.of_eq rfl) (by exact rfl) (by decide +kernel) (by exact rfl) (by exact rfl) (by exact rfl) ?_
  intro g L' h₁ tk cells hst hgs hgsub Xg Tg F' N' Y' hlt
  have G : Own h₀ g nx := fun p hp => ⟨hgsub _ _ (hnx p hp).1 (by simp), (hnx p hp).2⟩
  have Gd : g.get? d = some o := (G _ hd).1
  clear hlt
  k_cells Y'
  try simp only [List.cons_append, List.nil_append] at N'
  dsimp only
  try k_unmd
  k_fold
  k_steps
  rename Fr _ _ _ _ => F9; rename News _ _ _ _ => N9
  rename List.Perm _ _ => pm
  rename sortedS _ = true => so
  rename StrsAre _ _ => hss
  have hlen := StrsAre.length hss
  have hpl := pm.length_eq
  rw [List.length_map] at hpl
  refine LCt.CompSrcT.ledger (its := List.toArray _) (Rm.deeper (d := 11) hR _).hh F9 N9 (by k_mem) (by rw [PySem.sizeLine_eq, List.size_toArray]; omega) ?_
  intro g8
  rename List Str => ss
  rename List Value => vs
  refine with_led N9 ?_
  intro led hled
  have hm := fun (p : Addr × Obj) (h : p ∈ _) => (hled ▸ h : p ∈ led)
  have hD0 := hm _ (List.Mem.head _)
  clear hm
  obtain ⟨o2, hcell, ho2⟩ : ∃ o2 : Obj, (L' + 1, o2) ∈ led ∧ o2.data = .cell (some (.ref d)) := ⟨_, by rw [hled]; repeat (first | exact List.Mem.head _ | apply List.Mem.tail), by assumption⟩
  refine comp_invT (fun i ys nw => ∃ nw1, nw = nw1 ++ led ∧ Trees nw1 ys ((ss.take i).map fun k => .tuple [.str k, (valOf ks k).told]) ∧ ys.length = i) ⟨[], hled.symm, .nil, rfl⟩ ?turn ?fin
  case turn =>
    clear F9 N9
    intro i8 v8 ys8 nw8 I8 oI8 C8 oC8 D8 m8 h8 tk8 E8 hi8 hP8 hinv hC8 hx8 F8 N8 off8 ne8
    obtain ⟨nw1, e8, hts, hyi⟩ := hinv
    have hP9 : vs[i8]? = some v8 := by simpa using hP8
    obtain ⟨y, ty, rfl, hy⟩ := strs_item hss hP9
    obtain ⟨v, hva, hvi⟩ := hk.get (k := y) (pm.mem_iff.mp (List.mem_of_getElem? hy))
    have off9 := off8
    have c8 : (L' + 1, o2) ∈ nw8 := by rw [e8]; exact List.mem_append_right _ hcell
    k_steps
    rename Fr _ _ _ _ => Fz
    rename News _ _ _ _ => Nz
    rename Tree _ _ _ => tr
    rename Apart _ _ => l1
    rename (∀ (p : Addr × Obj), p ∈ _ ++ _ → p.fst < _) => l2
    have hD9 := hD0
    exact compEnd_push Fz Nz l1 l2 off9 (.inr ⟨_, .tail _ (List.mem_append_right _ (by rw [e8]; exact List.mem_append_right _ hD0)), rfl, _, rfl⟩)
      ⟨_, by rw [e8, ← List.append_assoc, ← List.cons_append], by
        rw [List.take_add_one, hy, List.map_append]
        exact Trees.snoc (hts.mono fun p hp => .tail _ (List.mem_append_right _ hp)) (Tree.tuple (.head _) rfl rfl (.cons (.str _ _) (.cons (tr.mono fun p hp => .tail _ (List.mem_append_left _ hp)) .nil))), by rw [List.length_append, hyi]; rfl⟩
  case fin =>
    clear F9 N9
    intro ys8 nw8 hinv
    obtain ⟨nw1, e8, hts, hyi⟩ := hinv
    subst e8
    subst hled
    intro D8 h8 tk8 F8 N8 off8
    have hyl : ys8.length ≤ 1000 := by rw [hyi, List.size_toArray]; omega
    have N7 := news_swap (a := (D8, LCg.lst ys8) :: nw1) N8
    clear N8
    rw [List.size_toArray, hlen, List.take_length] at hts
    k_steps
    rename Fr _ _ _ _ => F9; rename News _ _ _ _ => N9
    exact hQ _ _ _ _ _ (stays_led (news := []) hgsub (fun _ h => nomatch h) F9 N9 (fun _ h => nomatch h)) (made_of (newsX := []) hgsub N9 _ (fun _ h => h) (fun _ _ _ h => nomatch h)) (by rw [← hk.keys]; exact pm) so (by assumption)
end
theorem wVA0 : True := by k_with_none; w_top off; (k_with "k_ne" => (refine neN ?_; (try dsimp only); first | with_reducible assumption | with_reducible exact Ne.symm (by assumption) | fail)); trivial
/-! _law_value -/
def LeafOk : Leaf → Prop
  | .nm t => PyData.strOk t = true
  | .int _ => True
def ValOk : Val → Prop
  | .one d => LeafOk d
  | .arr ds => ∀ d ∈ ds, LeafOk d
def menuL : List Str := [Str.ofString "G", Str.ofString "RGB", Str.ofString "CMYK", Str.ofString "I", Str.ofString "AHx", Str.ofString "A85", Str.ofString "LZW", Str.ofString "Fl", Str.ofString "RL", Str.ofString "CCF", Str.ofString "DCT", Str.ofString "Own", Str.ofString "DeviceRGB", Str.ofString "W"]
theorem menu_ok : ∀ t ∈ menuL, PyData.strOk t = true := by decide +kernel
section
open PyProof.Rows.LCg PyProof.Rows.LCt
variable {prog : Program} {w : World} {A : Around} {h₀ : Heap} {L : Addr} {m : Str → Option Value} {env : Env} {ct elt : Expr} {x : Str} {scope : Scope} {cl : List (Str × Addr)} {s : Shared} {S : List (Addr × Obj) → Prop} {P : Nat → Value → Prop} {Fin : List Value → List (Addr × Obj) → Prop} {news : List (Addr × Obj)}
theorem comp_pen {pen : Addr} {po : Obj} {u : Obj → List (Addr × Obj)} {n : Nat} (U : UpdF pen po news u) (hpo : IsPen po) (R : Value → Prop)
    (turn : ∀ v po' ys I oI C oC D m₂ h tk (E' : Value → Shared → Prop), P ys.length v → IsPen po' → NsObj oC m₂ → m₂ x = some v → Fr h₀ L h m → News h₀ L h ((I, oI) :: (C, oC) :: (D, lst ys) :: u po') → Off3 I C D (u po') → ((@Ne Nat I C) ∧ (@Ne Nat I D) ∧ (@Ne Nat C D)) →
      wpAny (model prog w) A (eval elt (compEnvC scope cl C env)) (CompEnd h₀ L m { s with heap := h, toks := tk } I oI C oC D (lst ys) S (fun y nw' => R y ∧ ∃ po'', IsPen po'' ∧ nw' = u po'')) E' { s with heap := h, toks := tk })
    (fin : ∀ ys po', IsPen po' → (∀ y ∈ ys, R y) → ys.length = n → Fin ys (u po')) : CompRest prog w A h₀ L m env elt x scope cl s S P Fin n 0 [] news := by
  have e0 : news = u po := by obtain ⟨pre, post, rfl, hg, _, _⟩ := U.split; rw [hg]
  refine comp_inv (fun i ys nw => ∃ po', IsPen po' ∧ nw = u po' ∧ (∀ y ∈ ys, R y) ∧ ys.length = i) ⟨po, hpo, e0, fun _ h => (nomatch h), rfl⟩ ?_ ?_
  · rintro i v ys nw I oI C oC D m₂ h tk E' hi hP ⟨po', hpo', rfl, hV, rfl⟩ hC hx F N off ne
    refine wpAny_mono (turn v po' ys I oI C oC D m₂ h tk E' hP hpo' hC hx F N off ne) (fun y s₂ hq => ?_) fun _ _ e => e
    obtain ⟨h', tk', nw', e, F', N', off', hS, hV', po'', hpo'', rfl⟩ := hq
    refine ⟨h', tk', _, e, F', N', off', hS, po'', hpo'', rfl, ?_, by simp⟩
    intro z hz
    rcases List.mem_append.mp hz with hz | hz
    · exact hV z hz
    · rw [List.mem_singleton.mp hz]; exact hV'
  · rintro ys nw ⟨po', hpo', rfl, hV, hl⟩
    exact fin ys po' hpo' hV hl
end
theorem leaves_of {w : World} {nx : List (Addr × Obj)} : ∀ {ys : List Value}, (∀ y ∈ ys, ∃ d, LeafIn w nx y d ∧ LeafOk d) → ∃ ds, Leaves w nx ys ds ∧ ∀ d ∈ ds, LeafOk d
  | [], _ => ⟨[], .nil, fun _ h => (nomatch h)⟩
  | y :: r, h => by
    obtain ⟨d, a, b⟩ := h y (.head _)
    obtain ⟨ds, a', b'⟩ := leaves_of fun z hz => h z (.tail _ hz)
    exact ⟨d :: ds, .cons a a', List.forall_mem_cons.mpr ⟨b, b'⟩⟩
theorem compEnd_two {g : Heap} {L : Addr} {m : Str → Option Value} {I C D x dx : Addr} {oI oC oD a b : Obj} {s₁ : Shared} {S : List (Addr × Obj) → Prop} {rest : Value → List (Addr × Obj) → Prop} {y : Value} {h' : Heap} {tk : Nat} {nw : List (Addr × Obj)}
    (F : Fr g L h' m) (N : News g L h' ((x, a) :: (dx, b) :: (I, oI) :: (C, oC) :: (D, oD) :: nw)) (l1 : ∀ p ∈ (I, oI) :: (C, oC) :: (D, oD) :: nw, p.1 < dx) (l2 : dx < x) (off : LCg.Off3 I C D nw)
    (hS : S ((x, a) :: (dx, b) :: nw)) (r : rest y ((x, a) :: (dx, b) :: nw)) : LCg.CompEnd g L m s₁ I oI C oC D oD S rest y { s₁ with heap := h', toks := tk } := by
  have i1 := l1 _ (.head _)
  have i2 := l1 _ (.tail _ (.head _))
  have i3 := l1 _ (.tail _ (.tail _ (.head _)))
  refine LCg.CompEnd.intro F N ((x, a) :: (dx, b) :: nw) ?_ ⟨⟨Nat.ne_of_gt (Nat.lt_trans i1 l2), Nat.ne_of_gt (Nat.lt_trans i2 l2), Nat.ne_of_gt (Nat.lt_trans i3 l2)⟩, ⟨Nat.ne_of_gt i1, Nat.ne_of_gt i2, Nat.ne_of_gt i3⟩, off⟩ hS r
  intro p hp
  rcases List.mem_cons.mp hp with rfl | hp
  · exact .tail _ (.tail _ (.head _))
  rcases List.mem_cons.mp hp with rfl | hp
  · exact .tail _ (.tail _ (.tail _ (.head _)))
  rcases List.mem_cons.mp hp with rfl | hp
  · exact .tail _ (.tail _ (.tail _ (.tail _ (.head _))))
  rcases List.mem_cons.mp hp with rfl | hp
  · exact .head _
  rcases List.mem_cons.mp hp with rfl | hp
  · exact .tail _ (.head _)
  · exact .tail _ (.tail _ (.tail _ (.tail _ (.tail _ hp))))
theorem menu_leaf {w : World} {nx : List (Addr × Obj)} {ys : List Value} (h : Leaves w nx ys (menuL.map .nm)) {i : Nat} {v : Value} (hv : ys[i]? = some v) : ∃ d, LeafIn w nx v d ∧ LeafOk d := by
  obtain ⟨d, hd, a⟩ := h.at hv
  refine ⟨d, a, ?_⟩
  rw [List.getElem?_map] at hd
  obtain ⟨t, ht, rfl⟩ := Option.map_eq_some_iff.mp hd
  exact menu_ok t (List.mem_of_getElem? ht)
theorem menu_leaf2 {w : World} {nx : List (Addr × Obj)} {ys : List Value} {a b : Int} {t u : Tok} (h : Leaves w nx ys (menuL.map .nm)) {i : Nat} {v : Value} (hv : (ys ++ [.int a t, .int b u])[i]? = some v) : ∃ d, LeafIn w nx v d ∧ LeafOk d := by
  rcases List.mem_append.mp (List.mem_of_getElem? hv) with hm | hm
  · obtain ⟨j, hj⟩ := List.mem_iff_getElem?.mp hm
    exact menu_leaf h hj
  · simp only [List.mem_cons, List.not_mem_nil, or_false] at hm
    rcases hm with rfl | rfl <;> exact ⟨_, .int _ _, trivial⟩
section
variable {prog : Program} {w : World} {mean : ExcName → Option Value} {mg mb : Str → Option Value} {A : Around} {s : Shared} {g : Heap} {L pen : Addr} {po : Obj} {m : Str → Option Value} {all : List (Addr × Obj)} {u : Obj → List (Addr × Obj)} {Q E : Value → Shared → Prop}
theorem wVA1 : True := by (k_with "call ref" => (k_here; (with_reducible show wpAny _ _ (call (Value.ref 336) [Value.ref _, Value.int _ _]) _ _ _); (refine' draw_K (by k_asm) (by k_asm) (by first | assumption | exact Rm.mono (Rm.deeper (by assumption) _) (by decide)) (by k_asm) (by k_asm) (by k_updF) (by assumption) (by first | decide | (simp only [List.size_toArray]; omega) | omega) (by first | decide | (simp only [List.size_toArray]; omega) | omega) ?_); intro d'₉ td'₉ h'₉ tk'₉ po'₉ hpo'₉ F'₉ N'₉ h0'₉ h1'₉; (try k_sweep); (try dsimp only))); trivial
theorem wVA2 : True := by (k_with "call ref" => (k_here; (with_reducible show wpAny _ _ (call (Value.ref 343) [Value.ref _, Value.ref _]) _ _ _); (refine' pick_K (by k_asm) (by k_asm) (by first | assumption | exact Rm.mono (Rm.deeper (by assumption) _) (by decide)) (by k_asm) (by k_asm) (by k_updF) (by assumption) (by k_mem) (by k_ne) (by first | omega | (simp only [List.length_append, List.length_cons, List.length_nil]; omega)) (by first | omega | (simp only [List.length_append, List.length_cons, List.length_nil]; omega)) ?_); intro i'₉ v'₉ h'₉ tk'₉ po'₉ hi'₉ hv'₉ hpo'₉ F'₉ N'₉; (try k_sweep); (try dsimp only))); trivial
theorem wVA3 : True := by (k_with "call ref" => (k_here; (with_reducible show wpAny _ _ (call (Value.ref 171) [Value.str _ _]) _ _ _); (refine' name_K (by k_asm) (by k_asm) (by first | assumption | exact Rm.mono (Rm.deeper (by assumption) _) (by decide)) (by k_asm) (by k_asm) ?_); intro x'₉ d'₉ t1'₉ t2'₉ n'₉ h'₉ tk'₉ F'₉ N'₉ l1₉ l2₉)); trivial
theorem wVA4 : True := by (k_with "eval ListComp" => (k_here; k_dflt (refine LCg.ListComp_U (by k_asm) (by with_unfolding_all rfl) (by decide) (by rfl) (by decide) (by rfl) ?_))); trivial
theorem wVA5 : True := by (k_with "k_all" => (assumption)); trivial
theorem wVA6 : True := by (k_with "binaryOp Add ref ref" => (k_here; (with_reducible show wpAny _ _ (binaryOp _ (Value.ref _) (Value.ref _)) _ _ _); k_dflt (refine' add_my (by k_asm) (by k_asm) (by k_mem) (by k_mem) (by simp only [List.length_cons, List.length_nil]; omega) ?_); intro D'₉ h'₉ F'₉ N'₉ l1₉; (try k_lt l1₉); (try k_sweep))); trivial
set_option maxRecDepth 100000 in
set_option maxHeartbeats 2000000 in
theorem law_value_K (X : (Mine.hd.heap_1 w.params).In g) (T : TT mean mg mb g) (hR : Rm A 8) (F : Fr g L s.heap m) (N : News g L s.heap all) (U : UpdF pen po all u) (hpo : IsPen po)
  (hQ : ∀ v d nx h' tk' po', IsPen po' → Fr g L h' m → News g L h' (nx ++ u po') → Apart nx (u po') → ValIn w nx v d → ValOk d → Q v {s with heap := h', toks := tk'}) :
  wpAny (model prog w) A (call (.ref 363) [.ref pen]) Q E s := by
  have hmem : (pen, po) ∈ all := by obtain ⟨pre, post, rfl, _, _, _⟩ := U.split; exact List.mem_append_right _ (.head _)
  have hsub : ∀ p ∈ [(pen, po)], s.heap.get? p.1 = some p.2 ∧ g.get? p.1 = none := fun p hp' => by rw [List.mem_singleton.mp hp']; exact ⟨(N _ hmem).1, (N _ hmem).2.2⟩
  refine wpAny_call ?_
  refine' enterC (news := [(pen, po)]) X T F.keep hsub hR.room (by k_is) (by k_is) (by exact BindsTo.of_eq rfl) (by exact rfl) (by decide +kernel) (by exact rfl) (by exact rfl) (by exact rfl) ?_
  have fin : ∀ v d nx h' tk' po', KB pen s.heap h' → h'.get? pen = some po' → IsPen po' → Made s.heap h' nx → ValIn w nx v d → ValOk d → Q v {s with heap := h', toks := tk'} := by
    intro v d nx h' tk' po' kb hp' hpo' md ho hok
    have F' := fr_pen F N U kb
    refine hQ v d nx h' tk' po' hpo' F' (news_made F F' (news_pen N U kb hp') md) ?_ ho hok
    intro q hq p hp e
    have z := (md p hp).2
    rw [e] at z
    obtain ⟨pre, post, e1, e2, _⟩ := U.split
    rw [e2] at hq
    have : ∃ o, s.heap.get? q.1 = some o := by
      rcases List.mem_append.mp hq with hq | hq
      · exact ⟨_, (N q (by rw [e1]; exact List.mem_append_left _ hq)).1⟩
      · rcases List.mem_cons.mp hq with rfl | hq
        · exact ⟨_, (N (pen, po) hmem).1⟩
        · exact ⟨_, (N q (by rw [e1]; exact List.mem_append_right _ (.tail _ hq))).1⟩
    obtain ⟨o, ho⟩ := this
    rw [ho] at z; cases z
  clear F N U hQ hmem hsub
  intro g L' h₁ tk cells hst hgs hgsub Xg Tg F' N' Y' hlt
  k_lt hlt
  k_cells Y'
  try simp only [List.cons_append, List.nil_append] at N'
  dsimp only
  try k_unmd
  k_fold
  walk1
  refine wpAny_Assign_Name ?_
  rename Fr _ _ _ _ => F9
  generalize hB : (Expr.List _ _) = B
  refine LCg.ListComp_U (cl := []) F9 (by with_unfolding_all rfl) (by decide) (by rfl) (by decide) (by rfl) ?h ?hs
  case hs => subst hB; intro _; rfl
  subst hB
  k_steps
  try clear F9
  rename Fr _ _ _ _ => F9; rename News _ _ _ _ => N9
  refine with_led N9 ?_
  intro led hled
  refine LCg.CompSrc.ledger (its := List.toArray _) (Rm.deeper (d := 7) hR _).hh F9 N9 (by k_mem) (by rw [PySem.sizeLine_eq]; exact Nat.le_of_ble_eq_true rfl) ?_
  intro g8
  have hm := fun (p : Addr × Obj) (h : p ∈ _) => (hled ▸ h : p ∈ led)
  have hD0 := hm _ (List.Mem.head _)
  clear hm
  refine comp_inv (fun i ys nw => ∃ nw1, nw = nw1 ++ led ∧ Leaves w nw1 ys ((menuL.take i).map .nm) ∧ Apart nw1 led ∧ ys.length = i) ⟨[], hled.symm, .nil, fun _ _ _ h => (nomatch h), rfl⟩ ?turn ?fin
  case turn =>
    clear F9 N9 hled
    intro i8 v8 ys8 nw8 I8 oI8 C8 oC8 D8 m8 h8 tk8 E8 hi8 hP8 hinv hC8 hx8 F8 N8 off8 ne8
    obtain ⟨nw1, e8, hts, hap, hyi⟩ := hinv
    have hP9 := hP8
    simp only [List.getElem?_toArray] at hP9
    obtain ⟨y, ty, rfl, hy⟩ := strs_item (ss := menuL) (by unfold menuL; repeat' (first | exact StrsAre.nil | refine StrsAre.cons _ _ ?_)) hP9
    clear hP8 hP9
    have off9 := off8
    k_steps
    rename Fr _ _ _ _ => Fz
    rename News _ _ _ _ => Nz
    rename (∀ (p : Addr × Obj), p ∈ _ → p.fst < _) => l1
    rename ((_ : Nat) < _) => l2
    refine compEnd_two Fz Nz l1 l2 off9 (.inr ⟨_, .tail _ (.tail _ (by rw [e8]; exact List.mem_append_right _ hD0)), rfl, _, rfl⟩) ⟨_ :: _ :: nw1, by rw [e8]; rfl, ?_, ?_, by rw [List.length_append, hyi]; rfl⟩
    · rw [List.take_add_one, hy, List.map_append]
      exact Leaves.snoc (hts.mono fun p hp => .tail _ (.tail _ hp)) (.nm (.head _) (.tail _ (.head _)))
    · intro q hq
      have hq8 : q ∈ (I8, oI8) :: (C8, oC8) :: (D8, LCg.lst ys8) :: nw8 := .tail _ (.tail _ (.tail _ (by rw [e8]; exact List.mem_append_right _ hq)))
      have z := l1 q hq8
      exact List.forall_mem_cons.mpr ⟨Nat.ne_of_gt (Nat.lt_trans z l2), List.forall_mem_cons.mpr ⟨Nat.ne_of_gt z, hap q hq⟩⟩
  case fin =>
    clear F9 N9
    intro ys8 nw8 hinv
    obtain ⟨nw1, e8, hts, hap, hyi⟩ := hinv
    subst e8
    subst hled
    intro D8 h8 tk8 F8 N8 off8
    have hyl : ys8.length = 14 := hyi
    have N7 := news_swap (a := (D8, LCg.lst ys8) :: nw1) N8
    simp only [List.cons_append, List.nil_append] at N7
    have off7 := off1_right off8
    simp only [LCg.Off1, and_true] at off7
    clear N8 hD0 off8
    simp only [Apart, List.forall_mem_cons, List.not_mem_nil, false_implies, implies_true, and_true] at hap
    obtain ⟨p1, p2, p3, p4⟩ := hap
    have hts2 : Leaves w nw1 ys8 (menuL.map .nm) := hts
    clear hts
    k_steps
    · rename Fr _ _ _ _ => Fz
      rename News _ _ _ _ => Nz
      rename IsPen _ => hpz
      exact fin _ (.one (.int _)) [] _ _ _ (kb_of hgsub Fz) (Nz (pen, _) (by k_mem)).1 hpz (fun _ h => nomatch h) (.one (.int _ _)) trivial
    · rename IsPen _ => hpo1
      rename Fr _ _ _ _ => Fz
      rename News _ _ _ _ => Nz
      rename _ ≤ _ => hd0
      rename _ < (4 : Int) => hd1
      refine LCg.CompSrc.range (Rm.deeper (d := 7) hR _).hh Fz Nz (by assumption) (small_one (by omega) (by omega) (by omega) (by omega)) (rangeSize_nat _ _) (by rw [PySem.sizeLine_eq]; omega) ?_
      intro g9
      refine' comp_pen (pen := pen) (by k_updF) hpo1 (fun y => ∃ d, LeafIn w nw1 y d ∧ LeafOk d) ?turn ?fin2
      case turn =>
        clear Fz Nz fin
        intro v9 po9 ys9 I9 oI9 C9 oC9 D9 m9 h9 tk9 E9 hP9 hpo9 hC9 hx9 F9 N9 off9 ne9
        have off9' := off9
        simp only [LCg.Off3, and_true] at off9
        k_steps
        rename Fr _ _ _ _ => Fz
        rename News _ _ _ _ => Nz
        rename IsPen _ => hpz
        exact LCg.CompEnd.intro Fz Nz _ (fun p hp => .tail _ (.tail _ hp)) off9' trivial ⟨menu_leaf2 hts2 (by assumption), _, hpz, rfl⟩
      case fin2 =>
        intro ys9 po9 hpo9 hys9 hlen9
        obtain ⟨ds, hds, hok⟩ := leaves_of hys9
        intro D9 h9 tk9 F9 N9 off9
        have offp : @Ne Nat D9 pen := by
          simp only [LCg.Off1, and_true] at off9
          omega
        k_steps
        exact fin _ (.arr ds) (Off pen _) _ _ po9 (kb_of hgsub F9) (N9 (pen, po9) (by k_mem)).1 hpo9 (made_offpen hgsub N9) (.arr (mem_off (.head _) offp) (hds.mono fun p hp => mem_off (by repeat (first | exact hp | apply List.Mem.tail)) (p4 p hp)) (by rw [← hds.len, hlen9]; omega)) hok
    · rename Fr _ _ _ _ => Fz
      rename News _ _ _ _ => Nz
      rename IsPen _ => hpz
      obtain ⟨d, hd, hok⟩ := menu_leaf hts2 (by assumption)
      exact fin _ (.one d) (Off pen _) _ _ _ (kb_of hgsub Fz) (Nz (pen, _) (by k_mem)).1 hpz (made_offpen hgsub Nz) (.one (hd.mono fun p hp => mem_off (by repeat (first | exact hp | apply List.Mem.tail)) (p4 p hp))) hok
end
theorem wTH0 : True := by k_with_none; w_top off; (k_with "k_ne" => (refine neN ?_; (try dsimp only); first | with_reducible assumption | with_reducible exact Ne.symm (by assumption) | fail)); trivial
/-! what a told tree holds; a comprehension over a tuple -/
section
variable {nx : List (Addr × Obj)} {h : Heap}
theorem tree_tup {v : Value} {ds : List PyData} (hn : ∀ p ∈ nx, h.get? p.1 = some p.2) (r : Tree nx v (.tuple ds)) :
    ∃ a o vs n, v = .ref a ∧ (a, o) ∈ nx ∧ o.cls = .type "tuple" ∧ o.data = .seq (List.toArray vs) n ∧ Trees nx vs ds := by
  let as := (List.range h.objs.size).filter fun a => decide (a ∉ nx.map (·.1))
  have hn1 : ∀ p ∈ nx, (hideAll h as).get? p.1 = some p.2 := fun p hp => hideAll_get _ (hn p hp) fun q => by
    have := (List.mem_filter.mp q).2
    simp only [decide_eq_true_eq] at this
    exact this (List.mem_map.mpr ⟨p, hp, rfl⟩)
  obtain ⟨_, r1⟩ := r _ hn1
  cases r1 with
  | @tuple a o vs n _ _ ho hc hd hall =>
    have hm : a ∈ nx.map (·.1) := by
      rcases Decidable.em (a ∈ nx.map (·.1)) with q | q
      · exact q
      · have ha : a ∈ as := List.mem_filter.mpr ⟨List.mem_range.mpr (Heap.lt_size (of_hideAll _ ho)), by simpa using q⟩
        rw [hideAll_none _ ha] at ho; cases ho
    obtain ⟨p, hp, rfl⟩ := List.mem_map.mp hm
    have e := hn1 p hp
    rw [ho] at e
    cases e
    refine ⟨p.1, p.2, vs.toList, n, rfl, hp, hc, by rw [Array.toArray_toList]; exact hd, fun h' hn' => ?_⟩
    obtain ⟨_, r2⟩ := r h' hn'
    cases r2 with
    | tuple ho2 hc2 hd2 hall2 =>
      rw [hn' p hp] at ho2
      cases ho2
      rw [hd] at hd2
      cases hd2
      exact ⟨_, hall2⟩
theorem trees_nil {vs : List Value} (hn : ∀ p ∈ nx, h.get? p.1 = some p.2) (r : Trees nx vs []) : vs = [] := by
  obtain ⟨_, r1⟩ := r h hn
  cases r1; rfl
theorem trees_cons {vs : List Value} {d ds} (hn : ∀ p ∈ nx, h.get? p.1 = some p.2) (r : Trees nx vs (d :: ds)) : ∃ v vs', vs = v :: vs' ∧ Tree nx v d ∧ Trees nx vs' ds := by
  obtain ⟨_, r1⟩ := r h hn
  cases r1 with
  | @cons v vs' _ _ _ _ a b =>
    refine ⟨v, vs', rfl, fun h' hn' => ?_, fun h' hn' => ?_⟩
    · obtain ⟨_, r2⟩ := r h' hn'
      cases r2 with
      | cons a b => exact ⟨_, a⟩
    · obtain ⟨_, r2⟩ := r h' hn'
      cases r2 with
      | cons a b => exact ⟨_, b⟩
theorem tree_str {v : Value} {x : Str} (hn : ∀ p ∈ nx, h.get? p.1 = some p.2) (r : Tree nx v (.str x)) : ∃ t, v = .str x t := by
  obtain ⟨_, r1⟩ := r h hn
  cases r1; exact ⟨_, rfl⟩
theorem tree_int {v : Value} {x : Int} (hn : ∀ p ∈ nx, h.get? p.1 = some p.2) (r : Tree nx v (.int x)) : ∃ t, v = .int x t := by
  obtain ⟨_, r1⟩ := r h hn
  cases r1; exact ⟨_, rfl⟩
theorem trees_len : ∀ {vs : List Value} {ds : List PyData}, (∀ p ∈ nx, h.get? p.1 = some p.2) → Trees nx vs ds → vs.length = ds.length := by
  intro vs ds hn
  induction ds generalizing vs with
  | nil => intro r; rw [trees_nil hn r]; rfl
  | cons d ds ih =>
    intro r
    obtain ⟨v, vs', rfl, _, b⟩ := trees_cons hn r
    simp only [List.length_cons, ih b]
theorem trees_at : ∀ {vs : List Value} {ds : List PyData}, (∀ p ∈ nx, h.get? p.1 = some p.2) → Trees nx vs ds → ∀ {i : Nat} {v : Value}, vs[i]? = some v → ∃ d, ds[i]? = some d ∧ Tree nx v d := by
  intro vs ds hn
  induction ds generalizing vs with
  | nil => intro r i v e; rw [trees_nil hn r] at e; simp at e
  | cons d ds ih =>
    intro r i v e
    obtain ⟨v', vs', rfl, a, b⟩ := trees_cons hn r
    cases i with
    | zero => simp only [List.getElem?_cons_zero, Option.some.injEq] at e; subst e; exact ⟨_, rfl, a⟩
    | succ i => simp only [List.getElem?_cons_succ] at e ⊢; exact ih b e
/-- the leaf's tuple -/
theorem tree_leaf {v : Value} {d : Leaf} (hn : ∀ p ∈ nx, h.get? p.1 = some p.2) (r : Tree nx v d.told) :
    ∃ a o n t1 t2, v = .ref a ∧ (a, o) ∈ nx ∧ o.cls = .type "tuple" ∧ (match d with | .nm t => o.data = .seq #[.str (Str.ofString "name") t1, .str t t2] n | .int i => o.data = .seq #[.str (Str.ofString "int") t1, .int i t2] n) := by
  cases d with
  | nm t =>
    obtain ⟨a, o, vs, n, e, hm, hc, hd, rs⟩ := tree_tup hn r
    obtain ⟨v1, vs1, rfl, r1, rs1⟩ := trees_cons hn rs
    obtain ⟨v2, vs2, rfl, r2, rs2⟩ := trees_cons hn rs1
    obtain rfl := trees_nil hn rs2
    obtain ⟨t1, rfl⟩ := tree_str hn r1
    obtain ⟨t2, rfl⟩ := tree_str hn r2
    exact ⟨a, o, n, t1, t2, e, hm, hc, hd⟩
  | int i =>
    obtain ⟨a, o, vs, n, e, hm, hc, hd, rs⟩ := tree_tup hn r
    obtain ⟨v1, vs1, rfl, r1, rs1⟩ := trees_cons hn rs
    obtain ⟨v2, vs2, rfl, r2, rs2⟩ := trees_cons hn rs1
    obtain rfl := trees_nil hn rs2
    obtain ⟨t1, rfl⟩ := tree_str hn r1
    obtain ⟨t2, rfl⟩ := tree_int hn r2
    exact ⟨a, o, n, t1, t2, e, hm, hc, hd⟩
end
section
open PyProof.Rows.LCg PyProof.Rows.LCt
variable {prog : Program} {w : World} {A : Around} {E : Value → Shared → Prop} {s : Shared} {h₀ : Heap} {L : Addr} {m : Str → Option Value} {env : Env}
def TupAt (t : Addr) (vs : List Value) (nw : List (Addr × Obj)) : Prop := ∃ o, (t, o) ∈ nw ∧ o.cls = .type "tuple" ∧ ∃ n, o.data = .seq vs.toArray n
def SrcTup (prog : Program) (w : World) (A : Around) (h₀ : Heap) (L : Addr) (m : Str → Option Value) (env : Env) (elt : Expr) (x : Str) (scope : Scope) (cl : List (Str × Addr)) (Fin : Shared → List Value → List (Addr × Obj) → Prop) (xv : Value) (s₁ : Shared) : Prop :=
  ∃ t vs news, xv = .ref t ∧ A.handled = none ∧ Fr h₀ L s₁.heap m ∧ News h₀ L s₁.heap news ∧ TupAt t vs news ∧ vs.length ≤ sizeLine ∧
    ∀ s₂ : Shared, (∃ h, s₂ = { s₁ with heap := h }) → CompRest prog w A h₀ L m env elt x scope cl s₂ (TupAt t vs) (fun i v => vs[i]? = some v) (Fin s₂) vs.length 0 [] news
theorem SrcTup.intro {elt : Expr} {x : Str} {scope : Scope} {cl : List (Str × Addr)} {Fin : Shared → List Value → List (Addr × Obj) → Prop} {t : Addr} {vs : List Value} {news : List (Addr × Obj)} {s₁ : Shared}
    (hh : A.handled = none) (F : Fr h₀ L s₁.heap m) (N : News h₀ L s₁.heap news) (ht : TupAt t vs news) (hsz : vs.length ≤ sizeLine)
    (h : ∀ g, CompRest prog w A h₀ L m env elt x scope cl { s₁ with heap := g } (TupAt t vs) (fun i v => vs[i]? = some v) (Fin { s₁ with heap := g }) vs.length 0 [] news) :
    SrcTup prog w A h₀ L m env elt x scope cl Fin (.ref t) s₁ := ⟨t, vs, news, rfl, hh, F, N, ht, hsz, fun _ ⟨g, e⟩ => e ▸ h g⟩
theorem ListComp_Tu {elt iter : Expr} {x : Str} {px : Pos} {scope : Scope} {cl : List (Str × Addr)} {pos : Pos} {Q : Value → Shared → Prop} (_F₀ : Fr h₀ L s.heap m)
    (hclos : closureFor scope env = pure cl) (hcell : ∀ y ∈ scope.names, y.2 ≠ .cell) (hkind : scope.kind = .function)
    (hnames : ∀ y ∈ scope.names, y.2 = .local → scope.names.lookup y.1 = some .local) (hx : scope.names.lookup x = some .local)
    (h : wpAny (model prog w) A (eval iter env) (SrcTup prog w A h₀ L m env elt x scope cl (fun s₂ => FinE h₀ L m s₂ Q)) E s)
    (hs : ∀ x, foldedSetIterable iter env x = pure x := by intro _; rfl) :
    wpAny (model prog w) A (eval (.ListComp elt [⟨.Name x px, iter, [], 0⟩] scope pos) env) Q E s := by
  rw [eval_ListComp]
  refine wpAny_comprehension_free (use := none) rfl hs hclos hkind hnames (wpAny_mono h (fun xv s₁ h₁ => ?_) fun _ _ e => e)
  obtain ⟨t, vs, news, rfl, hh, F, N, ht, hsz, R⟩ := h₁
  have hT : s₁.heap.IsTuple t vs.toArray := by obtain ⟨o, hm, hc, n, hd⟩ := ht; exact ⟨o, (N _ hm).1, hc, n, hd⟩
  have htlt : t < s₁.heap.objs.size := by obtain ⟨o, ho, _⟩ := hT; exact Heap.lt_size ho
  refine wpAny_pyIter_tuple hT ?_
  have W : Walks prog w A s₁.heap.objs.size [s₁.heap.objs.size, t] [s₁.heap.objs.size] vs.length (fun i v => vs[i]? = some v) (fun i h => h.IsTupleIter s₁.heap.objs.size t i ∧ h.IsTuple t vs.toArray) := by
    have := Walks.tuple (prog := prog) (w := w) (A := A) hh s₁.heap.objs.size t (Nat.ne_of_lt htlt) vs.toArray
    simpa using this
  refine block_U W hsz (fun i h st => by obtain ⟨o, e, _⟩ := st.1; exact ⟨o, e⟩) ?_ hcell hkind hx ⟨⟨_, Heap.get?_push_size _ rfl, rfl, rfl⟩, hT.push _⟩ (fun b hb => ?_)
    (F.keeps fun _ _ e => Heap.get?_push_of_some _ e) (N.grown fun _ _ e => Heap.get?_push_of_some _ e) (Nat.ne_of_lt F.ns.lt) (next_is_new F) (fun p hp => Nat.ne_of_lt (Heap.lt_size (N p hp).1)) ht (R _ ⟨_, rfl⟩) ?_
  · rintro i h h' o nw ⟨⟨o1, e1, r1⟩, _⟩ ho ho' hk N' ⟨o2, hm2, hc2, n2, hd2⟩
    refine ⟨⟨o1, ?_, r1⟩, ⟨o2, (N' _ hm2).1, hc2, n2, hd2⟩⟩
    rw [ho', ← ho, e1]
  · show b < (s₁.heap.push _).objs.size
    rw [Heap.size_push]
    simp only [List.mem_cons, List.not_mem_nil, or_false] at hb
    rcases hb with rfl | rfl
    · exact Nat.lt_succ_self _
    · exact Nat.lt_succ_of_lt htlt
  · intro D C h' tk m' ys news' F' N' o1 hn' hC₀ hD₀ hCL hDL hCD offC fin
    refine ⟨m', hn', fun h'' hs'' => fin D h'' tk (F'.change hs'' hCL hC₀) (fun p hp => ?_) o1⟩
    refine ⟨hs''.extBut _ _ ?_ (N' p hp).1, (N' p hp).2⟩
    rcases List.mem_cons.mp hp with rfl | hp
    · exact Ne.symm hCD
    · exact offC p hp
end
theorem wFU0 : True := by k_with_none; w_top off; (k_with "k_ne" => (refine neN ?_; (try dsimp only); first | with_reducible assumption | with_reducible exact Ne.symm (by assumption) | fail)); trivial
/-! _law_full -/
def fullN (t : Str) : Str := (namesL.lookup t).getD t
def fullLeaf : Leaf → Leaf
  | .nm t => .nm (fullN t)
  | .int i => .int i
def fullVal : Val → Val
  | .one d => .one (fullLeaf d)
  | .arr ds => .arr (ds.map fullLeaf)
section
variable {prog : Program} {w : World} {mean : ExcName → Option Value} {mg mb : Str → Option Value} {A : Around} {s : Shared} {h₀ g : Heap} {L : Addr} {m : Str → Option Value} {nx all news : List (Addr × Obj)} {Q E : Value → Shared → Prop}
theorem news_rot {h : Heap} {x : Addr × Obj} {a b : List (Addr × Obj)} (N : News g L h (x :: (a ++ b))) : News g L h (x :: (b ++ a)) := fun p hp => N p (by
  rcases List.mem_cons.mp hp with rfl | hp
  · exact .head _
  · exact .tail _ (List.mem_append.mpr ((List.mem_append.mp hp).symm)))
theorem compEnd_one {I C D T : Addr} {oI oC oD o : Obj} {s₁ : Shared} {S : List (Addr × Obj) → Prop} {rest : Value → List (Addr × Obj) → Prop} {y : Value} {h' : Heap} {tk : Nat} {nw : List (Addr × Obj)}
    (F : Fr g L h' m) (N : News g L h' ((T, o) :: (I, oI) :: (C, oC) :: (D, oD) :: nw)) (i1 : @LT.lt Nat _ I T) (i2 : @LT.lt Nat _ C T) (i3 : @LT.lt Nat _ D T) (off : LCg.Off3 I C D nw)
    (hS : S ((T, o) :: nw)) (r : rest y ((T, o) :: nw)) : LCg.CompEnd g L m s₁ I oI C oC D oD S rest y { s₁ with heap := h', toks := tk } :=
  LCg.CompEnd.intro F N ((T, o) :: nw) (List.forall_mem_cons.mpr ⟨.tail _ (.head _), List.forall_mem_cons.mpr ⟨.tail _ (.tail _ (.head _)), List.forall_mem_cons.mpr ⟨.tail _ (.tail _ (.tail _ (.head _))), List.forall_mem_cons.mpr ⟨List.Mem.head _, fun p hp => .tail _ (.tail _ (.tail _ (.tail _ hp)))⟩⟩⟩⟩) ⟨⟨Nat.ne_of_gt i1, Nat.ne_of_gt i2, Nat.ne_of_gt i3⟩, off⟩ hS r
theorem get_meth {d : Addr} {o : Obj} {kvs : List (Str × Value)} {pl : Sem Bool} {Q : Value × List Value → Shared → Prop} (ho : s.heap.get? d = some o) (hd : o.IsDictOf (PySem.strKind prog w) kvs) (h : Q (.builtin "dict.get", [.ref d]) s) : wpAny (model prog w) A (getMethod (.ref d) "get" pl) Q E s := by
  have hD : s.heap.DictOf (PySem.strKind prog w) d kvs := Heap.dictOf_iff.mpr ⟨o, ho, hd⟩
  exact getMethod_builtin hD.typeIs PySem.F.plainAttrs_dict PySem.F.slot_dict_get PySem.F.type_dict_get hD.mapOf.noDict h
theorem get_tab {d : Addr} {o : Obj} {kvs : List (Str × Value)} {tab : List (Str × Str)} {k : Str} {t u : Tok} (ho : s.heap.get? d = some o) (hd : o.IsDictOf (PySem.strKind prog w) kvs) (lo : (d == sysModules) = false) (ht : StrTab kvs tab)
    (h : ∀ t' tk', Q (.str ((tab.lookup k).getD k) t') { s with toks := tk' }) : wpAny (model prog w) A (call (.builtin "dict.get") [.ref d, .str k t, .str k u]) Q E s := by
  have hD : s.heap.DictOf (PySem.strKind prog w) d kvs := Heap.dictOf_iff.mpr ⟨o, ho, hd⟩
  refine call_meetsIn PySem.F.slot_dict_get hD.typeIs PySem.F.entry_dict_get (PySem.F.args_dict_get_3 _ _ _) (meets_dict_get_default (PySem.strKind prog w) d (strKind_is _ _ _ _) lo (.str k u)) ⟨_, hD.mapOf, ?_⟩
  rcases ht.at k with ⟨q, r⟩ | ⟨x, t', q, r⟩
  · have := h u (s.toks + 1)
    rw [r] at this
    rw [q]; exact this
  · have := h t' (s.toks + 1)
    rw [r] at this
    rw [q]; exact this
theorem item_tupN {value slice : PySem.Expr} {a : Addr} {o : Obj} {items : Array Value} {n : Nat} {k : Int} {u : Tok} {j : Nat} {x : Value} (N : News g L s.heap news) (hm : (a, o) ∈ news) (hc : o.cls = .type "tuple") (hd : o.data = .seq items n)
    (hlo : -(2 ^ 63) ≤ k) (hhi : k < 2 ^ 63) (hj : seqIndex? k items.size = some j) (hx : items[j]? = some x) (h : Q x s)
    (hs : subscripted slice false (.ref a) (.int k u) = operate [.ref a, .int k u] (getItem (.ref a) (.int k u)) := by with_unfolding_all rfl) (hg : ∀ r, letTemporaryGo value (.ref a) r = pure () := by intro _; with_unfolding_all rfl) :
    wpAny (model prog w) A (subscriptTail value slice (.ref a) (.int k u)) Q E s :=
  item_tuple (⟨o, (N _ hm).1, hc, n, hd⟩ : PyProof.Rows.IsTup s.heap a items) hlo hhi hj hx h hs hg
theorem item_0 {value slice : PySem.Expr} {a : Addr} {o : Obj} {x : Value} {r : List Value} {n : Nat} {u : Tok} (N : News g L s.heap news) (hm : (a, o) ∈ news) (hc : o.cls = .type "tuple") (hd : o.data = .seq (List.toArray (x :: r)) n) (h : Q x s)
    (hs : subscripted slice false (.ref a) (.int 0 u) = operate [.ref a, .int 0 u] (getItem (.ref a) (.int 0 u)) := by with_unfolding_all rfl) (hg : ∀ r, letTemporaryGo value (.ref a) r = pure () := by intro _; with_unfolding_all rfl) :
    wpAny (model prog w) A (subscriptTail value slice (.ref a) (.int 0 u)) Q E s :=
  item_tupN N hm hc hd (by decide) (by decide) (j := 0) (by simp [seqIndex?]) rfl h hs hg
theorem item_1 {value slice : PySem.Expr} {a : Addr} {o : Obj} {x y : Value} {r : List Value} {n : Nat} {u : Tok} (N : News g L s.heap news) (hm : (a, o) ∈ news) (hc : o.cls = .type "tuple") (hd : o.data = .seq (List.toArray (y :: x :: r)) n) (h : Q x s)
    (hs : subscripted slice false (.ref a) (.int 1 u) = operate [.ref a, .int 1 u] (getItem (.ref a) (.int 1 u)) := by with_unfolding_all rfl) (hg : ∀ r, letTemporaryGo value (.ref a) r = pure () := by intro _; with_unfolding_all rfl) :
    wpAny (model prog w) A (subscriptTail value slice (.ref a) (.int 1 u)) Q E s :=
  item_tupN N hm hc hd (by decide) (by decide) (j := 1) (by simp [seqIndex?]; omega) rfl h hs hg
theorem slice_tupN {value slice : PySem.Expr} {a : Addr} {o : Obj} {x : Value} {rs : List Value} {n : Nat} {u : Tok} (F : Fr g L s.heap m) (N : News g L s.heap news) (hm : (a, o) ∈ news) (hc : o.cls = .type "tuple") (hd : o.data = .seq (List.toArray (x :: rs)) n) (hz : rs.length ≤ 1000)
    (h : ∀ D h', Fr g L h' m → News g L h' ((D, ({ cls := .type "tuple", data := .seq rs.toArray } : Obj)) :: news) → (∀ p ∈ news, p.1 < D) → Q (.ref D) { s with heap := h' })
    (hs : subscripted slice false (.ref a) (.ref s.heap.objs.size) = operate [.ref s.heap.objs.size, .ref a] (getItem (.ref a) (.ref s.heap.objs.size)) := by with_unfolding_all rfl)
    (hg : ∀ r, letTemporaryGo value (.ref a) r = pure () := by intro _; with_unfolding_all rfl) :
    wpAny (model prog w) A (subscriptTail value slice (.ref a) (.ref s.heap.objs.size)) Q E { s with heap := s.heap.push { cls := .type "slice", data := .fields #[.int 1 u, .none, .none] } } :=
  slice_tuple_from (a := 1) F N (⟨o, (N _ hm).1, hc, n, hd⟩ : PyProof.Rows.IsTup s.heap a _) (Nat.le_refl _) (by simp) (fun h' F' N' => h _ h' F' (by simpa using N') fun p hp => Nat.lt_succ_of_lt (Heap.lt_size (N p hp).1)) hs hg (by rw [PySem.sizeLine_eq]; simp only [List.size_toArray, List.length_cons]; omega)
theorem told_nm_X {v : Value} {t : Str} (G : Own h₀ g nx) (X : (Mine.hd.heap_1 w.params).In h₀) (T : TT mean mg mb h₀) (hst : h₀.StaysIn g) (hR : Rm A 10) (F : Fr g L s.heap m) (N : News g L s.heap all) (hv : LeafIn w nx v (.nm t))
  (hQ : ∀ a o n t1 t2 nx' h' tk', Fr g L h' m → News g L h' ((a, o) :: (all ++ nx')) → o.cls = .type "tuple" → o.data = .seq #[.str (Str.ofString "name") t1, .str t t2] n → Tree ((a, o) :: (all ++ nx')) (.ref a) (Leaf.told (.nm t)) → Q (.ref a) {s with heap := h', toks := tk'}) :
  wpAny (model prog w) A (call (.ref 265) [v]) Q E s :=
  told_val_G G X T hst hR F N (.one hv) fun r nx' h' tk' F' N' l1 tr => by
    obtain ⟨a, o, n, t1, t2, rfl, hm, hc, hd⟩ := tree_leaf (d := .nm t) (fun p hp => (N' p (List.mem_append_left _ hp)).1) tr
    exact hQ a o n t1 t2 nx' h' tk' F' (fun p hp => by
      rcases List.mem_cons.mp hp with rfl | hp
      · exact N' _ (List.mem_append_left _ hm)
      · exact news_swap N' p hp) hc hd (tr.mono fun p hp => .tail _ (List.mem_append_right _ hp))
theorem told_int_X {v : Value} {i : Int} (G : Own h₀ g nx) (X : (Mine.hd.heap_1 w.params).In h₀) (T : TT mean mg mb h₀) (hst : h₀.StaysIn g) (hR : Rm A 10) (F : Fr g L s.heap m) (N : News g L s.heap all) (hv : LeafIn w nx v (.int i))
  (hQ : ∀ a o n t1 t2 nx' h' tk', Fr g L h' m → News g L h' ((a, o) :: (all ++ nx')) → o.cls = .type "tuple" → o.data = .seq #[.str (Str.ofString "int") t1, .int i t2] n → Tree ((a, o) :: (all ++ nx')) (.ref a) (Leaf.told (.int i)) → Q (.ref a) {s with heap := h', toks := tk'}) :
  wpAny (model prog w) A (call (.ref 265) [v]) Q E s :=
  told_val_G G X T hst hR F N (.one hv) fun r nx' h' tk' F' N' l1 tr => by
    obtain ⟨a, o, n, t1, t2, rfl, hm, hc, hd⟩ := tree_leaf (d := .int i) (fun p hp => (N' p (List.mem_append_left _ hp)).1) tr
    exact hQ a o n t1 t2 nx' h' tk' F' (fun p hp => by
      rcases List.mem_cons.mp hp with rfl | hp
      · exact N' _ (List.mem_append_left _ hm)
      · exact news_swap N' p hp) hc hd (tr.mono fun p hp => .tail _ (List.mem_append_right _ hp))
theorem told_arr_X {v : Value} {ds : List Leaf} (G : Own h₀ g nx) (X : (Mine.hd.heap_1 w.params).In h₀) (T : TT mean mg mb h₀) (hst : h₀.StaysIn g) (hR : Rm A 10) (F : Fr g L s.heap m) (N : News g L s.heap all) (hv : ValIn w nx v (.arr ds))
  (hQ : ∀ a o n t1 rs nx' h' tk', Fr g L h' m → News g L h' ((a, o) :: (all ++ nx')) → o.cls = .type "tuple" → o.data = .seq (List.toArray (.str (Str.ofString "array") t1 :: rs)) n → Trees nx' rs (ds.map Leaf.told) → rs.length = ds.length → Q (.ref a) {s with heap := h', toks := tk'}) :
  wpAny (model prog w) A (call (.ref 265) [v]) Q E s :=
  told_val_G G X T hst hR F N hv fun r nx' h' tk' F' N' l1 tr => by
    have hn : ∀ p ∈ nx', h'.get? p.1 = some p.2 := fun p hp => (N' p (List.mem_append_left _ hp)).1
    obtain ⟨a, o, vs, n, rfl, hm, hc, hd, rs⟩ := tree_tup hn tr
    obtain ⟨v1, vs1, rfl, r1, rs1⟩ := trees_cons hn rs
    obtain ⟨t1, rfl⟩ := tree_str hn r1
    exact hQ a o n t1 vs1 nx' h' tk' F' (fun p hp => by
      rcases List.mem_cons.mp hp with rfl | hp
      · exact N' _ (List.mem_append_left _ hm)
      · exact news_swap N' p hp) hc hd rs1 (by rw [trees_len hn rs1, List.length_map])
theorem wFU1 : True := by (k_with "call ref" => (k_here; (with_reducible show wpAny _ _ (call (Value.ref 265) [_]) _ _ _); (refine' told_nm_X (by assumption) (by assumption) (by assumption) (by assumption) (by first | assumption | exact Rm.mono (Rm.deeper (by assumption) _) (by decide)) (by k_asm) (by k_asm) (by assumption) ?_); intro a'₉ o'₉ n'₉ t1'₉ t2'₉ nx'₉ h'₉ tk'₉ F'₉ N'₉ hc'₉ hd'₉ tr₉; (try simp only [List.cons_append, List.nil_append] at N'₉))); trivial
theorem wFU2 : True := by (k_with "call ref" => (k_here; (with_reducible show wpAny _ _ (call (Value.ref 265) [_]) _ _ _); (refine' told_int_X (by assumption) (by assumption) (by assumption) (by assumption) (by first | assumption | exact Rm.mono (Rm.deeper (by assumption) _) (by decide)) (by k_asm) (by k_asm) (by assumption) ?_); intro a'₉ o'₉ n'₉ t1'₉ t2'₉ nx'₉ h'₉ tk'₉ F'₉ N'₉ hc'₉ hd'₉ tr₉; (try simp only [List.cons_append, List.nil_append] at N'₉))); trivial
theorem wFU3 : True := by (k_with "call ref" => (k_here; (with_reducible show wpAny _ _ (call (Value.ref 265) [_]) _ _ _); (refine' told_arr_X (by assumption) (by assumption) (by assumption) (by assumption) (by first | assumption | exact Rm.mono (Rm.deeper (by assumption) _) (by decide)) (by k_asm) (by k_asm) (by assumption) ?_); intro a'₉ o'₉ n'₉ t1'₉ rs'₉ nx'₉ h'₉ tk'₉ F'₉ N'₉ hc'₉ hd'₉ tr₉ hl'₉; (try simp only [List.cons_append, List.nil_append] at N'₉))); trivial
theorem wFU4 : True := by (k_with "k_mem" => (assumption)); trivial
theorem wFU5 : True := by (k_with "subscriptTail" => (k_here; (with_reducible show wpAny _ _ (subscriptTail _ _ (Value.ref _) (Value.int 0 _)) _ _ _); (with_unfolding_all refine' item_0 (by k_asm) (by k_mem) (by assumption) (by assumption) ?_ ?_ ?_); rotate_left; (with_unfolding_all rfl); (intro _; with_unfolding_all rfl))); trivial
theorem wFU6 : True := by (k_with "subscriptTail" => (k_here; (with_reducible show wpAny _ _ (subscriptTail _ _ (Value.ref _) (Value.int 1 _)) _ _ _); (with_unfolding_all refine' item_1 (by k_asm) (by k_mem) (by assumption) (by assumption) ?_ ?_ ?_); rotate_left; (with_unfolding_all rfl); (intro _; with_unfolding_all rfl))); trivial
theorem wFU7 : True := by (k_with "subscriptTail Name Slice ref ref" => (k_here; (with_reducible show wpAny _ _ (subscriptTail _ _ (Value.ref _) (Value.ref _)) _ _ _); (with_unfolding_all refine' slice_tupN (by k_asm) (by k_asm) (by k_mem) (by assumption) (by assumption) (by omega) ?_ ?_ ?_); rotate_left; (with_unfolding_all rfl); (intro _; with_unfolding_all rfl); intro D'₉ h'₉ F'₉ N'₉ l1₉)); trivial
theorem wFU8 : True := by (k_with "getMethod ref" => (k_here; (refine get_meth (fr_get (by k_asm) (by assumption)) (by assumption) ?_))); trivial
theorem wFU9 : True := by (k_with "call builtin:dict.get" => (k_here; (refine get_tab (fr_get (by k_asm) (by assumption)) (by assumption) (by assumption) (by assumption) ?_); intro t'₉ tk'₉)); trivial
theorem wFU10 : True := by (k_with "eval ListComp" => (k_here; k_dflt (refine ListComp_Tu (by k_asm) (by with_unfolding_all rfl) (by decide) (by rfl) (by decide) (by rfl) ?_))); trivial
theorem wFU11 : True := by (k_with "call type:tuple" => (k_here; (with_reducible show wpAny _ _ (call (Value.type _) [Value.ref _]) _ _ _); (refine' tup_my (by k_asm) (by k_asm) (by k_mem) (by omega) ?_); intro D'₉ h'₉ F'₉ N'₉ l1₉; (try k_lt l1₉))); trivial
theorem wFU12 : True := by (k_with "binaryOp Add ref ref" => (k_here; (with_reducible show wpAny _ _ (binaryOp _ (Value.ref _) (Value.ref _)) _ _ _); (refine' addT_my (by k_asm) (by k_asm) (by k_mem) (by k_mem) (by omega) (by assumption) (fun p hp => by repeat (first | exact hp | apply List.Mem.tail)) ?_); intro r'₉ h'₉ news'₉ F'₉ N'₉ hs'₉ tr'₉)); trivial
set_option maxRecDepth 100000 in
set_option maxHeartbeats 2000000 in
theorem law_full_K {v : Value} {d : Val} {nd : Addr} {o : Obj} {kvs : List (Str × Value)} (X : (Mine.hd.heap_1 w.params).In h₀) (T : TT mean mg mb h₀) (hR : Rm A 12) (hs : h₀.StaysIn s.heap) (hnx : Own h₀ s.heap nx) (hv : ValIn w nx v d) (hd : (nd, o) ∈ nx) (ho : o.IsDictOf (PySem.strKind prog w) kvs) (lo : (nd == sysModules) = false) (ht : StrTab kvs namesL)
  (hQ : ∀ r nx' h' tk', s.heap.StaysIn h' → Made s.heap h' nx' → Tree nx' r (fullVal d).told → Q r {s with heap := h', toks := tk'}) :
  wpAny (model prog w) A (call (.ref 368) [v, .ref nd]) Q E s := by
  refine wpAny_call ?_
  refine' enterC (news := []) X T hs (fun _ h => nomatch h) hR.room (by k_is) (by k_is) (by exact BindsTo.of_eq rfl) (by exact rfl) (by decide +kernel) (by exact rfl) (by exact rfl) (by exact rfl) ?_
  intro g L' h₁ tk cells hst hgs hgsub Xg Tg F' N' Y' hlt
  have G : Own h₀ g nx := fun p hp => ⟨hgsub _ _ (hnx p hp).1 (by simp), (hnx p hp).2⟩
  have Gd : g.get? nd = some o := (G _ hd).1
  clear hlt
  k_cells Y'
  try simp only [List.cons_append, List.nil_append] at N'
  dsimp only
  try k_unmd
  k_fold
  rcases d with ⟨_ | _⟩ | ds
  · cases hv with
    | one hv =>
      k_steps
      rename Fr _ _ _ _ => Fz
      rename News _ _ _ _ => Nz
      exact hQ _ _ _ _ (stays_led (news := []) hgsub (fun _ h => nomatch h) Fz Nz (fun _ h => nomatch h)) (made_of (newsX := []) hgsub Nz _ (fun _ h => h) (fun _ _ _ h => nomatch h)) (Tree.tuple (.head _) rfl rfl (.cons (.str _ _) (.cons (.str _ _) .nil)))
  · cases hv with
    | one hv =>
      k_steps
      rename Fr _ _ _ _ => Fz
      rename News _ _ _ _ => Nz
      rename Tree _ _ _ => tr
      exact hQ _ _ _ _ (stays_led (news := []) hgsub (fun _ h => nomatch h) Fz Nz (fun _ h => nomatch h)) (made_of (newsX := []) hgsub Nz _ (fun _ h => h) (fun _ _ _ h => nomatch h)) tr
  · have h8 : ds.length ≤ 8 := by cases hv; assumption
    k_steps
    rename Fr _ _ _ _ => F9
    rename News _ _ _ _ => N9
    rename Trees _ _ _ => trs
    rename (List.length _ = List.length ds) => hrl
    refine with_led N9 ?_
    intro led hled
    have hm := fun (p : Addr × Obj) (h : p ∈ _) => (hled ▸ h : p ∈ led)
    have hD0 := hm _ (List.Mem.head _)
    have htr : Trees led _ _ := trs.mono fun p hp => hm p (.tail _ (.tail _ (.tail _ (.tail _ hp))))
    clear hm trs
    obtain ⟨o2, hcell, ho2⟩ : ∃ o2 : Obj, (L' + 1, o2) ∈ led ∧ o2.data = .cell (some (.ref nd)) := ⟨_, by rw [hled]; repeat (first | exact List.Mem.head _ | apply List.Mem.tail), by assumption⟩
    refine SrcTup.intro (Rm.deeper (d := 11) hR _).hh F9 N9 ⟨_, .head _, rfl, _, rfl⟩ (by rw [PySem.sizeLine_eq]; omega) ?_
    intro g8
    refine comp_inv (fun i ys nw => ∃ nw1, nw = nw1 ++ led ∧ Trees nw ys ((ds.take i).map fun d => (fullLeaf d).told) ∧ ys.length = i) ⟨[], hled.symm, .nil, rfl⟩ ?turn ?fin
    case turn =>
      clear F9 N9 hled
      intro i8 v8 ys8 nw8 I8 oI8 C8 oC8 D8 m8 h8 tk8 E8 hi8 hP8 hinv hC8 hx8 F8 N8 off8 ne8
      obtain ⟨nw1, e8, hts, hyi⟩ := hinv
      have hl8 : ∀ p ∈ led, p ∈ nw8 := fun p hp => by rw [e8]; exact List.mem_append_right _ hp
      have hn8 : ∀ p ∈ nw8, h8.get? p.1 = some p.2 := fun p hp => (N8 p (.tail _ (.tail _ (.tail _ hp)))).1
      obtain ⟨dd, hdd, tr8⟩ := trees_at (fun p hp => hn8 p (hl8 p hp)) htr hP8
      rw [List.getElem?_map] at hdd
      obtain ⟨d8, hd8, rfl⟩ := Option.map_eq_some_iff.mp hdd
      have tr9 := tr8.mono hl8
      obtain ⟨a8, o8, n8, t1, t2, rfl, hm8, hc8, hdat⟩ := tree_leaf hn8 tr9
      have c8 : (L' + 1, o2) ∈ nw8 := hl8 _ hcell
      have off9 := off8
      have hS8 := hl8 _ hD0
      cases d8 with
      | nm t8 =>
        dsimp only at hdat
        k_steps
        rename Fr _ _ _ _ => Fz
        rename News _ _ _ _ => Nz
        rename ((I8 : Nat) < _ ∧ (C8 : Nat) < _ ∧ (D8 : Nat) < _ ∧ _) => l1
        obtain ⟨i1, i2, i3, _⟩ := l1
        try k_unfold
        try dsimp only
        refine compEnd_one Fz Nz i1 i2 i3 off9 ⟨_, .tail _ hS8, rfl, _, rfl⟩ ⟨_ :: nw1, by rw [e8]; rfl, ?_, by rw [List.length_append, hyi]; rfl⟩
        rw [List.take_add_one, hd8, List.map_append]
        exact Trees.snoc (hts.mono fun p hp => .tail _ hp) (Tree.tuple (.head _) rfl rfl (.cons (.str _ _) (.cons (.str _ _) .nil)))
      | int i8 =>
        dsimp only at hdat
        k_steps
        rename Fr _ _ _ _ => Fz
        rename News _ _ _ _ => Nz
        exact LCg.CompEnd.intro Fz Nz nw8 (fun _ h => h) off9 ⟨_, hS8, rfl, _, rfl⟩ ⟨nw1, e8, by
          rw [List.take_add_one, hd8, List.map_append]
          exact Trees.snoc hts tr9, by rw [List.length_append, hyi]; rfl⟩
    case fin =>
      clear F9 N9
      intro ys8 nw8 hinv
      obtain ⟨nw1, e8, hts, hyi⟩ := hinv
      subst e8
      subst hled
      intro D8 h8 tk8 F8 N8 off8
      have hyl : ys8.length ≤ 1000 := by omega
      have N7 := news_rot N8
      have hts := hts.mono fun p hp => List.mem_append.mpr ((List.mem_append.mp hp).symm)
      simp only [List.cons_append, List.nil_append] at N7 hts
      clear N8
      rw [hrl, List.take_length] at hts
      have e : (fullVal (.arr ds)).told = .tuple (.str (Str.ofString "array") :: ds.map fun d => (fullLeaf d).told) := by
        simp only [fullVal, Val.told, List.map_map]; rfl
      rw [e] at hQ
      k_steps
      rename Fr _ _ _ _ => F9; rename News _ _ _ _ => N9
      exact hQ _ _ _ _ (stays_led (news := []) hgsub (fun _ h => nomatch h) F9 N9 (fun _ h => nomatch h)) (made_of (newsX := []) hgsub N9 _ (fun _ h => h) (fun _ _ _ h => nomatch h)) (by assumption)
end
theorem wFK0 : True := by k_with_none; w_top off; (k_with "k_ne" => (refine neN ?_; (try dsimp only); first | with_reducible assumption | with_reducible exact Ne.symm (by assumption) | fail)); trivial
/-! full_keys, full_names, full_value -/
section
variable {prog : Program} {w : World} {mean : ExcName → Option Value} {mg mb : Str → Option Value} {A : Around} {s : Shared} {h₀ g : Heap} {L : Addr} {m : Str → Option Value} {nx all news : List (Addr × Obj)} {Q E : Value → Shared → Prop}
set_option maxRecDepth 100000 in
set_option maxHeartbeats 2000000 in
theorem full_keys_K (X : (Mine.hd.heap_1 w.params).In h₀) (T : TT mean mg mb h₀) (hR : Rm A 4) (hs : h₀.StaysIn s.heap)
  (hQ : ∀ d o kvs h' tk', s.heap.StaysIn h' → Made s.heap h' [(d, o)] → (d == sysModules) = false → o.IsDictOf (PySem.strKind prog w) kvs → StrTab kvs keysL → Q (.ref d) {s with heap := h', toks := tk'}) :
  wpAny (model prog w) A (call (.ref 303) []) Q E s := by
  refine wpAny_call ?_
  refine' enter (news := []) X T hs (fun _ h => nomatch h) hR.room (by k_is) (by k_is) (by exact BindsTo.of_eq rfl) (by exact locs rfl) (by exact rfl) (by exact rfl) (by exact rfl) (by decide) ?_
  intro g L' h₁ hst hgs hgsub Xg Tg F' N' hlt
  clear hlt
  dsimp only
  try k_unmd
  k_fold
  k_steps
  rename Fr _ _ _ _ => F9; rename News _ _ _ _ => N9
  rename Obj.IsDictOf (PySem.strKind _ _) _ (strPairs _) => hd
  exact hQ _ _ _ _ _ (stays_led hgsub (fun p hp => nomatch hp) F9 N9 (fun _ h => nomatch h)) (made_of hgsub N9 _ (List.forall_mem_cons.mpr ⟨.head _, fun _ h => nomatch h⟩) (fun _ _ _ h => nomatch h)) (by assumption) hd (by unfold keysL; exact .cons (.cons (.cons (.cons (.cons (.cons (.cons (.cons (.cons .nil)))))))))
set_option maxRecDepth 100000 in
set_option maxHeartbeats 2000000 in
theorem full_names_K (X : (Mine.hd.heap_1 w.params).In h₀) (T : TT mean mg mb h₀) (hR : Rm A 4) (hs : h₀.StaysIn s.heap)
  (hQ : ∀ d o kvs h' tk', s.heap.StaysIn h' → Made s.heap h' [(d, o)] → (d == sysModules) = false → o.IsDictOf (PySem.strKind prog w) kvs → StrTab kvs namesL → Q (.ref d) {s with heap := h', toks := tk'}) :
  wpAny (model prog w) A (call (.ref 310) []) Q E s := by
  refine wpAny_call ?_
  refine' enter (news := []) X T hs (fun _ h => nomatch h) hR.room (by k_is) (by k_is) (by exact BindsTo.of_eq rfl) (by exact locs rfl) (by exact rfl) (by exact rfl) (by exact rfl) (by decide) ?_
  intro g L' h₁ hst hgs hgsub Xg Tg F' N' hlt
  clear hlt
  dsimp only
  try k_unmd
  k_fold
  k_steps
  rename Fr _ _ _ _ => F9; rename News _ _ _ _ => N9
  rename Obj.IsDictOf (PySem.strKind _ _) _ (strPairs _) => hd
  exact hQ _ _ _ _ _ (stays_led hgsub (fun p hp => nomatch hp) F9 N9 (fun _ h => nomatch h)) (made_of hgsub N9 _ (List.forall_mem_cons.mpr ⟨.head _, fun _ h => nomatch h⟩) (fun _ _ _ h => nomatch h)) (by assumption) hd (by unfold namesL; exact .cons (.cons (.cons (.cons (.cons (.cons (.cons (.cons (.cons (.cons (.cons .nil)))))))))))
theorem full_keys_F (X : (Mine.hd.heap_1 w.params).In g) (T : TT mean mg mb g) (hR : Rm A 4) (F : Fr g L s.heap m) (N : News g L s.heap all)
  (hQ : ∀ d o kvs h' tk', Fr g L h' m → News g L h' ((d, o) :: all) → (∀ p ∈ all, @Ne Nat d p.1) → (d == sysModules) = false → o.IsDictOf (PySem.strKind prog w) kvs → StrTab kvs keysL → Q (.ref d) {s with heap := h', toks := tk'}) :
  wpAny (model prog w) A (call (.ref 303) []) Q E s :=
  full_keys_K X T hR F.keep fun d o kvs h' tk' hst md lo hd ht => hQ d o kvs h' tk' (fr_stays F hst) (made_news F hst N md) (fun p hp => made_off N md p hp _ (.head _)) lo hd ht
theorem full_names_F (X : (Mine.hd.heap_1 w.params).In g) (T : TT mean mg mb g) (hR : Rm A 4) (F : Fr g L s.heap m) (N : News g L s.heap all)
  (hQ : ∀ d o kvs h' tk', Fr g L h' m → News g L h' ((d, o) :: all) → (∀ p ∈ all, @Ne Nat d p.1) → (d == sysModules) = false → o.IsDictOf (PySem.strKind prog w) kvs → StrTab kvs namesL → Q (.ref d) {s with heap := h', toks := tk'}) :
  wpAny (model prog w) A (call (.ref 310) []) Q E s :=
  full_names_K X T hR F.keep fun d o kvs h' tk' hst md lo hd ht => hQ d o kvs h' tk' (fr_stays F hst) (made_news F hst N md) (fun p hp => made_off N md p hp _ (.head _)) lo hd ht
theorem compEnd_twoJ {I C D x dx : Addr} {oI oC oD a b : Obj} {j : Addr × Obj} {s₁ : Shared} {S : List (Addr × Obj) → Prop} {rest : Value → List (Addr × Obj) → Prop} {y : Value} {h' : Heap} {tk : Nat} {nw : List (Addr × Obj)}
    (F : Fr g L h' m) (N : News g L h' ((x, a) :: (dx, b) :: j :: (I, oI) :: (C, oC) :: (D, oD) :: nw)) (l1 : ∀ p ∈ j :: (I, oI) :: (C, oC) :: (D, oD) :: nw, p.1 < dx) (l2 : dx < x) (off : LCg.Off3 I C D nw)
    (hS : S ((x, a) :: (dx, b) :: nw)) (r : rest y ((x, a) :: (dx, b) :: nw)) : LCg.CompEnd g L m s₁ I oI C oC D oD S rest y { s₁ with heap := h', toks := tk } :=
  compEnd_two F (fun p hp => N p (by
    rcases List.mem_cons.mp hp with rfl | hp
    · exact .head _
    rcases List.mem_cons.mp hp with rfl | hp
    · exact .tail _ (.head _)
    · exact .tail _ (.tail _ (.tail _ hp)))) (fun p hp => l1 p (.tail _ hp)) l2 off hS r
theorem news_get {a : Addr} {o : Obj} (N : News g L s.heap news) (hp : (a, o) ∈ news) : s.heap.get? a = some o := (N _ hp).1
theorem wFK1 : True := by (k_with "call ref" => (k_here; (with_reducible show wpAny _ _ (call (Value.ref 310) _) _ _ _); (refine' full_names_F (by k_asm) (by k_asm) (by first | assumption | exact Rm.mono (Rm.deeper (by assumption) _) (by decide)) (by k_asm) (by k_asm) ?_); intro d'₉ o'₉ kvs'₉ h'₉ tk'₉ F'₉ N'₉ l1₉ lo'₉ hd'₉ ht'₉)); trivial
theorem wFK2 : True := by (k_with "call ref" => (k_here; (with_reducible show wpAny _ _ (call (Value.ref 171) [Value.str _ _]) _ _ _); (refine' name_K (by k_asm) (by k_asm) (by first | assumption | exact Rm.mono (Rm.deeper (by assumption) _) (by decide)) (by k_asm) (by k_asm) ?_); intro x'₉ d'₉ t1'₉ t2'₉ n'₉ h'₉ tk'₉ F'₉ N'₉ l1₉ l2₉)); trivial
theorem wFK3 : True := by (k_with "k_inst" => (refine' inst_g (by k_asm) (by assumption) (by assumption) (by assumption))); trivial
theorem wFK4 : True := by (k_with "k_mem" => (assumption)); trivial
theorem wFK5 : True := by (k_with "call builtin:isinstance" => (k_here; (with_reducible show wpAny _ _ (call _ [Value.ref _, _]) _ _ _); (refine' kia_one kitx_list ?X ⟨_, fr_get (by k_asm) (by assumption), rfl⟩ ?ee ?nb ?_; (case X => k_in); (case ee => kit_is); (case nb => kit_nb)); intro tk₉)); trivial
theorem wFK6 : True := by (k_with "getMethod ref" => (k_here; (refine get_meth (news_get (by k_asm) (by k_mem)) (by assumption) ?_))); trivial
theorem wFK7 : True := by (k_with "call builtin:dict.get" => (k_here; (refine get_tab (news_get (by k_asm) (by k_mem)) (by assumption) (by assumption) (by assumption) ?_); intro t'₉ tk'₉)); trivial
theorem wFK8 : True := by (k_with "eval ListComp" => (k_here; k_dflt (refine LCg.ListComp_U (by k_asm) (by with_unfolding_all rfl) (by decide) (by rfl) (by decide) (by rfl) ?_))); trivial
set_option maxRecDepth 100000 in
set_option maxHeartbeats 2000000 in
theorem full_value_K {v : Value} {d : Val} (X : (Mine.hd.heap_1 w.params).In h₀) (T : TT mean mg mb h₀) (hR : Rm A 8) (hs : h₀.StaysIn s.heap) (hnx : Own h₀ s.heap nx) (hv : ValIn w nx v d)
  (hQ : ∀ r nx' h' tk', s.heap.StaysIn h' → Made s.heap h' nx' → ValIn w nx' r (fullVal d) → Q r {s with heap := h', toks := tk'}) :
  wpAny (model prog w) A (call (.ref 315) [v]) Q E s := by
  refine wpAny_call ?_
  refine' enter (news := []) X T hs (fun _ h => nomatch h) hR.room (by k_is) (by k_is) (by exact BindsTo.of_eq rfl) (by exact locs rfl) (by exact rfl) (by exact rfl) (by exact rfl) (by decide) ?_
  intro g L' h₁ hst hgs hgsub Xg Tg F' N' hlt
  have G : Own h₀ g nx := fun p hp => ⟨hgsub _ _ (hnx p hp).1 (by simp), (hnx p hp).2⟩
  have GG : ∀ p ∈ nx, g.get? p.1 = some p.2 := fun p hp => (G p hp).1
  clear hlt
  dsimp only
  try k_unmd
  k_fold
  cases hv with
  | one hv =>
    cases hv with
    | nm ha hd =>
      k_steps
      rename Fr _ _ _ _ => F9; rename News _ _ _ _ => N9
      exact hQ _ _ _ _ (stays_led hgsub (fun p hp => nomatch hp) F9 N9 (fun _ h => nomatch h)) (made_of hgsub N9 _ (fun _ h => h) (fun _ _ _ h => nomatch h)) (.one (.nm (.head _) (.tail _ (.head _))))
    | int i t =>
      k_steps
      rename Fr _ _ _ _ => F9; rename News _ _ _ _ => N9
      exact hQ _ [] _ _ (stays_led hgsub (fun p hp => nomatch hp) F9 N9 (fun _ h => nomatch h)) (fun _ h => nomatch h) (.one (.int _ _))
  | @arr l vs k ds hl hvs h8 =>
    have hlen := hvs.len
    have gl := GG _ hl
    k_steps
    rename Fr _ _ _ _ => F9; rename News _ _ _ _ => N9
    refine LCg.CompSrc.base (its := List.toArray vs) (Rm.deeper (d := 7) hR _).hh F9 N9 (list_gg GG hl) (by rw [PySem.sizeLine_eq, List.size_toArray]; omega) ?_
    intro g8
    refine comp_inv (fun i ys nw => Leaves w nw ys ((ds.take i).map fullLeaf) ∧ ys.length = i) ⟨.nil, rfl⟩ ?turn ?fin
    case turn =>
      clear F9 N9
      intro i8 v8 ys8 nw8 I8 oI8 C8 oC8 D8 m8 h8 tk8 E8 hi8 hP8 hinv hC8 hx8 F8 N8 off8 ne8
      obtain ⟨hts, hyi⟩ := hinv
      have hP9 : vs[i8]? = some v8 := by simpa using hP8
      obtain ⟨d9, hd9, hin⟩ := hvs.at hP9
      have off9 := off8
      cases hin with
      | nm ha hd =>
        k_steps
        rename Fr _ _ _ _ => Fz
        rename News _ _ _ _ => Nz
        rename (∀ (p : Addr × Obj), p ∈ _ → p.fst < _) => l1
        rename ((_ : Nat) < _) => l2
        try k_unfold
        try dsimp only
        refine compEnd_twoJ Fz Nz l1 l2 off9 (.inl (list_gg GG hl)) ⟨?_, by rw [List.length_append, hyi]; rfl⟩
        rw [List.take_add_one, hd9, List.map_append]
        exact Leaves.snoc (hts.mono fun p hp => .tail _ (.tail _ hp)) (.nm (.head _) (.tail _ (.head _)))
      | int i t =>
        k_steps
        rename Fr _ _ _ _ => Fz
        rename News _ _ _ _ => Nz
        try k_unfold
        try dsimp only
        exact LCg.CompEnd.intro Fz Nz nw8 (fun _ h => h) off9 (.inl (list_gg GG hl)) ⟨by
          rw [List.take_add_one, hd9, List.map_append]
          exact Leaves.snoc hts (.int _ _), by rw [List.length_append, hyi]; rfl⟩
    case fin =>
      clear F9 N9
      intro ys8 nw8 hinv
      obtain ⟨hts, hyi⟩ := hinv
      intro D8 h8 tk8 F8 N8 off8
      rw [List.size_toArray, hlen, List.take_length] at hts
      k_steps
      exact hQ _ _ _ _ (stays_led hgsub (fun p hp => nomatch hp) F8 N8 (fun _ h => nomatch h)) (made_of hgsub N8 _ (fun _ h => h) (fun _ _ _ h => nomatch h)) (.arr (.head _) (hts.mono fun _ h => .tail _ h) (by rw [List.length_map]; omega))
end
theorem wFH0 : True := by k_with_none; w_top off; (k_with "k_ne" => (refine neN ?_; (try dsimp only); first | with_reducible assumption | with_reducible exact Ne.symm (by assumption) | fail)); trivial
/-! full_head -/
def fullK (k : Str) : Str := (keysL.lookup k).getD k
def isF (n : Str) : Bool := [Str.ofString "ColorSpace", Str.ofString "Filter"].any (· == n)
def heardAt (p : Str × Val) : Str × Val := (fullK p.1, if isF (fullK p.1) = true then fullVal p.2 else p.2)
theorem valueAt_nodup : ∀ {kvs : List (Str × Value)}, (kvs.map (·.1)).Nodup → ∀ {i : Nat} {k : Str} {v : Value}, kvs[i]? = some (k, v) → valueAt kvs k = some v
  | [], _, _, _, _, e => by simp at e
  | (k', v') :: r, hn, i, k, v, e => by
    simp only [List.map_cons, List.nodup_cons] at hn
    cases i with
    | zero => simp only [List.getElem?_cons_zero, Option.some.injEq, Prod.mk.injEq] at e; obtain ⟨rfl, rfl⟩ := e; simp [valueAt]
    | succ i =>
      simp only [List.getElem?_cons_succ] at e
      have ih := valueAt_nodup hn.2 e
      have hne : ¬ k' = k := by
        rintro rfl
        exact hn.1 (List.mem_map.mpr ⟨(k', v), List.mem_of_getElem? e, rfl⟩)
      simpa [valueAt, hne] using ih
theorem stored_new {kvs : List (Str × Value)} {k : Str} {v : Value} (h : k ∉ kvs.map (·.1)) : stored kvs k v = kvs ++ [(k, v)] := by
  unfold stored
  rw [if_neg]
  intro ha
  obtain ⟨p, hp, hk⟩ := List.any_eq_true.mp ha
  exact h (List.mem_map.mpr ⟨p, hp, by simpa using hk⟩)
theorem heard_fresh {ks : List (Str × Val)} (hn : (ks.map fun p => fullK p.1).Nodup) {i : Nat} {p : Str × Val} (hp : ks[i]? = some p) : fullK p.1 ∉ ((ks.take i).map heardAt).map (·.1) := by
  intro hm
  rw [List.map_map] at hm
  obtain ⟨q, hq, e⟩ := List.mem_map.mp hm
  have e' : fullK q.1 = fullK p.1 := e
  have es : ks = ks.take i ++ ks.drop i := (List.take_append_drop i ks).symm
  rw [es, List.map_append, List.nodup_append] at hn
  have hi : i < ks.length := (List.getElem?_eq_some_iff.mp hp).1
  refine hn.2.2 (fullK q.1) (List.mem_map.mpr ⟨q, hq, rfl⟩) (fullK p.1) (List.mem_map.mpr ⟨p, ?_, rfl⟩) e'
  rw [List.drop_eq_getElem_cons hi]
  rw [List.getElem?_eq_getElem hi] at hp
  cases hp
  exact .head _
structure FJ (prog : Program) (w : World) (nx : List (Addr × Obj)) (ks : List (Str × Val)) (fd hd : Addr) (i : Nat) (m : Str → Option Value) (nw : List (Addr × Obj)) : Prop where
  out : ∃ fo kvs' nx', nw = (fd, fo) :: nx' ∧ fo.IsDictOf (PySem.strKind prog w) kvs' ∧ HeadIn w (nx' ++ nx) kvs' ((ks.take i).map heardAt) ∧ (∀ p ∈ nx', p.1 ≠ fd)
  found : m (Str.ofString "found") = some (.ref fd)
  head : m (Str.ofString "head") = some (.ref hd)
theorem all_app {α : Type} {P : α → Prop} {a b : List α} (ha : ∀ p ∈ a, P p) (hb : ∀ p ∈ b, P p) : ∀ p ∈ a ++ b, P p := fun p hp => (List.mem_append.mp hp).elim (ha p) (hb p)
theorem apart_at {a b : List (Addr × Obj)} {x : Addr} {o : Obj} (h : Apart a b) (hm : (x, o) ∈ b) : ∀ p ∈ a, p.1 ≠ x := fun p hp => h (x, o) hm p hp
section
variable {prog : Program} {w : World} {mean : ExcName → Option Value} {mg mb : Str → Option Value} {A : Around} {s : Shared} {h₀ g : Heap} {L : Addr} {m : Str → Option Value} {nx all news : List (Addr × Obj)} {Q E : Value → Shared → Prop}
theorem fh_loop {env : Env} {body : List Stmt} {Q : Flow → Shared → Prop} {E : Value → Shared → Prop} {hd fd : Addr} {o fo : Obj} {kvs : List (Str × Value)} {ks : List (Str × Val)}
    (hh : A.handled = none) (Gd : g.get? hd = some o) (ho : o.IsDictOf (PySem.strKind prog w) kvs) (lo : (hd == sysModules) = false) (hk : HeadIn w nx kvs ks)
    (F : Fr g env.locals s.heap m) (N : News g env.locals s.heap [(fd, fo)]) (hf : fo.IsDictOf (PySem.strKind prog w) []) (m1 : m (Str.ofString "found") = some (.ref fd)) (m2 : m (Str.ofString "head") = some (.ref hd))
    (turn : ∀ i k v t d (m₁ : Str → Option Value) fd fo kvs' nx' h tk I oI, ks[i]? = some (k, d) → valueAt kvs k = some v → ValIn w nx v d → fo.IsDictOf (PySem.strKind prog w) kvs' → HeadIn w (nx' ++ nx) kvs' ((ks.take i).map heardAt) → i < ks.length →
      (∀ p ∈ nx', p.1 ≠ fd) → (∀ p ∈ nx', p.1 ≠ I) → @Ne Nat fd I →
      Fr g env.locals h (fun y => if y = Str.ofString "key" then some (.str k t) else if y = Str.ofString "found" then some (.ref fd) else if y = Str.ofString "head" then some (.ref hd) else m₁ y) →
      News g env.locals h ((I, oI) :: (fd, fo) :: nx') →
      wpAny (model prog w) A (execs body env) (LPost g env.locals (FJ prog w nx ks fd hd (i + 1)) I oI { s with heap := h, toks := tk } Q) E { s with heap := h, toks := tk })
    (done : ∀ m₁ fo kvs' nx' h tk, Fr g env.locals h m₁ → m₁ (Str.ofString "found") = some (.ref fd) → News g env.locals h ((fd, fo) :: nx') → fo.IsDictOf (PySem.strKind prog w) kvs' → HeadIn w (nx' ++ nx) kvs' (ks.map heardAt) → (∀ p ∈ nx', p.1 ≠ fd) → Q .next { s with heap := h, toks := tk }) :
    wpAny (model prog w) A (pyIter (.ref hd)) (fun it s₂ => LoopAtV prog w A g env (Str.ofString "key") body Q E it s₂) E s := by
  have hlen := hk.len
  refine for_dict (FJ prog w nx ks fd hd) hh lo (Heap.dictOf_iff.mpr ⟨o, Gd, ho⟩) F N ⟨⟨fo, [], [], rfl, hf, .nil, fun _ h => (nomatch h)⟩, m1, m2⟩ ?_ ?_
  · rintro i k v t m₁ nw h tk I oI hi hv ⟨⟨fo', kvs', nx', rfl, hf', hH, hap⟩, e1, e2⟩ off _ F₁ N₁
    obtain ⟨d, hki, hvi⟩ := hk.at hv
    simp only [List.mem_cons, forall_eq_or_imp] at off
    refine turn i k v t d m₁ fd fo' kvs' nx' h tk I oI hki (valueAt_nodup (merged_nodup ho) hv) hvi hf' hH (hlen ▸ hi) hap off.2 off.1 ?_ N₁
    have em : m₁ = fun y => if y = Str.ofString "found" then some (.ref fd) else if y = Str.ofString "head" then some (.ref hd) else m₁ y := by
      funext y
      repeat' split
      all_goals first | rfl | (subst_vars; assumption)
    have F₂ := F₁
    rw [em] at F₂
    exact F₂
  · rintro m₁ nw h tk ⟨⟨fo', kvs', nx', rfl, hf', hH, hap⟩, e1, e2⟩ F₁ N₁
    refine done m₁ fo' kvs' nx' h tk F₁ e1 N₁ hf' ?_ hap
    rw [hlen, List.take_length] at hH
    exact hH
theorem kda_set_tl {d : Addr} {o : Obj} {x : Addr × Obj} {u : Obj → List (Addr × Obj)} {kvs : List (Str × Value)} {k : Str} {t : Tok} {v : Value} {Q : Unit → Shared → Prop} (F : Fr g L s.heap m) (N : News g L s.heap (x :: news)) (U : UpdF d o news u) (hd : o.IsDictOf (PySem.strKind prog w) kvs) (hsz : kvs.length ≤ 16777216)
    (h : ∀ h' o', Fr g L h' m → News g L h' (u o') → o'.IsDictOf (PySem.strKind prog w) (stored kvs k v) → Q () { s with heap := h', toks := s.toks + 1 }) : wpAny (model prog w) A (setItem (.ref d) (.str k t) v) Q E s :=
  kda_set F (fun p hp => N p (.tail _ hp)) U hd (strKind_is _ _ _ _) (by rw [PySem.sizeLine_eq]; exact hsz) h
theorem fh_end {h' : Heap} {m' : Str → Option Value} {x I fd hd : Addr} {ox oI fo : Obj} {nx' nx1 : List (Addr × Obj)} {ks : List (Str × Val)} {kvs' : List (Str × Value)} {i tk : Nat} {k : Str} {d : Val} {v' : Value} {s₁ : Shared} {Q : Flow → Shared → Prop}
    (F : Fr g L h' m') (N : News g L h' ((x, ox) :: (I, oI) :: (fd, fo) :: nx1)) (hf : fo.IsDictOf (PySem.strKind prog w) (stored kvs' (fullK k) v')) (hH : HeadIn w (nx' ++ nx) kvs' ((ks.take i).map heardAt)) (hki : ks[i]? = some (k, d)) (hn : (ks.map fun p => fullK p.1).Nodup)
    (hs : ∀ p ∈ nx', p ∈ nx1) (hv : ValIn w (nx1 ++ nx) v' (heardAt (k, d)).2) (a1 : ∀ p ∈ nx1, p.1 ≠ fd) (a2 : ∀ p ∈ nx1, p.1 ≠ I) (n1 : @Ne Nat fd I) (m1 : m' (Str.ofString "found") = some (.ref fd)) (m2 : m' (Str.ofString "head") = some (.ref hd)) :
    LPost g L (FJ prog w nx ks fd hd (i + 1)) I oI s₁ Q .next { s₁ with heap := h', toks := tk } := by
  have hH' := hH.mono (nx' := nx1 ++ nx) fun p hp => List.mem_append.mpr ((List.mem_append.mp hp).imp_left (hs p))
  have fr := heard_fresh hn hki
  rw [← hH.keys] at fr
  rw [stored_new fr] at hf
  refine LPost.next F N ((fd, fo) :: nx1) (fun p hp => .tail _ hp) (List.forall_mem_cons.mpr ⟨n1, a2⟩) ⟨⟨fo, _, nx1, rfl, hf, ?_, a1⟩, m1, m2⟩
  rw [List.take_add_one, hki, List.map_append]
  exact hH'.snoc hv
theorem full_value_G {v : Value} {d : Val} (G : Own h₀ g nx) (X : (Mine.hd.heap_1 w.params).In h₀) (T : TT mean mg mb h₀) (hst : h₀.StaysIn g) (hR : Rm A 8) (F : Fr g L s.heap m) (N : News g L s.heap all) (hv : ValIn w nx v d)
  (hQ : ∀ r nx' h' tk', Fr g L h' m → News g L h' (all ++ nx') → Apart nx' all → ValIn w nx' r (fullVal d) → Q r {s with heap := h', toks := tk'}) :
  wpAny (model prog w) A (call (.ref 315) [v]) Q E s :=
  full_value_K X T hR (fun b o e => F.keep _ _ (hst b o e)) (own_keep G F.keep) hv fun r nx' h' tk' hst' md tr => hQ r nx' h' tk' (fr_stays F hst') (news_swap (made_news F hst' N md)) (made_off N md) tr
theorem wFH1 : True := by (k_with "call ref" => (k_here; (with_reducible show wpAny _ _ (call (Value.ref 303) _) _ _ _); (refine' full_keys_F (by k_asm) (by k_asm) (by first | assumption | exact Rm.mono (Rm.deeper (by assumption) _) (by decide)) (by k_asm) (by k_asm) ?_); intro d'₉ o'₉ kvs'₉ h'₉ tk'₉ F'₉ N'₉ l1₉ lo'₉ hd'₉ ht'₉; (simp only [List.forall_mem_cons] at l1₉); obtain ⟨l1a, l1b, l1c⟩ := l1₉)); trivial
theorem wFH2 : True := by (k_with "call ref" => (k_here; (with_reducible show wpAny _ _ (call (Value.ref 315) _) _ _ _); (refine' full_value_G (by assumption) (by assumption) (by assumption) (by assumption) (by first | assumption | exact Rm.mono (Rm.deeper (by assumption) _) (by decide)) (by k_asm) (by k_asm) (by assumption) ?_); intro r'₉ nx'₉ h'₉ tk'₉ F'₉ N'₉ l1₉ tr₉; (try simp only [List.cons_append, List.nil_append] at N'₉))); trivial
theorem wFH3 : True := by (k_with "k_mem" => (assumption)); trivial
theorem wFH4 : True := by (k_with "k_all" => (first | assumption | exact all_app (by assumption) (apart_at (by assumption) (by k_mem)))); trivial
theorem wFH5 : True := by (k_with "k_ne" => (first | assumption | (refine Ne.symm ?_; assumption))); trivial
theorem wFH6 : True := by (k_with "subscriptTail" => (k_here; (with_reducible show wpAny _ _ (subscriptTail _ _ (Value.ref _) (Value.str _ _)) _ _ _); (with_unfolding_all refine' item_dict (fr_get (by k_asm) (by assumption)) (by assumption) (by assumption) ?_ ?_ ?_); rotate_left; (with_unfolding_all rfl); (intro _; with_unfolding_all rfl))); trivial
theorem wFH7 : True := by (k_with "getMethod ref" => (k_here; (refine get_meth (news_get (by k_asm) (by k_mem)) (by assumption) ?_))); trivial
theorem wFH8 : True := by (k_with "call builtin:dict.get" => (k_here; (refine get_tab (news_get (by k_asm) (by k_mem)) (by assumption) (by assumption) (by assumption) ?_); intro t'₉ tk'₉)); trivial
theorem wFH9 : True := by (k_with "exec For" => (k_here; (with_reducible show wpAny _ _ (exec (Stmt.For (Expr.Name _ _) _ _ [] _) _) _ _ _); (rename Fr _ _ _ _ => F'₉); with_unfolding_all refine For_my F'₉ (by rfl) (by rfl) ?_)); trivial
theorem wFH10 : True := by (k_with "setItem ref str" => (k_here; k_dflt (refine' kda_set_tl ?F ?N ?U ?d ?z ?_; (case F => k_asm); (case N => k_asm); (case U => k_updF); (case d => assumption); (case z => omega)); intro h'₉ o'₉ F'₉ N'₉ hd'₉; (try dsimp only at N'₉))); trivial
set_option maxRecDepth 100000 in
set_option maxHeartbeats 2000000 in
theorem full_head_K {hd : Addr} {o : Obj} {kvs : List (Str × Value)} {ks : List (Str × Val)} (X : (Mine.hd.heap_1 w.params).In h₀) (T : TT mean mg mb h₀) (hR : Rm A 10) (hs : h₀.StaysIn s.heap) (hnx : Own h₀ s.heap nx) (hm : (hd, o) ∈ nx) (ho : o.IsDictOf (PySem.strKind prog w) kvs) (lo : (hd == sysModules) = false) (hk : HeadIn w nx kvs ks) (hn : (ks.map fun p => fullK p.1).Nodup) (h60 : ks.length < 60)
  (hQ : ∀ fd fo kvs' nx' h' tk', s.heap.StaysIn h' → Made s.heap h' nx' → (fd, fo) ∈ nx' → (fd == sysModules) = false → fo.IsDictOf (PySem.strKind prog w) kvs' → HeadIn w (nx' ++ nx) kvs' (ks.map heardAt) → Q (.ref fd) {s with heap := h', toks := tk'}) :
  wpAny (model prog w) A (call (.ref 322) [.ref hd]) Q E s := by
  refine wpAny_call ?_
  refine' enter (news := []) X T hs (fun _ h => nomatch h) hR.room (by k_is) (by k_is) (by exact BindsTo.of_eq rfl) (by exact locs rfl) (by exact rfl) (by exact rfl) (by exact rfl) (by decide) ?_
  intro g L' h₁ hst hgs hgsub Xg Tg F' N' hlt
  have G : Own h₀ g nx := fun p hp => ⟨hgsub _ _ (hnx p hp).1 (by simp), (hnx p hp).2⟩
  have Gd : g.get? hd = some o := (G _ hm).1
  clear hlt
  dsimp only
  try k_unmd
  k_fold
  k_steps
  rename Fr _ _ _ _ => F1
  rename News _ _ _ _ => N1
  rename Obj.IsDictOf (PySem.strKind _ _) _ [] => hd0
  refine fh_loop (Rm.deeper (d := 9) hR _).hh Gd ho lo hk F1 N1 hd0 (by rfl) (by rfl) ?turn ?done
  case turn =>
    clear F1 N1 hd0
    intro i k v t d m₁ fd fo kvs' nx' h tk I oI hki hva hvi hf hH hi a1 a2 n1 F N
    have hl := hH.len
    have hl2 : kvs'.length ≤ 60 := by rw [hl, List.length_map, List.length_take]; omega
    have hl3 : kvs'.length ≤ 16777216 := by omega
    k_steps
    · rename Fr _ _ _ _ => Fz
      rename News _ _ _ _ => Nz
      rename Obj.IsDictOf (PySem.strKind _ _) _ (stored _ _ _) => dz
      rename Apart _ _ => l1
      rename (List.any _ _ = true) => hw
      rename ValIn _ _ _ (fullVal d) => tr
      have hw' : isF (fullK k) = true := hw
      refine fh_end Fz Nz dz hH hki hn (fun p hp => List.mem_append_left _ hp) ?_ (all_app a1 (apart_at l1 (.tail _ (.tail _ (.tail _ (.head _)))))) (all_app a2 (apart_at l1 (.tail _ (.tail _ (.head _))))) n1 rfl rfl
      simp only [heardAt, hw', if_true]
      exact tr.mono fun p hp => List.mem_append_left _ (List.mem_append_right _ hp)
    · rename Fr _ _ _ _ => Fz
      rename News _ _ _ _ => Nz
      rename Obj.IsDictOf (PySem.strKind _ _) _ (stored _ _ _) => dz
      rename (List.any _ _ = false) => hw
      have hw' : isF (fullK k) = false := hw
      refine fh_end Fz Nz dz hH hki hn (fun p hp => hp) ?_ a1 a2 n1 rfl rfl
      simp only [heardAt, hw', Bool.false_eq_true, if_false]
      exact hvi.mono fun p hp => List.mem_append_right _ hp
  case done =>
    clear F1 N1 hd0
    intro m₁ fo kvs' nx' h tk F m1 N hf hH hap
    rw [map_again m1] at F
    k_steps
    rename Fr _ _ _ _ => F9
    rename News _ _ _ _ => N9
    exact hQ _ fo kvs' ((_, fo) :: nx') _ _ (stays_led (news := []) hgsub (fun _ h => nomatch h) F9 N9 (fun _ h => nomatch h)) (made_of (newsX := []) hgsub N9 _ (fun _ h => h) (fun _ _ _ h => nomatch h)) (.head _) (by assumption) hf (hH.mono fun _ h => .tail _ h)
end
theorem wHB0 : True := by k_with_none; w_top off; (k_with "k_ne" => (refine neN ?_; (try dsimp only); first | with_reducible assumption | with_reducible exact Ne.symm (by assumption) | fail)); trivial
/-! pieces of _law_head_right -/
inductive DueIn (nx : List (Addr × Obj)) : List (Str × Value) → List (Str × PyData) → Prop
  | nil : DueIn nx [] []
  | cons {k v d kvs l} : Tree nx v d → DueIn nx kvs l → DueIn nx ((k, v) :: kvs) ((k, d) :: l)
theorem DueIn.mono {nx nx' : List (Addr × Obj)} (hs : ∀ p ∈ nx, p ∈ nx') {kvs l} (h : DueIn nx kvs l) : DueIn nx' kvs l := by
  induction h with
  | nil => exact .nil
  | cons a _ ih => exact .cons (a.mono hs) ih
theorem DueIn.snoc {nx : List (Addr × Obj)} {kvs l k v d} (h : DueIn nx kvs l) (a : Tree nx v d) : DueIn nx (kvs ++ [(k, v)]) (l ++ [(k, d)]) := by
  induction h with
  | nil => exact .cons a .nil
  | cons b _ ih => exact .cons b ih
theorem DueIn.keys {nx : List (Addr × Obj)} {kvs l} (h : DueIn nx kvs l) : kvs.map (·.1) = l.map (·.1) := by
  induction h with
  | nil => rfl
  | cons _ _ ih => simp only [List.map_cons, ih]
theorem DueIn.len {nx : List (Addr × Obj)} {kvs l} (h : DueIn nx kvs l) : kvs.length = l.length := by
  induction h with
  | nil => rfl
  | cons _ _ ih => simp [ih]
def dueAt (p : Str × Val) : Str × PyData := ((heardAt p).1, (heardAt p).2.told)
def menuK : List Str := [Str.ofString "BPC", Str.ofString "CS", Str.ofString "D", Str.ofString "DP", Str.ofString "F", Str.ofString "H", Str.ofString "IM", Str.ofString "I", Str.ofString "W", Str.ofString "Name", Str.ofString "ColorSpace", Str.ofString "Filter", Str.ofString "K"]
theorem menuK_ok : ∀ t ∈ menuK, PyData.strOk t = true := by decide +kernel
theorem valueAt_put (kvs : List (Str × Value)) (k : Str) (v : Value) : valueAt (stored kvs k v) k = some v := by rw [valueAt_stored, if_pos rfl]
theorem dicts_two {prog : Program} {w : World} {nx : List (Addr × Obj)} {ds : List Value} (h : DictsIn prog w nx ds tabsL) :
    ∃ kd ko kk nd no nk, ds = [.ref kd, .ref nd] ∧ (kd, ko) ∈ nx ∧ (nd, no) ∈ nx ∧ (kd == sysModules) = false ∧ (nd == sysModules) = false ∧ ko.IsDictOf (PySem.strKind prog w) kk ∧ StrTab kk keysL ∧ no.IsDictOf (PySem.strKind prog w) nk ∧ StrTab nk namesL := by
  unfold tabsL at h
  cases h with
  | cons a b c d r =>
    cases r with
    | cons a' b' c' d' r' =>
      cases r' with
      | nil => exact ⟨_, _, _, _, _, _, rfl, a, a', b, b', c, d, c', d'⟩
section
variable {prog : Program} {w : World} {mean : ExcName → Option Value} {mg mb : Str → Option Value} {A : Around} {s : Shared} {h₀ g : Heap} {L pen : Addr} {po : Obj} {m : Str → Option Value} {u : Obj → List (Addr × Obj)} {nx all news : List (Addr × Obj)} {Q E : Value → Shared → Prop}
theorem own_news {h : Heap} (N : News g L h all) : Own g h all := fun p hp => ⟨(N p hp).1, (N p hp).2.2⟩
theorem law_pairs_F (X : (Mine.hd.heap_1 w.params).In g) (T : TT mean mg mb g) (hR : Rm A 8) (F : Fr g L s.heap m) (N : News g L s.heap all)
  (hQ : ∀ f c kd ko kk nd no nk h' tk', Fr g L h' m → News g L h' ((f, listOf #[.ref kd, .ref nd] c) :: (kd, ko) :: (nd, no) :: all) → (∀ p ∈ all, @Ne Nat f p.1) → (∀ p ∈ all, @Ne Nat kd p.1) → (∀ p ∈ all, @Ne Nat nd p.1) → (kd == sysModules) = false → (nd == sysModules) = false →
    ko.IsDictOf (PySem.strKind prog w) kk → StrTab kk keysL → no.IsDictOf (PySem.strKind prog w) nk → StrTab nk namesL → Q (.ref f) {s with heap := h', toks := tk'}) :
  wpAny (model prog w) A (call (.ref 358) []) Q E s :=
  law_pairs_K X T hR F.keep fun f c ds nx' h' tk' hst md hm hd => by
    obtain ⟨kd, ko, kk, nd, no, nk, rfl, a1, a2, b1, b2, c1, c2, c3, c4⟩ := dicts_two hd
    have N' := made_news F hst N md
    have ap := made_off N md
    refine hQ f c kd ko kk nd no nk h' tk' (fr_stays F hst) (fun p hp => ?_) (fun p hp => ap p hp _ hm) (fun p hp => ap p hp _ a1) (fun p hp => ap p hp _ a2) b1 b2 c1 c2 c3 c4
    rcases List.mem_cons.mp hp with rfl | hp
    · exact N' _ (List.mem_append_left _ hm)
    rcases List.mem_cons.mp hp with rfl | hp
    · exact N' _ (List.mem_append_left _ a1)
    rcases List.mem_cons.mp hp with rfl | hp
    · exact N' _ (List.mem_append_left _ a2)
    · exact N' _ (List.mem_append_right _ hp)
theorem pick_S {l : Addr} {vs : List Value} {ss : List Str} {k : Nat} (X : (Mine.hd.heap_1 w.params).In g) (T : TT mean mg mb g) (hR : Rm A 4) (F : Fr g L s.heap m) (N : News g L s.heap all) (U : UpdF pen po all u) (hpo : IsPen po) (hl : (l, listOf vs.toArray k) ∈ all) (hlp : l ≠ pen) (hS : StrsAre vs ss) (hm : 0 < vs.length) (hm2 : vs.length < 100)
  (hQ : ∀ y t h' tk' po', y ∈ ss → IsPen po' → Fr g L h' m → News g L h' (u po') → Q (.str y t) {s with heap := h', toks := tk'}) :
  wpAny (model prog w) A (call (.ref 343) [.ref pen, .ref l]) Q E s :=
  pick_K X T hR F N U hpo hl hlp hm hm2 fun i v h' tk' po' hi hv hpo' F' N' => by
    obtain ⟨y, t, rfl, hy⟩ := strs_item hS hv
    exact hQ y t h' tk' po' (List.mem_of_getElem? hy) hpo' F' N'
theorem law_value_F (X : (Mine.hd.heap_1 w.params).In g) (T : TT mean mg mb g) (hR : Rm A 8) (F : Fr g L s.heap m) (N : News g L s.heap all) (U : UpdF pen po all u) (hpo : IsPen po)
  (hQ : ∀ v d nx h' tk' po', IsPen po' → Fr g L h' m → News g L h' (u po' ++ nx) → Apart nx (u po') → ValIn w nx v d → ValOk d → Q v {s with heap := h', toks := tk'}) :
  wpAny (model prog w) A (call (.ref 363) [.ref pen]) Q E s :=
  law_value_K X T hR F N U hpo fun v d nx h' tk' po' hp F' N' ap hv ok => hQ v d nx h' tk' po' hp F' (news_swap N') ap hv ok
theorem told_val_F {v : Value} {d : Val} (X : (Mine.hd.heap_1 w.params).In g) (T : TT mean mg mb g) (hR : Rm A 10) (F : Fr g L s.heap m) (N : News g L s.heap all) (hv : ValIn w nx v d) (hs : ∀ p ∈ nx, p ∈ all)
  (hQ : ∀ r nx' h' tk', Fr g L h' m → News g L h' (all ++ nx') → Apart nx' all → Tree nx' r d.told → Q r {s with heap := h', toks := tk'}) :
  wpAny (model prog w) A (call (.ref 265) [v]) Q E s :=
  told_val_K X T hR F.keep (own_news N) (hv.mono hs) fun r nx' h' tk' hst md tr => hQ r nx' h' tk' (fr_stays F hst) (news_swap (made_news F hst N md)) (made_off N md) tr
theorem law_full_F {v : Value} {d : Val} {nd : Addr} {o : Obj} {kvs : List (Str × Value)} (X : (Mine.hd.heap_1 w.params).In g) (T : TT mean mg mb g) (hR : Rm A 12) (F : Fr g L s.heap m) (N : News g L s.heap all) (hv : ValIn w nx v d) (hs : ∀ p ∈ nx, p ∈ all) (hd : (nd, o) ∈ all) (ho : o.IsDictOf (PySem.strKind prog w) kvs) (lo : (nd == sysModules) = false) (ht : StrTab kvs namesL)
  (hQ : ∀ r nx' h' tk', Fr g L h' m → News g L h' (all ++ nx') → Apart nx' all → Tree nx' r (fullVal d).told → Q r {s with heap := h', toks := tk'}) :
  wpAny (model prog w) A (call (.ref 368) [v, .ref nd]) Q E s :=
  law_full_K X T hR F.keep (own_news N) (hv.mono hs) hd ho lo ht fun r nx' h' tk' hst md tr => hQ r nx' h' tk' (fr_stays F hst) (news_swap (made_news F hst N md)) (made_off N md) tr
theorem told_head_F {d : Addr} {o : Obj} {kvs : List (Str × Value)} {ks : List (Str × Val)} (X : (Mine.hd.heap_1 w.params).In g) (T : TT mean mg mb g) (hR : Rm A 12) (F : Fr g L s.heap m) (N : News g L s.heap all) (hd : (d, o) ∈ all) (ho : o.IsDictOf (PySem.strKind prog w) kvs) (lo : (d == sysModules) = false) (hk : HeadIn w nx kvs ks) (hs : ∀ p ∈ nx, p ∈ all) (hn : kvs.length < 60)
  (hQ : ∀ r nx' l h' tk', Fr g L h' m → News g L h' (all ++ nx') → Apart nx' all → List.Perm l (ks.map (·.1)) → sortedS l = true → Tree nx' r (headTold ks l) → Q r {s with heap := h', toks := tk'}) :
  wpAny (model prog w) A (call (.ref 265) [.ref d]) Q E s :=
  told_head_K X T hR F.keep (own_news N) hd ho lo (hk.mono hs) hn fun r nx' l h' tk' hst md p1 p2 tr => hQ r nx' l h' tk' (fr_stays F hst) (news_swap (made_news F hst N md)) (made_off N md) p1 p2 tr
theorem full_head_F {hd : Addr} {o : Obj} {kvs : List (Str × Value)} {ks : List (Str × Val)} (X : (Mine.hd.heap_1 w.params).In g) (T : TT mean mg mb g) (hR : Rm A 10) (F : Fr g L s.heap m) (N : News g L s.heap all) (hm : (hd, o) ∈ all) (ho : o.IsDictOf (PySem.strKind prog w) kvs) (lo : (hd == sysModules) = false) (hk : HeadIn w nx kvs ks) (hs : ∀ p ∈ nx, p ∈ all) (hn : (ks.map fun p => fullK p.1).Nodup) (h60 : ks.length < 60)
  (hQ : ∀ fd fo kvs' nx' h' tk', Fr g L h' m → News g L h' (all ++ nx') → Apart nx' all → (fd, fo) ∈ nx' → (fd == sysModules) = false → fo.IsDictOf (PySem.strKind prog w) kvs' → HeadIn w (nx' ++ (hd, o) :: nx) kvs' (ks.map heardAt) → Q (.ref fd) {s with heap := h', toks := tk'}) :
  wpAny (model prog w) A (call (.ref 322) [.ref hd]) Q E s :=
  full_head_K X T hR F.keep (fun p hp => own_news N p ((List.mem_cons.mp hp).elim (fun e => e ▸ hm) (hs p))) (.head _) ho lo (hk.mono fun _ h => .tail _ h) hn h60 fun fd fo kvs' nx' h' tk' hst md h1 h2 h3 h4 => hQ fd fo kvs' nx' h' tk' (fr_stays F hst) (news_swap (made_news F hst N md)) (made_off N md) h1 h2 h3 h4
/-- the loop of _law_head_right between its turns -/
structure HS (prog : Program) (w : World) (pen hd dd cc kd nd : Addr) (ko no : Obj) (ks : List (Str × Val)) (i : Nat) (oh od oc po : Obj) (kvs dvs : List (Str × Value)) (nx' : List (Addr × Obj)) : Prop where
  hO : oh.IsDictOf (PySem.strKind prog w) kvs
  dO : od.IsDictOf (PySem.strKind prog w) dvs
  pn : IsPen po
  hk : HeadIn w nx' kvs ks
  dk : DueIn nx' dvs (ks.map dueAt)
  un : (ks.map fun p => fullK p.1).Nodup
  len : ks.length ≤ i
  ok : ∀ p ∈ ks, PyData.strOk p.1 = true ∧ ValOk p.2
  cell : ∃ cv, oc.data = .cell cv
  kmem : (kd, ko) ∈ nx'
  nmem : (nd, no) ∈ nx'
  a1 : ∀ p ∈ nx', p.1 ≠ hd
  a2 : ∀ p ∈ nx', p.1 ≠ dd
  a3 : ∀ p ∈ nx', p.1 ≠ cc
  a4 : ∀ p ∈ nx', p.1 ≠ pen
structure HJ (prog : Program) (w : World) (pen hd dd cc kd nd : Addr) (ko no : Obj) (i : Nat) (m : Str → Option Value) (nw : List (Addr × Obj)) : Prop where
  out : ∃ oh od oc po ks kvs dvs nx', nw = (hd, oh) :: (dd, od) :: (cc, oc) :: (pen, po) :: nx' ∧ HS prog w pen hd dd cc kd nd ko no ks i oh od oc po kvs dvs nx'
  m1 : m (Str.ofString "pen") = some (.ref pen)
  m2 : m (Str.ofString "keys") = some (.ref kd)
  m3 : m (Str.ofString "names") = some (.ref nd)
  m4 : m (Str.ofString "head") = some (.ref hd)
  m5 : m (Str.ofString "due") = some (.ref dd)
theorem hr_loop {env : Env} {body : List Stmt} {Q : Flow → Shared → Prop} {E : Value → Shared → Prop} {hd dd cc kd nd r : Addr} {ko no oh od oc : Obj} {n : Nat} {b₀ : Int} {t₀ u₀ v₀ : Tok} {led RO : List (Addr × Obj)}
    (hh : A.handled = none) (hr : IsRange s.heap r 0 b₀ 1 t₀ u₀ v₀) (hsm : Builtin.Range.small 0 b₀ 1 = true) (hn : Builtin.Range.rangeSize 0 b₀ 1 = (n : Int)) (F : Fr g env.locals s.heap m) (N : News g env.locals s.heap led)
    (hs : ∀ p ∈ (hd, oh) :: (dd, od) :: (cc, oc) :: (pen, po) :: RO, p ∈ led) (H : HS prog w pen hd dd cc kd nd ko no [] 0 oh od oc po [] [] RO)
    (m1 : m (Str.ofString "pen") = some (.ref pen)) (m2 : m (Str.ofString "keys") = some (.ref kd)) (m3 : m (Str.ofString "names") = some (.ref nd)) (m4 : m (Str.ofString "head") = some (.ref hd)) (m5 : m (Str.ofString "due") = some (.ref dd))
    (turn : ∀ i v (m₁ : Str → Option Value) oh od oc po ks kvs dvs nx' h tk I oI, i < n → HS prog w pen hd dd cc kd nd ko no ks i oh od oc po kvs dvs nx' → @Ne Nat hd I → @Ne Nat dd I → @Ne Nat cc I → @Ne Nat pen I → (∀ p ∈ nx', p.1 ≠ I) →
      Fr g env.locals h (fun y => if y = Str.ofString "turn" then some v else if y = Str.ofString "pen" then some (.ref pen) else if y = Str.ofString "keys" then some (.ref kd) else if y = Str.ofString "names" then some (.ref nd) else if y = Str.ofString "head" then some (.ref hd) else if y = Str.ofString "due" then some (.ref dd) else m₁ y) →
      News g env.locals h ((I, oI) :: (hd, oh) :: (dd, od) :: (cc, oc) :: (pen, po) :: nx') →
      wpAny (model prog w) A (execs body env) (LPost g env.locals (HJ prog w pen hd dd cc kd nd ko no (i + 1)) I oI { s with heap := h, toks := tk } Q) E { s with heap := h, toks := tk })
    (done : ∀ (m₁ : Str → Option Value) oh od oc po ks kvs dvs nx' h tk, HS prog w pen hd dd cc kd nd ko no ks n oh od oc po kvs dvs nx' →
      Fr g env.locals h (fun y => if y = Str.ofString "pen" then some (.ref pen) else if y = Str.ofString "head" then some (.ref hd) else if y = Str.ofString "due" then some (.ref dd) else m₁ y) → News g env.locals h ((hd, oh) :: (dd, od) :: (cc, oc) :: (pen, po) :: nx') → Q .next { s with heap := h, toks := tk }) :
    wpAny (model prog w) A (pyIter (.ref r)) (fun it s₂ => LoopAtV prog w A g env (Str.ofString "turn") body Q E it s₂) E s := by
  have N0 : News g env.locals s.heap ((hd, oh) :: (dd, od) :: (cc, oc) :: (pen, po) :: RO) := fun p hp => N p (hs p hp)
  refine for_range (HJ prog w pen hd dd cc kd nd ko no) hh hr hsm hn F N0 ⟨⟨oh, od, oc, po, [], [], [], RO, rfl, H⟩, m1, m2, m3, m4, m5⟩ ?_ ?_
  · rintro i v m₁ nw h tk I oI hi ⟨⟨oh, od, oc, po, ks, kvs, dvs, nx', rfl, H'⟩, e1, e2, e3, e4, e5⟩ off _ F₁ N₁
    simp only [List.mem_cons, forall_eq_or_imp] at off
    obtain ⟨f1, f2, f3, f4, f5⟩ := off
    refine turn i v m₁ oh od oc po ks kvs dvs nx' h tk I oI hi H' f1 f2 f3 f4 f5 ?_ N₁
    have em : m₁ = fun y => if y = Str.ofString "pen" then some (.ref pen) else if y = Str.ofString "keys" then some (.ref kd) else if y = Str.ofString "names" then some (.ref nd) else if y = Str.ofString "head" then some (.ref hd) else if y = Str.ofString "due" then some (.ref dd) else m₁ y := by
      funext y
      repeat' split
      all_goals first | rfl | (subst_vars; assumption)
    have F₂ := F₁
    rw [em] at F₂
    exact F₂
  · rintro m₁ nw h tk ⟨⟨oh, od, oc, po, ks, kvs, dvs, nx', rfl, H'⟩, e1, e2, e3, e4, e5⟩ F₁ N₁
    refine done m₁ oh od oc po ks kvs dvs nx' h tk H' ?_ N₁
    have em : m₁ = fun y => if y = Str.ofString "pen" then some (.ref pen) else if y = Str.ofString "head" then some (.ref hd) else if y = Str.ofString "due" then some (.ref dd) else m₁ y := by
      funext y
      repeat' split
      all_goals first | rfl | (subst_vars; assumption)
    have F₂ := F₁
    rw [em] at F₂
    exact F₂
end
theorem valueAt_none {kvs : List (Str × Value)} {k : Str} (h : (valueAt kvs k).isSome = false) : k ∉ kvs.map (·.1) := by
  intro hm
  obtain ⟨p, hp, rfl⟩ := List.mem_map.mp hm
  unfold valueAt at h
  have : (kvs.find? (fun kv => decide (kv.1 = p.1))).isSome = true := by
    rw [List.find?_isSome]
    exact ⟨p, hp, by simp⟩
  rw [Option.isSome_map] at h
  rw [h] at this; cases this
section
variable {prog : Program} {w : World} {s₁ : Shared} {g h' : Heap} {L pen hd dd cc kd nd I : Addr} {ko no oh od oc po po' oI oh' od' : Obj} {m' : Str → Option Value} {nx' n1 n2 : List (Addr × Obj)} {ks : List (Str × Val)} {kvs dvs : List (Str × Value)} {i tk : Nat} {Q : Flow → Shared → Prop}
theorem hr_skip {x : Addr × Obj} (F : Fr g L h' m') (N : News g L h' (x :: (I, oI) :: (hd, oh) :: (dd, od) :: (cc, oc) :: (pen, po') :: nx')) (H : HS prog w pen hd dd cc kd nd ko no ks i oh od oc po kvs dvs nx') (hpo' : IsPen po')
    (i1 : @Ne Nat hd I) (i2 : @Ne Nat dd I) (i3 : @Ne Nat cc I) (i4 : @Ne Nat pen I) (i5 : ∀ p ∈ nx', p.1 ≠ I)
    (m1 : m' (Str.ofString "pen") = some (.ref pen)) (m2 : m' (Str.ofString "keys") = some (.ref kd)) (m3 : m' (Str.ofString "names") = some (.ref nd)) (m4 : m' (Str.ofString "head") = some (.ref hd)) (m5 : m' (Str.ofString "due") = some (.ref dd)) :
    LPost g L (HJ prog w pen hd dd cc kd nd ko no (i + 1)) I oI s₁ Q .next { s₁ with heap := h', toks := tk } :=
  LPost.next F N ((hd, oh) :: (dd, od) :: (cc, oc) :: (pen, po') :: nx') (fun p hp => .tail _ hp) (List.forall_mem_cons.mpr ⟨i1, List.forall_mem_cons.mpr ⟨i2, List.forall_mem_cons.mpr ⟨i3, List.forall_mem_cons.mpr ⟨i4, i5⟩⟩⟩⟩)
    ⟨⟨oh, od, oc, po', ks, kvs, dvs, nx', rfl, { H with pn := hpo', len := Nat.le_succ_of_le H.len }⟩, m1, m2, m3, m4, m5⟩
theorem hr_put {k : Str} {v r : Value} {d : Val} (F : Fr g L h' m') (N : News g L h' ((I, oI) :: (hd, oh') :: (dd, od') :: (cc, oc) :: (pen, po') :: (nx' ++ n1 ++ n2))) (H : HS prog w pen hd dd cc kd nd ko no ks i oh od oc po kvs dvs nx') (hpo' : IsPen po')
    (hno : (valueAt dvs (fullK k)).isSome = false) (hO' : oh'.IsDictOf (PySem.strKind prog w) (stored kvs k v)) (dO' : od'.IsDictOf (PySem.strKind prog w) (stored dvs (fullK k) r)) (hv : ValIn w n1 v d) (okk : PyData.strOk k = true) (okd : ValOk d) (tr : Tree n2 r (dueAt (k, d)).2)
    (q1 : ∀ p ∈ n1, p.1 ≠ I ∧ p.1 ≠ hd ∧ p.1 ≠ dd ∧ p.1 ≠ cc ∧ p.1 ≠ pen) (q2 : ∀ p ∈ n2, p.1 ≠ I ∧ p.1 ≠ hd ∧ p.1 ≠ dd ∧ p.1 ≠ cc ∧ p.1 ≠ pen)
    (i1 : @Ne Nat hd I) (i2 : @Ne Nat dd I) (i3 : @Ne Nat cc I) (i4 : @Ne Nat pen I) (i5 : ∀ p ∈ nx', p.1 ≠ I)
    (m1 : m' (Str.ofString "pen") = some (.ref pen)) (m2 : m' (Str.ofString "keys") = some (.ref kd)) (m3 : m' (Str.ofString "names") = some (.ref nd)) (m4 : m' (Str.ofString "head") = some (.ref hd)) (m5 : m' (Str.ofString "due") = some (.ref dd)) :
    LPost g L (HJ prog w pen hd dd cc kd nd ko no (i + 1)) I oI s₁ Q .next { s₁ with heap := h', toks := tk } := by
  have e1 : fullK k ∉ ks.map (fun p => fullK p.1) := by
    have := valueAt_none hno
    rw [H.dk.keys, List.map_map] at this
    exact this
  have e2 : k ∉ kvs.map (·.1) := by
    rw [H.hk.keys]
    intro hm
    obtain ⟨p, hp, rfl⟩ := List.mem_map.mp hm
    exact e1 (List.mem_map.mpr ⟨p, hp, rfl⟩)
  rw [stored_new (valueAt_none hno)] at dO'
  rw [stored_new e2] at hO'
  have s1 : ∀ p ∈ nx', p ∈ nx' ++ n1 ++ n2 := fun p hp => List.mem_append_left _ (List.mem_append_left _ hp)
  have s2 : ∀ p ∈ n1, p ∈ nx' ++ n1 ++ n2 := fun p hp => List.mem_append_left _ (List.mem_append_right _ hp)
  have s3 : ∀ p ∈ n2, p ∈ nx' ++ n1 ++ n2 := fun p hp => List.mem_append_right _ hp
  refine LPost.next F N ((hd, oh') :: (dd, od') :: (cc, oc) :: (pen, po') :: (nx' ++ n1 ++ n2)) (fun p hp => hp) (List.forall_mem_cons.mpr ⟨i1, List.forall_mem_cons.mpr ⟨i2, List.forall_mem_cons.mpr ⟨i3, List.forall_mem_cons.mpr ⟨i4, all_app (all_app i5 fun p hp => (q1 p hp).1) fun p hp => (q2 p hp).1⟩⟩⟩⟩)
    ⟨⟨oh', od', oc, po', ks ++ [(k, d)], kvs ++ [(k, v)], dvs ++ [(fullK k, r)], _, rfl, ⟨hO', dO', hpo', (H.hk.mono s1).snoc (hv.mono s2), ?_, ?_, ?_, ?_, H.cell, s1 _ H.kmem, s1 _ H.nmem, ?_, ?_, ?_, ?_⟩⟩, m1, m2, m3, m4, m5⟩
  · rw [List.map_append]
    exact (H.dk.mono s1).snoc (tr.mono s3)
  · rw [List.map_append, List.nodup_append]
    refine ⟨H.un, by simp, ?_⟩
    intro a ha b hb e
    simp only [List.map_cons, List.map_nil, List.mem_singleton] at hb
    subst hb; subst e
    exact e1 ha
  · have := H.len
    rw [List.length_append, List.length_singleton]; omega
  · exact all_app H.ok (List.forall_mem_cons.mpr ⟨⟨okk, okd⟩, fun _ h => nomatch h⟩)
  · exact all_app (all_app H.a1 fun p hp => (q1 p hp).2.1) fun p hp => (q2 p hp).2.1
  · exact all_app (all_app H.a2 fun p hp => (q1 p hp).2.2.1) fun p hp => (q2 p hp).2.2.1
  · exact all_app (all_app H.a3 fun p hp => (q1 p hp).2.2.2.1) fun p hp => (q2 p hp).2.2.2.1
  · exact all_app (all_app H.a4 fun p hp => (q1 p hp).2.2.2.2) fun p hp => (q2 p hp).2.2.2.2
theorem off5 {n b : List (Addr × Obj)} {o1 o2 o3 o4 o5 : Obj} (h : Apart n b) (x1 : (I, o1) ∈ b) (x2 : (hd, o2) ∈ b) (x3 : (dd, o3) ∈ b) (x4 : (cc, o4) ∈ b) (x5 : (pen, o5) ∈ b) : ∀ p ∈ n, p.1 ≠ I ∧ p.1 ≠ hd ∧ p.1 ≠ dd ∧ p.1 ≠ cc ∧ p.1 ≠ pen :=
  fun p hp => ⟨h _ x1 p hp, h _ x2 p hp, h _ x3 p hp, h _ x4 p hp, h _ x5 p hp⟩
end
theorem wHQ0 : True := by k_with_none; w_top off; (k_with "k_ne" => (refine neN ?_; (try dsimp only); first | with_reducible assumption | with_reducible exact Ne.symm (by assumption) | fail)); trivial
/-! told trees are compared; a comprehension over a dict -/
theorem kw_ok : PyData.strOk (Str.ofString "name") = true ∧ PyData.strOk (Str.ofString "int") = true ∧ PyData.strOk (Str.ofString "array") = true ∧ PyData.strOk (Str.ofString "dict") = true := by decide +kernel
theorem names_ok : ∀ p ∈ namesL, PyData.strOk p.2 = true := by decide +kernel
theorem fullN_ok {t : Str} (h : PyData.strOk t = true) : PyData.strOk (fullN t) = true := by
  unfold fullN
  cases e : namesL.lookup t with
  | none => exact h
  | some x =>
    obtain ⟨l1, l2, e2, _⟩ := List.lookup_eq_some_iff.mp e
    exact names_ok (t, x) (by rw [e2]; simp)
theorem fullLeaf_ok {d : Leaf} (h : LeafOk d) : LeafOk (fullLeaf d) := by
  cases d with
  | nm t => exact fullN_ok h
  | int i => trivial
theorem fullVal_ok {d : Val} (h : ValOk d) : ValOk (fullVal d) := by
  cases d with
  | one d => exact fullLeaf_ok h
  | arr ds =>
    intro x hx
    obtain ⟨y, hy, rfl⟩ := List.mem_map.mp hx
    exact fullLeaf_ok (h y hy)
theorem layAll {ds : List PyData} (h : ∀ d ∈ ds, d.canLay0 = true) : PyData.canLayAll0 ds = true := by
  induction ds with
  | nil => simp only [PyData.canLayAll0]
  | cons x r ih => simp only [PyData.canLayAll0, h x (.head _), ih fun d hd => h d (.tail _ hd), Bool.and_self]
theorem depAll {ds : List PyData} {n : Nat} (h : ∀ d ∈ ds, d.depth ≤ n) : PyData.depthAll ds ≤ n := by
  induction ds with
  | nil => simp only [PyData.depthAll]; omega
  | cons x r ih =>
    have a := h x (.head _)
    have b := ih fun d hd => h d (.tail _ hd)
    simp only [PyData.depthAll]; omega
theorem leaf_lay {d : Leaf} (h : LeafOk d) : d.told.canLay0 = true := by
  cases d with
  | nm t =>
    have h' : PyData.strOk t = true := h
    simp only [Leaf.told, PyData.canLay0, PyData.canLayAll0, kw_ok.1, h', Bool.and_self]
  | int i => simp only [Leaf.told, PyData.canLay0, PyData.canLayAll0, kw_ok.2.1, Bool.and_self]
theorem leaf_dep (d : Leaf) : d.told.depth ≤ 1 := by
  cases d <;> simp only [Leaf.told, PyData.depth, PyData.depthAll] <;> omega
theorem val_lay {d : Val} (h : ValOk d) : d.told.canLay0 = true := by
  cases d with
  | one d => exact leaf_lay h
  | arr ds =>
    have : PyData.canLayAll0 (ds.map Leaf.told) = true := layAll fun x hx => by
      obtain ⟨y, hy, rfl⟩ := List.mem_map.mp hx
      exact leaf_lay (h y hy)
    simp only [Val.told, PyData.canLay0, PyData.canLayAll0, kw_ok.2.2.1, this, Bool.and_self]
theorem val_dep (d : Val) : d.told.depth ≤ 2 := by
  cases d with
  | one d => have := leaf_dep d; simp only [Val.told]; omega
  | arr ds =>
    have : PyData.depthAll (ds.map Leaf.told) ≤ 1 := depAll fun x hx => by
      obtain ⟨y, hy, rfl⟩ := List.mem_map.mp hx
      exact leaf_dep y
    simp only [Val.told, PyData.depth, PyData.depthAll]; omega
theorem valOf_ok {ks : List (Str × Val)} (h : ∀ p ∈ ks, PyData.strOk p.1 = true ∧ ValOk p.2) (k : Str) : ValOk (valOf ks k) := by
  unfold valOf
  cases e : ks.lookup k with
  | none => trivial
  | some x =>
    obtain ⟨l1, l2, e2, _⟩ := List.lookup_eq_some_iff.mp e
    exact (h (k, x) (by rw [e2]; simp)).2
theorem head_lay {ks : List (Str × Val)} {l : List Str} (h : ∀ p ∈ ks, PyData.strOk p.1 = true ∧ ValOk p.2) (hp : List.Perm l (ks.map (·.1))) : (headTold ks l).canLay0 = true := by
  have : PyData.canLayAll0 (l.map fun k => .tuple [.str k, (valOf ks k).told]) = true := layAll fun x hx => by
    obtain ⟨k, hk, rfl⟩ := List.mem_map.mp hx
    obtain ⟨p, hp', rfl⟩ := List.mem_map.mp (hp.mem_iff.mp hk)
    simp only [PyData.canLay0, PyData.canLayAll0, (h p hp').1, val_lay (valOf_ok h p.1), Bool.and_self]
  simp only [headTold, PyData.canLay0, PyData.canLayAll0, kw_ok.2.2.2, this, Bool.and_self]
theorem head_dep (ks : List (Str × Val)) (l : List Str) : (headTold ks l).depth ≤ 4 := by
  have : PyData.depthAll (l.map fun k => .tuple [.str k, (valOf ks k).told]) ≤ 3 := depAll fun x hx => by
    obtain ⟨k, hk, rfl⟩ := List.mem_map.mp hx
    have := val_dep (valOf ks k)
    simp only [PyData.depth, PyData.depthAll]; omega
  simp only [headTold, PyData.depth, PyData.depthAll]; omega
theorem due_ok {p : Str × Val} (h : PyData.strOk p.1 = true ∧ ValOk p.2) : (dueAt p).2.canLay0 = true ∧ (dueAt p).2.depth ≤ 2 := by
  refine ⟨val_lay ?_, val_dep _⟩
  simp only [heardAt]
  split
  · exact fullVal_ok h.2
  · exact h.2
section
variable {prog : Program} {w : World} {A : Around} {E : Value → Shared → Prop} {s : Shared} {g : Heap} {L : Addr} {m : Str → Option Value} {all na nb : List (Addr × Obj)} {Q : Value → Shared → Prop}
theorem eq_told {a b : Value} {ks : List (Str × Val)} {la lb : List Str} (N : News g L s.heap all) (ta : Tree na a (headTold ks la)) (tb : Tree nb b (headTold ks lb)) (ha : ∀ p ∈ na, p ∈ all) (hb : ∀ p ∈ nb, p ∈ all) (pa : List.Perm la (ks.map (·.1))) (sa : sortedS la = true) (pb : List.Perm lb (ks.map (·.1))) (sb : sortedS lb = true)
    (un : (ks.map fun p => fullK p.1).Nodup) (ok : ∀ p ∈ ks, PyData.strOk p.1 = true ∧ ValOk p.2) (hu : A.units + 64 < cLine) (h : Q (.bool true) s) : wpAny (model prog w) A (compareOp .Eq a b) Q E s := by
  have hk : (ks.map (·.1)).Nodup := by
    have : ks.map (fun p => fullK p.1) = (ks.map (·.1)).map fullK := by rw [List.map_map]; rfl
    rw [this] at un
    exact List.Pairwise.of_map fullK (fun a b h e => h (congrArg fullK e)) un
  have e : la = lb := risen_eq sa sb (pa.nodup_iff.mpr hk) (pb.nodup_iff.mpr hk) fun t => by rw [pa.mem_iff, pb.mem_iff]
  subst e
  obtain ⟨_, ra⟩ := ta s.heap fun p hp => (N p (ha p hp)).1
  obtain ⟨_, rb⟩ := tb s.heap fun p hp => (N p (hb p hp)).1
  have hl := head_lay ok pa
  have hd := head_dep ks la
  refine SeqAt.compareEq_reads ra rb hl hl (by omega) ?_
  rw [SeqAt.eqv_refl _ hl]
  exact h
theorem hits_due {l : List (Str × PyData)} : ∀ {ps dvs : List (Str × Value)}, DueIn na ps l → (∀ p ∈ l, ∃ y, valueAt dvs p.1 = some y ∧ Tree nb y p.2) → (∀ p ∈ l, p.2.canLay0 = true ∧ p.2.depth ≤ 2) → (∀ p ∈ na, s.heap.get? p.1 = some p.2) → (∀ p ∈ nb, s.heap.get? p.1 = some p.2) → A.units + 10 < cLine → KeqHits A s dvs ps true := by
  intro ps dvs h
  induction h with
  | nil => intro _ _ _ _ _; exact .nil
  | @cons k v d kvs l tr _ ih =>
    intro hd hok ha hb hu
    obtain ⟨y, hy, ty⟩ := hd (k, d) (.head _)
    obtain ⟨o1, o2⟩ := hok (k, d) (.head _)
    obtain ⟨_, r1⟩ := tr _ ha
    obtain ⟨_, r2⟩ := ty _ hb
    have e := SeqAt.eqAt_reads d d A s v y _ _ r1 r2 o1 o1 (by simp only at o2; omega)
    rw [SeqAt.eqv_refl _ o1] at e
    exact KeqHits.hit (e := true) (b := true) hy e (ih (fun p hp => hd p (.tail _ hp)) (fun p hp => hok p (.tail _ hp)) ha hb hu)
theorem DueIn.get {nx : List (Addr × Obj)} {dvs : List (Str × Value)} {l : List (Str × PyData)} (h : DueIn nx dvs l) (hn : (l.map (·.1)).Nodup) : ∀ p ∈ l, ∃ y, valueAt dvs p.1 = some y ∧ Tree nx y p.2 := by
  induction h with
  | nil => intro p hp; cases hp
  | @cons k v d kvs l tr _ ih =>
    simp only [List.map_cons, List.nodup_cons] at hn
    intro p hp
    rcases List.mem_cons.mp hp with rfl | hp
    · exact ⟨v, by simp [valueAt], tr⟩
    · obtain ⟨y, hy, ty⟩ := ih hn.2 p hp
      have hne : ¬ k = p.1 := fun e => hn.1 (List.mem_map.mpr ⟨p, hp, e.symm⟩)
      exact ⟨y, by simpa [valueAt, hne] using hy, ty⟩
theorem due_keys (ks : List (Str × Val)) : (ks.map dueAt).map (·.1) = ks.map fun p => fullK p.1 := by rw [List.map_map]; rfl
/-- the two dicts of told values are equal -/
theorem eq_due {a b : Addr} {oa ob : Obj} {ps dvs : List (Str × Value)} {ks : List (Str × Val)} (N : News g L s.heap all) (ma : s.heap.get? a = some oa) (mb : s.heap.get? b = some ob) (da : oa.IsDictOf (PySem.strKind prog w) ps) (db : ob.IsDictOf (PySem.strKind prog w) dvs) (la : (a == sysModules) = false) (lb : (b == sysModules) = false)
    (ta : DueIn na ps (ks.map dueAt)) (tb : DueIn nb dvs (ks.map dueAt)) (ha : ∀ p ∈ na, p ∈ all) (hb : ∀ p ∈ nb, p ∈ all) (un : (ks.map fun p => fullK p.1).Nodup) (ok : ∀ p ∈ ks, PyData.strOk p.1 = true ∧ ValOk p.2) (hu : A.units + 64 < cLine) (h : Q (.bool true) s) :
    wpAny (model prog w) A (compareOp .Eq (.ref a) (.ref b)) Q E s := by
  have hA : s.heap.DictOf (PySem.strKind prog w) a ps := Heap.dictOf_iff.mpr ⟨oa, ma, da⟩
  have hB : s.heap.DictOf (PySem.strKind prog w) b dvs := Heap.dictOf_iff.mpr ⟨ob, mb, db⟩
  refine keq_eq (r := true) la lb hA hB (by omega) (fun _ => ?_) ?_
  · refine hits_due ta (DueIn.get tb (by rw [due_keys]; exact un)) (fun p hp => ?_) (fun p hp => (N p (ha p hp)).1) (fun p hp => (N p (hb p hp)).1) (by have := units_in1 A; omega)
    obtain ⟨q, hq, rfl⟩ := List.mem_map.mp hp
    exact due_ok (ok q hq)
  · rw [ta.len, tb.len]
    simpa using h
end
section
open PyProof.Rows.LCg PyProof.Rows.LCt
variable {prog : Program} {w : World} {A : Around} {E : Value → Shared → Prop} {s : Shared} {h₀ : Heap} {L : Addr} {m : Str → Option Value} {env : Env}
def SrcDict (prog : Program) (w : World) (A : Around) (h₀ : Heap) (L : Addr) (m : Str → Option Value) (env : Env) (elt : Expr) (x : Str) (scope : Scope) (cl : List (Str × Addr)) (Fin : Shared → List Value → List (Addr × Obj) → Prop) (xv : Value) (s₁ : Shared) : Prop :=
  ∃ d o kvs news, xv = .ref d ∧ A.handled = none ∧ (d == sysModules) = false ∧ Fr h₀ L s₁.heap m ∧ News h₀ L s₁.heap news ∧ (d, o) ∈ news ∧ o.IsDictOf (PySem.strKind prog w) kvs ∧ kvs.length ≤ sizeLine ∧
    ∀ s₂ : Shared, (∃ h, s₂ = { s₁ with heap := h }) → CompRest prog w A h₀ L m env elt x scope cl s₂ (fun nw => (d, o) ∈ nw) (fun i v => ∃ k y t, kvs[i]? = some (k, y) ∧ v = .str k t) (Fin s₂) kvs.length 0 [] news
theorem SrcDict.intro {elt : Expr} {x : Str} {scope : Scope} {cl : List (Str × Addr)} {Fin : Shared → List Value → List (Addr × Obj) → Prop} {d : Addr} {o : Obj} {kvs : List (Str × Value)} {news : List (Addr × Obj)} {s₁ : Shared}
    (hh : A.handled = none) (lo : (d == sysModules) = false) (F : Fr h₀ L s₁.heap m) (N : News h₀ L s₁.heap news) (hm : (d, o) ∈ news) (hd : o.IsDictOf (PySem.strKind prog w) kvs) (hsz : kvs.length ≤ sizeLine)
    (h : ∀ g, CompRest prog w A h₀ L m env elt x scope cl { s₁ with heap := g } (fun nw => (d, o) ∈ nw) (fun i v => ∃ k y t, kvs[i]? = some (k, y) ∧ v = .str k t) (Fin { s₁ with heap := g }) kvs.length 0 [] news) :
    SrcDict prog w A h₀ L m env elt x scope cl Fin (.ref d) s₁ := ⟨d, o, kvs, news, rfl, hh, lo, F, N, hm, hd, hsz, fun _ ⟨g, e⟩ => e ▸ h g⟩
theorem ListComp_D {elt iter : Expr} {x : Str} {px : Pos} {scope : Scope} {cl : List (Str × Addr)} {pos : Pos} {Q : Value → Shared → Prop} (_F₀ : Fr h₀ L s.heap m)
    (hclos : closureFor scope env = pure cl) (hcell : ∀ y ∈ scope.names, y.2 ≠ .cell) (hkind : scope.kind = .function)
    (hnames : ∀ y ∈ scope.names, y.2 = .local → scope.names.lookup y.1 = some .local) (hx : scope.names.lookup x = some .local)
    (h : wpAny (model prog w) A (eval iter env) (SrcDict prog w A h₀ L m env elt x scope cl (fun s₂ => FinE h₀ L m s₂ Q)) E s)
    (hs : ∀ x, foldedSetIterable iter env x = pure x := by intro _; rfl) :
    wpAny (model prog w) A (eval (.ListComp elt [⟨.Name x px, iter, [], 0⟩] scope pos) env) Q E s := by
  rw [eval_ListComp]
  refine wpAny_comprehension_free (use := none) rfl hs hclos hkind hnames (wpAny_mono h (fun xv s₁ h₁ => ?_) fun _ _ e => e)
  obtain ⟨d, o, kvs, news, rfl, hh, lo, F, N, hm, hd, hsz, R⟩ := h₁
  have hg := (N _ hm).1
  obtain ⟨ep, hat⟩ := (Heap.dictOf_iff.mpr ⟨o, hg, hd⟩ : s₁.heap.DictOf (PySem.strKind prog w) d kvs).dictAt
  have hdlt : d < s₁.heap.objs.size := Heap.lt_size hg
  refine wpAny_pyIter_dict lo hat ?_
  have W : Walks prog w A s₁.heap.objs.size [s₁.heap.objs.size, d] [s₁.heap.objs.size] kvs.length (fun i v => ∃ k y t, kvs[i]? = some (k, y) ∧ v = .str k t) (fun i h => h.IsKeyIter s₁.heap.objs.size d i kvs.length ep ∧ h.DictAt (PySem.strKind prog w) d kvs ep) :=
    let W := Walks.dictKeys (knd := PySem.strKind prog w) (A := A) hh s₁.heap.objs.size d (Nat.ne_of_lt hdlt) kvs ep
    { sub := W.sub, frame := W.frame, done := W.done, self := W.self,
      item := fun i s Q E hi st hQ => W.item i s Q E hi st fun v h' tk hP => hQ v h' tk (by
        obtain ⟨k, y, e, hk⟩ := hP
        obtain ⟨t, rfl⟩ := Value.isStrOf_shape hk
        exact ⟨k, y, t, e, rfl⟩) }
  refine block_U W hsz (fun i h st => by obtain ⟨o, e, _⟩ := st.1; exact ⟨o, e⟩) ?_ hcell hkind hx ⟨⟨_, Heap.get?_push_size _ rfl, rfl, rfl⟩, hat.at' fun o e => Heap.get?_push_of_some _ e⟩ (fun b hb => ?_)
    (F.keeps fun _ _ e => Heap.get?_push_of_some _ e) (N.grown fun _ _ e => Heap.get?_push_of_some _ e) (Nat.ne_of_lt F.ns.lt) (next_is_new F) (fun p hp => Nat.ne_of_lt (Heap.lt_size (N p hp).1)) hm (R _ ⟨_, rfl⟩) ?_
  · rintro i h h' o' nw ⟨⟨o1, e1, r1⟩, _⟩ ho ho' hk N' hm'
    refine ⟨⟨o1, ?_, r1⟩, hat.at' fun o2 e2 => ?_⟩
    · rw [ho', ← ho, e1]
    · rw [hg] at e2
      cases e2
      exact (N' _ hm').1
  · show b < (s₁.heap.push _).objs.size
    rw [Heap.size_push]
    simp only [List.mem_cons, List.not_mem_nil, or_false] at hb
    rcases hb with rfl | rfl
    · exact Nat.lt_succ_self _
    · exact Nat.lt_succ_of_lt hdlt
  · intro D C h' tk m' ys news' F' N' o1 hn' hC₀ hD₀ hCL hDL hCD offC fin
    refine ⟨m', hn', fun h'' hs'' => fin D h'' tk (F'.change hs'' hCL hC₀) (fun p hp => ?_) o1⟩
    refine ⟨hs''.extBut _ _ ?_ (N' p hp).1, (N' p hp).2⟩
    rcases List.mem_cons.mp hp with rfl | hp
    · exact Ne.symm hCD
    · exact offC p hp
end
theorem wHR0 : True := by k_with_none; w_top off; (k_with "k_ne" => (refine neN ?_; (try dsimp only); first | with_reducible assumption | with_reducible exact Ne.symm (by assumption) | fail)); trivial
/-! _law_head_right -/
section
variable {prog : Program} {w : World} {mean : ExcName → Option Value} {mg mb : Str → Option Value} {A : Around} {s : Shared} {g : Heap} {L pen : Addr} {po : Obj} {m : Str → Option Value} {all : List (Addr × Obj)} {u : Obj → List (Addr × Obj)} {Q E : Value → Shared → Prop}
theorem wHR1 : True := by (k_with "call ref" => (k_here; (with_reducible show wpAny _ _ (call (Value.ref 336) [Value.ref _, Value.int _ _]) _ _ _); (refine' draw_K (by k_asm) (by k_asm) (by first | assumption | exact Rm.mono (Rm.deeper (by assumption) _) (by decide)) (by k_asm) (by k_asm) (by k_updF) (by assumption) (by first | decide | (simp only [List.size_toArray]; omega) | omega) (by first | decide | (simp only [List.size_toArray]; omega) | omega) ?_); intro d'₉ td'₉ h'₉ tk'₉ po'₉ hpo'₉ F'₉ N'₉ h0'₉ h1'₉; (try k_sweep); (try dsimp only))); trivial
theorem wHR2 : True := by (k_with "call ref" => (k_here; (with_reducible show wpAny _ _ (call (Value.ref 358) _) _ _ _); (refine' law_pairs_F (by k_asm) (by k_asm) (by first | assumption | exact Rm.mono (Rm.deeper (by assumption) _) (by decide)) (by k_asm) (by k_asm) ?_); intro f'₉ c'₉ kd'₉ ko'₉ kk'₉ nd'₉ no'₉ nk'₉ h'₉ tk'₉ F'₉ N'₉ l1₉ l2₉ l3₉ lo1₉ lo2₉ i1₉ i2₉ i3₉ i4₉; (simp only [List.forall_mem_cons, List.not_mem_nil, false_implies, implies_true, and_true] at l1₉ l2₉ l3₉))); trivial
theorem wHR3 : True := by (k_with "exec For" => (k_here; (with_reducible show wpAny _ _ (exec (Stmt.For (Expr.Name _ _) _ _ [] _) _) _ _ _); (rename Fr _ _ _ _ => F'₉); with_unfolding_all refine For_my F'₉ (by rfl) (by rfl) ?_)); trivial
theorem wHR4 : True := by (k_with "assign Tuple" => (k_here; (with_reducible show wpAny _ _ (assign (Expr.Tuple _ _ _) _ (Value.ref _)) _ _ _); k_dflt (refine' unpackN_ ?F ?N ?T ?k1 ?k2 ?k3 ?_; (case F => k_asm); (case N => k_asm); (case T => kun_tup); (case k1 => exact Rm.hh (Rm.deeper (d := 15) (by assumption) _)); (case k2 => exact rfl); (case k3 => exact rfl)); intro h'₉ F'₉ N'₉; (try k_sweep))); trivial
theorem wHR5 : True := by (k_with "assign Tuple" => (k_here; (with_reducible show wpAny _ _ (assign (Expr.Tuple _ _ _) _ (Value.ref _)) _ _ _); k_dflt (refine' kun_list ?k1 ?k2 ?k3 ?k4 ?k5 ?k6 ?_; (case k1 => k_asm); (case k2 => k_asm); (case k3 => exact News.isList (by k_asm) (by k_mem)); (case k4 => exact Rm.hh (Rm.deeper (d := 15) (by assumption) _)); (case k5 => exact rfl); (case k6 => exact rfl)); intro h'₉ F'₉ N'₉; (try k_sweep))); trivial
theorem wHR6 : True := by (k_with "unpackItems ref" => (k_here; k_dflt (refine' unpackItemsN_ ?k1 ?k2 ?k3 ?k4 ?k5 ?_; (case k1 => k_asm); (case k2 => k_asm); (case k3 => kun_tup); (case k4 => exact Rm.hh (Rm.deeper (d := 15) (by assumption) _)); (case k5 => exact rfl)); intro h'₉ F'₉ N'₉; (try k_sweep))); trivial
theorem wHR7 : True := by (k_with "k_mem" => (first | assumption | exact List.mem_append_left _ (by assumption) | exact List.mem_append_left _ (List.mem_append_left _ (by assumption)))); trivial
theorem wHR8 : True := by (k_with "k_all" => (first | assumption | exact all_app (by assumption) (apart_at (by assumption) (by k_mem)) | exact all_app (all_app (by assumption) (apart_at (by assumption) (by k_mem))) (apart_at (by assumption) (by k_mem)))); trivial
theorem wHR9 : True := by (k_with "call ref" => (k_here; (with_reducible show wpAny _ _ (call (Value.ref 343) [Value.ref _, Value.ref _]) _ _ _); (refine' pick_S (ss := menuK) (by k_asm) (by k_asm) (by first | assumption | exact Rm.mono (Rm.deeper (by assumption) _) (by decide)) (by k_asm) (by k_asm) (by k_updF) (by assumption) (by k_mem) (by k_ne) (by unfold menuK; repeat' (first | exact StrsAre.nil | refine StrsAre.cons _ _ ?_)) (by exact Nat.le_of_ble_eq_true rfl) (by exact Nat.le_of_ble_eq_true rfl) ?_); intro y'₉ t'₉ h'₉ tk'₉ po'₉ hy'₉ hpo'₉ F'₉ N'₉; (try k_sweep); (try dsimp only))); trivial
theorem wHR10 : True := by (k_with "call ref" => (k_here; (with_reducible show wpAny _ _ (call (Value.ref 363) _) _ _ _); (refine' law_value_F (by k_asm) (by k_asm) (by first | assumption | exact Rm.mono (Rm.deeper (by assumption) _) (by decide)) (by k_asm) (by k_asm) (by k_updF) (by assumption) ?_); intro v'₉ d'₉ nx'₉ h'₉ tk'₉ po'₉ hpo'₉ F'₉ N'₉ ap'₉ hv'₉ ok'₉; (try simp only [List.cons_append, List.nil_append] at N'₉))); trivial
theorem wHR11 : True := by (k_with "call ref" => (k_here; (with_reducible show wpAny _ _ (call (Value.ref 265) [_]) _ _ _); (refine' told_val_F (by k_asm) (by k_asm) (by first | assumption | exact Rm.mono (Rm.deeper (by assumption) _) (by decide)) (by k_asm) (by k_asm) (by assumption) (fun p hp => by (repeat (first | exact hp | apply List.Mem.tail)); (first | done | exact List.mem_append_right _ hp)) ?_); intro r'₉ nx'₉ h'₉ tk'₉ F'₉ N'₉ ap'₉ tr'₉; (try simp only [List.cons_append, List.nil_append] at N'₉))); trivial
theorem wHR12 : True := by (k_with "call ref" => (k_here; (with_reducible show wpAny _ _ (call (Value.ref 368) [_, _]) _ _ _); (refine' law_full_F (by k_asm) (by k_asm) (by first | assumption | exact Rm.mono (Rm.deeper (by assumption) _) (by decide)) (by k_asm) (by k_asm) (by assumption) (fun p hp => by (repeat (first | exact hp | apply List.Mem.tail)); (first | done | exact List.mem_append_right _ hp)) (by k_mem) (by assumption) (by assumption) (by assumption) ?_); intro r'₉ nx'₉ h'₉ tk'₉ F'₉ N'₉ ap'₉ tr'₉; (try simp only [List.cons_append, List.nil_append] at N'₉))); trivial
theorem wHR13 : True := by (k_with "getMethod ref" => (k_here; (refine get_meth (news_get (by k_asm) (by k_mem)) (by assumption) ?_))); trivial
theorem wHR14 : True := by (k_with "call builtin:dict.get" => (k_here; (refine get_tab (news_get (by k_asm) (by k_mem)) (by assumption) (by assumption) (by assumption) ?_); intro t'₉ tk'₉)); trivial
theorem wHR15 : True := by (k_with "compareOp NotIn str ref" => (k_here; (refine kdg_notin (by k_asm) (by k_mem) (by assumption) (by assumption) (strKind_is _ _ _ _) _ rfl ?_))); trivial
theorem wHR16 : True := by (k_with "subscriptTail" => (k_here; (with_reducible show wpAny _ _ (subscriptTail _ _ (Value.ref _) (Value.str _ _)) _ _ _); (with_unfolding_all refine' item_dict (news_get (by k_asm) (by k_mem)) (by assumption) (valueAt_put _ _ _) ?_ ?_ ?_); rotate_left; (with_unfolding_all rfl); (intro _; with_unfolding_all rfl))); trivial
theorem wHR17 : True := by (k_with "setItem ref str" => (k_here; (refine' kda_set_tl ?F ?N ?U ?d ?z ?_; (case F => k_asm); (case N => k_asm); (case U => k_updF); (case d => assumption); (case z => omega)); intro h'₉ o'₉ F'₉ N'₉ hd'₉; (try dsimp only at N'₉))); trivial
theorem wHR18 : True := by (k_with "call ref" => (k_here; (with_reducible show wpAny _ _ (call (Value.ref 265) [Value.ref _]) _ _ _); (refine' told_head_F (by k_asm) (by k_asm) (by first | assumption | exact Rm.mono (Rm.deeper (by assumption) _) (by decide)) (by k_asm) (by k_asm) (by k_mem) (by assumption) (by assumption) (by assumption) (fun p hp => by simp only [List.mem_cons, List.mem_append, hp, true_or, or_true]) (by omega) ?_); intro r'₉ nx'₉ l'₉ h'₉ tk'₉ F'₉ N'₉ ap'₉ pm'₉ so'₉ tr'₉; (try simp only [List.cons_append, List.nil_append] at N'₉))); trivial
theorem wHR19 : True := by (k_with "call ref" => (k_here; (with_reducible show wpAny _ _ (call (Value.ref 322) [Value.ref _]) _ _ _); (refine' full_head_F (by k_asm) (by k_asm) (by first | assumption | exact Rm.mono (Rm.deeper (by assumption) _) (by decide)) (by k_asm) (by k_asm) (by k_mem) (by assumption) (by assumption) (by assumption) (fun p hp => by simp only [List.mem_cons, List.mem_append, hp, true_or, or_true]) (by assumption) (by omega) ?_); intro fd'₉ fo'₉ kvs'₉ nx'₉ h'₉ tk'₉ F'₉ N'₉ ap'₉ fm'₉ flo'₉ fh'₉ fk'₉; (try simp only [List.cons_append, List.nil_append] at N'₉))); trivial
theorem wHR20 : True := by (k_with "compareOp Eq" => (k_here; (refine' eq_told (by k_asm) (by assumption) (by assumption) (fun p hp => by simp only [List.mem_cons, List.mem_append, hp, true_or, or_true]) (fun p hp => by simp only [List.mem_cons, List.mem_append, hp, true_or, or_true]) (by assumption) (by assumption) (by assumption) (by assumption) (by assumption) (by assumption) (Rm.units64 (Rm.deeper (d := 15) (by assumption) _)) ?_))); trivial
theorem wHR21 : True := by (k_with "eval ListComp" => (k_here; k_dflt (refine ListComp_D (by k_asm) (by with_unfolding_all rfl) (by decide) (by rfl) (by decide) (by rfl) ?_))); trivial
theorem wHR22 : True := by (k_with "call ref" => (k_here; (with_reducible show wpAny _ _ (call (Value.ref 265) [_]) _ _ _); (refine' told_val_F (by k_asm) (by k_asm) (by first | assumption | exact Rm.mono (Rm.deeper (by assumption) _) (by decide)) (by k_asm) (by k_asm) (by assumption) (fun p hp => .tail _ (.tail _ (.tail _ hp))) ?_); intro r'₉ nx'₉ h'₉ tk'₉ F'₉ N'₉ ap'₉ tr'₉; (try simp only [List.cons_append, List.nil_append] at N'₉))); trivial
theorem wHR23 : True := by (k_with "subscriptTail" => (k_here; (with_reducible show wpAny _ _ (subscriptTail _ _ (Value.ref _) (Value.str _ _)) _ _ _); (with_unfolding_all refine' item_dict (news_get (by k_asm) (by k_mem)) (by assumption) (by assumption) ?_ ?_ ?_); rotate_left; (with_unfolding_all rfl); (intro _; with_unfolding_all rfl))); trivial
theorem with_mem {a : Addr} {o : Obj} {l : List (Addr × Obj)} (_ : (a, o) ∈ l) {P : Prop} (k : ∀ a' o', a' = a → o' = o → P) : P := k a o rfl rfl
theorem dict_pairs_N {l : Addr} {vs : List Value} {c : Nat} {kvs : List (Str × Value)} {nx : List (Addr × Obj)} (F : Fr g L s.heap m) (N : News g L s.heap all) (hbig : g.NoLimit) (hh : A.handled = none) (hl : (l, listOf vs.toArray c) ∈ all) (hp : PairsIn nx vs kvs) (hnx : ∀ p ∈ nx, p ∈ all) (hn : kvs.length ≤ 16777216) (hu : (kvs.map (·.1)).Nodup)
    (h : ∀ d o h' tk, Fr g L h' m → News g L h' ((d, o) :: all) → (d == sysModules) = false → o.IsDictOf (PySem.strKind prog w) kvs → Q (.ref d) { s with heap := h', toks := tk }) :
    wpAny (model prog w) A (call (.type "dict") [.ref l]) Q E s :=
  dict_pairs_K F N hbig hh hl hp hnx hn fun d o h' tk F' N' _ lo hd => h d o h' tk F' N' lo (by rwa [merged_nil_of_nodup _ hu] at hd)
theorem wHR24 : True := by (k_with "call type:dict" => (k_here; k_dflt (refine dict_pairs_N (by k_asm) (by k_asm) (Top.nolimit (by k_asm)) (Rm.hh (Rm.deeper (d := 15) (by assumption) _)) (by k_mem) (by assumption) (fun p hp => .tail _ hp) (by omega) (by assumption) ?_); intro d'₉ o'₉ h'₉ tk'₉ F'₉ N'₉ lo'₉ hd'₉)); trivial
theorem wHR25 : True := by (k_with "compareOp Eq ref ref" => (k_here; (refine' eq_due (by k_asm) (news_get (by k_asm) (by k_mem)) (news_get (by k_asm) (by k_mem)) (by assumption) (by assumption) (by assumption) (by assumption) (by assumption) (by assumption) (fun p hp => .tail _ (.tail _ hp)) (fun p hp => .tail _ (.tail _ hp)) (by assumption) (by assumption) (Rm.units64 (Rm.deeper (d := 15) (by assumption) _)) ?_))); trivial
theorem not4 {a b c d x : Addr} (h1 : @Ne Nat x a) (h2 : @Ne Nat x b) (h3 : @Ne Nat x c) (h4 : @Ne Nat x d) : x ∉ [a, b, c, d] := by
  simp only [List.mem_cons, List.not_mem_nil, or_false, not_or]; exact ⟨h1, h2, h3, h4⟩
set_option maxRecDepth 100000 in
set_option maxHeartbeats 4000000 in
theorem head_right_K (X : (Mine.hd.heap_1 w.params).In g) (T : TT mean mg mb g) (hR : Rm A 16) (F : Fr g L s.heap m) (N : News g L s.heap all) (U : UpdF pen po all u) (hpo : IsPen po)
  (hQ : ∀ h' tk' po', IsPen po' → Fr g L h' m → News g L h' (u po') → Q (.bool true) {s with heap := h', toks := tk'}) :
  wpAny (model prog w) A (call (.ref 373) [.ref pen]) Q E s := by
  have hmem : (pen, po) ∈ all := by obtain ⟨pre, post, rfl, _, _, _⟩ := U.split; exact List.mem_append_right _ (.head _)
  have hsub : ∀ p ∈ [(pen, po)], s.heap.get? p.1 = some p.2 ∧ g.get? p.1 = none := fun p hp' => by rw [List.mem_singleton.mp hp']; exact ⟨(N _ hmem).1, (N _ hmem).2.2⟩
  refine wpAny_call ?_
  refine' enterC (news := [(pen, po)]) X T F.keep hsub hR.room (by k_is) (by k_is) (by exact BindsTo.of_eq rfl) (by exact rfl) (by decide +kernel) (by exact rfl) (by exact rfl) (by exact rfl) ?_
  have fin : ∀ h' tk' po', KB pen s.heap h' → h'.get? pen = some po' → IsPen po' → Q (.bool true) {s with heap := h', toks := tk'} := by
    intro h' tk' po' kb hp' hpo'
    exact hQ h' tk' po' hpo' (fr_pen F N U kb) (news_pen N U kb hp')
  clear F N U hQ hmem hsub
  intro g L' h₁ tk cells hst hgs hgsub Xg Tg F' N' Y' hlt
  k_lt hlt
  k_cells Y'
  try simp only [List.cons_append, List.nil_append] at N'
  dsimp only
  try k_unmd
  k_fold
  k_steps
  rename Fr _ _ _ _ => F1
  rename News _ _ _ _ => N1
  rename IsPen _ => hpo1
  rename _ ≤ _ => hd0
  rename _ < (6 : Int) => hd1
  refine with_ref F1 (Str.ofString "head") rfl ?_
  intro hd eh
  refine with_ref F1 (Str.ofString "due") rfl ?_
  intro dd ed
  refine with_ref F1 (Str.ofString "keys") rfl ?_
  intro kd ek
  refine with_ref F1 (Str.ofString "names") rfl ?_
  intro nd en
  subst eh ed ek en
  have n1 : @Ne Nat hd dd := by k_ne
  have n2 : @Ne Nat hd (L' + 1) := by k_ne
  have n3 : @Ne Nat hd pen := by k_ne
  have n4 : @Ne Nat dd (L' + 1) := by k_ne
  have n5 : @Ne Nat dd pen := by k_ne
  have n6 : @Ne Nat (L' + 1) pen := by k_ne
  refine with_led N1 ?_
  intro led hled
  have hm := fun (p : Addr × Obj) (h : p ∈ _) => (hled ▸ h : p ∈ led)
  have N2 := hled ▸ N1
  have hro : ∀ (p : Addr × Obj), p ∈ led → p.1 ∉ [hd, dd, L' + 1, pen] → p ∈ OffL [hd, dd, L' + 1, pen] led := fun p h n => mem_offL h n
  obtain ⟨ko, kk, hkm, ik1, ik2, ik3⟩ : ∃ ko kk, (kd, ko) ∈ led ∧ ko.IsDictOf (PySem.strKind prog w) kk ∧ StrTab kk keysL ∧ (kd == sysModules) = false := ⟨_, _, hm _ (by k_mem), by assumption, by assumption, by assumption⟩
  obtain ⟨no, nk, hnm, in1, in2, in3⟩ : ∃ no nk, (nd, no) ∈ led ∧ no.IsDictOf (PySem.strKind prog w) nk ∧ StrTab nk namesL ∧ (nd == sysModules) = false := ⟨_, _, hm _ (by k_mem), by assumption, by assumption, by assumption⟩
  refine hr_loop (ko := ko) (no := no) (hd := hd) (dd := dd) (cc := L' + 1) (pen := pen) (kd := kd) (nd := nd) (led := led) (RO := OffL [hd, dd, L' + 1, pen] led) (n := _) (Rm.deeper (d := 15) hR _).hh (by assumption) (small_one (by omega) (by omega) (by omega) (by omega)) (rangeSize_nat _ _) F1 N2
    (List.forall_mem_cons.mpr ⟨hm _ (by k_mem), List.forall_mem_cons.mpr ⟨hm _ (by k_mem), List.forall_mem_cons.mpr ⟨hm _ (by k_mem), List.forall_mem_cons.mpr ⟨hm _ (by k_mem), fun p hp => (of_offL hp).1⟩⟩⟩⟩) ?H (by rfl) (by rfl) (by rfl) (by rfl) (by rfl) ?turn ?done
  case H =>
    exact ⟨by assumption, by assumption, hpo1, .nil, .nil, .nil, Nat.le_refl _, fun _ h => (nomatch h), ⟨_, by assumption⟩, hro _ hkm (not4 (by k_ne) (by k_ne) (by k_ne) (by k_ne)), hro _ hnm (not4 (by k_ne) (by k_ne) (by k_ne) (by k_ne)),
      fun p hp e => (of_offL hp).2 (by rw [e]; exact .head _), fun p hp e => (of_offL hp).2 (by rw [e]; exact .tail _ (.head _)), fun p hp e => (of_offL hp).2 (by rw [e]; exact .tail _ (.tail _ (.head _))), fun p hp e => (of_offL hp).2 (by rw [e]; exact .tail _ (.tail _ (.tail _ (.head _))))⟩
  case turn =>
    clear N1 N2 hm hro hled F1 hkm hnm hpo1
    repeat (rename ((_ : Nat) < _ ∧ _) => hz; clear hz)
    intro i v m₁ oh od oc po ks kvs dvs nx' h tk I oI hi H I1 I2 I3 I4 I5 F N
    have H0 := H
    obtain ⟨hO, dO, pn, hk, dk, un, len, ok, ⟨cv, cell⟩, kmem, nmem, a1, a2, a3, a4⟩ := H
    have hlk := hk.len
    have hlk2 : kvs.length ≤ 100 := by omega
    have hld := dk.len
    rw [List.length_map] at hld
    have hld2 : dvs.length ≤ 100 := by omega
    k_steps
    · rename Fr _ _ _ _ => Fz
      rename News _ _ _ _ => Nz
      rename IsPen _ => hpz
      exact hr_skip Fz Nz H0 hpz I1 I2 I3 I4 I5 rfl rfl rfl rfl rfl
    · rename Fr _ _ _ _ => Fz
      rename News _ _ _ _ => Nz
      rename IsPen _ => hpz
      rename Obj.IsDictOf (PySem.strKind _ _) _ (stored dvs _ _) => dz
      rename Obj.IsDictOf (PySem.strKind _ _) _ (stored kvs _ _) => hz
      rename Tree _ _ _ => tz
      rename ValIn _ _ _ _ => vz
      rename ValOk _ => okz
      rename _ ∈ menuK => mz
      rename (List.any _ _ = true) => hw
      rename (Option.isSome _ = false) => hno
      refine hr_put Fz Nz H0 hpz hno hz dz vz (menuK_ok _ mz) okz ?_ (off5 (by assumption) (by k_mem) (by k_mem) (by k_mem) (by k_mem) (by k_mem)) (off5 (by assumption) (by k_mem) (by k_mem) (by k_mem) (by k_mem) (by k_mem)) I1 I2 I3 I4 I5 rfl rfl rfl rfl rfl
      have hw' : isF (fullK _) = true := hw
      simp only [dueAt, heardAt, hw', if_true]
      exact tz
    · rename Fr _ _ _ _ => Fz
      rename News _ _ _ _ => Nz
      rename IsPen _ => hpz
      rename Obj.IsDictOf (PySem.strKind _ _) _ (stored dvs _ _) => dz
      rename Obj.IsDictOf (PySem.strKind _ _) _ (stored kvs _ _) => hz
      rename Tree _ _ _ => tz
      rename ValIn _ _ _ _ => vz
      rename ValOk _ => okz
      rename _ ∈ menuK => mz
      rename (List.any _ _ = false) => hw
      rename (Option.isSome _ = false) => hno
      refine hr_put Fz Nz H0 hpz hno hz dz vz (menuK_ok _ mz) okz ?_ (off5 (by assumption) (by k_mem) (by k_mem) (by k_mem) (by k_mem) (by k_mem)) (off5 (by assumption) (by k_mem) (by k_mem) (by k_mem) (by k_mem) (by k_mem)) I1 I2 I3 I4 I5 rfl rfl rfl rfl rfl
      have hw' : isF (fullK _) = false := hw
      simp only [dueAt, heardAt, hw', Bool.false_eq_true, if_false]
      exact tz
  case done =>
    clear N1 N2 hm hro hled F1 hkm hnm hpo1
    repeat (rename ((_ : Nat) < _ ∧ _) => hz; clear hz)
    intro m₁ oh od oc po ks kvs dvs nx' h tk H F N
    have H0 := H
    obtain ⟨hO, dO, pn, hk, dk, un, len, ok, ⟨cv, cell⟩, kmem, nmem, a1, a2, a3, a4⟩ := H
    have hlk := hk.len
    have hlk2 : kvs.length ≤ 50 := by omega
    have hlk3 : ks.length ≤ 50 := by omega
    k_steps
    rename Fr _ _ _ _ => F9
    rename News _ _ _ _ => N9
    rename HeadIn _ _ _ (ks.map heardAt) => fk
    rename (_, _) ∈ _ => fm
    refine with_mem fm ?_
    intro fd fo e1 e2
    subst e1 e2
    rename Obj.IsDictOf _ fo _ => fh
    have hfl := fk.len
    rw [List.length_map] at hfl
    refine with_led N9 ?_
    intro led hled
    have fm2 : (fd, fo) ∈ led := by rw [hled]; simp only [List.mem_cons, List.mem_append, fm, true_or, or_true]
    have fk2 : HeadIn w led _ _ := fk.mono fun p hp => by
      rw [hled]
      simp only [List.mem_cons, List.mem_append] at hp ⊢
      rcases hp with h | h | h <;> simp only [h, true_or, or_true]
    have hdd : (dd, od) ∈ led := by rw [hled]; exact .tail _ (.head _)
    have hpn : (pen, po) ∈ led := by rw [hled]; exact .tail _ (.tail _ (.tail _ (.head _)))
    have hsb : ∀ p ∈ nx', p ∈ led := fun p hp => by rw [hled]; simp only [List.mem_cons, List.mem_append, hp, true_or, or_true]
    obtain ⟨o2, hcell, ho2⟩ : ∃ o2 : Obj, (L' + 1, o2) ∈ led ∧ o2.data = .cell (some (.ref fd)) := ⟨_, by rw [hled]; exact .tail _ (.tail _ (.head _)), by assumption⟩
    refine SrcDict.intro (Rm.deeper (d := 15) hR _).hh (by assumption) F9 N9 (by rw [← hled]; exact fm2) fh (by rw [PySem.sizeLine_eq]; omega) ?_
    intro g8
    refine comp_inv (fun i ys nw => (∀ p ∈ led, p ∈ nw) ∧ ∃ ps, PairsIn nw ys ps ∧ DueIn nw ps ((ks.take i).map dueAt)) ⟨fun p hp => hled ▸ hp, [], .nil, .nil⟩ ?turn2 ?fin2
    case turn2 =>
      clear F9 N9 hled
      intro i8 v8 ys8 nw8 I8 oI8 C8 oC8 D8 m8 h8 tk8 E8 hi8 hP8 hinv hC8 hx8 F8 N8 off8 ne8
      obtain ⟨hl8, ps, hps, hdu⟩ := hinv
      obtain ⟨k8, y8, t8, hk8, rfl⟩ := hP8
      obtain ⟨d8, hd8, hv8⟩ := fk2.at hk8
      have hv9 := hv8.mono hl8
      have hva := valueAt_nodup (merged_nodup fh) hk8
      have fm8 := hl8 _ fm2
      have c8 := hl8 _ hcell
      clear fk fk2 hv8
      have off9 := off8
      rw [List.getElem?_map] at hd8
      obtain ⟨p8, hp8, ep8⟩ := Option.map_eq_some_iff.mp hd8
      have edu : dueAt p8 = (k8, d8.told) := by simp only [dueAt, ep8]
      k_steps
      rename Fr _ _ _ _ => Fz
      rename News _ _ _ _ => Nz
      rename News _ _ _ ((I8, oI8) :: _) => N1
      rename Apart _ _ => ap8
      rename Tree _ _ d8.told => tr8
      try k_unfold
      try dsimp only
      refine compEnd_one Fz Nz (Heap.lt_size (N1 _ (.head _)).1) (Heap.lt_size (N1 _ (.tail _ (.head _))).1) (Heap.lt_size (N1 _ (.tail _ (.tail _ (.head _)))).1) (LCg.Off3.of (all_app (LCg.Off3.mem off9) fun p hp => ⟨ap8 _ (.head _) p hp, ap8 _ (.tail _ (.head _)) p hp, ap8 _ (.tail _ (.tail _ (.head _))) p hp⟩)) (.tail _ (List.mem_append_left _ fm8))
        ⟨fun p hp => .tail _ (List.mem_append_left _ (hl8 p hp)), ps ++ [(k8, _)], PairsIn.snoc (hps.mono fun p hp => .tail _ (List.mem_append_left _ hp)) (.head _) ⟨rfl, _, _, rfl⟩, ?_⟩
      rw [List.take_add_one, hp8, List.map_append]
      show DueIn _ _ (_ ++ [dueAt p8])
      rw [edu]
      exact (hdu.mono fun p hp => .tail _ (List.mem_append_left _ hp)).snoc (tr8.mono fun p hp => .tail _ (List.mem_append_right _ hp))
    case fin2 =>
      clear F9 N9 hled
      intro ys8 nw8 hinv
      obtain ⟨hl8, ps, hps, hdu⟩ := hinv
      intro D8 h8 tk8 F8 N8 off8
      rw [hfl, List.take_length] at hdu
      have hpk : (ps.map (·.1)).Nodup := by rw [hdu.keys, due_keys]; exact un
      have hpl : ps.length ≤ 50 := by rw [hdu.len, List.length_map]; exact hlk3
      have dk2 := dk.mono fun p hp => hl8 _ (hsb p hp)
      have hdd8 := hl8 _ hdd
      have hpn8 := hl8 _ hpn
      k_steps
      rename Fr _ _ _ _ => Fz
      rename News _ _ _ _ => Nz
      exact fin _ _ _ (kb_of hgsub Fz) (Nz (pen, po) (.tail _ (.tail _ hpn8))).1 pn
end
theorem wLN0 : True := by k_with_none; w_top off; (k_with "k_ne" => (refine neN ?_; (try dsimp only); first | with_reducible assumption | with_reducible exact Ne.symm (by assumption) | fail)); trivial
/-! _law_pen -/
theorem ints_item {vs : List Value} {ns : List Int} (h : IntsAre vs ns) : ∀ {i : Nat} {v : Value}, vs[i]? = some v → ∃ c t, v = .int c t := by
  induction h with
  | nil => intro i v e; simp at e
  | cons x t _ ih =>
    intro i v e
    cases i with
    | zero => simp only [List.getElem?_cons_zero, Option.some.injEq] at e; subst e; exact ⟨_, _, rfl⟩
    | succ i => simp only [List.getElem?_cons_succ] at e; exact ih e
structure NJ (ax : Addr) (oL : Obj) (_i : Nat) (m : Str → Option Value) (nw : List (Addr × Obj)) : Prop where
  led : nw = [(ax, oL)]
  num : ∃ n t, m (Str.ofString "number") = some (.int n t) ∧ 0 ≤ n
section
variable {prog : Program} {w : World} {mean : ExcName → Option Value} {mg mb : Str → Option Value} {A : Around} {s : Shared} {h₀ g : Heap} {L : Addr} {m : Str → Option Value} {nx all : List (Addr × Obj)} {Q E : Value → Shared → Prop}
theorem For_any {env : Env} {target : Expr} {body : List Stmt} {Q : Flow → Shared → Prop} {pos : Pos} {iter : Expr} (F : Fr g env.locals s.heap m)
    (h : wpAny (model prog w) A (eval iter env) (fun xv s₁ => wpAny (model prog w) A (pyIter xv) (fun it s₂ => TurnsAt prog w A g env target body Q (fun _ _ => False) it s₂) (fun _ _ => False) s₁) (fun _ _ => False) s)
    (hs : ∀ x, foldedSetIterable iter env x = pure x := by intro _; rfl) :
    wpAny (model prog w) A (exec (.For target iter body [] pos) env) Q (fun _ _ => False) s := For_turns F h hs PassesOwn.never
theorem wLN1 : True := by (k_with "exec For" => (k_here; (with_reducible show wpAny _ _ (exec (Stmt.For _ _ _ [] _) _) _ _ _); (rename Fr _ _ _ _ => F'₉); with_unfolding_all refine For_any F'₉ ?_)); trivial
set_option maxRecDepth 100000 in
set_option maxHeartbeats 2000000 in
theorem law_pen_K {l : Addr} {vs : List Value} {ns : List Int} (X : (Mine.hd.heap_1 w.params).In h₀) (T : TT mean mg mb h₀) (hR : Rm A 4) (hs : h₀.StaysIn s.heap) (hl : h₀.IsList l vs.toArray) (hi : IntsAre vs ns) (hn : ns.length ≤ 63)
  (hQ : ∀ pen po h' tk', s.heap.StaysIn h' → Made s.heap h' [(pen, po)] → IsPen po → Q (.ref pen) {s with heap := h', toks := tk'}) :
  wpAny (model prog w) A (call (.ref 329) [.ref l]) Q E s := by
  refine wpAny_call ?_
  refine' enter (news := []) X T hs (fun _ h => nomatch h) hR.room (by k_is) (by k_is) (by exact BindsTo.of_eq rfl) (by exact locs rfl) (by exact rfl) (by exact rfl) (by exact rfl) (by decide) ?_
  intro g L' h₁ hst hgs hgsub Xg Tg F' N' hlt
  have hg : g.IsList l vs.toArray := hl.at fun o e => hst _ _ e
  clear hlt
  dsimp only
  try k_unmd
  k_fold
  k_steps
  rename Fr _ _ _ _ => F9; rename News _ _ _ _ => N9
  rename IntsAre _ (List.take 63 ns) => hI
  refine for_turns (NJ _ _) (Rm.deeper (d := 3) hR _).hh F9 N9 (.head _) ⟨rfl, 53, _, rfl, by decide⟩ (fun i m nw j => by rw [j.led]; exact .head _) ?turn ?done
  case turn =>
    clear F9 N9
    intro i v m₁ nw h tk I oI hi' hv hJ off F N
    obtain ⟨rfl, n, t, e, hn0⟩ := hJ
    obtain ⟨c, u, rfl⟩ := ints_item hI hv
    simp only [List.mem_cons, List.not_mem_nil, or_false, forall_eq] at off
    rw [map_again e] at F
    k_steps
    rename Fr _ _ _ _ => Fz; rename News _ _ _ _ => Nz
    exact LPost.next Fz Nz [(_, _)] (fun p hp => hp) (List.forall_mem_cons.mpr ⟨off, fun _ h => nomatch h⟩) ⟨rfl, _, _, rfl, by split <;> split <;> omega⟩
  case done =>
    clear F9 N9
    intro m₁ nw h tk hJ F N
    obtain ⟨rfl, n, t, e, hn0⟩ := hJ
    rw [map_again e] at F
    k_steps
    rename Fr _ _ _ _ => Fz; rename News _ _ _ _ => Nz
    exact hQ _ _ _ _ (stays_led hgsub (fun _ h => nomatch h) Fz Nz (fun _ h => nomatch h)) (made_of hgsub Nz _ (List.forall_mem_cons.mpr ⟨.head _, fun _ h => nomatch h⟩) (fun _ _ _ h => nomatch h)) ⟨_, _, _, _, _, rfl, hn0, Int.le_refl _⟩
end
theorem wLF0 : True := by k_with_none; w_top off; (k_with "k_ne" => (refine neN ?_; (try dsimp only); first | with_reducible assumption | with_reducible exact Ne.symm (by assumption) | fail)); trivial
/-! the law's own frame -/
section
variable {prog : Program} {w : World} {mean : ExcName → Option Value} {mg mb : Str → Option Value} {A : Around} {s : Shared} {h₀ g : Heap} {L pen : Addr} {po : Obj} {m : Str → Option Value} {u : Obj → List (Addr × Obj)} {nx n1 n2 all : List (Addr × Obj)} {Q E : Value → Shared → Prop}
theorem lists_eq {l b : Addr} {vs ws : List Value} {ss : List Str} (hl : s.heap.IsList l vs.toArray) (hb : s.heap.IsList b ws.toArray) (h1 : StrsAre vs ss) (h2 : StrsAre ws ss) (hu : A.units < cLine) : SeqAt.EqAt A s (.ref l) (.ref b) true := by
  by_cases e : l = b
  · subst e; exact SeqAt.EqAt.same _
  · have e1 := StrsAre.length h1
    have e2 := StrsAre.length h2
    have z := SeqAt.RcAt.lists (A := A) (e := fun _ => true) hl hb (by simp only [List.size_toArray]; omega) hu (fun j j1 j2 => by
      have j1' : j < vs.length := by simpa using j1
      have j2' : j < ws.length := by simpa using j2
      obtain ⟨x, t, hx, sx⟩ := strs_item h1 (List.getElem?_eq_getElem j1')
      obtain ⟨y, t', hy, sy⟩ := strs_item h2 (List.getElem?_eq_getElem j2')
      rw [sx] at sy
      cases sy
      have r1 : vs.toArray[j] = .str x t := by simpa using hx
      have r2 : ws.toArray[j] = .str x t' := by simpa using hy
      rw [r1, r2]
      have := SeqAt.EqAt.str_str (A := A.in1) (s := s) x t x t'
      rwa [beq_self_eq_true] at this)
    have e3 : ((List.range vs.toArray.size).all fun _ => true) = true := by simp
    rw [e3] at z
    exact SeqAt.EqAt.of_refs e z
theorem hits_of {kb : List (Str × Value)} : ∀ {ka : List (Str × Value)}, (∀ p ∈ ka, ∃ y, valueAt kb p.1 = some y ∧ SeqAt.EqAt A s p.2 y true) → KeqHits A s kb ka true
  | [], _ => .nil
  | (k, v) :: r, h => by
    obtain ⟨y, hy, he⟩ := h (k, v) (.head _)
    exact KeqHits.hit (e := true) (b := true) hy he (hits_of fun p hp => h p (.tail _ hp))
theorem some_key {kvs : List (Str × Value)} {k : Str} : (valueAt kvs k).isSome = true ↔ k ∈ kvs.map (·.1) := by
  constructor
  · intro h
    rcases Decidable.em (k ∈ kvs.map (·.1)) with q | q
    · exact q
    · exfalso
      unfold valueAt at h
      have : kvs.find? (fun kv => decide (kv.1 = k)) = none := List.find?_eq_none.mpr fun p hp => by
        simp only [decide_eq_true_eq]
        intro e
        exact q (List.mem_map.mpr ⟨p, hp, e⟩)
      rw [this] at h
      cases h
  · intro h
    cases e : (valueAt kvs k).isSome with
    | true => rfl
    | false => exact absurd h (valueAt_none e)
theorem ne_found {a b : Addr} {oa ob : Obj} {ka kb : List (Str × Value)} {U : Str → Str → Prop} (N : News g L s.heap all) (ma : (a, oa) ∈ all) (mb : (b, ob) ∈ all) (da : oa.IsDictOf (PySem.strKind prog w) ka) (db : ob.IsDictOf (PySem.strKind prog w) kb) (la : (a == sysModules) = false) (lb : (b == sysModules) = false)
    (f1 : FoundIn n1 ka U) (f2 : FoundIn n2 kb U) (s1 : ∀ p ∈ n1, p ∈ all) (s2 : ∀ p ∈ n2, p ∈ all) (hu : A.units + 64 < cLine) (h : Q (.bool false) s) : wpAny (model prog w) A (compareOp .NotEq (.ref a) (.ref b)) Q E s := by
  have ua := merged_nodup da
  have ub := merged_nodup db
  have hk : ∀ k, k ∈ ka.map (·.1) ↔ k ∈ kb.map (·.1) := fun k => by rw [← some_key, ← some_key, f1.key, f2.key]
  have hl : ka.length = kb.length := by
    have a1 := nodup_len ua fun k hk' => (hk k).mp hk'
    have a2 := nodup_len ub fun k hk' => (hk k).mpr hk'
    simp only [List.length_map] at a1 a2
    omega
  refine keq_ne (r := true) la lb (kda_dict N ma da) (kda_dict N mb db) (by omega) (fun _ => hits_of fun p hp => ?_) (by simpa [hl] using h)
  obtain ⟨i, hi⟩ := List.mem_iff_getElem?.mp hp
  have hva := valueAt_nodup ua (k := p.1) (v := p.2) hi
  obtain ⟨l1, vs, c1, ss, e1, m1, t1, u1, r1, i1⟩ := f1.item _ _ hva
  have hkb : (valueAt kb p.1).isSome = true := some_key.mpr ((hk _).mp (List.mem_map.mpr ⟨p, hp, rfl⟩))
  obtain ⟨y, hy⟩ := Option.isSome_iff_exists.mp hkb
  obtain ⟨l2, ws, c2, ss2, e2, m2, t2, u2, r2, i2⟩ := f2.item _ _ hy
  have es : ss = ss2 := risen_eq r1 r2 u1 u2 fun t => by rw [i1, i2]
  subst es
  refine ⟨y, hy, ?_⟩
  rw [e1, e2]
  exact lists_eq (News.isList N (s1 _ m1)) (News.isList N (s2 _ m2)) t1 t2 (by have := units_in1 A; omega)
theorem OpIn.at {nx : List (Addr × Obj)} {vs : List Value} {ds : List Op} (h : OpsAll prog w nx vs ds) {v : Value} {d : Op} (k : OpIn prog w nx v d) : OpsAll prog w nx (vs ++ [v]) (ds ++ [d]) := by
  induction h with
  | nil => exact .cons k .nil
  | cons a _ ih => exact .cons a ih
theorem OpsAll.mono {nx nx' : List (Addr × Obj)} (hs : ∀ p ∈ nx, p ∈ nx') {vs ds} (h : OpsAll prog w nx vs ds) : OpsAll prog w nx' vs ds := by
  induction h with
  | nil => exact .nil
  | cons a _ ih => exact .cons (a.mono hs) ih
theorem law_pen_F {l : Addr} {vs : List Value} {ns : List Int} (X : (Mine.hd.heap_1 w.params).In g) (T : TT mean mg mb g) (hR : Rm A 4) (F : Fr g L s.heap m) (N : News g L s.heap all) (hl : g.IsList l vs.toArray) (hi : IntsAre vs ns) (hn : ns.length ≤ 63)
  (hQ : ∀ pen po h' tk', Fr g L h' m → News g L h' ((pen, po) :: all) → (∀ p ∈ all, @Ne Nat pen p.1) → IsPen po → Q (.ref pen) {s with heap := h', toks := tk'}) :
  wpAny (model prog w) A (call (.ref 329) [.ref l]) Q E s :=
  law_pen_K X T hR F.keep hl hi hn fun pen po h' tk' hst md hp => hQ pen po h' tk' (fr_stays F hst) (made_news F hst N md) (fun p hp => made_off N md p hp _ (.head _)) hp
theorem operation_F (X : (Mine.hd.heap_1 w.params).In g) (T : TT mean mg mb g) (hR : Rm A 8) (F : Fr g L s.heap m) (N : News g L s.heap all) (U : UpdF pen po all u) (hpo : IsPen po)
  (hQ : ∀ v op nx h' tk' po', IsPen po' → Fr g L h' m → News g L h' (u po' ++ nx) → Apart nx (u po') → OpIn prog w nx v op → Q v {s with heap := h', toks := tk'}) :
  wpAny (model prog w) A (call (.ref 348) [.ref pen]) Q E s :=
  operation_K X T hR F N U hpo fun v op nx h' tk' po' hp F' N' ap ho => hQ v op nx h' tk' po' hp F' (news_swap N') ap ho
theorem used_F {l : Addr} {vs : List Value} {ops : List Op} {c : Nat} (X : (Mine.hd.heap_1 w.params).In g) (T : TT mean mg mb g) (hR : Rm A 8) (F : Fr g L s.heap m) (N : News g L s.heap all) (hl : (l, listOf vs.toArray c) ∈ all) (ho : OpsAll prog w nx vs ops) (hs : ∀ p ∈ nx, p ∈ all) (h64 : vs.length < 60)
  (hQ : ∀ fd fo kvs nx' h' tk', Fr g L h' m → News g L h' (all ++ nx') → Apart nx' all → (fd, fo) ∈ nx' → (fd == sysModules) = false → fo.IsDictOf (PySem.strKind prog w) kvs → FoundIn nx' kvs (Used ops) → Q (.ref fd) {s with heap := h', toks := tk'}) :
  wpAny (model prog w) A (call (.ref 296) [.ref l]) Q E s :=
  used_names_K X T hR F.keep (fun p hp => (N p hp).1) hl (ho.mono hs) h64 fun fd fo kvs nx' h' tk' hst md a b c d => hQ fd fo kvs nx' h' tk' (fr_stays F hst) (news_swap (made_news F hst N md)) (made_off N md) a b c d
theorem lawused_F {l : Addr} {vs : List Value} {ops : List Op} {c : Nat} (X : (Mine.hd.heap_1 w.params).In g) (T : TT mean mg mb g) (hR : Rm A 8) (F : Fr g L s.heap m) (N : News g L s.heap all) (hl : (l, listOf vs.toArray c) ∈ all) (ho : OpsAll prog w nx vs ops) (hs : ∀ p ∈ nx, p ∈ all) (h64 : vs.length < 60)
  (hQ : ∀ fd fo kvs nx' h' tk', Fr g L h' m → News g L h' (all ++ nx') → Apart nx' all → (fd, fo) ∈ nx' → (fd == sysModules) = false → fo.IsDictOf (PySem.strKind prog w) kvs → FoundIn nx' kvs (Used ops) → Q (.ref fd) {s with heap := h', toks := tk'}) :
  wpAny (model prog w) A (call (.ref 353) [.ref l]) Q E s :=
  law_used_K X T hR F.keep (fun p hp => (N p hp).1) hl (ho.mono hs) h64 fun fd fo kvs nx' h' tk' hst md a b c d => hQ fd fo kvs nx' h' tk' (fr_stays F hst) (news_swap (made_news F hst N md)) (made_off N md) a b c d
/-- the law's loop between its turns -/
structure WJ (pen cc : Addr) (oc : Obj) (_i : Nat) (_m : Str → Option Value) (nw : List (Addr × Obj)) : Prop where
  out : ∃ po, nw = [(cc, oc), (pen, po)] ∧ IsPen po
/-- the end of a turn of the law's loop -/
inductive LEnd (g : Heap) (L : Addr) (s : Shared) (I : Addr) (oI : Obj) (cc : Addr) (oc : Obj) (pen : Addr) : Flow → Shared → Prop
  | next {h' : Heap} {tk' : Nat} {m' : Str → Option Value} {po' : Obj} : Fr g L h' m' → News g L h' [(I, oI), (cc, oc), (pen, po')] → IsPen po' → LEnd g L s I oI cc oc pen .next { s with heap := h', toks := tk' }
theorem law_loop {env : Env} {body : List Stmt} {Q : Flow → Shared → Prop} {E : Value → Shared → Prop} {cc r : Addr} {oc : Obj} {n : Nat} {b₀ : Int} {t₀ u₀ v₀ : Tok} {led : List (Addr × Obj)}
    (hh : A.handled = none) (hr : IsRange s.heap r 0 b₀ 1 t₀ u₀ v₀) (hsm : Builtin.Range.small 0 b₀ 1 = true) (hn : Builtin.Range.rangeSize 0 b₀ 1 = (n : Int)) (F : Fr g env.locals s.heap m) (N : News g env.locals s.heap led)
    (hs : ∀ p ∈ [(cc, oc), (pen, po)], p ∈ led) (hpo : IsPen po)
    (turn : ∀ v (m₁ : Str → Option Value) po h tk I oI, IsPen po → @Ne Nat cc I → @Ne Nat pen I →
      Fr g env.locals h (fun y => if y = Str.ofString "turn" then some v else m₁ y) →
      News g env.locals h [(I, oI), (cc, oc), (pen, po)] →
      wpAny (model prog w) A (execs body env) (LEnd g env.locals s I oI cc oc pen) E { s with heap := h, toks := tk })
    (done : ∀ (m₁ : Str → Option Value) po h tk, Fr g env.locals h m₁ → News g env.locals h [(cc, oc), (pen, po)] → Q .next { s with heap := h, toks := tk }) :
    wpAny (model prog w) A (pyIter (.ref r)) (fun it s₂ => LoopAtV prog w A g env (Str.ofString "turn") body Q E it s₂) E s := by
  have N0 : News g env.locals s.heap [(cc, oc), (pen, po)] := fun p hp => N p (hs p hp)
  refine for_range (WJ pen cc oc) hh hr hsm hn F N0 ⟨po, rfl, hpo⟩ ?_ ?_
  · rintro i v m₁ nw h tk I oI hi ⟨po, rfl, hp⟩ off _ F₁ N₁
    simp only [List.mem_cons, List.not_mem_nil, or_false, forall_eq_or_imp, forall_eq] at off
    refine wpAny_mono (turn v m₁ po h tk I oI hp off.1 off.2 F₁ N₁) (fun fl s₂ hq => ?_) fun _ _ e => e
    obtain ⟨F', N', hp'⟩ := hq
    exact ⟨_, _, _, _, rfl, F', N', List.forall_mem_cons.mpr ⟨off.1, List.forall_mem_cons.mpr ⟨off.2, fun _ h => nomatch h⟩⟩, _, rfl, hp'⟩
  · rintro m₁ nw h tk ⟨po, rfl, hp⟩ F₁ N₁
    exact done m₁ po h tk F₁ N₁
/-- the walk halts here -/
def Stop (P : Prop) : Prop := P
theorem comp_stop {P : Prop} (h : Stop P) : P := h
theorem For_stop {env : Env} {x : Str} {body : List Stmt} {Q : Flow → Shared → Prop} {px pos : Pos} {iter : Expr} {m : Str → Option Value} {g : Heap} (F : Fr g env.locals s.heap m) (hx : env.kindOf x = some .local)
    (hp : (env.scope.kind == .class || (env.scope.kind == .module && env.locals != env.globals)) = false)
    (h : wpAny (model prog w) A (eval iter env) (fun xv s₁ => Stop (wpAny (model prog w) A (pyIter xv) (fun it s₂ => LoopAtV prog w A g env x body Q (fun _ _ => False) it s₂) (fun _ _ => False) s₁)) (fun _ _ => False) s)
    (hs : ∀ x, foldedSetIterable iter env x = pure x := by intro _; rfl) :
    wpAny (model prog w) A (exec (.For (.Name x px) iter body [] pos) env) Q (fun _ _ => False) s := For_my F hx hp h hs
/-- the law's comprehension between its turns -/
structure OJ (prog : Program) (w : World) (I0 cc pen : Addr) (oI0 oc : Obj) (i : Nat) (ys : List Value) (nw : List (Addr × Obj)) : Prop where
  out : ∃ po nx ops, IsPen po ∧ nw = (I0, oI0) :: (cc, oc) :: (pen, po) :: nx ∧ OpsAll prog w nx ys ops ∧ ys.length = i ∧ ∀ p ∈ nx, p.1 ≠ pen
open PyProof.Rows.LCg in
theorem comp_ops {env : Env} {elt : Expr} {x : Str} {scope : Scope} {cl : List (Str × Addr)} {S : List (Addr × Obj) → Prop} {P : Nat → Value → Prop} {Fin : List Value → List (Addr × Obj) → Prop} {n : Nat} {I0 cc : Addr} {oI0 oc : Obj} (hpo : IsPen po)
    (turn : ∀ i v ys po nx ops I oI C oC D m₂ h tk (E' : Value → Shared → Prop), IsPen po → OpsAll prog w nx ys ops → ys.length = i → (∀ p ∈ nx, p.1 ≠ pen) → NsObj oC m₂ → m₂ x = some v → Fr g L h m → News g L h ((I, oI) :: (C, oC) :: (D, lst ys) :: (I0, oI0) :: (cc, oc) :: (pen, po) :: nx) → Off3 I C D ((I0, oI0) :: (cc, oc) :: (pen, po) :: nx) → ((@Ne Nat I C) ∧ (@Ne Nat I D) ∧ (@Ne Nat C D)) →
      wpAny (model prog w) A (eval elt (compEnvC scope cl C env)) (CompEnd g L m { s with heap := h, toks := tk } I oI C oC D (lst ys) S (fun y nw' => OJ prog w I0 cc pen oI0 oc (i + 1) (ys ++ [y]) nw')) E' { s with heap := h, toks := tk })
    (fin : ∀ ys po nx ops, IsPen po → OpsAll prog w nx ys ops → ys.length = n → (∀ p ∈ nx, p.1 ≠ pen) → Fin ys ((I0, oI0) :: (cc, oc) :: (pen, po) :: nx)) : CompRest prog w A g L m env elt x scope cl s S P Fin n 0 [] [(I0, oI0), (cc, oc), (pen, po)] := by
  refine comp_inv (fun i ys nw => OJ prog w I0 cc pen oI0 oc i ys nw) ⟨po, [], [], hpo, rfl, .nil, rfl, fun _ h => nomatch h⟩ ?_ ?_
  · rintro i v ys nw I oI C oC D m₂ h tk E' hi hP ⟨po, nx, ops, hp, rfl, ho, hl, hd⟩ hC hx F N off ne
    exact turn i v ys po nx ops I oI C oC D m₂ h tk E' hp ho hl hd hC hx F N off ne
  · rintro ys nw ⟨po, nx, ops, hp, rfl, ho, hl, hd⟩
    exact fin ys po nx ops hp ho hl hd
theorem ops_end {I C D I0 cc pen : Addr} {oI oC oI0 oc po8 po9 : Obj} {ys : List Value} {nx nx' : List (Addr × Obj)} {ops : List Op} {op : Op} {v : Value} {i tk : Nat} {h' : Heap} {s₁ : Shared}
    (F : Fr g L h' m) (N : News g L h' (((I, oI) :: (C, oC) :: (D, LCg.lst ys) :: (I0, oI0) :: (cc, oc) :: (pen, po9) :: nx) ++ nx')) (ap : Apart nx' ((I, oI) :: (C, oC) :: (D, LCg.lst ys) :: (I0, oI0) :: (cc, oc) :: (pen, po9) :: nx))
    (off : LCg.Off3 I C D ((I0, oI0) :: (cc, oc) :: (pen, po8) :: nx)) (hp : IsPen po9) (ho : OpsAll prog w nx ys ops) (hop : OpIn prog w nx' v op) (hd : ∀ p ∈ nx, p.1 ≠ pen) (hl : ys.length = i) :
    LCg.CompEnd g L m s₁ I oI C oC D (LCg.lst ys) (fun _ => True) (fun y nw' => OJ prog w I0 cc pen oI0 oc (i + 1) (ys ++ [y]) nw') v { s₁ with heap := h', toks := tk } := by
  have z := LCg.Off3.mem off
  refine LCg.CompEnd.intro F N ((I0, oI0) :: (cc, oc) :: (pen, po9) :: (nx ++ nx')) (fun p hp => by simpa only [List.cons_append] using hp) (LCg.Off3.of ?_) trivial
    ⟨po9, nx ++ nx', ops ++ [op], hp, rfl, OpIn.at (ho.mono fun p hp => List.mem_append_left _ hp) (hop.mono fun p hp => List.mem_append_right _ hp), by simp [hl], all_app hd fun p hp => ap _ (.tail _ (.tail _ (.tail _ (.tail _ (.tail _ (.head _)))))) p hp⟩
  have z' : ∀ p ∈ nx ++ nx', p.1 ≠ I ∧ p.1 ≠ C ∧ p.1 ≠ D := all_app (fun p hp => z p (.tail _ (.tail _ (.tail _ hp)))) fun p hp => ⟨ap _ (.head _) p hp, ap _ (.tail _ (.head _)) p hp, ap _ (.tail _ (.tail _ (.head _))) p hp⟩
  exact List.forall_mem_cons.mpr ⟨z _ (.head _), List.forall_mem_cons.mpr ⟨z _ (.tail _ (.head _)), List.forall_mem_cons.mpr ⟨z (pen, po8) (.tail _ (.tail _ (.head _))), z'⟩⟩⟩
theorem head_right_F {I cc : Addr} {oI oc : Obj} (X : (Mine.hd.heap_1 w.params).In g) (T : TT mean mg mb g) (hR : Rm A 16) (F : Fr g L s.heap m) (N : News g L s.heap all) (hs : ∀ p ∈ [(I, oI), (cc, oc), (pen, po)], p ∈ all) (n1 : @Ne Nat I pen) (n2 : @Ne Nat cc pen) (hpo : IsPen po)
  (hQ : ∀ h' tk' po', IsPen po' → Fr g L h' m → News g L h' [(I, oI), (cc, oc), (pen, po')] → Q (.bool true) {s with heap := h', toks := tk'}) :
  wpAny (model prog w) A (call (.ref 373) [.ref pen]) Q E s :=
  head_right_K X T hR F (fun p hp => N p (hs p hp)) (.tail n1 (.tail n2 (.head fun _ h => nomatch h))) hpo hQ
end
end Mine
theorem Mine.wZZ0 : True := by k_with_none; w_top off; (k_with "k_ne" => (refine neN ?_; (try dsimp only); first | with_reducible assumption | with_reducible exact Ne.symm (by assumption) | fail)); trivial
open Mine
theorem Mine.rm_caller {env : Env} : Mine.Rm (callerA.deeper env) 24 := ⟨rfl, by rw [depth_deeper]; decide, by rw [units_deeper]; decide⟩
theorem Mine.wZZ1 : True := by (k_with "call ref" => (k_here; (with_reducible show wpAny _ _ (call (Value.ref 329) [Value.ref _]) _ _ _); (refine' law_pen_F (by k_asm) (by assumption) (Rm.mono rm_caller (by decide)) (by k_asm) (by k_asm) (by assumption) (by assumption) (by omega) ?_); intro pen'₉ po'₉ h'₉ tk'₉ F'₉ N'₉ l1₉ hpo'₉; (simp only [List.forall_mem_cons, List.not_mem_nil, false_implies, implies_true, and_true] at l1₉))); trivial
theorem Mine.wZZ2 : True := by (k_with "exec For Name Call cons nil" => (k_here; (with_reducible show wpAny _ _ (exec (Stmt.For (Expr.Name _ _) _ _ [] _) _) _ _ _); (rename Fr _ _ _ _ => F'₉); with_unfolding_all refine For_stop F'₉ (by rfl) (by rfl) ?_)); trivial
theorem Mine.wZZ3 : True := by (k_with "call ref" => (k_here; (with_reducible show wpAny _ _ (call (Value.ref 336) [Value.ref _, Value.int _ _]) _ _ _); (refine' draw_K (by k_asm) (by k_asm) (by exact Rm.mono rm_caller (by decide)) (by k_asm) (by k_asm) (by k_updF) (by assumption) (by decide) (by decide) ?_); intro d'₉ td'₉ h'₉ tk'₉ po'₉ hpo'₉ F'₉ N'₉ h0'₉ h1'₉; (try k_sweep); (try dsimp only))); trivial
theorem Mine.wZZ4 : True := by (k_with "call ref" => (k_here; (with_reducible show wpAny _ _ (call (Value.ref 348) [Value.ref _]) _ _ _); (refine' operation_F (by k_asm) (by k_asm) (by exact Rm.mono rm_caller (by decide)) (by k_asm) (by k_asm) (by k_updF) (by assumption) ?_); intro v'₉ op'₉ nx'₉ h'₉ tk'₉ po'₉ hpo'₉ F'₉ N'₉ ap'₉ hop'₉; (try dsimp only at N'₉ ap'₉))); trivial
theorem Mine.wZZ5 : True := by (k_with "call ref" => (k_here; (with_reducible show wpAny _ _ (call (Value.ref 296) [Value.ref _]) _ _ _); (refine' used_F (by k_asm) (by k_asm) (by exact Rm.mono rm_caller (by decide)) (by k_asm) (by k_asm) (by with_unfolding_all exact List.Mem.head _) (by assumption) (by with_unfolding_all exact fun p hp => .tail _ (.tail _ (.tail _ (.tail _ hp)))) (by omega) ?_); intro fd'₉ fo'₉ kvs'₉ nx'₉ h'₉ tk'₉ F'₉ N'₉ ap'₉ hm'₉ ls'₉ hd'₉ hf'₉)); trivial
theorem Mine.wZZ6 : True := by (k_with "call ref" => (k_here; (with_reducible show wpAny _ _ (call (Value.ref 353) [Value.ref _]) _ _ _); (refine' lawused_F (by k_asm) (by k_asm) (by exact Rm.mono rm_caller (by decide)) (by k_asm) (by k_asm) (by with_unfolding_all exact List.mem_append_left _ (List.Mem.head _)) (by assumption) (by with_unfolding_all exact fun p hp => List.mem_append_left _ (.tail _ (.tail _ (.tail _ (.tail _ hp))))) (by omega) ?_); intro fd'₉ fo'₉ kvs'₉ nx'₉ h'₉ tk'₉ F'₉ N'₉ ap'₉ hm'₉ ls'₉ hd'₉ hf'₉)); trivial
theorem Mine.wZZ7 : True := by (k_with "call ref" => (k_here; (with_reducible show wpAny _ _ (call (Value.ref 373) [Value.ref _]) _ _ _); (refine' head_right_F (by k_asm) (by k_asm) (by exact Rm.mono rm_caller (by decide)) (by k_asm) (by k_asm) (by with_unfolding_all exact List.forall_mem_cons.mpr ⟨List.mem_append_left _ (List.mem_append_left _ (.tail _ (.head _))), List.forall_mem_cons.mpr ⟨List.mem_append_left _ (List.mem_append_left _ (.tail _ (.tail _ (.head _)))), List.forall_mem_cons.mpr ⟨List.mem_append_left _ (List.mem_append_left _ (.tail _ (.tail _ (.tail _ (.head _))))), fun _ h => nomatch h⟩⟩⟩) (by k_ne) (by k_ne) (by assumption) ?_); intro h'₉ tk'₉ po'₉ hpo'₉ F'₉ N'₉)); trivial
theorem Mine.wZZ8 : True := by (k_with "compareOp NotEq" => (k_here; (refine' ne_found (by k_asm) (by with_unfolding_all exact List.mem_append_left _ (List.mem_append_right _ (by assumption))) (by with_unfolding_all exact List.mem_append_right _ (by assumption)) (by assumption) (by assumption) (by assumption) (by assumption) (by assumption) (by assumption) (by with_unfolding_all exact fun p hp => List.mem_append_left _ (List.mem_append_right _ hp)) (by with_unfolding_all exact fun p hp => List.mem_append_right _ hp) rm_caller.units64 ?_))); trivial
theorem Mine.wZZ9 : True := by (k_with "k_all" => (assumption)); trivial
theorem Mine.wZZ10 : True := by (k_with "CompEnd" => (k_here; refine comp_stop ?_)); trivial
theorem Mine.wZZ11 : True := by (k_with "CompSrc" => (k_here; refine comp_stop ?_)); trivial
set_option maxRecDepth 100000 in
set_option maxHeartbeats 8000000 in
theorem PySem.Challenge.cw_nn0208_01_holds : PySem.Challenge.rw_nn0208_01.Holds :=
  Mine.hd (by
  k_go0
  refine wpAny_mono (E := fun _ _ => False) ?_ (fun _ _ h => h) (fun _ _ h => h.elim)
  dsimp only
  try k_unmd
  k_fold
  k_steps
  rename Fr _ _ _ _ => F1
  rename News _ _ _ _ => N1
  rename IsPen _ => hpo1
  rename IsRange _ _ _ _ _ _ _ _ => hr1
  refine law_loop (cc := _) (oc := _) (b₀ := 4) (n := 4) rm_caller.hh hr1 (by rfl) (by rfl) F1 N1 (List.forall_mem_cons.mpr ⟨.tail _ (.head _), List.forall_mem_cons.mpr ⟨.head _, fun _ h => nomatch h⟩⟩) hpo1 ?turn ?done
  case turn =>
    intro v m₁ po h tk I oI hp o1 o2 F N
    clear F1 N1 hr1 hpo1
    k_steps
    rename (0 : Int) ≤ _ => hd0
    rename _ < (9 : Int) => hd1
    refine LCg.CompSrc.range rm_caller.hh (by k_asm) (by k_asm) (by assumption) (small_one (by omega) (by omega) (by omega) (by omega)) (rangeSize_nat _ _) (by rw [PySem.sizeLine_eq]; omega) ?_
    intro g9
    refine comp_ops (by assumption) ?turn2 ?fin2
    case turn2 =>
      intro i8 v8 ys8 po8 nx8 ops8 I8 oI8 C8 oC8 D8 m8 h8 tk8 E8 hp8 ho8 hl8 hd8 hC8 hx8 F8 N8 off8 ne8
      have off9 := off8
      simp only [LCg.Off3] at off9
      k_steps
      rename Fr _ _ _ _ => Fz
      rename News _ _ _ _ => Nz
      rename Mine.Apart _ _ => apz
      rename OpIn _ _ _ _ _ => hopz
      rename IsPen _ => hpz
      exact ops_end Fz Nz apz off8 hpz ho8 hopz hd8 hl8
    case fin2 =>
      intro ys9 po9 nx9 ops9 hp9 ho9 hl9 hd9
      intro D9 h9 tk9 F9 N9 off9
      simp only [LCg.Off1] at off9
      k_steps
      rename Fr _ _ _ _ => Fz
      rename News _ _ _ _ => Nz
      rename IsPen _ => hpz
      exact .next Fz Nz hpz
  case done =>
    intro m₁ po h tk F N
    k_steps)
