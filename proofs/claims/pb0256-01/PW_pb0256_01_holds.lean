import PyProof.Rows.All
import Wide.All
import OpenK.AllK
import Wide.FinOn
import Lean
import PySem.Challenge.RW_pb0256_01
open PySem PySem.W PyProof.Rows
set_option Elab.async false
set_option rowWalk.seconds 0
set_option linter.unusedVariables false
set_option maxRecDepth 100000
set_option maxHeartbeats 8000000
set_option compiler.extract_closed false
namespace Mine
section
open PySem PySem.W PyProof.Rows
def topRunT (tb : String → Option Builtin) (p : Program) (w : World) (n₀ : Nat) (ann : Option Value) : Nat → SharedT → Thread → Option SharedT
  | 0, _, _ => none
  | n + 1, s, t => match through t with
    | true => some s
    | false => match stepOk n₀ ann t with
      | false => none
      | true => match stepT (denote tb) p w s t with
        | some (s', t') => topRunT tb p w n₀ ann n s' t'
        | none => none
theorem topRunT_of {tb : String → Option Builtin} {p : Program} {w : World} {n₀ : Nat} {ann : Option Value} : ∀ {n : Nat} {s s' : SharedT} {t : Thread}, topRunT tb p w n₀ ann n s t = some s' → topRun tb p w n₀ ann n s.abs t = some s'.abs
  | 0, _, _, _, h => by cases h
  | n + 1, s, s', t, h => by
    unfold topRunT at h
    unfold topRun
    cases ht : through t with
    | true => rw [ht] at h; cases h; rfl
    | false =>
      rw [ht] at h
      cases hk : stepOk n₀ ann t with
      | false => rw [hk] at h; cases h
      | true =>
        rw [hk] at h
        cases hs : stepT (denote tb) p w s t with
        | none => rw [hs] at h; cases h
        | some r => obtain ⟨s₂, t₂⟩ := r; rw [hs] at h; rw [stepT_spec hs]; exact topRunT_of h
def topP : Program := PySem.Challenge.rw_pb0256_01.row.toRowW.prog
def topBt (l : List Obj) : BT := (l.foldl (fun (x : BT × Nat) o => (x.1.ins x.2 o, x.2 + 1)) (BT.nil, 0)).1
noncomputable def topS (w : World) (os : OsState) : SharedT := ⟨topBt (boot_heap w.params).objs.toList, 11, (boot_heap w.params).life, #[], boot_drawn, boot_toks, os⟩
lay_quick Mine.topRunT
def topQ : Program := view topP [0, 2, 3, 4, 5, 6, 8, 9, 11, 12, 13, 14, 15, 16, 17, 18, 19, 20, 21, 22, 23, 24, 25, 26, 27, 28, 29, 30, 31, 32, 34, 35, 36, 37, 38]
def topL : List Str := [Str.ofString "LedgerError"]
theorem left_of {p q : Program} {loose : List Str} {Xt : Shared → Bool} {α : Type} {Yf : Shared → α} {Ya : World → α} {N : Nat} {g0 : Bool} {H₀ : Params → Heap} {gs₀ : Array GenState} {d₀ : Drawn} {k₀ : Nat} {m₀ : Nat} {ann : Option Value} {M : Nat} {T₀ : World → OsState → SharedT}
    (open_ : ∀ w : World, (fencedOpening treeTable p w N).map (fun s => (s.heap, s.gens, s.drawn, s.toks)) = some (H₀ w.params, gs₀, d₀, k₀))
    (size : ∀ w : World, ((H₀ w.params).isNs mainGlobals && gs₀.size == 0, (H₀ w.params).objs.size, (H₀ w.params).nsMap mainGlobals "__annotations__") = (true, m₀, ann))
    (tree : ∀ w os, (T₀ w os).abs = ⟨H₀ w.params, gs₀, d₀, k₀, os⟩)
    (run : ∀ w os, (topRunT treeTable p w m₀ ann M (T₀ w os) (topStub p)).map (fun T => (staticsOk (importedModules p.main.body) (H₀ w.params) T.abs.heap && namesBound p T.abs.heap && gensDone T.abs && laidKept (H₀ w.params) T.abs.heap,
        openSeen q loose (importedModules p.main.body) Xt g0 T.abs, Yf T.abs)) = some (true, openGood q loose, Ya w))
    (le : Nat.ble M N = true) : LeftO p q loose Xt Yf Ya N g0 := fun w => by
  obtain ⟨⟨h, gs, d, k, os⟩, e, e'⟩ := Option.map_eq_some_iff.mp (open_ w)
  obtain ⟨rfl, rfl, rfl, rfl⟩ : h = H₀ w.params ∧ gs = gs₀ ∧ d = d₀ ∧ k = k₀ := by simpa using e'
  obtain ⟨z1, z2, z3⟩ : _ ∧ _ ∧ _ := by simpa only [Prod.mk.injEq] using size w
  obtain ⟨T, hT, l⟩ := Option.map_eq_some_iff.mp (run w os)
  obtain ⟨l1, l2, l3⟩ : _ ∧ _ ∧ _ := by simpa only [Prod.mk.injEq] using l
  have r := topRun_mono (N - M) _ _ _ _ (topRunT_of hT)
  rw [tree w os, show M + (N - M) = N by have := Nat.le_of_ble_eq_true le; omega] at r
  have t : topFrom treeTable p w N ⟨H₀ w.params, gs, d, k, os⟩ = some T.abs := by
    unfold topFrom
    dsimp only
    rw [z1, z2, z3, r]
    show (match staticsOk (importedModules p.main.body) (H₀ w.params) T.abs.heap && namesBound p T.abs.heap && gensDone T.abs && laidKept (H₀ w.params) T.abs.heap with | true => _ | false => _) = _
    rw [l1]
  unfold openEnds
  rw [e]
  show (topFrom treeTable p w N _).map _ = _
  rw [t]
  exact congrArg some (Prod.ext l2 l3)
theorem tree0 : ∀ w os, (topS w os).abs = ⟨boot_heap w.params, Array.mk [], boot_drawn, boot_toks, os⟩ := fun w os => by kernel_rfl
theorem size0 : ∀ w : World, ((boot_heap w.params).isNs mainGlobals && (Array.mk [] : Array GenState).size == 0, (boot_heap w.params).objs.size, (boot_heap w.params).nsMap mainGlobals "__annotations__") = (true, 11, some (Value.ref 6)) := fun w => by kernel_rfl
theorem open0 : ∀ w : World, (fencedOpening treeTable topP w 5066).map (fun s => (s.heap, s.gens, s.drawn, s.toks)) = some (boot_heap w.params, Array.mk [], boot_drawn, boot_toks) :=
  boot_open (p := topP) (N := 5066) (by kernel_rfl) (by decide) (fun s => by kernel_rfl)
theorem said_quick : PySem.W.Fast.tw9446332074065402090 PySem.Challenge.rw_pb0256_01 = true := by
  delta PySem.W.Fast.tw9446332074065402090
  repeat' (with_reducible refine look_both ?_ ?_)
  delta PySem.W.Fast.tw17960256430627541270
  repeat' (with_reducible refine look_both ?_ ?_)
  delta PySem.W.Fast.tw2436336058641802641
  repeat' (with_reducible refine look_both ?_ ?_)
  delta PySem.W.Fast.tw12908688711261696721
  repeat' (with_reducible refine look_both ?_ ?_)
  all_goals as_aux_lemma => kernel_rfl
theorem said : OpenLaw.wellSaid PySem.Challenge.rw_pb0256_01 = true := (congrFun PySem.W.Fast.te9446332074065402090 _).trans said_quick
lay_quick PySem.W.staticsOk PySem.W.namesBound PySem.W.laidKept PySem.W.gensDone PySem.W.xlAt PySem.W.recOk PySem.W.openSeen PySem.W.openGood PySem.importedModules
def topR : WRecords := RowW.records PySem.Challenge.rw_pb0256_01.row.toRowW
theorem map_three {T α β : Type} {o : Option T} {A : T → Bool} {B : T → β} {f : T → α} {C : β} {v : α} (a : o.map A = some true) (b : o.map B = some C) (c : o.map f = some v) : o.map (fun t => (A t, B t, f t)) = some (true, C, v) := by
  cases o with
  | none => cases a
  | some t =>
    simp only [Option.map_some, Option.some.injEq] at a b c ⊢
    rw [a, b, c]
theorem run_a : ∀ w os, (PySem.W.Fast.tw8941956224279638915 PySem.W.Fast.tw14364793385576792824 topP w 11 (some (.ref 6)) 2500 (topS w os) (topStub topP)).map (fun T => PySem.W.Fast.tw13471830651028734593 (PySem.W.Fast.tw5923862056798008813 topP.main.body) (boot_heap w.params) T.abs.heap && PySem.W.Fast.tw4683006035507612052 topP T.abs.heap && PySem.W.Fast.tw12456731150446341045 T.abs && PySem.W.Fast.tw16898566250750103049 (boot_heap w.params) T.abs.heap) = some true := fun w os => by kernel_rfl
theorem run_b : ∀ w os, (PySem.W.Fast.tw8941956224279638915 PySem.W.Fast.tw14364793385576792824 topP w 11 (some (.ref 6)) 2500 (topS w os) (topStub topP)).map (fun T => PySem.W.Fast.tw4187177175401517315 topQ topL (PySem.W.Fast.tw5923862056798008813 topP.main.body) (fun s => PySem.W.Fast.tw4757257242682413121 topQ [] s && PySem.W.Fast.tw6483871617321286689 topR s) true T.abs) = some (PySem.W.Fast.tw3486900944545009338 topQ topL) := fun w os => by kernel_rfl
theorem run_of {α : Type} {f : Shared → α} {v : World → α} (h : ∀ w os, (PySem.W.Fast.tw8941956224279638915 PySem.W.Fast.tw14364793385576792824 topP w 11 (some (.ref 6)) 2500 (topS w os) (topStub topP)).map (fun T => f T.abs) = some (v w)) :
   LeftO topP topQ topL (fun s => xlAt topQ [] s && recOk topR s) f v 5066 := by
  refine left_of (M := 2500) (m₀ := 11) (ann := some (.ref 6)) (T₀ := topS) open0 size0 tree0 ?_ (by decide)
  rw [PySem.W.Fast.te8941956224279638915, PySem.W.Fast.te14364793385576792824, PySem.W.Fast.te13471830651028734593, PySem.W.Fast.te5923862056798008813, PySem.W.Fast.te4683006035507612052, PySem.W.Fast.te12456731150446341045, PySem.W.Fast.te16898566250750103049, PySem.W.Fast.te4187177175401517315, PySem.W.Fast.te4757257242682413121, PySem.W.Fast.te6483871617321286689, PySem.W.Fast.te3486900944545009338]
  exact fun w os => map_three (run_a w os) (run_b w os) (h w os)
local macro_rules | `(tactic| o_law) => `(tactic| refine holds_law Mine.said fun said => ?_)
set_option hygiene false in
local macro_rules | `(tactic| o_head $H) => `(tactic| refine holds_open (q := Mine.topQ) (loose := Mine.topL) (Xt := fun s => xlAt Mine.topQ [] s && recOk Mine.topR s) (XP := XL Mine.topQ []) (Yf := Hook.obs $H) (Ya := Hook.val $H) (YP := Hook.says $H) (N := 5066) (Mine.run_of (fun w os => by kernel_rfl)) (Hook.of $H) (Hook.keeps $H) (fun s e => xl_of s (Bool.and_eq_true_iff.mp e).1) XL.keeps (by rfl) (by rfl) (by rfl) (fun s e => recFacts_of (Bool.and_eq_true_iff.mp e).2) (by rfl) (by assumption) (by kernel_rfl) ⟨rfl, rfl, rfl, rfl, rfl, by decide +kernel⟩ ?hw ?hc)
open_top hd for PySem.Challenge.rw_pb0256_01
end
open PySem.Spec PySem.Calls
local macro_rules | `(tactic| walk_at $s:str) => `(tactic| k_extra $s)
theorem reset_Bs : True := by
  (w_top off)
  k_with_none
  first | walk1 | trivial
section
open PySem PySem.W PyProof.Rows PySem.Spec PySem.Calls
abbrev Led := List (Addr × Obj)
def Held (_ : OpenLaw) (_ : Params → Frag) : Prop := True
abbrev pw := PySem.Challenge.pw_pb0256_01
/-- a contract of a def: what a call of f on vs does to the ledger -/
def Tel (w : World) (f : Addr) (dep : Nat) (vs : List Value) (news : Led) (Out : Value → Led → Prop) : Prop :=
  ∀ (p : Program) (loose : List Str) (mean : ExcName → Option Value) (mg mb : Str → Option Value) (dp un : Nat) (gd : Option (List Code)) (cn : Str) (cs : Scope) (a : Addr) (ccd : Value) (cl : List (Str × Addr)) (outer : List Env) (A₀ : Around) (base h₀ : Heap) (L : Addr) (m : Str → Option Value) (s : Shared)
    (Q E : Value → Shared → Prop),
    Held PySem.Challenge.rw_pb0256_01 hd.heap_1 → Below A₀ base outer h₀ → Fr h₀ L s.heap m → (hd.heap_1 w.params).In h₀ → News h₀ L s.heap news → Top p loose mean mg mb h₀ → cs.kind = .function → dp + dep < recursionLimit → un + 8 * dep < cLine →
    (∀ r news' h' tk', Out r news' → Fr h₀ L h' m → News h₀ L h' news' → Q r { s with heap := h', toks := tk' }) →
    wpAny (model pw w) (ktrTop dp un gd cn cs L a ccd cl outer) (call (.ref f) vs) Q E s
section
variable {prog : Program} {w : World} {A : Around} {E : Value → Shared → Prop} {s : Shared} {h₀ : Heap} {L D : Addr} {m : Str → Option Value} {news news' : Led} {vs : List Value} {n : Nat} {k : Int} {t : Tok} {v : Value}
theorem setAt_any {Q : Unit → Shared → Prop} (F : Fr h₀ L s.heap m) (N : News h₀ L s.heap news) (U : Upd D (listOf vs.toArray n) (listOf (vs.set k.toNat v).toArray n) news news') (h0 : 0 ≤ k) (h1 : k < vs.length) (hfit : k < 2 ^ 63)
    (h : ∀ h', Fr h₀ L h' m → News h₀ L h' news' → Q () { s with heap := h' }) :
    wpAny (model prog w) A (setItem (.ref D) (.int k t) v) Q E s := by
  obtain ⟨pre, post, rfl, rfl, a, b⟩ := U.split
  have z := N (D, listOf vs.toArray n) (List.mem_append.mpr (.inr (.head _)))
  refine ki_setAt z.1 h0 hfit (by simpa using h1) (h _ (F.change (Heap.SameBut.update ..) z.2.1 z.2.2) (ki_turn _ N a b ?_ ?_))
  · show vs.toArray.setIfInBounds k.toNat v = (vs.set k.toNat v).toArray
    apply Array.toList_inj.mp
    simp
  · simp
theorem gen_toks {prog : Program} {α : Type} {t : Sem α} {h : Heap} {g : Array GenState} {d : Drawn} {k : Nat} {o : OsState} {Q : α → Shared → Prop} (H : ∀ tk, wpAny (model prog w) A t Q E ⟨h, g, d, tk, o⟩) : wpAny (model prog w) A t Q E ⟨h, g, d, k, o⟩ := H k
theorem fold_goal {G : Prop} (h : ∀ G' : Prop, (G → G') → G') : G := h G id
end
end
theorem reset_Lp : True := by
  (w_top off)
  k_with_none
  first | walk1 | trivial
section
open PySem PySem.W PyProof.Rows PySem.Spec PySem.Calls
/-- stops the walk: nothing of the kit's lines looks at this word -/
def Halt (P : Prop) : Prop := P
theorem Halt.intro {P : Prop} (h : P) : Halt P := h
theorem Halt.out {P : Prop} (h : Halt P) : P := h
section
variable {prog : Program} {w : World} {A : Around} {E : Value → Shared → Prop} {s : Shared} {env : Env} {h₀ : Heap} {x : Str} {target : PySem.Expr} {body : List Stmt} {Q : Flow → Shared → Prop}
def MyEnd (h₀ : Heap) (L : Addr) (own : Led) (I : Addr) (J : (Str → Option Value) → Led → Prop) (s₁ s₂ : Shared) : Prop :=
  ∃ h' tk m' all' news', s₂ = { s₁ with heap := h', toks := tk } ∧ Fr h₀ L h' m' ∧ News h₀ L h' all' ∧ (∀ p ∈ own, p ∈ all') ∧ (∀ p ∈ news', p ∈ all') ∧ (∀ p ∈ news', p.1 ≠ I) ∧ J m' news'
def MyPost (h₀ : Heap) (L : Addr) (own : Led) (I : Addr) (J : (Str → Option Value) → Led → Prop) (s₁ : Shared) (Q : Flow → Shared → Prop) (f : Flow) (s₂ : Shared) : Prop :=
  match f with
  | .ret v => Q (.ret v) s₂
  | .brk => Q .next s₂
  | _ => Halt (MyEnd h₀ L own I J s₁ s₂)
def MyPostT (h₀ : Heap) (L : Addr) (own : Led) (I : Addr) (J : (Str → Option Value) → Led → Prop) (s₁ : Shared) (f : Flow) (s₂ : Shared) : Prop :=
  f = .next ∧ Halt (MyEnd h₀ L own I J s₁ s₂)
theorem MyEnd.intro {L : Addr} {own all' news' : Led} {I : Addr} {J : (Str → Option Value) → Led → Prop} {s₁ : Shared} {h' : Heap} {tk : Nat} {m' : Str → Option Value}
    (F : Fr h₀ L h' m') (N : News h₀ L h' all') (ho : ∀ p ∈ own, p ∈ all') (hn : ∀ p ∈ news', p ∈ all') (hI : ∀ p ∈ news', p.1 ≠ I) (hJ : J m' news') :
    MyEnd h₀ L own I J s₁ { s₁ with heap := h', toks := tk } := ⟨h', tk, m', all', news', rfl, F, N, ho, hn, hI, hJ⟩
theorem MyPost.next {L : Addr} {own : Led} {I : Addr} {J : (Str → Option Value) → Led → Prop} {s₁ s₂ : Shared} {Q : Flow → Shared → Prop} (h : Halt (MyEnd h₀ L own I J s₁ s₂)) : MyPost h₀ L own I J s₁ Q .next s₂ := h
theorem MyPost.cont {L : Addr} {own : Led} {I : Addr} {J : (Str → Option Value) → Led → Prop} {s₁ s₂ : Shared} {Q : Flow → Shared → Prop} (h : Halt (MyEnd h₀ L own I J s₁ s₂)) : MyPost h₀ L own I J s₁ Q .cont s₂ := h
theorem MyPost.brk {L : Addr} {own : Led} {I : Addr} {J : (Str → Option Value) → Led → Prop} {s₁ s₂ : Shared} {Q : Flow → Shared → Prop} (h : Q .next s₂) : MyPost h₀ L own I J s₁ Q .brk s₂ := h
theorem MyPost.ret {L : Addr} {own : Led} {I : Addr} {J : (Str → Option Value) → Led → Prop} {s₁ s₂ : Shared} {Q : Flow → Shared → Prop} {v : Value} (h : Q (.ret v) s₂) : MyPost h₀ L own I J s₁ Q (.ret v) s₂ := h
theorem MyPostT.next {L : Addr} {own : Led} {I : Addr} {J : (Str → Option Value) → Led → Prop} {s₁ s₂ : Shared} (h : Halt (MyEnd h₀ L own I J s₁ s₂)) : MyPostT h₀ L own I J s₁ .next s₂ := ⟨rfl, h⟩
theorem off_I {L : Addr} {s : Shared} {m : Str → Option Value} (F : Fr h₀ L s.heap m) : L ≠ s.heap.objs.size ∧ h₀.get? s.heap.objs.size = none := ⟨Nat.ne_of_lt F.ns.lt, next_is_new F⟩
theorem fin_U {L : Addr} {I : Addr} {fp : List Addr} {src own : Led} {J : (Str → Option Value) → Led → Prop} {s₁ s₂ : Shared} {it : Obj} {news₁ : Led}
    (hfp : ∀ b ∈ fp, b = I ∨ (∃ o, h₀.get? b = some o) ∨ ∃ o, (b, o) ∈ src) (hsI : ∀ p ∈ src, p.1 ≠ I)
    (hit : s₁.heap.get? I = some it) (hown : ∀ p ∈ own, p.1 ∈ fp) (hget : ∀ p ∈ own, s₁.heap.get? p.1 = some p.2) (N₁ : News h₀ L s₁.heap (own ++ (src ++ news₁)))
    (h : MyEnd h₀ L ((I, it) :: src) I J s₁ s₂) : LoopStepU h₀ L [I] own (fun m nw => ∃ news', nw = src ++ news' ∧ J m news') s₁ .next s₂ := by
  obtain ⟨h', tk, m', all', news', e, F', N', ho, hn, hI', hj'⟩ := h
  refine ⟨rfl, h', tk, m', src ++ news', e, F', fun p hp => ?_, fun p hp hq => ?_, _, rfl, hj'⟩
  · rcases List.mem_append.mp hp with hp | hp
    · have h2 := hget p hp
      rcases hfp _ (hown p hp) with h1 | ⟨o, h1⟩ | ⟨o, h1⟩
      · have h3 : p = (I, it) := by
          rw [h1, hit] at h2
          exact Prod.ext h1 (Option.some.inj h2).symm
        rw [h3]; exact N' _ (ho _ (List.mem_cons_self ..))
      · have h4 := (N₁ p (List.mem_append_left _ hp)).2.2
        rw [h1] at h4; cases h4
      · have h4 := (N₁ _ (List.mem_append_right _ (List.mem_append_left _ h1))).1
        have h3 : p = (p.1, o) := by
          rw [h2] at h4
          exact Prod.ext rfl (Option.some.inj h4)
        rw [h3]; exact N' _ (ho _ (List.mem_cons_of_mem _ h1))
    · rcases List.mem_append.mp hp with hp | hp
      · exact N' _ (ho _ (List.mem_cons_of_mem _ hp))
      · exact N' _ (hn p hp)
  · have hq := List.mem_singleton.mp hq
    rcases List.mem_append.mp hp with hp | hp
    · exact hsI p hp hq
    · exact hI' p hp hq
theorem coreV {I : Addr} {fp : List Addr} {n : Nat} {P : Nat → Value → Prop} {St : Nat → Heap → Prop} {m₀ : Str → Option Value} {src news₀ : Led} (J : Nat → (Str → Option Value) → Led → Prop)
    (W : Walks prog w A I fp [I] n P St) (hIo : ∀ i h, St i h → ∃ o, h.get? I = some o) (hLf : env.locals ∉ fp) (hI : h₀.get? I = none)
    (hfp : ∀ b ∈ fp, b = I ∨ (∃ o, h₀.get? b = some o) ∨ ∃ o, (b, o) ∈ src) (hsI : ∀ p ∈ src ++ news₀, p.1 ≠ I) (hst : St 0 s.heap) (F : Fr h₀ env.locals s.heap m₀) (N : News h₀ env.locals s.heap (src ++ news₀)) (hj : J 0 m₀ news₀)
    (turn : ∀ i v m₁ news₁ h tk it, i < n → P i v → J i m₁ news₁ → Fr h₀ env.locals h (fun y => if y = x then some v else m₁ y) → News h₀ env.locals h ((I, it) :: src ++ news₁) → (∀ p ∈ news₁, p.1 ≠ I) →
      wpAny (model prog w) A (execs body env) (MyPost h₀ env.locals ((I, it) :: src) I (J (i + 1)) { s with heap := h, toks := tk } Q) E { s with heap := h, toks := tk })
    (done : ∀ m₁ news₁ h tk, J n m₁ news₁ → Fr h₀ env.locals h m₁ → News h₀ env.locals h (src ++ news₁) → Q .next { s with heap := h, toks := tk }) :
    LoopAtV prog w A h₀ env x body Q E (.ref I) s := by
  let J' : Nat → (Str → Option Value) → Led → Prop := fun i m₁ nw => ∃ news₁, nw = src ++ news₁ ∧ J i m₁ news₁
  have hIf : I ∈ fp := W.sub I (List.mem_singleton.mpr rfl)
  refine ⟨I, fp, [I], n, P, St, m₀, src ++ news₀, J', rfl, W, hLf, ?_, ?_, hst, F, N, ⟨_, rfl, hj⟩, ?_, ?_⟩
  · intro b hb
    rw [List.mem_singleton.mp hb]; exact hI
  · intro p hp hI
    exact hsI p hp (List.mem_singleton.mp hI)
  · rintro i v m₁ nw s₁ own ⟨hh', tk', rfl⟩ hin hP ⟨news₁, rfl, hJ⟩ hoff hown hget hall hst' F₁ N₁
    obtain ⟨it, hit⟩ := hIo _ _ hst'
    have hmI := hall I hIf hI _ hit
    have off : ∀ p ∈ news₁, p.1 ≠ I := fun p hp e => hoff p (List.mem_append_right _ hp) (List.mem_singleton.mpr e)
    refine wpAny_mono (turn i v m₁ news₁ hh' tk' it hin hP hJ F₁ (fun p hp => ?_) off) (fun f s₂ p => ?_) fun _ _ e => e
    · rcases List.mem_cons.mp hp with rfl | hp
      · exact N₁ _ (List.mem_append_left _ hmI)
      · exact N₁ _ (List.mem_append_right _ hp)
    · have fin := fin_U (J := J (i + 1)) (s₂ := s₂) hfp (fun p hp => hsI p (List.mem_append_left _ hp)) hit hown hget N₁
      cases f with
      | ret v => exact .ret p
      | brk => exact .brk p
      | next => exact .next (fin p)
      | cont => exact .cont (fin p)
  · rintro h' tk m' nw' F' N' _ ⟨news', rfl, hj'⟩
    exact done m' news' h' tk hj' F' N'
theorem coreT {I : Addr} {fp : List Addr} {n : Nat} {P : Nat → Value → Prop} {St : Nat → Heap → Prop} {m₀ : Str → Option Value} {src news₀ : Led} (J : Nat → (Str → Option Value) → Led → Prop)
    (W : Walks prog w A I fp [I] n P St) (hIo : ∀ i h, St i h → ∃ o, h.get? I = some o) (hLf : env.locals ∉ fp) (hI : h₀.get? I = none)
    (hgo : ∀ i (s' : Shared) v (Q' : Unit → Shared → Prop), St i s'.heap → Q' () s' → wpAny (model prog w) A (letOwnedTupleGo target (.ref I) v) Q' E s')
    (hfp : ∀ b ∈ fp, b = I ∨ (∃ o, h₀.get? b = some o) ∨ ∃ o, (b, o) ∈ src) (hsI : ∀ p ∈ src ++ news₀, p.1 ≠ I) (hst : St 0 s.heap) (F : Fr h₀ env.locals s.heap m₀) (N : News h₀ env.locals s.heap (src ++ news₀)) (hj : J 0 m₀ news₀)
    (turn : ∀ i v m₁ news₁ s₁ it, i < n → P i v → J i m₁ news₁ → Fr h₀ env.locals s₁.heap m₁ → News h₀ env.locals s₁.heap ((I, it) :: src ++ news₁) → (∀ p ∈ news₁, p.1 ≠ I) →
      wpAny (model prog w) A (assign target env v) (fun _ s₃ => wpAny (model prog w) A (execs body env) (MyPostT h₀ env.locals ((I, it) :: src) I (J (i + 1)) s₁) E s₃) E s₁)
    (done : ∀ m₁ news₁ h tk, J n m₁ news₁ → Fr h₀ env.locals h m₁ → News h₀ env.locals h (src ++ news₁) → Q .next { s with heap := h, toks := tk }) :
    LoopAtT prog w A h₀ env target body Q E (.ref I) s := by
  let J' : Nat → (Str → Option Value) → Led → Prop := fun i m₁ nw => ∃ news₁, nw = src ++ news₁ ∧ J i m₁ news₁
  have hIf : I ∈ fp := W.sub I (List.mem_singleton.mpr rfl)
  refine ⟨I, fp, [I], n, P, St, m₀, src ++ news₀, J', rfl, W, hLf, ?_, ?_, hst, F, N, hgo, ⟨_, rfl, hj⟩, ?_, ?_⟩
  · intro b hb
    rw [List.mem_singleton.mp hb]; exact hI
  · intro p hp hI
    exact hsI p hp (List.mem_singleton.mp hI)
  · rintro i v m₁ nw s₁ own hin hP ⟨news₁, rfl, hJ⟩ hoff hown hget hall hst' F₁ N₁
    obtain ⟨it, hit⟩ := hIo _ _ hst'
    have hmI := hall I hIf hI _ hit
    have off : ∀ p ∈ news₁, p.1 ≠ I := fun p hp e => hoff p (List.mem_append_right _ hp) (List.mem_singleton.mpr e)
    refine wpAny_mono (turn i v m₁ news₁ s₁ it hin hP hJ F₁ (fun p hp => ?_) off) (fun _ s₃ h₃ => wpAny_mono h₃ (fun f s₂ p => ?_) fun _ _ e => e) fun _ _ e => e
    · rcases List.mem_cons.mp hp with rfl | hp
      · exact N₁ _ (List.mem_append_left _ hmI)
      · exact N₁ _ (List.mem_append_right _ hp)
    · have fin := fin_U (J := J (i + 1)) (s₂ := s₂) hfp (fun p hp => hsI p (List.mem_append_left _ hp)) hit hown hget N₁
      obtain ⟨rfl, p⟩ := p
      exact fin p
  · rintro h' tk m' nw' F' N' _ ⟨news', rfl, hj'⟩
    exact done m' news' h' tk hj' F' N'
theorem news_pick {L : Addr} {h : Heap} {news news₀ : Led} {p : Addr × Obj} (N : News h₀ L h news) (hm : p ∈ news) (hsub : ∀ p ∈ news₀, p ∈ news) : News h₀ L h ([p] ++ news₀) := fun q hq => by
  rcases List.mem_append.mp hq with hq | hq
  · rw [List.mem_singleton.mp hq]; exact N _ hm
  · exact N _ (hsub _ hq)
theorem news_I {L : Addr} {s : Shared} {news : Led} (N : News h₀ L s.heap news) : ∀ p ∈ news, p.1 ≠ s.heap.objs.size := fun p hp => Nat.ne_of_lt (Heap.lt_size (N p hp).1)
theorem news_push {L : Addr} {h : Heap} {news : Led} (N : News h₀ L h news) (o : Obj) : News h₀ L (h.push o) news := fun p hp => ⟨Heap.get?_push_of_some _ (N p hp).1, (N p hp).2⟩
/-- a for by a name over a list of the ledger's -/
theorem iter_listV {la : Addr} {vs : List Value} {n : Nat} {m₀ : Str → Option Value} {news news₀ : Led} (J : Nat → (Str → Option Value) → Led → Prop)
    (hh : A.handled = none) (F : Fr h₀ env.locals s.heap m₀) (N : News h₀ env.locals s.heap news) (hm : (la, listOf vs.toArray n) ∈ news) (hsub : ∀ p ∈ news₀, p ∈ news) (hj : J 0 m₀ news₀)
    (turn : ∀ i v m₁ news₁ h tk I it, vs[i]? = some v → J i m₁ news₁ → Fr h₀ env.locals h (fun y => if y = x then some v else m₁ y) → News h₀ env.locals h ((I, it) :: (la, listOf vs.toArray n) :: news₁) →
      @Ne Nat la I → (∀ p ∈ news₁, p.1 ≠ I) →
      wpAny (model prog w) A (execs body env) (MyPost h₀ env.locals [(I, it), (la, listOf vs.toArray n)] I (J (i + 1)) { s with heap := h, toks := tk } Q) E { s with heap := h, toks := tk })
    (done : ∀ m₁ news₁ h tk, J vs.length m₁ news₁ → Fr h₀ env.locals h m₁ → News h₀ env.locals h ((la, listOf vs.toArray n) :: news₁) → Q .next { s with heap := h, toks := tk }) :
    wpAny (model prog w) A (pyIter (.ref la)) (fun it s₂ => LoopAtV prog w A h₀ env x body Q E it s₂) E s := by
  have hl : s.heap.IsList la vs.toArray := ⟨_, (N _ hm).1, rfl, _, rfl⟩
  have hne : la ≠ s.heap.objs.size := Nat.ne_of_lt (Heap.lt_size (N _ hm).1)
  have N₀ := news_pick N hm hsub
  refine wpAny_pyIter_list hl ?_
  have W := Walks.list (prog := prog) (w := w) hh s.heap.objs.size la hne vs.toArray
  rw [List.size_toArray] at W
  refine coreV (src := [(la, listOf vs.toArray n)]) (news₀ := news₀) J W (fun i h st => let ⟨o, e, _⟩ := st.1; ⟨o, e⟩) ?_ (next_is_new F) ?_ (news_I N₀) ⟨⟨_, Heap.get?_push_size _ rfl, rfl, rfl⟩, hl.push _⟩ (F.push _) (news_push N₀ _) hj
    (fun i v m₁ news₁ h tk it _ hP hJ F₁ N₁ off => turn i v m₁ news₁ h tk _ it (by simpa using hP) hJ F₁ N₁ hne off) done
  · intro hmm
    rcases List.mem_cons.mp hmm with e | hmm
    · exact (off_I F).1 e
    · exact (N _ hm).2.1 (List.mem_singleton.mp hmm).symm
  · intro b hb
    rcases List.mem_cons.mp hb with rfl | hb
    · exact .inl rfl
    · exact .inr (.inr ⟨_, by rw [List.mem_singleton.mp hb]; exact List.mem_cons_self ..⟩)
/-- a for by any target over a list of the ledger's -/
theorem iter_listT {la : Addr} {vs : List Value} {n : Nat} {m₀ : Str → Option Value} {news news₀ : Led} (J : Nat → (Str → Option Value) → Led → Prop)
    (hh : A.handled = none) (F : Fr h₀ env.locals s.heap m₀) (N : News h₀ env.locals s.heap news) (hm : (la, listOf vs.toArray n) ∈ news) (hsub : ∀ p ∈ news₀, p ∈ news) (hj : J 0 m₀ news₀)
    (turn : ∀ i v m₁ news₁ s₁ I it, vs[i]? = some v → J i m₁ news₁ → Fr h₀ env.locals s₁.heap m₁ → News h₀ env.locals s₁.heap ((I, it) :: (la, listOf vs.toArray n) :: news₁) →
      @Ne Nat la I → (∀ p ∈ news₁, p.1 ≠ I) →
      wpAny (model prog w) A (assign target env v) (fun _ s₃ => wpAny (model prog w) A (execs body env) (MyPostT h₀ env.locals [(I, it), (la, listOf vs.toArray n)] I (J (i + 1)) s₁) E s₃) E s₁)
    (done : ∀ m₁ news₁ h tk, J vs.length m₁ news₁ → Fr h₀ env.locals h m₁ → News h₀ env.locals h ((la, listOf vs.toArray n) :: news₁) → Q .next { s with heap := h, toks := tk }) :
    wpAny (model prog w) A (pyIter (.ref la)) (fun it s₂ => LoopAtT prog w A h₀ env target body Q E it s₂) E s := by
  have hl : s.heap.IsList la vs.toArray := ⟨_, (N _ hm).1, rfl, _, rfl⟩
  have hne : la ≠ s.heap.objs.size := Nat.ne_of_lt (Heap.lt_size (N _ hm).1)
  have N₀ := news_pick N hm hsub
  refine wpAny_pyIter_list hl ?_
  have W := Walks.list (prog := prog) (w := w) hh s.heap.objs.size la hne vs.toArray
  rw [List.size_toArray] at W
  refine coreT (src := [(la, listOf vs.toArray n)]) (news₀ := news₀) J W (fun i h st => let ⟨o, e, _⟩ := st.1; ⟨o, e⟩) ?_ (next_is_new F) (fun i s' v Q' st hQ' => letGo_listiter st.1 hQ') ?_ (news_I N₀) ⟨⟨_, Heap.get?_push_size _ rfl, rfl, rfl⟩, hl.push _⟩ (F.push _) (news_push N₀ _) hj
    (fun i v m₁ news₁ s₁ it _ hP hJ F₁ N₁ off => turn i v m₁ news₁ s₁ _ it (by simpa using hP) hJ F₁ N₁ hne off) done
  · intro hmm
    rcases List.mem_cons.mp hmm with e | hmm
    · exact (off_I F).1 e
    · exact (N _ hm).2.1 (List.mem_singleton.mp hmm).symm
  · intro b hb
    rcases List.mem_cons.mp hb with rfl | hb
    · exact .inl rfl
    · exact .inr (.inr ⟨_, by rw [List.mem_singleton.mp hb]; exact List.mem_cons_self ..⟩)
/-- a for by any target over a tuple of the base -/
theorem iter_tupleT {t : Addr} {items : Array Value} {m₀ : Str → Option Value} {news news₀ : Led} (J : Nat → (Str → Option Value) → Led → Prop)
    (hh : A.handled = none) (F : Fr h₀ env.locals s.heap m₀) (N : News h₀ env.locals s.heap news) (ht : IsTup h₀ t items) (hsub : ∀ p ∈ news₀, p ∈ news) (hj : J 0 m₀ news₀)
    (turn : ∀ i v m₁ news₁ s₁ I it, items[i]? = some v → J i m₁ news₁ → Fr h₀ env.locals s₁.heap m₁ → News h₀ env.locals s₁.heap ((I, it) :: news₁) → (∀ p ∈ news₁, p.1 ≠ I) →
      wpAny (model prog w) A (assign target env v) (fun _ s₃ => wpAny (model prog w) A (execs body env) (MyPostT h₀ env.locals [(I, it)] I (J (i + 1)) s₁) E s₃) E s₁)
    (done : ∀ m₁ news₁ h tk, J items.size m₁ news₁ → Fr h₀ env.locals h m₁ → News h₀ env.locals h news₁ → Q .next { s with heap := h, toks := tk }) :
    wpAny (model prog w) A (pyIter (.ref t)) (fun it s₂ => LoopAtT prog w A h₀ env target body Q E it s₂) E s := by
  have ht' : s.heap.IsTuple t items := let ⟨o, e, r⟩ := ht; ⟨o, F.keep _ _ e, r⟩
  have hlt : t < h₀.objs.size := by obtain ⟨_, e, _⟩ := ht; exact Heap.lt_size e
  have hne : t ≠ s.heap.objs.size := by obtain ⟨_, e, _⟩ := ht'; exact Nat.ne_of_lt (Heap.lt_size e)
  have N₀ : News h₀ env.locals s.heap news₀ := fun q hq => N _ (hsub _ hq)
  refine wpAny_pyIter_tuple ht' ?_
  have W := Walks.tuple (prog := prog) (w := w) hh s.heap.objs.size t hne items
  refine coreT (src := []) (news₀ := news₀) J W (fun i h st => let ⟨o, e, _⟩ := st.1; ⟨o, e⟩) ?_ (next_is_new F) (fun i s' v Q' st hQ' => letGo_tupleiter st.1 hQ') ?_ (news_I N₀) ⟨⟨_, Heap.get?_push_size _ rfl, rfl, rfl⟩, ?_⟩ (F.push _) (news_push N₀ _) hj
    (fun i v m₁ news₁ s₁ it _ hP hJ F₁ N₁ off => turn i v m₁ news₁ s₁ _ it hP hJ F₁ N₁ off) done
  · intro hmm
    rcases List.mem_cons.mp hmm with e | hmm
    · exact (off_I F).1 e
    · exact absurd (Nat.lt_of_lt_of_le hlt F.above) ((List.mem_singleton.mp hmm) ▸ Nat.lt_irrefl _)
  · intro b hb
    rcases List.mem_cons.mp hb with rfl | hb
    · exact .inl rfl
    · obtain ⟨o, e, _⟩ := ht
      exact .inr (.inl ⟨o, by rw [List.mem_singleton.mp hb]; exact e⟩)
  · exact ht'.at fun o e => Heap.get?_push_of_some _ e
/-- a for by a name over a str -/
theorem iter_strV {tx : Str} {t : Tok} {m₀ : Str → Option Value} {news news₀ : Led} (J : Nat → (Str → Option Value) → Led → Prop)
    (hh : A.handled = none) (F : Fr h₀ env.locals s.heap m₀) (N : News h₀ env.locals s.heap news) (hsub : ∀ p ∈ news₀, p ∈ news) (hj : J 0 m₀ news₀)
    (turn : ∀ i c u m₁ news₁ h tk I it, tx.cps[i]? = some c → J i m₁ news₁ → Fr h₀ env.locals h (fun y => if y = x then some (.str ⟨#[c]⟩ u) else m₁ y) → News h₀ env.locals h ((I, it) :: news₁) → (∀ p ∈ news₁, p.1 ≠ I) →
      wpAny (model prog w) A (execs body env) (MyPost h₀ env.locals [(I, it)] I (J (i + 1)) { s with heap := h, toks := tk } Q) E { s with heap := h, toks := tk })
    (done : ∀ m₁ news₁ h tk, J tx.cps.size m₁ news₁ → Fr h₀ env.locals h m₁ → News h₀ env.locals h news₁ → Q .next { s with heap := h, toks := tk }) :
    wpAny (model prog w) A (pyIter (.str tx t)) (fun it s₂ => LoopAtV prog w A h₀ env x body Q E it s₂) E s := by
  have N₀ : News h₀ env.locals s.heap news₀ := fun q hq => N _ (hsub _ hq)
  have go : ∀ (T : String) (o : Obj), Walks prog w A s.heap.objs.size [s.heap.objs.size] [s.heap.objs.size] tx.cps.size (SignAt tx) (fun i h => h.IsStrIter s.heap.objs.size T tx t i) →
      (s.heap.push o).IsStrIter s.heap.objs.size T tx t 0 → LoopAtV prog w A h₀ env x body Q E (.ref s.heap.objs.size) { s with heap := s.heap.push o } := by
    intro T o W hst
    refine coreV (src := []) (news₀ := news₀) J W (fun i h st => let ⟨o, e, _⟩ := st; ⟨o, e⟩) ?_ (next_is_new F) ?_ (news_I N₀) hst (F.push _) (news_push N₀ _) hj ?_ done
    · intro hmm
      exact (off_I F).1 (List.mem_singleton.mp hmm)
    · intro b hb
      exact .inl (List.mem_singleton.mp hb)
    · rintro i v m₁ news₁ h tk it hi ⟨c, u, hc, rfl⟩ hJ F₁ N₁ off
      exact turn i c u m₁ news₁ h tk _ it hc hJ F₁ N₁ off
  cases ha : tx.cps.all (· < 128)
  · exact wpAny_pyIter_wide ha (go "str_iterator" _ (Walks.strWide hh _ tx t) ⟨_, Heap.get?_push_size _ rfl, rfl, rfl⟩)
  · exact wpAny_pyIter_ascii ha (go "str_ascii_iterator" _ (Walks.strAscii hh _ tx t) ⟨_, Heap.get?_push_size _ rfl, rfl, rfl⟩)
end
end
theorem reset_Cp : True := by
  (w_top off)
  k_with_none
  first | walk1 | trivial
section
open PySem PySem.W PyProof.Rows PySem.Spec PySem.Calls PyProof.Rows.LCg
section
variable {prog : Program} {w : World} {A : Around} {E : Value → Shared → Prop} {s : Shared} {h₀ : Heap} {L : Addr} {m : Str → Option Value} {env : Env}
abbrev testsIn (ifs : List PySem.Expr) (env : Env) : Sem Bool := forIn ifs true fun c r => if r = true then do let ok ← isTrue c env (eval c env); pure (ForInStep.yield ok) else pure (ForInStep.yield r)
theorem comp_loop {elt target iter : PySem.Expr} {ifs : List PySem.Expr} {scope : Scope} {pos : Pos} {it acc : Value} {env : Env} {R : Result → Shared → Prop} (I : Nat → Shared → Prop)
    (turn : ∀ n s, I n s → wpAny (model prog w) A (pyNext it) (fun r s₁ => match r with
      | none => R (.ok .next) s₁
      | some v => wpAny (model prog w) A (letOwnedTupleGo target it v) (fun _ s₀ => wpAny (model prog w) A (assign target env v) (fun _ s₂ =>
          wpAny (model prog w) A (testsIn ifs env) (fun ok s₃ => if ok = true then wpAny (model prog w) A (eval elt env) (fun x s₄ =>
            wpAny (model prog w) A (call (.builtin "list.append") [acc, x]) (fun _ s₅ => ∃ m, m < n ∧ I m s₅) (notedBy (model prog w) A env fun e s' => R (.error e) s') s₄) (notedBy (model prog w) A env fun e s' => R (.error e) s') s₃
            else ∃ m, m < n ∧ I m s₃) (notedBy (model prog w) A env fun e s' => R (.error e) s') s₂)
          (notedBy (model prog w) A env fun e s' => R (.error e) s') s₀) (notedBy (model prog w) A env fun e s' => R (.error e) s') s₁) (notedBy (model prog w) A env fun e s' => R (.error e) s') s)
    (n : Nat) (h : I n s) : codeAny (model prog w) A (.compLoop (.ListComp elt [⟨target, iter, ifs, 0⟩] scope pos) 0 it acc env) R s := by
  refine codeAny_loop rfl I (fun n s hI => ?_) n h
  show wpAny _ A ((compTurn (.ListComp elt [⟨target, iter, ifs, 0⟩] scope pos) 0 it acc env).onRaise (fun x => do noteFrame x env; theTreesLotGoes x)) _ _ s
  refine wpAny_noted ?_
  rw [compTurn_list]
  refine wpAny_bind (wpAny_standAt (wpAny_bind (wpAny_mono (turn n s hI) (fun r s₁ h₁ => ?_) fun _ _ h' => h')))
  cases r with
  | none => exact wpAny_pure h₁
  | some v =>
    refine wpAny_bind (wpAny_mono h₁ (fun _ s₀ h₀' => ?_) fun _ _ h' => h')
    refine wpAny_bind (wpAny_mono h₀' (fun _ s₂ h₂ => ?_) fun _ _ h' => h')
    refine wpAny_bind (wpAny_mono h₂ (fun okb s₃ h₃ => ?_) fun _ _ h' => h')
    cases okb with
    | false => exact wpAny_pure ⟨rfl, h₃⟩
    | true => exact wpAny_bind (wpAny_bind (wpAny_mono h₃ (fun x s₄ h₄ => wpAny_bind (wpAny_mono h₄ (fun _ s₅ h₅ => wpAny_pure (wpAny_pure ⟨rfl, h₅⟩)) fun _ _ h' => h')) fun _ _ h' => h'))
/-- the end of a comprehension's turn -/
def CEnd (h₀ : Heap) (L : Addr) (m : Str → Option Value) (own : Led) (I C D : Addr) (J : List Value → Led → Prop) (s₁ : Shared) (ys : List Value) (s₂ : Shared) : Prop :=
  ∃ h' tk all' news', s₂ = { s₁ with heap := h', toks := tk } ∧ Fr h₀ L h' m ∧ News h₀ L h' all' ∧ (∀ p ∈ own, p ∈ all') ∧ (∀ p ∈ news', p ∈ all') ∧ Off3 I C D news' ∧ J ys news'
theorem CEnd.intro {own all' news' : Led} {I C D : Addr} {J : List Value → Led → Prop} {s₁ : Shared} {ys : List Value} {h' : Heap} {tk : Nat} (F : Fr h₀ L h' m) (N : News h₀ L h' all') (ho : ∀ p ∈ own, p ∈ all') (hn : ∀ p ∈ news', p ∈ all') (off : Off3 I C D news') (hJ : J ys news') :
    CEnd h₀ L m own I C D J s₁ ys { s₁ with heap := h', toks := tk } := ⟨h', tk, all', news', rfl, F, N, ho, hn, off, hJ⟩
/-- what must be shown of a turn -/
def CTurn (prog : Program) (w : World) (A : Around) (h₀ : Heap) (L : Addr) (m : Str → Option Value) (env : Env) (ifs : List PySem.Expr) (elt : PySem.Expr) (scope : Scope) (cl : List (Str × Addr)) (s : Shared) (src : Led) (J : Nat → List Value → Led → Prop) (i : Nat) (Bd : (Str → Option Value) → Prop) : Prop :=
  ∀ ys news₁ I oI C oC D m₂ h tk (E' : Value → Shared → Prop), J i ys news₁ → NsObj oC m₂ → Bd m₂ → Fr h₀ L h m → News h₀ L h ((I, oI) :: (C, oC) :: (D, lst ys) :: (src ++ news₁)) → Off3 I C D (src ++ news₁) → ((@Ne Nat I C) ∧ (@Ne Nat I D) ∧ (@Ne Nat C D)) →
    wpAny (model prog w) A (testsIn ifs (compEnvC scope cl C env)) (fun ok s₃ => if ok = true then
      wpAny (model prog w) A (eval elt (compEnvC scope cl C env)) (fun y s₄ => Halt (CEnd h₀ L m ((I, oI) :: (C, oC) :: (D, lst ys) :: src) I C D (J (i + 1)) { s with heap := h, toks := tk } (ys ++ [y]) s₄)) E' s₃
      else Halt (CEnd h₀ L m ((I, oI) :: (C, oC) :: (D, lst ys) :: src) I C D (J (i + 1)) { s with heap := h, toks := tk } ys s₃)) E' { s with heap := h, toks := tk }
inductive CInv (h₀ : Heap) (L : Addr) (m : Str → Option Value) (n : Nat) (St : Nat → Heap → Prop) (I C D : Addr) (src : Led) (J : Nat → List Value → Led → Prop) (s₂ : Shared) (k : Nat) (s' : Shared) : Prop
  | intro (h' : Heap) (tk i : Nat) (ys : List Value) (m' : Str → Option Value) (news' : Led) (e : s' = { s₂ with heap := h', toks := tk }) (hi : i ≤ n) (ek : k = n + 1 - i) (hst : St i h') (F : Fr h₀ L h' m) (hn : h'.Ns C m') (N : News h₀ L h' ((D, lst ys) :: (src ++ news'))) (off : Off3 I C D (src ++ news')) (hJ : J i ys news') : CInv h₀ L m n St I C D src J s₂ k s'
theorem comp_block {elt target iter : PySem.Expr} {ifs : List PySem.Expr} {scope : Scope} {cl : List (Str × Addr)} {pos : Pos} {s₂ : Shared} {I : Addr} {fp : List Addr} {n : Nat} {P : Nat → Value → Prop} {St : Nat → Heap → Prop} {src news₀ : Led}
    {RR : Value → Addr → Result → Shared → Prop} (J : Nat → List Value → Led → Prop) (Bd : Nat → (Str → Option Value) → Prop)
    (W : Walks prog w A I fp [I] n P St) (hsz : n ≤ sizeLine) (hIo : ∀ i h, St i h → ∃ o, h.get? I = some o)
    (hgo : ∀ i (s' : Shared) v (Q' : Unit → Shared → Prop) E, St i s'.heap → Q' () s' → wpAny (model prog w) A (letOwnedTupleGo target (.ref I) v) Q' E s')
    (hSt : ∀ i h h' o, St i h → h.get? I = some o → h'.get? I = some o → (∀ b o, h₀.get? b = some o → h'.get? b = some o) → News h₀ L h' src → St i h')
    (hcell : ∀ y ∈ scope.names, y.2 ≠ .cell) (hkind : scope.kind = .function) (hst : St 0 s₂.heap) (hfp : ∀ b ∈ fp, b < s₂.heap.objs.size)
    (F : Fr h₀ L s₂.heap m) (N : News h₀ L s₂.heap (src ++ news₀)) (hIL : L ≠ I) (hI₀ : h₀.get? I = none) (off : ∀ p ∈ src ++ news₀, p.1 ≠ I) (hj : J 0 [] news₀)
    (hasg : ∀ i v (s' : Shared) m' C (Q' : Unit → Shared → Prop) E, P i v → s'.heap.Ns C m' → (∀ b o, h₀.get? b = some o → s'.heap.get? b = some o) → News h₀ L s'.heap src → (∀ h' tk m'', Bd i m'' → h'.Ns C m'' → (∀ c o, c ≠ C → s'.heap.get? c = some o → h'.get? c = some o) → Q' () { s' with heap := h', toks := tk }) →
      wpAny (model prog w) A (assign target (compEnvC scope cl C env) v) Q' E s')
    (turn : ∀ i, i < n → CTurn prog w A h₀ L m env ifs elt scope cl s₂ src J i (Bd i))
    (hlen : ∀ i ys news₁, J i ys news₁ → ys.length ≤ i)
    (hRR : ∀ D C h tk m' ys news₁, Fr h₀ L h m → News h₀ L h ((D, lst ys) :: (src ++ news₁)) → (∀ p ∈ src ++ news₁, p.1 ≠ D) → h.Ns C m' → h₀.get? C = none → h₀.get? D = none → C ≠ L → D ≠ L → C ≠ D → (∀ p ∈ src ++ news₁, p.1 ≠ C) → J n ys news₁ → RR (.ref D) C (.ok .next) { s₂ with heap := h, toks := tk }) :
    wpAny (model prog w) A (newList []) (fun acc s₃ => wpAny (model prog w) A (newFunctionEnv scope env.globals cl [] env.qual none .none (some env)) (fun cenv s₄ =>
      codeAny (model prog w) A (.compStart (.ListComp elt [⟨target, iter, ifs, 0⟩] scope pos) 0 (.ref I) acc { cenv with scope := relabel scope env }) (RR acc cenv.locals) s₄) E s₃) E s₂ := by
  refine wpAny_newObj_type (wpAny_newFunctionEnv hcell (by intro y hy; simp at hy) (fun h₁ hns₁ hsb₁ => ?_) hkind)
  dsimp only at hns₁ hsb₁ ⊢
  generalize hH2 : s₂.heap.push { cls := .type "list", dict := none, data := .seq ([] : List Value).toArray } = H2 at hns₁ hsb₁ ⊢
  have hC : H2.objs.size = s₂.heap.objs.size + 1 := by rw [← hH2, Heap.size_push]
  have hDC : s₂.heap.objs.size ≠ H2.objs.size := by rw [hC]; exact Nat.ne_of_lt (Nat.lt_succ_self _)
  have below : ∀ b, b < s₂.heap.objs.size → b ≠ H2.objs.size ∧ b ≠ s₂.heap.objs.size := fun b hb => ⟨by rw [hC]; exact Nat.ne_of_lt (Nat.lt_succ_of_lt hb), Nat.ne_of_lt hb⟩
  have hDf : s₂.heap.objs.size ∉ fp := fun hm => Nat.lt_irrefl _ (hfp _ hm)
  have hCf : H2.objs.size ∉ fp := fun hm => by have := hfp _ hm; rw [hC] at this; exact Nat.lt_irrefl _ (Nat.lt_of_succ_lt this)
  have hIf : I ∈ fp := W.sub I (List.mem_singleton.mpr rfl)
  have hIlt : I < s₂.heap.objs.size := hfp I hIf
  have old : ∀ b o, s₂.heap.get? b = some o → h₁.get? b = some o := fun b o e => hsb₁.extBut b o (below b (Heap.lt_size e)).1 (Heap.get?_push_of_some _ (hH2 ▸ Heap.get?_push_of_some _ e))
  have hacc : h₁.get? s₂.heap.objs.size = some (lst []) := hsb₁.extBut _ _ hDC (Heap.get?_push_of_some _ (hH2 ▸ Heap.get?_push_size _ rfl))
  have hst₁ : St 0 h₁ := W.frame _ _ _ hst fun b _ o e => old b o e
  have fresh : ∀ a, s₂.heap.objs.size ≤ a → s₂.heap.get? a = none := fun a ha => by
    cases e : s₂.heap.get? a with
    | none => rfl
    | some o' => exact absurd (Heap.lt_size e) (Nat.not_lt.mpr ha)
  have fresh₀ : ∀ a, s₂.heap.objs.size ≤ a → h₀.get? a = none := fun a ha => by
    cases e : h₀.get? a with
    | none => rfl
    | some o' => have := F.keep a o' e; rw [fresh a ha] at this; cases this
  have hD₀ : h₀.get? s₂.heap.objs.size = none := fresh₀ _ (Nat.le_refl _)
  have hC₀ : h₀.get? H2.objs.size = none := fresh₀ _ (by rw [hC]; exact Nat.le_succ _)
  have hLlt : L < s₂.heap.objs.size := F.ns.lt
  have hDL : s₂.heap.objs.size ≠ L := Ne.symm (below L hLlt).2
  have hCL : H2.objs.size ≠ L := Ne.symm (below L hLlt).1
  have hCI : I ≠ H2.objs.size := (below I hIlt).1
  have hDI : I ≠ s₂.heap.objs.size := (below I hIlt).2
  have off₀ : Off3 I H2.objs.size s₂.heap.objs.size (src ++ news₀) := Off3.of fun p hp => ⟨off p hp, (below _ (Heap.lt_size (N p hp).1)).1, (below _ (Heap.lt_size (N p hp).1)).2⟩
  have offs : ∀ p ∈ src, p.1 ≠ I ∧ p.1 ≠ H2.objs.size ∧ p.1 ≠ s₂.heap.objs.size := fun p hp => off₀.mem p (List.mem_append_left _ hp)
  have loop : ∀ s₃ : Shared, s₃ = { s₂ with heap := h₁, toks := s₂.toks + ([] : List (Str × Value)).length } →
      codeAny (model prog w) A (.compLoop (.ListComp elt [⟨target, iter, ifs, 0⟩] scope pos) 0 (.ref I) (.ref s₂.heap.objs.size) (compEnvC scope cl H2.objs.size env))
        (RR (.ref s₂.heap.objs.size) H2.objs.size) s₃ := by
    rintro s₃ rfl
    refine comp_loop
      (CInv h₀ L m n St I H2.objs.size s₂.heap.objs.size src J s₂) ?_ (n + 1)
      ⟨h₁, _, 0, [], _, news₀, rfl, Nat.zero_le _, rfl, hst₁, F.keeps old, hns₁, fun p hp => ?_, off₀, hj⟩
    · rintro k s' ⟨h', tk, i, ys, m', news', rfl, hi, rfl, hst', F', hn', N', off', hJ'⟩
      by_cases hlt : i < n
      · refine W.item i _ _ _ hlt hst' fun v h₂ tk₂ hPv hst₂ hk₂ => ?_
        have off3 := off'.mem
        have N₂ : News h₀ L h₂ ((s₂.heap.objs.size, lst ys) :: (src ++ news')) := news_but N' hk₂ fun p hp => by
          rcases List.mem_cons.mp hp with rfl | hp
          · exact Ne.symm hDI
          · exact (off3 p hp).1
        have F₂ := fr_but F' hk₂ hIL hI₀
        refine hgo _ _ _ _ _ hst₂ ?_
        refine hasg i v _ _ H2.objs.size _ _ hPv (hn'.at' fun o e => hk₂ _ o (by simpa using Ne.symm hCI) e) F₂.keep (fun p hp => N₂ p (List.mem_cons_of_mem _ (List.mem_append_left _ hp))) fun h₃ tk₃ m₃ hBd hn₃ old3 => ?_
        have hst₃ : St (i + 1) h₃ := W.frame _ _ _ hst₂ fun b hb o e => old3 b o (fun q => hCf (by rw [← q]; exact hb)) e
        obtain ⟨oI, heI⟩ := hIo _ _ hst₃
        obtain ⟨oC, heC, hoC⟩ := ns_obj hn₃
        have F₃ : Fr h₀ L h₃ m := ⟨F₂.ns.at' fun o e => old3 _ o (Ne.symm hCL) e, fun b o e => old3 b o (fun q => by rw [q, hC₀] at e; cases e) (F₂.keep b o e), F₂.above⟩
        have N₃ : News h₀ L h₃ ((I, oI) :: (H2.objs.size, oC) :: (s₂.heap.objs.size, lst ys) :: (src ++ news')) := fun p hp => by
          rcases List.mem_cons.mp hp with rfl | hp
          · exact ⟨heI, Ne.symm hIL, hI₀⟩
          · rcases List.mem_cons.mp hp with rfl | hp
            · exact ⟨heC, hCL, hC₀⟩
            · have z := N₂ p hp
              refine ⟨old3 _ _ ?_ z.1, z.2⟩
              rcases List.mem_cons.mp hp with rfl | hp
              · exact hDC
              · exact (off3 p hp).2.1
        have fin : ∀ ys' s₄, CEnd h₀ L m ((I, oI) :: (H2.objs.size, oC) :: (s₂.heap.objs.size, lst ys) :: src) I H2.objs.size s₂.heap.objs.size (J (i + 1)) { s₂ with heap := h₃, toks := tk₃ } ys' s₄ →
            ∃ h' tk news'' m'', s₄ = { s₂ with heap := h', toks := tk } ∧ St (i + 1) h' ∧ Fr h₀ L h' m ∧ h'.Ns H2.objs.size m'' ∧ News h₀ L h' ((s₂.heap.objs.size, lst ys) :: (src ++ news'')) ∧ Off3 I H2.objs.size s₂.heap.objs.size (src ++ news'') ∧ J (i + 1) ys' news'' := by
          rintro ys' s₄ ⟨h₄, tk₄, all₄, news₄, rfl, F₄, N₄, ho, hn, off₄, hJ₄⟩
          have zI := (N₄ (I, oI) (ho _ (List.mem_cons_self))).1
          have zC := (N₄ (H2.objs.size, oC) (ho _ (List.mem_cons_of_mem _ List.mem_cons_self))).1
          have Nsrc : News h₀ L h₄ src := fun p hp => N₄ p (ho _ (List.mem_cons_of_mem _ (List.mem_cons_of_mem _ (List.mem_cons_of_mem _ hp))))
          refine ⟨h₄, tk₄, news₄, m₃, rfl, hSt _ _ _ _ hst₃ heI zI F₄.keep Nsrc, F₄, hoC.ns zC, fun p hp => ?_, Off3.of fun p hp => ?_, hJ₄⟩
          · rcases List.mem_cons.mp hp with rfl | hp
            · exact N₄ _ (ho _ (List.mem_cons_of_mem _ (List.mem_cons_of_mem _ List.mem_cons_self)))
            · rcases List.mem_append.mp hp with hp | hp
              · exact Nsrc p hp
              · exact N₄ _ (hn p hp)
          · rcases List.mem_append.mp hp with hp | hp
            · exact offs p hp
            · exact off₄.mem p hp
        refine wpAny_mono (turn i hlt ys news' I oI H2.objs.size oC s₂.heap.objs.size _ h₃ _ _ hJ' hoC hBd F₃ N₃ off' ⟨hCI, hDI, Ne.symm hDC⟩) (fun ok s₃ h₃' => ?_) fun _ _ e => e
        cases ok with
        | false =>
          obtain ⟨h₄, tk₄, news₄, m₄, rfl, hst₄, F₄, hn₄, N₄, off₄, hJ₄⟩ := fin _ _ h₃'
          -- what the list holds is told by J alone: nothing was laid
          exact ⟨n + 1 - (i + 1), by omega, h₄, tk₄, i + 1, ys, m₄, news₄, rfl, hlt, rfl, hst₄, F₄, hn₄, N₄, off₄, hJ₄⟩
        | true =>
          refine wpAny_mono h₃' (fun y s₄ h₄ => ?_) fun _ _ e => e
          obtain ⟨h₄, tk₄, news₄, m₄, rfl, hst₄, F₄, hn₄, N₄, off₄, hJ₄⟩ := fin _ _ h₄
          refine append_at (hsz := by show ys.toArray.size ≤ sizeLine; rw [List.size_toArray]; exact Nat.le_trans (hlen _ _ _ hJ') (Nat.le_trans hi hsz)) (N₄ _ List.mem_cons_self).1 fun h₅ hs₅ hD₅ => ?_
          have off4 := off₄.mem
          refine ⟨n + 1 - (i + 1), by omega, h₅, tk₄, i + 1, ys ++ [y], _, news₄, rfl, hlt, rfl, W.frame _ _ _ hst₄ fun b hb o e => hs₅.extBut b o (fun q => hDf (q ▸ hb)) e, F₄.change hs₅ hDL hD₀,
            hn₄.sameBut hs₅ (Ne.symm hDC), fun p hp => ?_, off₄, hJ₄⟩
          rcases List.mem_cons.mp hp with rfl | hp
          · exact ⟨hD₅.trans (congrArg some (lst_snoc ys y)), hDL, hD₀⟩
          · exact ⟨hs₅.extBut _ _ (off4 p hp).2.2 (N₄ p (List.mem_cons_of_mem _ hp)).1, (N₄ p (List.mem_cons_of_mem _ hp)).2⟩
      · obtain rfl : i = n := Nat.le_antisymm hi (Nat.not_lt.mp hlt)
        refine W.done _ _ _ hst' fun h₂ tk₂ hk₂ => ?_
        have off3 := off'.mem
        exact hRR _ _ h₂ tk₂ _ ys news' (fr_but F' hk₂ hIL hI₀) (news_but N' hk₂ fun p hp => by
          rcases List.mem_cons.mp hp with rfl | hp
          · exact Ne.symm hDI
          · exact (off3 p hp).1) (fun p hp => (off3 p hp).2.2) (hn'.at' fun o e => hk₂ _ o (by simpa using Ne.symm hCI) e) hC₀ hD₀ hCL hDL (Ne.symm hDC) (fun p hp => (off3 p hp).2.1) hJ'
    · rcases List.mem_cons.mp hp with rfl | hp
      · exact ⟨hacc, hDL, hD₀⟩
      · exact ⟨old _ _ (N p hp).1, (N p hp).2⟩
  exact codeAny_compStart_list (loop _ rfl) (W.self 0 _ _ _ hst₁ (loop _ rfl))
abbrev tupOf (v₁ v₂ : Value) (n : Nat) : Obj := { cls := .type "tuple", data := .seq #[v₁, v₂] n }
def FinC (h₀ : Heap) (L : Addr) (m : Str → Option Value) (Q : Value → Shared → Prop) (s : Shared) (ys : List Value) (all : Led) : Prop :=
  ∀ D h tk, Fr h₀ L h m → News h₀ L h ((D, lst ys) :: all) → (∀ p ∈ all, p.1 ≠ D) → Q (.ref D) { s with heap := h, toks := tk }
def FinN (h₀ : Heap) (L : Addr) (m : Str → Option Value) (y : Str) (Q : Flow → Shared → Prop) (s : Shared) (ys : List Value) (all : Led) : Prop :=
  ∀ D h tk, Fr h₀ L h (fun z => if z = y then some (.ref D) else m z) → News h₀ L h ((D, lst ys) :: all) → (∀ p ∈ all, p.1 ≠ D) → Q .next { s with heap := h, toks := tk }
inductive CompAt (prog : Program) (w : World) (A : Around) (h₀ : Heap) (L : Addr) (m : Str → Option Value) (env : Env) (target : PySem.Expr) (ifs : List PySem.Expr) (elt : PySem.Expr) (scope : Scope) (cl : List (Str × Addr))
    (Fin : Shared → List Value → Led → Prop) (it : Value) (s₂ : Shared) : Prop
  | intro (I : Addr) (fp : List Addr) (n : Nat) (P : Nat → Value → Prop) (St : Nat → Heap → Prop) (src news₀ : Led) (J : Nat → List Value → Led → Prop) (Bd : Nat → (Str → Option Value) → Prop)
    (e : it = .ref I) (W : Walks prog w A I fp [I] n P St) (hsz : n ≤ sizeLine) 
    (hIo : ∀ i h, St i h → ∃ o, h.get? I = some o)
    (hgo : ∀ i (s' : Shared) v (Q' : Unit → Shared → Prop) E, St i s'.heap → Q' () s' → wpAny (model prog w) A (letOwnedTupleGo target (.ref I) v) Q' E s')
    (hSt : ∀ i h h' o, St i h → h.get? I = some o → h'.get? I = some o → (∀ b o, h₀.get? b = some o → h'.get? b = some o) → News h₀ L h' src → St i h')
    (hst : St 0 s₂.heap)
    (hfp : ∀ b ∈ fp, b < s₂.heap.objs.size)
    (F : Fr h₀ L s₂.heap m)
    (N : News h₀ L s₂.heap (src ++ news₀))
    (hIL : L ≠ I)
    (hI : h₀.get? I = none)
    (off : ∀ p ∈ src ++ news₀, p.1 ≠ I)
    (hj : J 0 [] news₀)
    (hasg : ∀ i v (s' : Shared) m' C (Q' : Unit → Shared → Prop) E, P i v → s'.heap.Ns C m' → (∀ b o, h₀.get? b = some o → s'.heap.get? b = some o) → News h₀ L s'.heap src → (∀ h' tk m'', Bd i m'' → h'.Ns C m'' → (∀ c o, c ≠ C → s'.heap.get? c = some o → h'.get? c = some o) → Q' () { s' with heap := h', toks := tk }) →
      wpAny (model prog w) A (assign target (compEnvC scope cl C env) v) Q' E s')
    (turn : ∀ i, i < n → CTurn prog w A h₀ L m env ifs elt scope cl s₂ src J i (Bd i))
    (hlen : ∀ i ys news₁, J i ys news₁ → ys.length ≤ i)
    (fin : ∀ ys news₁, J n ys news₁ → Fin s₂ ys (src ++ news₁)) : CompAt prog w A h₀ L m env target ifs elt scope cl Fin it s₂
theorem ListComp_at {elt iter target : PySem.Expr} {ifs : List PySem.Expr} {scope : Scope} {cl : List (Str × Addr)} {pos : Pos} {Q : Value → Shared → Prop} (_F₀ : Fr h₀ L s.heap m)
    (hclos : closureFor scope env = pure cl) (hcell : ∀ y ∈ scope.names, y.2 ≠ .cell) (hkind : scope.kind = .function)
    (hnames : ∀ y ∈ scope.names, y.2 = .local → scope.names.lookup y.1 = some .local)
    (h : wpAny (model prog w) A (eval iter env) (fun xv s₁ => wpAny (model prog w) A (pyIter xv) (CompAt prog w A h₀ L m env target ifs elt scope cl (FinC h₀ L m Q)) E s₁) E s)
    (hs : ∀ x, foldedSetIterable iter env x = pure x := by intro _; rfl) :
    wpAny (model prog w) A (eval (.ListComp elt [⟨target, iter, ifs, 0⟩] scope pos) env) Q E s := by
  rw [eval_ListComp]
  refine wpAny_comprehension_free (use := none) rfl hs hclos hkind hnames (wpAny_mono h (fun xv s₁ h₁ => wpAny_mono h₁ (fun it s₂ h₂ => ?_) fun _ _ e => e) fun _ _ e => e)
  obtain ⟨I, fp, n, P, St, src, news₀, J, Bd, rfl, W, hsz, hIo, hgo, hSt, hst, hfp, F, N, hIL, hI₀, off, hj, hasg, turn, hlen, fin⟩ := h₂
  refine comp_block J Bd W hsz hIo hgo hSt hcell hkind hst hfp F N hIL hI₀ off hj hasg turn hlen ?_
  intro D C h tk m' ys news₁ F' N' offD hn hC₀ hD₀ hCL hDL hCD offC hJ
  refine ⟨m', hn, fun h'' hs'' => fin ys news₁ hJ D h'' tk (F'.change hs'' hCL hC₀) (fun p hp => ?_) offD⟩
  refine ⟨hs''.extBut _ _ ?_ (N' p hp).1, (N' p hp).2⟩
  rcases List.mem_cons.mp hp with rfl | hp
  · exact Ne.symm hCD
  · exact offC p hp
theorem Assign_ListComp_at {elt iter target : PySem.Expr} {ifs : List PySem.Expr} {y : Str} {py : Pos} {scope : Scope} {cl : List (Str × Addr)} {pos spos : Pos} {Q : Flow → Shared → Prop} (_F₀ : Fr h₀ L s.heap m) (hLe : env.locals = L)
    (hsw : swapsWith (.ListComp elt [⟨target, iter, ifs, 0⟩] scope pos) (some (.Name y py)) spos.line env = pure true)
    (hclos : closureFor scope env = pure cl) (hcell : ∀ z ∈ scope.names, z.2 ≠ .cell) (hkind : scope.kind = .function)
    (hnames : ∀ z ∈ scope.names, z.2 = .local → scope.names.lookup z.1 = some .local)
    (hy : env.kindOf y = some .local) (hp : (env.scope.kind == .class || (env.scope.kind == .module && env.locals != env.globals)) = false)
    (h : wpAny (model prog w) A (eval iter env) (fun xv s₁ => wpAny (model prog w) A (pyIter xv) (CompAt prog w A h₀ L m env target ifs elt scope cl (FinN h₀ L m y Q)) E s₁) E s)
    (hs : ∀ x, foldedSetIterable iter env x = pure x := by intro _; rfl) :
    wpAny (model prog w) A (exec (.Assign [.Name y py] (.ListComp elt [⟨target, iter, ifs, 0⟩] scope pos) spos) env) Q E s := by
  subst hLe
  rw [exec_Assign_Name_used _ _ _ _ hsw]
  refine wpAny_bind (wpAny_standAt (wpAny_bind ?_))
  show wpAny _ A (do let _ ← comprehension (.ListComp elt [⟨target, iter, ifs, 0⟩] scope pos) scope env _ (newList []) false (eval iter env) (some (assign (.Name y py) env))) _ _ s
  refine wpAny_bind (wpAny_mono (wpAny_comprehension_free (use := some (assign (.Name y py) env)) (Q := fun _ s' => Q .next s') rfl hs hclos hkind hnames
    (wpAny_mono h (fun xv s₁ h₁ => wpAny_mono h₁ (fun it s₂ h₂ => ?_) fun _ _ e => e) fun _ _ e => e)) (fun _ s' hq => wpAny_pure (wpAny_pure hq)) fun _ _ e => e)
  obtain ⟨I, fp, n, P, St, src, news₀, J, Bd, rfl, W, hsz, hIo, hgo, hSt, hst, hfp, F, N, hIL, hI₀, off, hj, hasg, turn, hlen, fin⟩ := h₂
  refine comp_block J Bd W hsz hIo hgo hSt hcell hkind hst hfp F N hIL hI₀ off hj hasg turn hlen ?_
  intro D C h' tk m' ys news₁ F' N' offD hn hC₀ hD₀ hCL hDL hCD offC hJ
  show wpAny _ A (assign (.Name y py) env (.ref D)) _ _ _
  refine wpAny_assign_Name (wpAny_storeName_local hy F'.ns (fun h₂ hn₂ hs₂ => ?_) hp)
  have hL₀ : h₀.get? env.locals = none := Heap.get?_none_of_le F'.above
  have F₂ : Fr h₀ env.locals h₂ (fun z => if z = y then some (.ref D) else m z) := ⟨hn₂, fun b o e => hs₂.extBut b o (fun q => by rw [q, hL₀] at e; cases e) (F'.keep b o e), F'.above⟩
  refine ⟨m', hn.sameBut hs₂ hCL, fun h'' hs'' => fin ys news₁ hJ D h'' _ (F₂.change hs'' hCL hC₀) (fun p hp => ?_) offD⟩
  have z : h₂.get? p.1 = some p.2 := hs₂.extBut _ _ (N' p hp).2.1 (N' p hp).1
  refine ⟨hs''.extBut _ _ ?_ z, (N' p hp).2⟩
  rcases List.mem_cons.mp hp with rfl | hp
  · exact Ne.symm hCD
  · exact offC p hp
/-- over a list of the ledger's, by any target whose assignment is told -/
theorem comp_list {elt target : PySem.Expr} {ifs : List PySem.Expr} {scope : Scope} {cl : List (Str × Addr)} {Fin : Shared → List Value → Led → Prop} {la : Addr} {vs : List Value} {n : Nat} {news own news₀ : Led} (J : Nat → List Value → Led → Prop) (Bd : Nat → (Str → Option Value) → Prop)
    (hh : A.handled = none) (F : Fr h₀ L s.heap m) (N : News h₀ L s.heap news) (hm : (la, listOf vs.toArray n) ∈ news) (hsub : ∀ p ∈ own ++ news₀, p ∈ news) (hsz : vs.length ≤ sizeLine) (hj : J 0 [] news₀)
    (hasg : ∀ i v (s' : Shared) m' C (Q' : Unit → Shared → Prop) E, vs[i]? = some v → s'.heap.Ns C m' → News h₀ L s'.heap own → (∀ h' tk m'', Bd i m'' → h'.Ns C m'' → (∀ c o, c ≠ C → s'.heap.get? c = some o → h'.get? c = some o) → Q' () { s' with heap := h', toks := tk }) →
      wpAny (model prog w) A (assign target (compEnvC scope cl C env) v) Q' E s')
    (hlen : ∀ i ys news₁, J i ys news₁ → ys.length ≤ i)
    (turn : ∀ g i, i < vs.length → CTurn prog w A h₀ L m env ifs elt scope cl { s with heap := g } ((la, listOf vs.toArray n) :: own) J i (Bd i))
    (done : ∀ g ys news₁, J vs.length ys news₁ → Fin { s with heap := g } ys ((la, listOf vs.toArray n) :: (own ++ news₁))) :
    wpAny (model prog w) A (pyIter (.ref la)) (CompAt prog w A h₀ L m env target ifs elt scope cl Fin) E s := by
  have hl : s.heap.IsList la vs.toArray := ⟨_, (N _ hm).1, rfl, _, rfl⟩
  have hlt : @LT.lt Nat _ la s.heap.objs.size := Heap.lt_size (N _ hm).1
  have hne : la ≠ s.heap.objs.size := Nat.ne_of_lt hlt
  have N₀ : News h₀ L s.heap (((la, listOf vs.toArray n) :: own) ++ news₀) := fun q hq => by
    rcases List.mem_cons.mp hq with rfl | hq
    · exact N _ hm
    · exact N _ (hsub _ hq)
  refine wpAny_pyIter_list hl ?_
  have W := Walks.list (prog := prog) (w := w) hh s.heap.objs.size la hne vs.toArray
  rw [show vs.toArray.size = vs.length from List.size_toArray ..] at W
  refine ⟨s.heap.objs.size, _, vs.length, _, _, (la, listOf vs.toArray n) :: own, news₀, J, Bd, rfl, W, hsz, (fun i h st => let ⟨o, e, _⟩ := st.1; ⟨o, e⟩), (fun i s' v Q' E st hQ' => letGo_listiter st.1 hQ'), ?_, ⟨⟨_, Heap.get?_push_size _ rfl, rfl, rfl⟩, hl.push _⟩, ?_, F.push _, news_push N₀ _, (off_I F).1, (off_I F).2, news_I N₀, hj, ?_, fun i hi => turn _ i hi, hlen, fun ys news₁ hJ => done _ ys news₁ hJ⟩
  · intro i h h' o st e e' _ N'
    refine ⟨?_, ⟨_, (N' _ List.mem_cons_self).1, rfl, _, rfl⟩⟩
    obtain ⟨o', q, r⟩ := st.1
    rw [e] at q; cases q
    exact ⟨o, e', r⟩
  · intro b hb
    show b < (s.heap.push _).objs.size
    rw [Heap.size_push]
    rcases List.mem_cons.mp hb with rfl | hb
    · exact Nat.lt_succ_self _
    · rw [List.mem_singleton.mp hb]; exact Nat.lt_succ_of_lt hlt
  · intro i v s' m' C Q' E hP hn _ N' h
    exact hasg i v s' m' C Q' E (by simpa using hP) hn (fun p hp => N' p (List.mem_cons_of_mem _ hp)) h
theorem asg_name {x : Str} {px : Pos} {scope : Scope} {cl : List (Str × Addr)} {v : Value} {s' : Shared} {m' : Str → Option Value} {C : Addr} {Q' : Unit → Shared → Prop} {E : Value → Shared → Prop} (hkind : scope.kind = .function) (hx : scope.names.lookup x = some .local) (hn : s'.heap.Ns C m')
    (h : ∀ h' tk m'', m'' x = some v → h'.Ns C m'' → (∀ c o, c ≠ C → s'.heap.get? c = some o → h'.get? c = some o) → Q' () { s' with heap := h', toks := tk }) :
    wpAny (model prog w) A (assign (.Name x px) (compEnvC scope cl C env) v) Q' E s' :=
  wpAny_assign_Name (wpAny_storeName_local (lookup_relabel_local hx) hn (fun h₃ hn₃ hs₃ => h h₃ _ _ (by simp) hn₃ fun c o hc e => hs₃.extBut c o hc e) (by simp [compEnvC, relabel, hkind]))
theorem asg_pair {a b : Str} {pa pb tp : Pos} {kk : Nat} {scope : Scope} {cl : List (Str × Addr)} {t : Addr} {v₁ v₂ : Value} {s' : Shared} {m' : Str → Option Value} {C : Addr} {Q' : Unit → Shared → Prop} {E : Value → Shared → Prop} (hh : A.handled = none) (ht : s'.heap.IsTuple t #[v₁, v₂]) (hkind : scope.kind = .function)
    (ha : scope.names.lookup a = some .local) (hb : scope.names.lookup b = some .local) (hab : a ≠ b) (hn : s'.heap.Ns C m')
    (h : ∀ h' tk m'', (m'' a = some v₁ ∧ m'' b = some v₂) → h'.Ns C m'' → (∀ c o, c ≠ C → s'.heap.get? c = some o → h'.get? c = some o) → Q' () { s' with heap := h', toks := tk }) :
    wpAny (model prog w) A (assign (.Tuple [.Name a pa, .Name b pb] kk tp) (compEnvC scope cl C env) (.ref t)) Q' E s' :=
  kcp_assign hh ht (lookup_relabel_local ha) (lookup_relabel_local hb) (by simp [compEnvC, relabel, hkind]) hn fun h' tk hn' hk => h h' tk _ ⟨by simp [hab], by simp⟩ hn' hk
/-- by a name, over a list of the ledger's -/
theorem comp_nameL {elt : PySem.Expr} {ifs : List PySem.Expr} {x : Str} {px : Pos} {scope : Scope} {cl : List (Str × Addr)} {Fin : Shared → List Value → Led → Prop} {la : Addr} {vs : List Value} {n : Nat} {news own news₀ : Led} (J : Nat → List Value → Led → Prop)
    (hh : A.handled = none) (hkind : scope.kind = .function) (hx : scope.names.lookup x = some .local) (F : Fr h₀ L s.heap m) (N : News h₀ L s.heap news) (hm : (la, listOf vs.toArray n) ∈ news) (hsub : ∀ p ∈ own ++ news₀, p ∈ news) (hsz : vs.length ≤ sizeLine) (hj : J 0 [] news₀)
    (hlen : ∀ i ys news₁, J i ys news₁ → ys.length ≤ i)
    (turn : ∀ g i v, vs[i]? = some v → CTurn prog w A h₀ L m env ifs elt scope cl { s with heap := g } ((la, listOf vs.toArray n) :: own) J i (fun m₂ => m₂ x = some v))
    (done : ∀ g ys news₁, J vs.length ys news₁ → Fin { s with heap := g } ys ((la, listOf vs.toArray n) :: (own ++ news₁))) :
    wpAny (model prog w) A (pyIter (.ref la)) (CompAt prog w A h₀ L m env (.Name x px) ifs elt scope cl Fin) E s := by
  refine comp_list J (fun i m₂ => ∃ v, vs[i]? = some v ∧ m₂ x = some v) hh F N hm hsub hsz hj ?_ hlen ?_ done
  · intro i v s' m' C Q' E hv hn _ h
    exact asg_name hkind hx hn fun h' tk m'' e => h h' tk m'' ⟨v, hv, e⟩
  · intro g i _ ys news₁ I oI C oC D m₂ h tk E' hJ hN ⟨v, hv, hB⟩
    exact turn g i v hv ys news₁ I oI C oC D m₂ h tk E' hJ hN hB
/-- by two names, over a list of pairs -/
theorem comp_pairL {elt : PySem.Expr} {ifs : List PySem.Expr} {a b : Str} {pa pb tp : Pos} {kk : Nat} {scope : Scope} {cl : List (Str × Addr)} {Fin : Shared → List Value → Led → Prop} {la : Addr} {vs : List Value} {n : Nat} {news own news₀ : Led} (J : Nat → List Value → Led → Prop) (PV : Nat → Value → Value → Prop)
    (hh : A.handled = none) (hkind : scope.kind = .function) (ha : scope.names.lookup a = some .local) (hb : scope.names.lookup b = some .local) (hab : a ≠ b) (F : Fr h₀ L s.heap m) (N : News h₀ L s.heap news) (hm : (la, listOf vs.toArray n) ∈ news) (hsub : ∀ p ∈ own ++ news₀, p ∈ news)
    (hp : ∀ i v, vs[i]? = some v → ∃ t v₁ v₂ k, v = .ref t ∧ (t, tupOf v₁ v₂ k) ∈ own ∧ PV i v₁ v₂) (hsz : vs.length ≤ sizeLine) (hj : J 0 [] news₀)
    (hlen : ∀ i ys news₁, J i ys news₁ → ys.length ≤ i)
    (turn : ∀ g i v₁ v₂, i < vs.length → PV i v₁ v₂ → CTurn prog w A h₀ L m env ifs elt scope cl { s with heap := g } ((la, listOf vs.toArray n) :: own) J i (fun m₂ => m₂ a = some v₁ ∧ m₂ b = some v₂))
    (done : ∀ g ys news₁, J vs.length ys news₁ → Fin { s with heap := g } ys ((la, listOf vs.toArray n) :: (own ++ news₁))) :
    wpAny (model prog w) A (pyIter (.ref la)) (CompAt prog w A h₀ L m env (.Tuple [.Name a pa, .Name b pb] kk tp) ifs elt scope cl Fin) E s := by
  refine comp_list J (fun i m₂ => ∃ v₁ v₂, PV i v₁ v₂ ∧ m₂ a = some v₁ ∧ m₂ b = some v₂) hh F N hm hsub hsz hj ?_ hlen ?_ done
  · intro i v s' m' C Q' E hv hn N' h
    obtain ⟨t, v₁, v₂, k, rfl, ht, hP⟩ := hp i v hv
    exact asg_pair hh ⟨_, (N' _ ht).1, rfl, _, rfl⟩ hkind ha hb hab hn fun h' tk m'' e => h h' tk m'' ⟨v₁, v₂, hP, e⟩
  · intro g i hi ys news₁ I oI C oC D m₂ h tk E' hJ hN ⟨v₁, v₂, hP, hB⟩
    exact turn g i v₁ v₂ hi hP ys news₁ I oI C oC D m₂ h tk E' hJ hN hB
/-- by a name, over a str -/
theorem comp_nameS {elt : PySem.Expr} {ifs : List PySem.Expr} {x : Str} {px : Pos} {scope : Scope} {cl : List (Str × Addr)} {Fin : Shared → List Value → Led → Prop} {tx : Str} {t : Tok} {news news₀ : Led} (J : Nat → List Value → Led → Prop)
    (hh : A.handled = none) (hkind : scope.kind = .function) (hx : scope.names.lookup x = some .local) (F : Fr h₀ L s.heap m) (N : News h₀ L s.heap news) (hsub : ∀ p ∈ news₀, p ∈ news) (hsz : tx.cps.size ≤ sizeLine) (hj : J 0 [] news₀)
    (hlen : ∀ i ys news₁, J i ys news₁ → ys.length ≤ i)
    (turn : ∀ g i c u, tx.cps[i]? = some c → CTurn prog w A h₀ L m env ifs elt scope cl { s with heap := g } [] J i (fun m₂ => m₂ x = some (.str ⟨#[c]⟩ u)))
    (done : ∀ g ys news₁, J tx.cps.size ys news₁ → Fin { s with heap := g } ys news₁) :
    wpAny (model prog w) A (pyIter (.str tx t)) (CompAt prog w A h₀ L m env (.Name x px) ifs elt scope cl Fin) E s := by
  have N₀ : News h₀ L s.heap ([] ++ news₀) := fun q hq => N _ (hsub _ hq)
  have go : ∀ (T : String) (o : Obj), Walks prog w A s.heap.objs.size [s.heap.objs.size] [s.heap.objs.size] tx.cps.size (SignAt tx) (fun i h => h.IsStrIter s.heap.objs.size T tx t i) →
      (s.heap.push o).IsStrIter s.heap.objs.size T tx t 0 → CompAt prog w A h₀ L m env (.Name x px) ifs elt scope cl Fin (.ref s.heap.objs.size) { s with heap := s.heap.push o } := by
    intro T o W hst
    refine ⟨s.heap.objs.size, _, tx.cps.size, _, _, [], news₀, J, (fun i m₂ => ∃ c u, tx.cps[i]? = some c ∧ m₂ x = some (.str ⟨#[c]⟩ u)), rfl, W, hsz, (fun i h st => let ⟨o, e, _⟩ := st; ⟨o, e⟩), (fun i s' v Q' E st hQ' => wpAny_of_eq (by rfl) hQ'), ?_, hst, ?_, F.push _, news_push N₀ _, (off_I F).1, (off_I F).2, news_I N₀, hj, ?_, ?_, hlen, fun ys news₁ hJ => done _ ys news₁ hJ⟩
    · intro i h h' o st e e' _ N'
      obtain ⟨o', q, r⟩ := st
      rw [e] at q; cases q
      exact ⟨o, e', r⟩
    · intro b hb
      show b < (s.heap.push _).objs.size
      rw [Heap.size_push, List.mem_singleton.mp hb]
      exact Nat.lt_succ_self _
    · rintro i v s' m' C Q' E ⟨c, u, hc, rfl⟩ hn _ _ h
      exact asg_name hkind hx hn fun h' tk m'' e => h h' tk m'' ⟨c, u, hc, e⟩
    · rintro i _ ys news₁ I oI C oC D m₂ h tk E' hJ hN ⟨c, u, hc, hB⟩
      exact turn _ i c u hc ys news₁ I oI C oC D m₂ h tk E' hJ hN hB
  cases ha : tx.cps.all (· < 128)
  · exact wpAny_pyIter_wide ha (go "str_iterator" _ (Walks.strWide hh _ tx t) ⟨_, Heap.get?_push_size _ rfl, rfl, rfl⟩)
  · exact wpAny_pyIter_ascii ha (go "str_ascii_iterator" _ (Walks.strAscii hh _ tx t) ⟨_, Heap.get?_push_size _ rfl, rfl, rfl⟩)
end
end
theorem reset_Lx : True := by
  (w_top off)
  k_with_none
  first | walk1 | trivial
section
open PySem PySem.W PyProof.Rows PySem.Spec PySem.Calls
/-- a map whose names xs hold anything -/
def stoL : List Str → (Str → Option Value) → (Str → Option Value) → Str → Option Value
  | [], _, m => m
  | x :: r, us, m => fun y => if y = x then us x else stoL r us m y
theorem sto_self {us m₀ : Str → Option Value} : ∀ {xs : List Str}, (∀ y, y ∉ xs → us y = m₀ y) → us = stoL xs us m₀
  | [], h => by funext y; exact h y (by simp)
  | x :: r, h => by
    funext y
    show us y = if y = x then us x else stoL r us m₀ y
    by_cases hy : y = x
    · simp [hy]
    · rw [if_neg hy]
      have : (fun z => if z = x then m₀ x else us z) = stoL r (fun z => if z = x then m₀ x else us z) m₀ := sto_self fun z hz => by
        by_cases hzx : z = x
        · simp [hzx]
        · simp only [if_neg hzx]; exact h z (by simp [hzx, hz])
      have hst : ∀ (r : List Str) (y : Str), y ≠ x → stoL r (fun z => if z = x then m₀ x else us z) m₀ y = stoL r us m₀ y := by
        intro r
        induction r with
        | nil => intro y _; rfl
        | cons z r ih =>
          intro y hyx
          show (if y = z then _ else _) = if y = z then _ else _
          by_cases hyz : y = z
          · subst hyz; simp [hyx]
          · rw [if_neg hyz, if_neg hyz]; exact ih y hyx
      have h2 := congrFun this y
      simp only [if_neg hy] at h2
      rw [h2, hst r y hy]
section
variable {prog : Program} {w : World} {A : Around} {E : Value → Shared → Prop} {s : Shared} {env : Env} {h₀ : Heap} {x : Str} {target : PySem.Expr} {body : List Stmt} {Q : Flow → Shared → Prop}
/-- a turn that stores x and xs alone -/
def Jx (x : Str) (xs : List Str) (m₀ : Str → Option Value) (J : Led → Prop) (m' : Str → Option Value) (nw : Led) : Prop := (∀ y, y ∉ x :: xs → m' y = m₀ y) ∧ J nw
def Jy (xs : List Str) (m₀ : Str → Option Value) (J : Led → Prop) (m' : Str → Option Value) (nw : Led) : Prop := (∀ y, y ∉ xs → m' y = m₀ y) ∧ J nw
theorem map_x {x : Str} {xs : List Str} {m₁ m₀ : Str → Option Value} {v : Value} (h : ∀ y, y ∉ x :: xs → m₁ y = m₀ y) : (fun y => if y = x then some v else m₁ y) = fun y => if y = x then some v else stoL xs (fun y => if y = x then m₀ x else m₁ y) m₀ y := by
  funext y
  by_cases hy : y = x
  · simp [hy]
  · simp only [if_neg hy]
    have := congrFun (sto_self (us := fun y => if y = x then m₀ x else m₁ y) (m₀ := m₀) (xs := xs) fun z hz => by
      by_cases hzx : z = x
      · simp [hzx]
      · simp only [if_neg hzx]; exact h z (by simp [hzx, hz])) y
    simp only [if_neg hy] at this
    exact this
theorem iter_strX {tx : Str} {t : Tok} {m₀ : Str → Option Value} {news news₀ : Led} (xs : List Str) (J : Nat → Led → Prop)
    (hh : A.handled = none) (F : Fr h₀ env.locals s.heap m₀) (N : News h₀ env.locals s.heap news) (hsub : ∀ p ∈ news₀, p ∈ news) (hj : J 0 news₀)
    (turn : ∀ i c u us news₁ h tk I it, tx.cps[i]? = some c → J i news₁ → Fr h₀ env.locals h (fun y => if y = x then some (.str ⟨#[c]⟩ u) else stoL xs us m₀ y) → News h₀ env.locals h ((I, it) :: news₁) → (∀ p ∈ news₁, p.1 ≠ I) →
      wpAny (model prog w) A (execs body env) (MyPost h₀ env.locals [(I, it)] I (Jx x xs m₀ (J (i + 1))) { s with heap := h, toks := tk } Q) E { s with heap := h, toks := tk })
    (done : ∀ us news₁ h tk, J tx.cps.size news₁ → Fr h₀ env.locals h (stoL (x :: xs) us m₀) → News h₀ env.locals h news₁ → Q .next { s with heap := h, toks := tk }) :
    wpAny (model prog w) A (pyIter (.str tx t)) (fun it s₂ => LoopAtV prog w A h₀ env x body Q E it s₂) E s := by
  refine iter_strV (fun i => Jx x xs m₀ (J i)) hh F N hsub ⟨fun _ _ => rfl, hj⟩ ?_ ?_
  · rintro i c u m₁ news₁ h tk I it hc ⟨hm, hJ⟩ F₁ N₁ off
    rw [map_x hm] at F₁
    exact turn i c u _ news₁ h tk I it hc hJ F₁ N₁ off
  · rintro m₁ news₁ h tk ⟨hm, hJ⟩ F₁ N₁
    rw [sto_self hm] at F₁
    exact done _ news₁ h tk hJ F₁ N₁
theorem iter_listX {la : Addr} {vs : List Value} {n : Nat} {m₀ : Str → Option Value} {news news₀ : Led} (xs : List Str) (J : Nat → Led → Prop)
    (hh : A.handled = none) (F : Fr h₀ env.locals s.heap m₀) (N : News h₀ env.locals s.heap news) (hm : (la, listOf vs.toArray n) ∈ news) (hsub : ∀ p ∈ news₀, p ∈ news) (hj : J 0 news₀)
    (turn : ∀ i v us news₁ h tk I it, vs[i]? = some v → J i news₁ → Fr h₀ env.locals h (fun y => if y = x then some v else stoL xs us m₀ y) → News h₀ env.locals h ((I, it) :: (la, listOf vs.toArray n) :: news₁) →
      @Ne Nat la I → (∀ p ∈ news₁, p.1 ≠ I) →
      wpAny (model prog w) A (execs body env) (MyPost h₀ env.locals [(I, it), (la, listOf vs.toArray n)] I (Jx x xs m₀ (J (i + 1))) { s with heap := h, toks := tk } Q) E { s with heap := h, toks := tk })
    (done : ∀ us news₁ h tk, J vs.length news₁ → Fr h₀ env.locals h (stoL (x :: xs) us m₀) → News h₀ env.locals h ((la, listOf vs.toArray n) :: news₁) → Q .next { s with heap := h, toks := tk }) :
    wpAny (model prog w) A (pyIter (.ref la)) (fun it s₂ => LoopAtV prog w A h₀ env x body Q E it s₂) E s := by
  refine iter_listV (fun i => Jx x xs m₀ (J i)) hh F N hm hsub ⟨fun _ _ => rfl, hj⟩ ?_ ?_
  · rintro i v m₁ news₁ h tk I it hv ⟨hm, hJ⟩ F₁ N₁ hne off
    rw [map_x hm] at F₁
    exact turn i v _ news₁ h tk I it hv hJ F₁ N₁ hne off
  · rintro m₁ news₁ h tk ⟨hm, hJ⟩ F₁ N₁
    rw [sto_self hm] at F₁
    exact done _ news₁ h tk hJ F₁ N₁
theorem iter_listY {la : Addr} {vs : List Value} {n : Nat} {m₀ : Str → Option Value} {news news₀ : Led} (xs : List Str) (J : Nat → Led → Prop)
    (hh : A.handled = none) (F : Fr h₀ env.locals s.heap m₀) (N : News h₀ env.locals s.heap news) (hm : (la, listOf vs.toArray n) ∈ news) (hsub : ∀ p ∈ news₀, p ∈ news) (hj : J 0 news₀)
    (turn : ∀ i v us news₁ s₁ I it, vs[i]? = some v → J i news₁ → Fr h₀ env.locals s₁.heap (stoL xs us m₀) → News h₀ env.locals s₁.heap ((I, it) :: (la, listOf vs.toArray n) :: news₁) →
      @Ne Nat la I → (∀ p ∈ news₁, p.1 ≠ I) →
      wpAny (model prog w) A (assign target env v) (fun _ s₃ => wpAny (model prog w) A (execs body env) (MyPostT h₀ env.locals [(I, it), (la, listOf vs.toArray n)] I (Jy xs m₀ (J (i + 1))) s₁) E s₃) E s₁)
    (done : ∀ us news₁ h tk, J vs.length news₁ → Fr h₀ env.locals h (stoL xs us m₀) → News h₀ env.locals h ((la, listOf vs.toArray n) :: news₁) → Q .next { s with heap := h, toks := tk }) :
    wpAny (model prog w) A (pyIter (.ref la)) (fun it s₂ => LoopAtT prog w A h₀ env target body Q E it s₂) E s := by
  refine iter_listT (fun i => Jy xs m₀ (J i)) hh F N hm hsub ⟨fun _ _ => rfl, hj⟩ ?_ ?_
  · rintro i v m₁ news₁ s₁ I it hv ⟨hm, hJ⟩ F₁ N₁ hne off
    rw [sto_self hm] at F₁
    exact turn i v _ news₁ s₁ I it hv hJ F₁ N₁ hne off
  · rintro m₁ news₁ h tk ⟨hm, hJ⟩ F₁ N₁
    rw [sto_self hm] at F₁
    exact done _ news₁ h tk hJ F₁ N₁
theorem iter_tupleY {t : Addr} {items : Array Value} {m₀ : Str → Option Value} {news news₀ : Led} (xs : List Str) (J : Nat → Led → Prop)
    (hh : A.handled = none) (F : Fr h₀ env.locals s.heap m₀) (N : News h₀ env.locals s.heap news) (ht : IsTup h₀ t items) (hsub : ∀ p ∈ news₀, p ∈ news) (hj : J 0 news₀)
    (turn : ∀ i v us news₁ s₁ I it, items[i]? = some v → J i news₁ → Fr h₀ env.locals s₁.heap (stoL xs us m₀) → News h₀ env.locals s₁.heap ((I, it) :: news₁) → (∀ p ∈ news₁, p.1 ≠ I) →
      wpAny (model prog w) A (assign target env v) (fun _ s₃ => wpAny (model prog w) A (execs body env) (MyPostT h₀ env.locals [(I, it)] I (Jy xs m₀ (J (i + 1))) s₁) E s₃) E s₁)
    (done : ∀ us news₁ h tk, J items.size news₁ → Fr h₀ env.locals h (stoL xs us m₀) → News h₀ env.locals h news₁ → Q .next { s with heap := h, toks := tk }) :
    wpAny (model prog w) A (pyIter (.ref t)) (fun it s₂ => LoopAtT prog w A h₀ env target body Q E it s₂) E s := by
  refine iter_tupleT (fun i => Jy xs m₀ (J i)) hh F N ht hsub ⟨fun _ _ => rfl, hj⟩ ?_ ?_
  · rintro i v m₁ news₁ s₁ I it hv ⟨hm, hJ⟩ F₁ N₁ off
    rw [sto_self hm] at F₁
    exact turn i v _ news₁ s₁ I it hv hJ F₁ N₁ off
  · rintro m₁ news₁ h tk ⟨hm, hJ⟩ F₁ N₁
    rw [sto_self hm] at F₁
    exact done _ news₁ h tk hJ F₁ N₁
theorem off_step {x : Str} {xs : List Str} {v : Option Value} {m' m₀ : Str → Option Value} (hx : x ∈ xs) (h : ∀ y, y ∉ xs → m' y = m₀ y) : ∀ y, y ∉ xs → (if y = x then v else m' y) = m₀ y := fun y hy => by
  have e : y ≠ x := by rintro rfl; exact hy hx
  rw [if_neg e]; exact h y hy
theorem off_sto {us m₀ : Str → Option Value} {xs : List Str} : ∀ {xs' : List Str}, (∀ y ∈ xs', y ∈ xs) → ∀ y, y ∉ xs → stoL xs' us m₀ y = m₀ y
  | [], _, _, _ => rfl
  | x :: r, hs, y, hy => by
    show (if y = x then us x else stoL r us m₀ y) = m₀ y
    have e : y ≠ x := by rintro rfl; exact hy (hs y List.mem_cons_self)
    rw [if_neg e]
    exact off_sto (fun z hz => hs z (List.mem_cons_of_mem _ hz)) y hy
theorem MyEnd.ofX {L : Addr} {own all' : Led} {I : Addr} {xs : List Str} {m₀ : Str → Option Value} {J : Led → Prop} {s₁ : Shared} {h' : Heap} {tk : Nat} {m' : Str → Option Value} (news' : Led)
    (F : Fr h₀ L h' m') (N : News h₀ L h' all') (ho : ∀ p ∈ own, p ∈ all') (hn : ∀ p ∈ news', p ∈ all') (hI : ∀ p ∈ news', p.1 ≠ I) (hm : ∀ y, y ∉ x :: xs → m' y = m₀ y) (hJ : J news') :
    MyEnd h₀ L own I (Jx x xs m₀ J) s₁ { s₁ with heap := h', toks := tk } := MyEnd.intro F N ho hn hI ⟨hm, hJ⟩
theorem MyEnd.ofY {L : Addr} {own all' : Led} {I : Addr} {xs : List Str} {m₀ : Str → Option Value} {J : Led → Prop} {s₁ : Shared} {h' : Heap} {tk : Nat} {m' : Str → Option Value} (news' : Led)
    (F : Fr h₀ L h' m') (N : News h₀ L h' all') (ho : ∀ p ∈ own, p ∈ all') (hn : ∀ p ∈ news', p ∈ all') (hI : ∀ p ∈ news', p.1 ≠ I) (hm : ∀ y, y ∉ xs → m' y = m₀ y) (hJ : J news') :
    MyEnd h₀ L own I (Jy xs m₀ J) s₁ { s₁ with heap := h', toks := tk } := MyEnd.intro F N ho hn hI ⟨hm, hJ⟩
theorem allLt_ne {d : Addr} : ∀ {l : Led}, AllLt d l → ∀ p ∈ l, p.1 ≠ d
  | [], _, _, h => nomatch h
  | _ :: _, x, p, h => by
    rcases List.mem_cons.mp h with rfl | h
    · exact Nat.ne_of_lt x.1
    · exact allLt_ne x.2 p h
end
theorem tel_use {w : World} {f : Addr} {dep : Nat} {vs : List Value} {news : Led} {Out : Value → Led → Prop} (C : Tel w f dep vs news Out) {p : Program} {loose : List Str} {mean : ExcName → Option Value} {mg mb : Str → Option Value} {dp un : Nat} {gd : Option (List Code)} {cn : Str} {cs : Scope} {a : Addr} {ccd : Value} {cl : List (Str × Addr)} {outer : List Env} {A₀ : Around} {base h₀ : Heap} {L : Addr} {m : Str → Option Value} {s : Shared}
    {Q E : Value → Shared → Prop} (B : Below A₀ base outer h₀) (F : Fr h₀ L s.heap m) (X : (hd.heap_1 w.params).In h₀) (N : News h₀ L s.heap news) (T : Top p loose mean mg mb h₀) (hk : cs.kind = .function) (hd : dp + dep < recursionLimit) (hu : un + 8 * dep < cLine)
    (ret : ∀ r news' h' tk', Out r news' → Fr h₀ L h' m → News h₀ L h' news' → Q r { s with heap := h', toks := tk' }) :
    wpAny (model pw w) (ktrTop dp un gd cn cs L a ccd cl outer) (call (.ref f) vs) Q E s := C _ _ _ _ _ _ _ _ _ _ _ _ _ _ _ _ _ _ _ _ _ _ trivial B F X N T hk hd hu ret
theorem news_dup {h₀ h : Heap} {L : Addr} {news : Led} {p : Addr × Obj} (N : News h₀ L h news) (hm : p ∈ news) : News h₀ L h (p :: news) := fun q hq => by
  rcases List.mem_cons.mp hq with rfl | hq
  · exact N _ hm
  · exact N _ hq
section
variable {prog : Program} {w : World} {A : Around} {E : Value → Shared → Prop} {s : Shared} {h₀ : Heap} {L D : Addr} {m : Str → Option Value} {news news' : Led} {n : Nat}
theorem append_L {vs : List Value} {x : Value} {Q : Value → Shared → Prop} (F : Fr h₀ L s.heap m) (N : News h₀ L s.heap news) (U : Upd D (listOf vs.toArray n) (listOf (vs ++ [x]).toArray (n + 1)) news news')
    (hsz : vs.length ≤ 1000) (h : ∀ h', Fr h₀ L h' m → News h₀ L h' news' → Q .none { s with heap := h' }) : wpAny (model prog w) A (call (.builtin "list.append") [.ref D, x]) Q E s := by
  refine append_K (its := vs.toArray) (n := n) F N ?_ h (by rw [List.size_toArray]; exact Nat.le_trans hsz (by decide))
  rw [List.push_toArray]; exact U
end
/-- a name for the address of a ledger's first entry -/
theorem news_open {P : Prop} {h₀ h : Heap} {L a : Addr} {o : Obj} {r : Led} (_N : News h₀ L h ((a, o) :: r)) (k : ∀ pa : Addr, a = pa → P) : P := k a rfl
theorem news_tl {h₀ h : Heap} {L : Addr} {x : Addr × Obj} {r : Led} (N : News h₀ L h (x :: r)) : News h₀ L h r := fun p hp => N p (List.mem_cons_of_mem _ hp)
theorem off_put {a I : Addr} {o o' : Obj} {r : Led} (h : ∀ p ∈ (a, o) :: r, p.1 ≠ I) : ∀ p ∈ (a, o') :: r, p.1 ≠ I := fun p hp => by
  rcases List.mem_cons.mp hp with rfl | hp
  · exact h (a, o) List.mem_cons_self
  · exact h p (List.mem_cons_of_mem _ hp)
theorem strs_nil : StrsAre ([] : List Value) [] := .nil
theorem strs_snoc {vs : List Value} {ss : List Str} {x : Str} {t : Tok} (h : StrsAre vs ss) : StrsAre (vs ++ [.str x t]) (ss ++ [x]) := StrsAre.append' h (.cons _ _ .nil)
theorem news_sub {h₀ h : Heap} {L : Addr} {a b : Led} (N : News h₀ L h b) (s : ∀ p ∈ a, p ∈ b) : News h₀ L h a := fun p hp => N p (s p hp)
theorem allLt_right {d : Addr} : ∀ {a b : Led}, AllLt d (a ++ b) → AllLt d b
  | [], _, h => h
  | _ :: _, _, h => allLt_right h.2
theorem allLt_left {d : Addr} : ∀ {a b : Led}, AllLt d (a ++ b) → AllLt d a
  | [], _, _ => trivial
  | _ :: _, _, h => ⟨h.1, allLt_left h.2⟩
theorem allLt_mem {d : Addr} : ∀ {l : Led}, AllLt d l → ∀ p ∈ l, @LT.lt Nat _ p.1 d
  | [], _, _, h => nomatch h
  | _ :: _, x, p, h => by
    rcases List.mem_cons.mp h with rfl | h
    · exact x.1
    · exact allLt_mem x.2 p h
theorem allLt_mk {d : Addr} : ∀ {l : Led}, (∀ p ∈ l, @LT.lt Nat _ p.1 d) → AllLt d l
  | [], _ => trivial
  | p :: _, h => ⟨h p List.mem_cons_self, allLt_mk fun q hq => h q (List.mem_cons_of_mem _ hq)⟩
end
theorem reset_Dt : True := by
  (w_top off)
  k_with_none
  first | walk1 | trivial
section
open PySem PySem.W PyProof.Rows PySem.Spec PySem.Calls
inductive Sym where
  | nine | zed | star | dot | vee | pee | bee | nought | slash | comma | plus | minus | dollar | cr | db
deriving DecidableEq
def Sym.str : Sym → Str
  | .nine => Str.ofString "9" | .zed => Str.ofString "Z" | .star => Str.ofString "*" | .dot => Str.ofString "." | .vee => Str.ofString "V" | .pee => Str.ofString "P"
  | .bee => Str.ofString "B" | .nought => Str.ofString "0" | .slash => Str.ofString "/" | .comma => Str.ofString "," | .plus => Str.ofString "+" | .minus => Str.ofString "-"
  | .dollar => Str.ofString "$" | .cr => Str.ofString "CR" | .db => Str.ofString "DB"
inductive Role where
  | figure | zero | star | point | mark | none | insert | lead | float | fixed
deriving DecidableEq
def Role.str : Role → Str
  | .figure => Str.ofString "figure" | .zero => Str.ofString "zero" | .star => Str.ofString "star" | .point => Str.ofString "point" | .mark => Str.ofString "mark"
  | .none => Str.ofString "none" | .insert => Str.ofString "insert" | .lead => Str.ofString "lead" | .float => Str.ofString "float" | .fixed => Str.ofString "fixed"
def Sym.plain : Sym → Role
  | .nine => .figure | .zed => .zero | .star => .star | .dot => .point | .vee => .mark | .pee => .none
  | .bee => .insert | .nought => .insert | .slash => .insert | .comma => .insert
  | .plus => .fixed | .minus => .fixed | .dollar => .fixed | .cr => .fixed | .db => .fixed
def roleStep (fl : Str) (acc : List Role) (x : Sym) : List Role := acc ++ [if x.str = fl then (if Role.lead ∈ acc then .float else .lead) else x.plain]
def rolesGo (fl : Str) (xs : List Sym) : List Role := xs.foldl (roleStep fl) []
theorem rolesFold_length (fl : Str) : ∀ (xs : List Sym) (acc : List Role), (xs.foldl (roleStep fl) acc).length = acc.length + xs.length
  | [], _ => rfl
  | x :: r, acc => by rw [List.foldl_cons, rolesFold_length fl r]; simp only [roleStep, List.length_append, List.length_cons, List.length_nil]; omega
theorem rolesGo_length (fl : Str) (xs : List Sym) : (rolesGo fl xs).length = xs.length := by rw [rolesGo, rolesFold_length]; simp
theorem rolesGo_snoc (fl : Str) (xs : List Sym) (x : Sym) : rolesGo fl (xs ++ [x]) = roleStep fl (rolesGo fl xs) x := by rw [rolesGo, List.foldl_append]; rfl
theorem take_succ_get {α : Type} {xs : List α} {i : Nat} {x : α} (h : xs[i]? = some x) : xs.take (i + 1) = xs.take i ++ [x] := by
  rw [List.take_add_one, h]; rfl
def allRoles : List Role := [.figure, .zero, .star, .point, .mark, .none, .insert, .lead, .float, .fixed]
def allSyms : List Sym := [.nine, .zed, .star, .dot, .vee, .pee, .bee, .nought, .slash, .comma, .plus, .minus, .dollar, .cr, .db]
theorem role_mem (a : Role) : a ∈ allRoles := by cases a <;> decide
theorem sym_mem (a : Sym) : a ∈ allSyms := by cases a <;> decide
theorem roles_apart : ∀ a ∈ allRoles, ∀ b ∈ allRoles, a.str = b.str → a = b := by decide +kernel
theorem syms_apart : ∀ a ∈ allSyms, ∀ b ∈ allSyms, a.str = b.str → a = b := by decide +kernel
theorem roleStr_inj {a b : Role} (h : a.str = b.str) : a = b := roles_apart a (role_mem a) b (role_mem b) h
theorem symStr_inj {a b : Sym} (h : a.str = b.str) : a = b := syms_apart a (sym_mem a) b (sym_mem b) h
theorem any_role (l : List Role) (r : Role) : ((l.map Role.str).any (· == r.str)) = decide (r ∈ l) := by
  induction l with
  | nil => simp
  | cons a t ih =>
    rw [List.map_cons, List.any_cons, ih]
    by_cases h : a = r
    · subst h; simp
    · have h' : a.str ≠ r.str := fun e => h (roleStr_inj e)
      have : (a.str == r.str) = false := by simpa using h'
      rw [this]
      have h2 : ¬ r = a := fun e => h e.symm
      simp [h2]
end
theorem reset_Od : True := by
  (w_top off)
  k_with_none
  first | walk1 | trivial
section
open PySem PySem.W PyProof.Rows PySem.Spec PySem.Calls
structure Ord where
  seen : Int
  point : Str
  trail : Int
  nines : Int
  zero : Str
  zeros : Int
  floats : Int
  behind : Int
  late : Bool
  sign : Str
  money : Str
  last : Str
  over : Bool
  ins : Bool
def ordDict (w : World) (k t : Nat → Tok) (o : Ord) : Obj := dictOf [⟨PyData.keyHash w.params (Str.ofString "seen"), .str (Str.ofString "seen") (k 0), .int o.seen (t 0)⟩, ⟨PyData.keyHash w.params (Str.ofString "is_plain"), .str (Str.ofString "is_plain") (k 1), .bool false⟩, ⟨PyData.keyHash w.params (Str.ofString "point"), .str (Str.ofString "point") (k 2), .str o.point (t 2)⟩, ⟨PyData.keyHash w.params (Str.ofString "lead"), .str (Str.ofString "lead") (k 3), .int 0 (t 3)⟩, ⟨PyData.keyHash w.params (Str.ofString "trail"), .str (Str.ofString "trail") (k 4), .int o.trail (t 4)⟩, ⟨PyData.keyHash w.params (Str.ofString "nines"), .str (Str.ofString "nines") (k 5), .int o.nines (t 5)⟩, ⟨PyData.keyHash w.params (Str.ofString "zero"), .str (Str.ofString "zero") (k 6), .str o.zero (t 6)⟩, ⟨PyData.keyHash w.params (Str.ofString "zeros"), .str (Str.ofString "zeros") (k 7), .int o.zeros (t 7)⟩, ⟨PyData.keyHash w.params (Str.ofString "floats"), .str (Str.ofString "floats") (k 8), .int o.floats (t 8)⟩, ⟨PyData.keyHash w.params (Str.ofString "behind"), .str (Str.ofString "behind") (k 9), .int o.behind (t 9)⟩, ⟨PyData.keyHash w.params (Str.ofString "is_late"), .str (Str.ofString "is_late") (k 10), .bool o.late⟩, ⟨PyData.keyHash w.params (Str.ofString "sign"), .str (Str.ofString "sign") (k 11), .str o.sign (t 11)⟩, ⟨PyData.keyHash w.params (Str.ofString "money"), .str (Str.ofString "money") (k 12), .str o.money (t 12)⟩, ⟨PyData.keyHash w.params (Str.ofString "last"), .str (Str.ofString "last") (k 13), .str o.last (t 13)⟩, ⟨PyData.keyHash w.params (Str.ofString "is_over"), .str (Str.ofString "is_over") (k 14), .bool o.over⟩, ⟨PyData.keyHash w.params (Str.ofString "is_inserted"), .str (Str.ofString "is_inserted") (k 15), .bool o.ins⟩] 16
def OrdAt (w : World) (o : Ord) (ob : Obj) : Prop := ∃ k t : Nat → Tok, ob = ordDict w k t o
theorem ord_intro {w : World} {o : Ord} {k0 k1 k2 k3 k4 k5 k6 k7 k8 k9 k10 k11 k12 k13 k14 k15 t0 t2 t3 t4 t5 t6 t7 t8 t9 t11 t12 t13 : Tok} : OrdAt w o (dictOf [⟨PyData.keyHash w.params (Str.ofString "seen"), .str (Str.ofString "seen") k0, .int o.seen t0⟩, ⟨PyData.keyHash w.params (Str.ofString "is_plain"), .str (Str.ofString "is_plain") k1, .bool false⟩, ⟨PyData.keyHash w.params (Str.ofString "point"), .str (Str.ofString "point") k2, .str o.point t2⟩, ⟨PyData.keyHash w.params (Str.ofString "lead"), .str (Str.ofString "lead") k3, .int 0 t3⟩, ⟨PyData.keyHash w.params (Str.ofString "trail"), .str (Str.ofString "trail") k4, .int o.trail t4⟩, ⟨PyData.keyHash w.params (Str.ofString "nines"), .str (Str.ofString "nines") k5, .int o.nines t5⟩, ⟨PyData.keyHash w.params (Str.ofString "zero"), .str (Str.ofString "zero") k6, .str o.zero t6⟩, ⟨PyData.keyHash w.params (Str.ofString "zeros"), .str (Str.ofString "zeros") k7, .int o.zeros t7⟩, ⟨PyData.keyHash w.params (Str.ofString "floats"), .str (Str.ofString "floats") k8, .int o.floats t8⟩, ⟨PyData.keyHash w.params (Str.ofString "behind"), .str (Str.ofString "behind") k9, .int o.behind t9⟩, ⟨PyData.keyHash w.params (Str.ofString "is_late"), .str (Str.ofString "is_late") k10, .bool o.late⟩, ⟨PyData.keyHash w.params (Str.ofString "sign"), .str (Str.ofString "sign") k11, .str o.sign t11⟩, ⟨PyData.keyHash w.params (Str.ofString "money"), .str (Str.ofString "money") k12, .str o.money t12⟩, ⟨PyData.keyHash w.params (Str.ofString "last"), .str (Str.ofString "last") k13, .str o.last t13⟩, ⟨PyData.keyHash w.params (Str.ofString "is_over"), .str (Str.ofString "is_over") k14, .bool o.over⟩, ⟨PyData.keyHash w.params (Str.ofString "is_inserted"), .str (Str.ofString "is_inserted") k15, .bool o.ins⟩] 16) :=
  ⟨fun i => [k0, k1, k2, k3, k4, k5, k6, k7, k8, k9, k10, k11, k12, k13, k14, k15].getD i 0, fun i => [t0, 0, t2, t3, t4, t5, t6, t7, t8, t9, 0, t11, t12, t13, 0, 0].getD i 0, rfl⟩
/-- a Sign's dict: one sign, counted once -/
def signDict (w : World) (k0 k1 k2 t0 t1 t2 : Tok) (x : Str) (i : Int) : Obj := dictOf [⟨PyData.keyHash w.params (Str.ofString "sign"), .str (Str.ofString "sign") k0, .str x t0⟩, ⟨PyData.keyHash w.params (Str.ofString "count"), .str (Str.ofString "count") k1, .int 1 t1⟩, ⟨PyData.keyHash w.params (Str.ofString "at"), .str (Str.ofString "at") k2, .int i t2⟩] 3
def SignAt (w : World) (x : Str) (nb : Obj) : Prop := ∃ k0 k1 k2 t0 t1 t2 i, nb = signDict w k0 k1 k2 t0 t1 t2 x i
def OrdOut (w : World) (oa od na nd : Addr) (nb : Obj) (R : Led) (o' : Ord) (r : Value) (news' : Led) : Prop :=
  r = .none ∧ ∃ ob', OrdAt w o' ob' ∧ news' = ((oa, instObj 297 od) :: (od, ob') :: (na, instObj 140 nd) :: (nd, nb) :: R)
structure Apart4 (oa od na nd : Addr) (R : Led) : Prop where
  a : @Ne Nat oa od
  b : @Ne Nat na od
  c : @Ne Nat nd od
  d : ∀ p ∈ R, p.1 ≠ od
/-- what a method at f does to the Order -/
def Meth (w : World) (f : Addr) (oa od na nd : Addr) (nb : Obj) (R : Led) (o o1 : Ord) : Prop := ∀ ob, OrdAt w o ob → Tel w f 4 [.ref oa, .ref na] ((oa, instObj 297 od) :: (od, ob) :: (na, instObj 140 nd) :: (nd, nb) :: R) (OrdOut w oa od na nd nb R o1)
end
theorem reset_Ls : True := by
  (w_top off)
  k_with_none
  first | walk1 | trivial
section
open PySem PySem.W PyProof.Rows PySem.Spec PySem.Calls
section
variable {prog : Program} {w : World} {A : Around} {E : Value → Shared → Prop} {s : Shared} {h₀ : Heap} {L D b : Addr} {m : Str → Option Value} {news news' : Led} {n n2 : Nat} {vs ws : List Value}
theorem add_LL {Q : Value → Shared → Prop} (F : Fr h₀ L s.heap m) (N : News h₀ L s.heap news) (ha : (D, listOf vs.toArray n) ∈ news) (hb : (b, listOf ws.toArray n2) ∈ news) (hz : vs.length + ws.length ≤ 1000)
    (h : ∀ a h', Fr h₀ L h' m → News h₀ L h' ((a, listOf (vs ++ ws).toArray 0) :: news) → (∀ p ∈ news, p.1 < a) → Q (.ref a) { s with heap := h' }) :
    wpAny (model prog w) A (binaryOp .Add (.ref D) (.ref b)) Q E s :=
  add_arrays (its := vs.toArray) (its2 := ws.toArray) F N ⟨_, (N _ ha).1, rfl, _, rfl⟩ ⟨_, (N _ hb).1, rfl, _, rfl⟩ (fun h' F' N' => h _ h' F' (by simpa using N') fun p hp => Heap.lt_size (N p hp).1)
    (hsz := by rw [List.size_toArray, List.size_toArray]; exact Nat.le_trans hz (by decide))
theorem rep_one (x : Value) : ∀ k : Nat, List.foldl (fun x1 x2 => x1 ++ x2) (#[] : Array Value) (List.replicate k #[x]) = (List.replicate k x).toArray := by
  have gen : ∀ (k : Nat) (acc : Array Value), List.foldl (fun x1 x2 => x1 ++ x2) acc (List.replicate k #[x]) = acc ++ (List.replicate k x).toArray := by
    intro k
    induction k with
    | zero => intro acc; simp
    | succ k ih => intro acc; rw [List.replicate_succ, List.foldl_cons, ih, List.replicate_succ]; apply Array.toList_inj.mp; simp
  intro k; rw [gen]; simp
theorem mul_1 {v : Value} {x : Int} {u : Tok} {Q : Value → Shared → Prop} (F : Fr h₀ L s.heap m) (N : News h₀ L s.heap news) (ha : (D, listOf [v].toArray n) ∈ news) (hlo : 0 ≤ x) (hhi : x ≤ 1000)
    (h : ∀ a h', Fr h₀ L h' m → News h₀ L h' ((a, listOf (List.replicate x.toNat v).toArray 0) :: news) → (∀ p ∈ news, p.1 < a) → Q (.ref a) { s with heap := h' }) :
    wpAny (model prog w) A (binaryOp .Mult (.ref D) (.int x u)) Q E s := by
  refine mul_list F N (items := [v].toArray) (k := n) (N _ ha).1 (by omega) (by omega) ?_ (fun h' F' N' => ?_)
  · simp; omega
  · have e : List.foldl (fun x1 x2 => x1 ++ x2) (#[] : Array Value) (List.replicate (if ([v].toArray).isEmpty = true then 0 else x.toNat) [v].toArray) = (List.replicate x.toNat v).toArray := rep_one v x.toNat
    rw [e] at N'
    exact h _ h' F' N' fun p hp => Heap.lt_size (N p hp).1
theorem extend_LL {Q : Value → Shared → Prop} (F : Fr h₀ L s.heap m) (N : News h₀ L s.heap news) (hb : (b, listOf ws.toArray n2) ∈ news) (hne : ws ≠ []) (hz : vs.length + ws.length ≤ 1000)
    (U : Upd D (listOf vs.toArray n) (listOf (vs ++ ws).toArray (n + 1)) news news')
    (h : ∀ h', Fr h₀ L h' m → News h₀ L h' news' → Q .none { s with heap := h' }) : wpAny (model prog w) A (call (.builtin "list.extend") [.ref D, .ref b]) Q E s := by
  refine kl_extend (its := vs.toArray) (its2 := ws.toArray) (l := vs ++ ws) F N hb rfl ?_ U ?_ ?_ ?_ h
  · intro e; exact hne (List.length_eq_zero_iff.mp e)
  · rw [List.size_toArray, List.size_toArray]
    have : Builtin.List.listTooLong (vs.length + ws.length) = false := by
      unfold Builtin.List.listTooLong
      have := sizeLine_eq
      simp
      omega
    rw [this]; simp
  · exact Nat.le_trans (Nat.le_trans (Nat.le_add_right _ _) hz) (by decide)
  · rw [List.size_toArray, List.size_toArray]; exact Nat.le_trans hz (by decide)
end
section
variable {prog : Program} {w : World} {A : Around} {E : Value → Shared → Prop} {s : Shared} {h₀ : Heap} {m : Str → Option Value} {news : Led} {env : Env}
theorem asg_pairF {a b : Str} {pa pb tp : Pos} {kk k : Nat} {t : Addr} {v₁ v₂ : Value} {Q : Unit → Shared → Prop} (hh : A.handled = none) (F : Fr h₀ env.locals s.heap m) (N : News h₀ env.locals s.heap news) (ht : (t, tupOf v₁ v₂ k) ∈ news)
    (ha : env.kindOf a = some .local) (hb : env.kindOf b = some .local) (hp : (env.scope.kind == .class || (env.scope.kind == .module && env.locals != env.globals)) = false)
    (h : ∀ h' tk, Fr h₀ env.locals h' (fun z => if z = b then some v₂ else if z = a then some v₁ else m z) → News h₀ env.locals h' news → Q () { s with heap := h', toks := tk }) :
    wpAny (model prog w) A (assign (.Tuple [.Name a pa, .Name b pb] kk tp) env (.ref t)) Q E s := by
  refine kcp_assign hh ⟨_, (N _ ht).1, rfl, _, rfl⟩ ha hb hp F.ns fun h' tk hn hk => h h' tk ⟨hn, fun c o e => hk c o ?_ (F.keep c o e), F.above⟩ fun p hp => ⟨hk _ _ (N p hp).2.1 (N p hp).1, (N p hp).2⟩
  rintro rfl
  exact absurd (Heap.lt_size e) (Nat.not_lt.mpr F.above)
theorem asg_pairB {a b : Str} {pa pb tp : Pos} {kk : Nat} {t : Addr} {v₁ v₂ : Value} {Q : Unit → Shared → Prop} (hh : A.handled = none) (F : Fr h₀ env.locals s.heap m) (N : News h₀ env.locals s.heap news) (ht : IsTup h₀ t #[v₁, v₂])
    (ha : env.kindOf a = some .local) (hb : env.kindOf b = some .local) (hp : (env.scope.kind == .class || (env.scope.kind == .module && env.locals != env.globals)) = false)
    (h : ∀ h' tk, Fr h₀ env.locals h' (fun z => if z = b then some v₂ else if z = a then some v₁ else m z) → News h₀ env.locals h' news → Q () { s with heap := h', toks := tk }) :
    wpAny (model prog w) A (assign (.Tuple [.Name a pa, .Name b pb] kk tp) env (.ref t)) Q E s := by
  refine kcp_assign hh (let ⟨o, e, r⟩ := ht; ⟨o, F.keep _ _ e, r⟩) ha hb hp F.ns fun h' tk hn hk => h h' tk ⟨hn, fun c o e => hk c o ?_ (F.keep c o e), F.above⟩ fun p hp => ⟨hk _ _ (N p hp).2.1 (N p hp).1, (N p hp).2⟩
  rintro rfl
  exact absurd (Heap.lt_size e) (Nat.not_lt.mpr F.above)
end
section
variable {prog : Program} {w : World} {A : Around} {E : Value → Shared → Prop} {s : Shared} {h₀ : Heap} {L D : Addr} {m : Str → Option Value} {news news' : Led} {n : Nat} {vs : List Value} {v x : Value}
theorem last_get {value slice : PySem.Expr} {u : Tok} {Q : Value → Shared → Prop} (N : News h₀ L s.heap news) (hm : (D, listOf (vs ++ [v]).toArray n) ∈ news) (h : Q v s)
    (hs : subscripted slice false (.ref D) (.int (-1) u) = operate [.ref D, .int (-1) u] (getItem (.ref D) (.int (-1) u)) := by with_unfolding_all rfl) :
    wpAny (model prog w) A (subscriptTail value slice (.ref D) (.int (-1) u)) Q E s := by
  refine kde_neg (vs := vs ++ [v]) (j := vs.length) ⟨_, (N _ hm).1, rfl, _, rfl⟩ (by decide) (by decide) ?_ (by simp) h hs
  rw [seqIndex_neg (by decide) (by rw [List.length_append, List.length_singleton]; omega)]
  rw [List.length_append, List.length_singleton]
  congr 1
  omega
theorem last_set {u : Tok} {Q : Unit → Shared → Prop} (F : Fr h₀ L s.heap m) (N : News h₀ L s.heap news) (U : Upd D (listOf (vs ++ [v]).toArray n) (listOf (vs ++ [x]).toArray n) news news')
    (h : ∀ h', Fr h₀ L h' m → News h₀ L h' news' → Q () { s with heap := h' }) : wpAny (model prog w) A (setItem (.ref D) (.int (-1) u) x) Q E s := by
  obtain ⟨pre, post, rfl, rfl, a, b⟩ := U.split
  have z := N (D, listOf (vs ++ [v]).toArray n) (List.mem_append.mpr (.inr (.head _)))
  refine ki_setBack z.1 (by decide) ?_ (by decide) (h _ (F.change (Heap.SameBut.update ..) z.2.1 z.2.2) (ki_turn _ N a b ?_ ?_))
  · rw [List.size_toArray, List.length_append, List.length_singleton]; omega
  · have e : (-1 + ((vs ++ [v]).toArray.size : Int)).toNat = vs.length := by rw [List.size_toArray, List.length_append, List.length_singleton]; omega
    show (vs ++ [v]).toArray.setIfInBounds (-1 + ((vs ++ [v]).toArray.size : Int)).toNat x = (vs ++ [x]).toArray
    rw [e]
    apply Array.toList_inj.mp
    simp
  · simp
end
end
theorem reset_Pd : True := by
  (w_top off)
  k_with_none
  first | walk1 | trivial
section
open PySem PySem.W PyProof.Rows PySem.Spec PySem.Calls
/-- the dict of a Picture -/
def picDict (w : World) (k : Nat → Tok) (v0 v1 v2 v3 v4 v5 v6 : Value) : Obj := dictOf [⟨PyData.keyHash w.params (Str.ofString "text"), .str (Str.ofString "text") (k 0), v0⟩, ⟨PyData.keyHash w.params (Str.ofString "symbols"), .str (Str.ofString "symbols") (k 1), v1⟩, ⟨PyData.keyHash w.params (Str.ofString "category"), .str (Str.ofString "category") (k 2), v2⟩, ⟨PyData.keyHash w.params (Str.ofString "digits"), .str (Str.ofString "digits") (k 3), v3⟩, ⟨PyData.keyHash w.params (Str.ofString "scale"), .str (Str.ofString "scale") (k 4), v4⟩, ⟨PyData.keyHash w.params (Str.ofString "is_signed"), .str (Str.ofString "is_signed") (k 5), v5⟩, ⟨PyData.keyHash w.params (Str.ofString "size"), .str (Str.ofString "size") (k 6), v6⟩] 7
/-- v is a pair of a sign and its count, laid in R -/
def PairIs (R : Led) (v : Value) (p : Sym × Int) : Prop := ∃ t k tx tc, v = .ref t ∧ (t, tupOf (.str p.1.str tx) (.int p.2 tc) k) ∈ R
inductive PairsAre (R : Led) : List Value → List (Sym × Int) → Prop
  | nil : PairsAre R [] []
  | cons {v p vs ps} : PairIs R v p → PairsAre R vs ps → PairsAre R (v :: vs) (p :: ps)
theorem PairIs.mono {R R' : Led} {v : Value} {p : Sym × Int} (h : PairIs R v p) (s : ∀ q ∈ R, q ∈ R') : PairIs R' v p := let ⟨t, k, tx, tc, e, m⟩ := h; ⟨t, k, tx, tc, e, s _ m⟩
theorem PairsAre.mono {R R' : Led} {vs : List Value} {ps : List (Sym × Int)} (h : PairsAre R vs ps) (s : ∀ q ∈ R, q ∈ R') : PairsAre R' vs ps := by
  induction h with
  | nil => exact .nil
  | cons a _ ih => exact .cons (a.mono s) ih
theorem PairsAre.length {R : Led} {vs : List Value} {ps : List (Sym × Int)} (h : PairsAre R vs ps) : vs.length = ps.length := by
  induction h with
  | nil => rfl
  | cons _ _ ih => simp [ih]
theorem PairsAre.append {R : Led} {vs ws : List Value} {ps qs : List (Sym × Int)} (h : PairsAre R vs ps) (h' : PairsAre R ws qs) : PairsAre R (vs ++ ws) (ps ++ qs) := by
  induction h with
  | nil => exact h'
  | cons a _ ih => exact .cons a ih
theorem PairsAre.item {R : Led} {vs : List Value} {ps : List (Sym × Int)} (h : PairsAre R vs ps) : ∀ {i : Nat} {v : Value}, vs[i]? = some v → ∃ p, ps[i]? = some p ∧ PairIs R v p := by
  induction h with
  | nil => intro i v e; simp at e
  | cons a _ ih =>
    intro i v e
    cases i with
    | zero => exact ⟨_, rfl, by simp at e; exact e ▸ a⟩
    | succ i => simpa using ih (by simpa using e)
theorem PairsAre.all {R : Led} {vs : List Value} {ps : List (Sym × Int)} (h : PairsAre R vs ps) : ∀ v ∈ vs, ∃ t v₁ v₂ k, v = .ref t ∧ (t, tupOf v₁ v₂ k) ∈ R := by
  induction h with
  | nil => intro v hv; simp at hv
  | cons a _ ih =>
    intro v hv
    rcases List.mem_cons.mp hv with rfl | hv
    · obtain ⟨t, k, tx, tc, e, m⟩ := a
      exact ⟨t, _, _, k, e, m⟩
    · exact ih v hv
/-- the places of a run-length list -/
def spread (ps : List (Sym × Int)) : List Sym := ps.flatMap fun p => List.replicate p.2.toNat p.1
theorem spread_snoc (ps : List (Sym × Int)) (p : Sym × Int) : spread (ps ++ [p]) = spread ps ++ List.replicate p.2.toNat p.1 := by simp [spread]
theorem strs_rep {x : Str} {t : Tok} : ∀ n : Nat, StrsAre (List.replicate n (.str x t)) (List.replicate n x)
  | 0 => .nil
  | n + 1 => .cons _ _ (strs_rep n)
theorem spread_len_le (ps : List (Sym × Int)) (i : Nat) : (spread (ps.take i)).length ≤ (spread ps).length := by
  have : spread ps = spread (ps.take i) ++ spread (ps.drop i) := by
    unfold spread
    rw [← List.flatMap_append, List.take_append_drop]
  rw [this, List.length_append]; omega
/-- v is a Sign, laid in R -/
def SignIs (w : World) (R : Led) (v : Value) (x : Sym) : Prop := ∃ na nd nb, v = .ref na ∧ (na, instObj 140 nd) ∈ R ∧ (nd, nb) ∈ R ∧ SignAt w x.str nb
inductive SignsAre (w : World) (R : Led) : List Value → List Sym → Prop
  | nil : SignsAre w R [] []
  | cons {v x vs xs} : SignIs w R v x → SignsAre w R vs xs → SignsAre w R (v :: vs) (x :: xs)
theorem SignsAre.length {w : World} {R : Led} {vs : List Value} {ps : List Sym} (h : SignsAre w R vs ps) : vs.length = ps.length := by
  induction h with
  | nil => rfl
  | cons _ _ ih => simp [ih]
theorem SignIs.mono {w : World} {R R' : Led} {v : Value} {p : Sym} (h : SignIs w R v p) (s : ∀ q ∈ R, q ∈ R') : SignIs w R' v p := let ⟨na, nd, nb, e, m1, m2, h⟩ := h; ⟨na, nd, nb, e, s _ m1, s _ m2, h⟩
theorem SignsAre.mono {w : World} {R R' : Led} {vs : List Value} {ps : List Sym} (h : SignsAre w R vs ps) (s : ∀ q ∈ R, q ∈ R') : SignsAre w R' vs ps := by
  induction h with
  | nil => exact .nil
  | cons a _ ih => exact .cons (a.mono s) ih
theorem SignsAre.append {w : World} {R : Led} {vs ws : List Value} {ps qs : List Sym} (h : SignsAre w R vs ps) (h' : SignsAre w R ws qs) : SignsAre w R (vs ++ ws) (ps ++ qs) := by
  induction h with
  | nil => exact h'
  | cons a _ ih => exact .cons a ih
theorem SignsAre.item {w : World} {R : Led} {vs : List Value} {ps : List Sym} (h : SignsAre w R vs ps) : ∀ {i : Nat} {v : Value}, vs[i]? = some v → ∃ p, ps[i]? = some p ∧ SignIs w R v p := by
  induction h with
  | nil => intro i v e; simp at e
  | cons a _ ih =>
    intro i v e
    cases i with
    | zero => exact ⟨_, rfl, by simp at e; exact e ▸ a⟩
    | succ i => simpa using ih (by simpa using e)
/-- one more sign of a run-length list -/
def symStep (acc : List (Sym × Int)) (x : Sym) : List (Sym × Int) :=
  match acc.getLast? with
  | none => [(x, 1)]
  | some (y, c) => if y = x then acc.dropLast ++ [(x, c + 1)] else acc ++ [(x, 1)]
def rleS (xs : List Sym) : List (Sym × Int) := xs.foldl symStep []
theorem symStep_same (i : List (Sym × Int)) (x : Sym) (c : Int) : symStep (i ++ [(x, c)]) x = i ++ [(x, c + 1)] := by simp [symStep]
theorem symStep_other (i : List (Sym × Int)) (x y : Sym) (c : Int) (h : y ≠ x) : symStep (i ++ [(y, c)]) x = i ++ [(y, c)] ++ [(x, 1)] := by simp [symStep, h]
theorem rleS_take {xs : List Sym} {i : Nat} {x : Sym} (h : xs[i]? = some x) : rleS (xs.take (i + 1)) = symStep (rleS (xs.take i)) x := by
  rw [take_succ_get h, rleS, List.foldl_append]; rfl
theorem symStep_length (acc : List (Sym × Int)) (x : Sym) : (symStep acc x).length ≤ acc.length + 1 := by
  unfold symStep
  split
  · simp
  · split <;> simp
theorem rleFold_length : ∀ (xs : List Sym) (acc : List (Sym × Int)), (xs.foldl symStep acc).length ≤ acc.length + xs.length
  | [], _ => Nat.le_refl _
  | x :: r, acc => by
    rw [List.foldl_cons]
    have := rleFold_length r (symStep acc x)
    have := symStep_length acc x
    rw [List.length_cons]; omega
theorem rleS_length (xs : List Sym) : (rleS xs).length ≤ xs.length := by have := rleFold_length xs []; simpa [rleS] using this
theorem PairsAre.snoc_inv {R : Led} {vs : List Value} {ps : List (Sym × Int)} {p : Sym × Int} (h : PairsAre R vs (ps ++ [p])) : ∃ ws v, vs = ws ++ [v] ∧ PairsAre R ws ps ∧ PairIs R v p := by
  induction ps generalizing vs with
  | nil =>
    cases h with
    | cons a r => cases r; exact ⟨[], _, rfl, .nil, a⟩
  | cons q ps ih =>
    cases h with
    | cons a r =>
      obtain ⟨ws, v, rfl, hw, hv⟩ := ih r
      exact ⟨_ :: ws, v, rfl, .cons a hw, hv⟩
theorem PairsAre.dat {R : Led} {vs : List Value} {ps : List (Sym × Int)} (h : PairsAre R vs ps) : DatAll R vs (ps.map fun p => .tuple [.str p.1.str, .int p.2]) := by
  induction h with
  | nil => exact .nil
  | cons a _ ih =>
    obtain ⟨t, k, tx, tc, rfl, m⟩ := a
    exact .cons (.tuple (vs := [_, _]) m (.cons (.str _ _) (.cons (.int _ _) .nil))) ih
theorem strOk_sym (x : Sym) : PyData.strOk x.str = true := by cases x <;> decide +kernel
section
variable {prog : Program} {w : World} {A : Around} {E : Value → Shared → Prop} {s : Shared} {h₀ : Heap} {L D b t : Addr} {m : Str → Option Value} {news : Led} {n n2 : Nat} {vs ws : List Value}
open Classical in
theorem ne_dat {ds es : List Dat} {Q : Value → Shared → Prop} (N : News h₀ L s.heap news) (ma : (D, listOf vs.toArray n) ∈ news) (mb : (b, listOf ws.toArray n2) ∈ news) (Da : DatAll news vs ds) (Db : DatAll news ws es)
    (ha : ∀ d ∈ ds, kqdOk 8 d = true) (hb : ∀ d ∈ es, kqdOk 8 d = true) (hu : A.units + 64 < cLine) (h : Q (.bool (!decide (ds = es))) s) : wpAny (model prog w) A (compareOp .NotEq (.ref D) (.ref b)) Q E s :=
  kqd_ne N ma rfl rfl Da (fun _ h => h) mb rfl rfl Db (fun _ h => h) ha hb hu h
theorem ne_nil_pairs {ps : List (Sym × Int)} {Q : Value → Shared → Prop} (N : News h₀ L s.heap news) (ma : (D, listOf vs.toArray n) ∈ news) (mb : (b, listOf #[] n2) ∈ news) (Da : PairsAre news vs ps) (hne : ps ≠ []) (hu : A.units + 64 < cLine) (h : Q (.bool true) s) :
    wpAny (model prog w) A (compareOp .NotEq (.ref D) (.ref b)) Q E s := by
  refine ne_dat (ws := []) N ma mb Da.dat .nil ?_ (by intro d hd; cases hd) hu ?_
  · intro d hd
    obtain ⟨p, _, rfl⟩ := List.mem_map.mp hd
    simp [kqdOk, strOk_sym]
  · have : ¬ (ps.map fun p => Dat.tuple [.str p.1.str, .int p.2]) = [] := by simpa using hne
    rw [decide_eq_false this]; exact h
theorem tup_get0 {value slice : PySem.Expr} {v₁ v₂ : Value} {k : Nat} {u : Tok} {Q : Value → Shared → Prop} (N : News h₀ L s.heap news) (hm : (t, tupOf v₁ v₂ k) ∈ news) (h : Q v₁ s)
    (hs : subscripted slice false (.ref t) (.int 0 u) = operate [.ref t, .int 0 u] (getItem (.ref t) (.int 0 u)) := by with_unfolding_all rfl) :
    wpAny (model prog w) A (subscriptTail value slice (.ref t) (.int 0 u)) Q E s :=
  item_tupleT (l := [v₁, v₂]) (j := 0) ⟨_, (N _ hm).1, rfl, _, rfl⟩ (by decide) (by decide) rfl rfl h hs
theorem tup_get1 {value slice : PySem.Expr} {v₁ v₂ : Value} {k : Nat} {u : Tok} {Q : Value → Shared → Prop} (N : News h₀ L s.heap news) (hm : (t, tupOf v₁ v₂ k) ∈ news) (h : Q v₂ s)
    (hs : subscripted slice false (.ref t) (.int 1 u) = operate [.ref t, .int 1 u] (getItem (.ref t) (.int 1 u)) := by with_unfolding_all rfl) :
    wpAny (model prog w) A (subscriptTail value slice (.ref t) (.int 1 u)) Q E s :=
  item_tupleT (l := [v₁, v₂]) (j := 1) ⟨_, (N _ hm).1, rfl, _, rfl⟩ (by decide) (by decide) rfl rfl h hs
end
section
variable {prog : Program} {w : World} {A : Around} {E : Value → Shared → Prop} {s : Shared} {h₀ : Heap} {L D b t : Addr} {m : Str → Option Value} {news : Led} {n n2 : Nat} {vs ws : List Value}
theorem ne_nil_nil {Q : Value → Shared → Prop} (N : News h₀ L s.heap news) (ma : (D, listOf #[] n) ∈ news) (mb : (b, listOf #[] n2) ∈ news) (hu : A.units + 64 < cLine) (h : Q (.bool false) s) :
    wpAny (model prog w) A (compareOp .NotEq (.ref D) (.ref b)) Q E s := by
  refine ne_dat (vs := []) (ws := []) N ma mb .nil .nil (by intro d hd; cases hd) (by intro d hd; cases hd) hu ?_
  simpa using h
end
def nowhere : Sym → Bool
  | .pee => true | .vee => true | _ => false
def Sym.len : Sym → Int
  | .cr => 2 | .db => 2 | _ => 1
theorem sym_len (x : Sym) : ((x.str.length : Nat) : Int) = x.len := by cases x <;> decide +kernel
theorem nowhere_any (x : Sym) : (([(⟨#[80]⟩ : Str), ⟨#[83]⟩, ⟨#[86]⟩]).any (· == x.str)) = nowhere x := by cases x <;> decide +kernel
/-- what each item of a run-length list lays -/
def sizeL (ps : List (Sym × Int)) : List Int := ps.filterMap fun p => if nowhere p.1 then none else some (p.2 * p.1.len)
theorem sizeL_snoc (ps : List (Sym × Int)) (p : Sym × Int) : sizeL (ps ++ [p]) = if nowhere p.1 then sizeL ps else sizeL ps ++ [p.2 * p.1.len] := by
  simp only [sizeL, List.filterMap_append]
  cases h : nowhere p.1 <;> simp [h]
theorem sizeL_length (ps : List (Sym × Int)) : (sizeL ps).length ≤ ps.length := List.length_filterMap_le ..
theorem ints_snoc {vs : List Value} {ns : List Int} {n : Int} {t : Tok} (h : IntsAre vs ns) : IntsAre (vs ++ [.int n t]) (ns ++ [n]) := h.append (.cons _ _ .nil)
theorem PairsAre.val {R : Led} {vs : List Value} {ps : List (Sym × Int)} (h : PairsAre R vs ps) (i : Nat) (v : Value) (e : vs[i]? = some v) :
    ∃ t v₁ v₂ k, v = .ref t ∧ (t, tupOf v₁ v₂ k) ∈ R ∧ ∃ p, ps[i]? = some p ∧ ∃ tx tc, v₁ = .str p.1.str tx ∧ v₂ = .int p.2 tc := by
  obtain ⟨p, hp, t, k, tx, tc, e, m⟩ := h.item e
  exact ⟨t, _, _, k, e, m, p, hp, tx, tc, rfl, rfl⟩
section
variable {prog : Program} {w : World} {A : Around} {E : Value → Shared → Prop} {s : Shared}
theorem len_sym {x : Sym} {t : Tok} {Q : Value → Shared → Prop} (h : Q (.int x.len (s.toks + 1)) { s with toks := s.toks + 1 + 1 }) : wpAny (model prog w) A (call (.builtin "len") [.str x.str t]) Q E s := by
  refine len_str ?_ (by rw [sym_len]; exact h)
  rw [sym_len]; cases x <;> decide
theorem len_bits (x : Sym) : Builtin.Int.intBits x.len ≤ 64 := by cases x <;> decide +kernel
theorem mul_len {x : Sym} {a : Int} {t u : Tok} {Q : Value → Shared → Prop} (h : Q (.int (a * x.len) s.toks) { s with toks := s.toks + 1 }) : wpAny (model prog w) A (binaryOp .Mult (.int a t) (.int x.len u)) Q E s :=
  mul_int h (hm := IntMulOk.of_right (len_bits x))
end
theorem strs_dat {R : Led} {vs : List Value} {ss : List Str} (h : StrsAre vs ss) : DatAll R vs (ss.map Dat.str) := by
  induction h with
  | nil => exact .nil
  | cons y t _ ih => exact .cons (.str y t) ih
section
variable {prog : Program} {w : World} {A : Around} {E : Value → Shared → Prop} {s : Shared} {h₀ : Heap} {L D b t : Addr} {m : Str → Option Value} {news : Led} {n n2 : Nat} {vs ws : List Value}
open Classical in
theorem eq_dat {ds es : List Dat} {Q : Value → Shared → Prop} (N : News h₀ L s.heap news) (ma : (D, listOf vs.toArray n) ∈ news) (mb : (b, listOf ws.toArray n2) ∈ news) (Da : DatAll news vs ds) (Db : DatAll news ws es)
    (ha : ∀ d ∈ ds, kqdOk 8 d = true) (hb : ∀ d ∈ es, kqdOk 8 d = true) (hu : A.units + 64 < cLine) (h : Q (.bool (decide (ds = es))) s) : wpAny (model prog w) A (compareOp .Eq (.ref D) (.ref b)) Q E s :=
  kqd_eq N ma rfl rfl Da (fun _ h => h) mb rfl rfl Db (fun _ h => h) ha hb hu h
theorem kqd_syms (zs : List Sym) : ∀ d ∈ (zs.map Sym.str).map Dat.str, kqdOk 8 d = true := by
  intro d hd
  obtain ⟨x, hx, rfl⟩ := List.mem_map.mp hd
  obtain ⟨z, _, rfl⟩ := List.mem_map.mp hx
  exact strOk_sym z
theorem eq_nil_strs {zs : List Sym} {Q : Value → Shared → Prop} (N : News h₀ L s.heap news) (ma : (D, listOf vs.toArray n) ∈ news) (mb : (b, listOf #[] n2) ∈ news) (hs : StrsAre vs (zs.map Sym.str)) (hu : A.units + 64 < cLine) (h : ∀ c, Q (.bool c) s) :
    wpAny (model prog w) A (compareOp .Eq (.ref D) (.ref b)) Q E s :=
  eq_dat (ws := []) N ma mb (strs_dat hs) .nil (kqd_syms zs) (by intro d hd; cases hd) hu (h _)
end
end
theorem reset_Wh : True := by
  (w_top off)
  k_with_none
  first | walk1 | trivial
section
open PySem PySem.W PyProof.Rows PySem.Spec PySem.Calls
section
variable {prog : Program} {w : World} {A : Around} {E : Value → Shared → Prop} {s : Shared} {env : Env} {h₀ : Heap} {L : Addr} {Q : Flow → Shared → Prop}
def WEnd (h₀ : Heap) (L : Addr) (J : (Str → Option Value) → Led → Prop) (s₁ s₂ : Shared) : Prop :=
  ∃ h' tk m' news', s₂ = { s₁ with heap := h', toks := tk } ∧ Fr h₀ L h' m' ∧ News h₀ L h' news' ∧ J m' news'
def WPost (h₀ : Heap) (L : Addr) (J : (Str → Option Value) → Led → Prop) (s₁ : Shared) (f : Flow) (s₂ : Shared) : Prop := f = .next ∧ Halt (WEnd h₀ L J s₁ s₂)
theorem WPost.next {J : (Str → Option Value) → Led → Prop} {s₁ s₂ : Shared} (h : Halt (WEnd h₀ L J s₁ s₂)) : WPost h₀ L J s₁ .next s₂ := ⟨rfl, h⟩
theorem WEnd.intro {J : (Str → Option Value) → Led → Prop} {s₁ : Shared} {h' : Heap} {tk : Nat} {m' : Str → Option Value} {news' : Led} (F : Fr h₀ L h' m') (N : News h₀ L h' news') (hJ : J m' news') :
    WEnd h₀ L J s₁ { s₁ with heap := h', toks := tk } := ⟨h', tk, m', news', rfl, F, N, hJ⟩
/-- a while of n turns -/
theorem While_X {test : PySem.Expr} {body : List Stmt} {pos : Pos} {m : Str → Option Value} {news : Led} (n : Nat) (J : Nat → (Str → Option Value) → Led → Prop)
    (F : Fr h₀ L s.heap m) (N : News h₀ L s.heap news) (hj : J 0 m news)
    (turn : ∀ i m₁ news₁ h tk, i < n → J i m₁ news₁ → Fr h₀ L h m₁ → News h₀ L h news₁ →
      wpAny (model prog w) A (isTrue test env (eval test env)) (fun b s₂ => if b = true then wpAny (model prog w) A (execs body env) (WPost h₀ L (J (i + 1)) s) E s₂ else False) E { s with heap := h, toks := tk })
    (last : ∀ m₁ news₁ h tk, J n m₁ news₁ → Fr h₀ L h m₁ → News h₀ L h news₁ →
      wpAny (model prog w) A (isTrue test env (eval test env)) (fun b s₂ => if b = true then False else Q .next s₂) E { s with heap := h, toks := tk })
    (hE : PassesOwn (model prog w) A env E := by first | passes_own | with_unfolding_all passes_own) :
    wpAny (model prog w) A (exec (.While test body [] pos) env) Q E s := by
  refine While_inv (n₀ := n) (fun k m₁ nw => ∃ i, i ≤ n ∧ k = n - i ∧ J i m₁ nw) F N ⟨0, Nat.zero_le _, rfl, hj⟩ ?_ hE
  rintro k m₁ news₁ h₁ tk₁ F₁ N₁ ⟨i, hi, rfl, hJ⟩
  by_cases hlt : i < n
  · refine wpAny_mono (turn i m₁ news₁ h₁ tk₁ hlt hJ F₁ N₁) (fun b s₂ h₂ => ?_) fun _ _ e => e
    cases b with
    | false => exact absurd h₂ (by simp)
    | true =>
      simp only [if_true] at h₂ ⊢
      refine wpAny_mono h₂ (fun f s₃ h₃ => ?_) fun _ _ e => e
      obtain ⟨rfl, h', tk, m₂, news₂, rfl, F₂, N₂, J₂⟩ := h₃
      exact WhileStep.intro F₂ N₂ (by omega) ⟨i + 1, hlt, rfl, J₂⟩
  · obtain rfl : i = n := by omega
    refine wpAny_mono (last m₁ news₁ h₁ tk₁ hJ F₁ N₁) (fun b s₂ h₂ => ?_) fun _ _ e => e
    cases b with
    | false => simpa using h₂
    | true => exact absurd h₂ (by simp)
/-- a map that holds v at x, anything at xs -/
theorem map_at {x : Str} {xs : List Str} {m₁ m₀ : Str → Option Value} {v : Value} (hx : m₁ x = some v) (h : ∀ y, y ∉ x :: xs → m₁ y = m₀ y) : m₁ = fun y => if y = x then some v else stoL xs (fun y => if y = x then m₀ x else m₁ y) m₀ y := by
  rw [← map_x h]
  funext y
  by_cases hy : y = x
  · rw [if_pos hy, hy, hx]
  · rw [if_neg hy]
/-- a while's turn: x holds what J says, xs anything -/
def Jw (x : Str) (xs : List Str) (m₀ : Str → Option Value) (J : Value → Led → Prop) (m' : Str → Option Value) (nw : Led) : Prop := (∀ y, y ∉ x :: xs → m' y = m₀ y) ∧ ∃ v, m' x = some v ∧ J v nw
theorem While_Y {test : PySem.Expr} {body : List Stmt} {pos : Pos} {m₀ : Str → Option Value} {news news₀ : Led} {v₀ : Value} (n : Nat) (x : Str) (xs : List Str) (J : Nat → Value → Led → Prop)
    (F : Fr h₀ L s.heap m₀) (N : News h₀ L s.heap news) (hx : m₀ x = some v₀) (hs : ∀ p ∈ news₀, p ∈ news) (hj : J 0 v₀ news₀)
    (turn : ∀ i v us news₁ h tk, i < n → J i v news₁ → Fr h₀ L h (fun y => if y = x then some v else stoL xs us m₀ y) → News h₀ L h news₁ →
      wpAny (model prog w) A (isTrue test env (eval test env)) (fun b s₂ => if b = true then wpAny (model prog w) A (execs body env) (WPost h₀ L (Jw x xs m₀ (J (i + 1))) s) E s₂ else False) E { s with heap := h, toks := tk })
    (last : ∀ v us news₁ h tk, J n v news₁ → Fr h₀ L h (fun y => if y = x then some v else stoL xs us m₀ y) → News h₀ L h news₁ →
      wpAny (model prog w) A (isTrue test env (eval test env)) (fun b s₂ => if b = true then False else Q .next s₂) E { s with heap := h, toks := tk })
    (hE : PassesOwn (model prog w) A env E := by first | passes_own | with_unfolding_all passes_own) :
    wpAny (model prog w) A (exec (.While test body [] pos) env) Q E s := by
  refine While_X n (fun i => Jw x xs m₀ (J i)) F (fun p hp => N p (hs p hp)) ⟨fun _ _ => rfl, v₀, hx, hj⟩ ?_ ?_ hE
  · rintro i m₁ news₁ h tk hi ⟨hm, v, hv, hJ⟩ F₁ N₁
    rw [map_at hv hm] at F₁
    exact turn i v _ news₁ h tk hi hJ F₁ N₁
  · rintro m₁ news₁ h tk ⟨hm, v, hv, hJ⟩ F₁ N₁
    rw [map_at hv hm] at F₁
    exact last v _ news₁ h tk hJ F₁ N₁
theorem WEnd.of {x : Str} {xs : List Str} {m₀ : Str → Option Value} {J : Value → Led → Prop} {s₁ : Shared} {h' : Heap} {tk : Nat} {m' : Str → Option Value} {all : Led} {v : Value} (news' : Led) (F : Fr h₀ L h' m') (N : News h₀ L h' all) (hn : ∀ p ∈ news', p ∈ all)
    (hm : ∀ y, y ∉ x :: xs → m' y = m₀ y) (hv : m' x = some v) (hJ : J v news') : WEnd h₀ L (Jw x xs m₀ J) s₁ { s₁ with heap := h', toks := tk } := WEnd.intro F (fun p hp => N p (hn p hp)) ⟨hm, v, hv, hJ⟩
/-- a statement's end, cut: it lays x, may lay xs -/
theorem cut_1 {t : Sem Flow} {m₀ : Str → Option Value} (x : Str) (xs : List Str) (J : Value → Led → Prop) (_F : Fr h₀ L s.heap m₀)
    (h : wpAny (model prog w) A t (WPost h₀ L (Jw x xs m₀ J) s) E s)
    (k : ∀ v us nw h tk, J v nw → Fr h₀ L h (fun y => if y = x then some v else stoL xs us m₀ y) → News h₀ L h nw → Q .next { s with heap := h, toks := tk }) : wpAny (model prog w) A t Q E s := by
  refine wpAny_mono h (fun f s₂ h₂ => ?_) fun _ _ e => e
  obtain ⟨rfl, h', tk, m', nw, rfl, F', N', hm, v, hv, hJ⟩ := h₂
  rw [map_at hv hm] at F'
  exact k v _ nw h' tk hJ F' N'
def Jw2 (x₁ x₂ : Str) (xs : List Str) (m₀ : Str → Option Value) (J : Value → Value → Led → Prop) (m' : Str → Option Value) (nw : Led) : Prop := (∀ y, y ∉ x₁ :: x₂ :: xs → m' y = m₀ y) ∧ ∃ v₁ v₂, m' x₁ = some v₁ ∧ m' x₂ = some v₂ ∧ J v₁ v₂ nw
theorem cut_2 {t : Sem Flow} {m₀ : Str → Option Value} (x₁ x₂ : Str) (xs : List Str) (hne : x₂ ≠ x₁) (J : Value → Value → Led → Prop) (_F : Fr h₀ L s.heap m₀)
    (h : wpAny (model prog w) A t (WPost h₀ L (Jw2 x₁ x₂ xs m₀ J) s) E s)
    (k : ∀ v₁ v₂ us nw h tk, J v₁ v₂ nw → Fr h₀ L h (fun y => if y = x₁ then some v₁ else if y = x₂ then some v₂ else stoL xs us m₀ y) → News h₀ L h nw → Q .next { s with heap := h, toks := tk }) : wpAny (model prog w) A t Q E s := by
  refine wpAny_mono h (fun f s₂ h₂ => ?_) fun _ _ e => e
  obtain ⟨rfl, h', tk, m', nw, rfl, F', N', hm, v₁, v₂, hv₁, hv₂, hJ⟩ := h₂
  rw [map_at hv₁ hm] at F'
  simp only [stoL, if_neg hne, hv₂] at F'
  exact k v₁ v₂ _ nw h' tk hJ F' N'
theorem WEnd.of2 {x₁ x₂ : Str} {xs : List Str} {m₀ : Str → Option Value} {J : Value → Value → Led → Prop} {s₁ : Shared} {h' : Heap} {tk : Nat} {m' : Str → Option Value} {all : Led} {v₁ v₂ : Value} (news' : Led) (F : Fr h₀ L h' m') (N : News h₀ L h' all) (hn : ∀ p ∈ news', p ∈ all)
    (hm : ∀ y, y ∉ x₁ :: x₂ :: xs → m' y = m₀ y) (hv₁ : m' x₁ = some v₁) (hv₂ : m' x₂ = some v₂) (hJ : J v₁ v₂ news') : WEnd h₀ L (Jw2 x₁ x₂ xs m₀ J) s₁ { s₁ with heap := h', toks := tk } := WEnd.intro F (fun p hp => N p (hn p hp)) ⟨hm, v₁, v₂, hv₁, hv₂, hJ⟩
inductive Stop : Prop | mk
inductive Stop2 : Prop | mk
end
end
local macro_rules | `(tactic| k_all) => `(tactic| assumption)
theorem reset_T2 : True := by
  (w_top off)
  k_with_none
  first | walk1 | trivial
section
open PySem PySem.W PyProof.Rows PySem.Spec PySem.Calls
theorem rows_T2_1 : True := by
  k_with "setItem ref int" => ((k_here; (with_reducible show wpAny _ _ (setItem (Value.ref _) (Value.int _ _) (Value.int _ _)) _ _ _); k_dflt (refine' setAt_any (by k_asm) (by k_asm) (by k_upd) (by decide) (by decide) (by decide) ?_; k_whole); intro hq_rw Fq_rw Nq_rw; (try dsimp only [List.set] at Nq_rw)))
  trivial
theorem turn_tel (w : World) (la wa : Addr) (vs : List Value) (ns : List Int) (n1 n2 : Nat) (k : Int) (tk : Tok) (many : Int) (tm : Tok) (R : Led)
   (hi : IntsAre vs ns) (hL : ns.length ≤ 63) (hk0 : 0 ≤ k) (hm0 : 0 < many) (hne : @LT.lt Nat _ la wa) (h1 : ∀ p ∈ R, p.1 ≠ wa)  :
   Tel w 348 2 [.ref wa, .int many tm] ((wa, listOf [.ref la, .int k tk].toArray n2) :: (la, listOf vs.toArray n1) :: R) fun r news' =>
    ∃ x t t', r = .int x t ∧ 0 ≤ x ∧ x < many ∧ news' = ((wa, listOf [.ref la, .int (k+1) t'].toArray n2) :: (la, listOf vs.toArray n1) :: R) := by
  unfold Tel
  intro p loose mean mg mb dp un gd cn cs a ccd cl outer A₀ base h₀ L m s Q E hR B F X N T hk hd hu hret
  revert hR; k_fill; intro hR
  refine wpAny_call ?_
  k_dflt ktr_enter
  k_steps
  all_goals (try dsimp only)
  all_goals (refine hret _ _ _ _ ?_ (by k_asm) (by k_asm))
  · exact ⟨_, _, _, rfl, Int.fmod_nonneg_of_pos _ hm0, Int.fmod_lt_of_pos _ hm0, rfl⟩
  · exact ⟨_, _, _, rfl, Int.le_refl _, hm0, rfl⟩
end
local macro_rules | `(tactic| k_all) => `(tactic| exact allLt_ne (by assumption))
local macro_rules | `(tactic| k_room) => `(tactic| ((try simp only [depth_under_make, depth_under_kw, depth_in1, depth_deeper, depth_caller]); (try dsimp only [ktrTop]); omega))
local macro_rules | `(tactic| k_mem) => `(tactic| assumption)
local macro_rules | `(tactic| k_in) => `(tactic| exact Frag.In.keeps (by k_asm) (Fr.keep (by k_asm)))
theorem reset_T3 : True := by
  (w_top off)
  k_with_none
  first | walk1 | trivial
section
open PySem PySem.W PyProof.Rows PySem.Spec PySem.Calls
theorem rows_T3_1 : True := by
  k_with "MyPost" => (with_unfolding_all first | refine MyPost.next ?_ | refine MyPost.cont ?_ | refine MyPost.brk ?_ | refine MyPost.ret ?_)
  k_with "MyPostT" => (with_unfolding_all refine MyPostT.next ?_)
  k_with "exec For Name Name cons nil" => ((k_here; (rename Fr _ _ _ _ => lFq_rw); (with_unfolding_all refine' For_invVF lFq_rw (by exact rfl) (by exact rfl) ?_; k_whole)))
  k_with "pyIter str" => ((k_here; refine Halt.out ?_))
  k_with "pyIter ref" => ((k_here; refine Halt.out ?_))
  k_with "m_in" => (first | assumption | exact List.mem_append_left _ (by assumption) | exact List.mem_append_right _ (by assumption) | (refine List.mem_cons_of_mem _ ?_; walk_at "m_in"))
  k_with "m_sub" => (first | exact (fun _ h => h) | exact List.forall_mem_nil _ | (refine List.forall_mem_cons.mpr ⟨by k_mem, ?_⟩; walk_at "m_sub") | (intro p9_rw hp9_rw; walk_at "m_in"))
  k_with "m_map" => (first | exact off_sto (by walk_at "m_sub") | (refine off_step (by k_mem) ?_; walk_at "m_map"))
  k_with "getMethod ref" => ((k_here; (with_reducible show wpAny _ _ (getMethod (Value.ref _) (PySem.Str.ofString "count") _) _ _ _); k_dflt (refine' kf_method (by k_asm) (by k_mem) PySem.F.slot_list_count PySem.F.type_list_count ?_)))
  k_with "call builtin:list.append" => ((k_here; (with_reducible show wpAny _ _ (call (Value.builtin _) [Value.ref _, _]) _ _ _); k_dflt (refine' append_L (by k_asm) (by k_asm) (by k_upd) (by first | assumption | (simp only [List.length_append, List.length_cons, List.length_nil]; omega)) ?_; k_whole); intro hq_rw Fq_rw Nq_rw; (try k_sweep)))
  k_with "compareOp In str ref" => ((k_here; (with_reducible show wpAny _ _ (compareOp CmpOp.In (Value.str _ _) (Value.ref _)) _ _ _); k_dflt (refine' in_list_strs (by exact News.isList (by k_asm) (by k_mem)) (by k_asm) ?_; k_whole)))
  k_with "ite" => ((k_here; (with_reducible show (if ((_ : Int) == _) = true then _ else _)); first | (refine ite_pos (by (simp only [beq_iff_eq]); omega) ?_) | (refine ite_neg (by (simp only [beq_iff_eq]); omega) ?_)))
  k_with "WPost" => (with_unfolding_all refine WPost.next ?_)
  k_with "m_map" => (with_reducible exact fun _ _ => rfl)
  k_with "callWith" => ((k_here; (with_reducible show wpAny _ _ (callWith _ (Prod.fst _) (Prod.snd _) _ _) _ _ _); dsimp only; (with_reducible refine' callWith_method1 ?_ (by exact rfl) (by exact rfl))))
  k_with "t_at" => ((k_here; (with_reducible show wpAny _ _ (subscriptTail _ _ (Value.ref _) (Value.int _ _)) _ _ _); k_dflt (refine' tup_at (by k_asm) (by k_mem) (by omega) (by (simp only [List.length_cons, List.length_nil]; omega)) (by (simp only [List.length_cons, List.length_nil]; omega)) ?_); intro vq_rw hvq_rw))
  k_with "subscriptTail Tuple cons Call ref int" => (walk_at "t_at")
  k_with "subscriptTail Tuple cons BinOp ref int" => (walk_at "t_at")
  k_with "subscriptTail Tuple cons Name ref int" => (walk_at "t_at")
  k_with "execs cons" => ((k_here; (try dsimp only); (try (with_reducible refine gen_toks ?_; intro tkg_rw)); (with_reducible refine wpAny_execs_cons ?_); (try dsimp only); k_fold))
  trivial
def cnt (k : Str) (ss : List Str) : Int := PySem.Spec.countIn (.str k) (ss.map .str)
def floatS (ss : List Str) : Str := if 1 < cnt (Str.ofString "$") ss then Str.ofString "$" else if 1 < cnt (Str.ofString "+") ss then Str.ofString "+" else if 1 < cnt (Str.ofString "-") ss then Str.ofString "-" else Str.ofString ""
theorem one_of {tx : Str} {i a c : Nat} (e : tx.cps[i]? = some a) (hc : tx.cps[i]? = some c) : a = c := Option.some.inj (e.symm.trans hc)
theorem str36 : (⟨#[36]⟩ : Str) = Str.ofString "$" := by decide +kernel
theorem str43 : (⟨#[43]⟩ : Str) = Str.ofString "+" := by decide +kernel
theorem str45 : (⟨#[45]⟩ : Str) = Str.ofString "-" := by decide +kernel
theorem str_is {a b : Str} {u : Tok} (e : a = b) : ∃ t, Value.str a u = Value.str b t := ⟨u, by rw [e]⟩
theorem floating_tel (w : World) (sa : Addr) (vs : List Value) (ss : List Str) (n1 : Nat) (R : Led)
   (hi : StrsAre vs ss) (hL : ss.length ≤ 63) :
   Tel w 28 2 [.ref sa] ((sa, listOf vs.toArray n1) :: R) fun r news' => (∃ t, r = .str (floatS ss) t) ∧ news' = ((sa, listOf vs.toArray n1) :: R) := by
  unfold Tel
  intro p loose mean mg mb dp un gd cn cs a ccd cl outer A₀ base h₀ L m s Q E hR B F X N T hk hd hu hret
  revert hR; k_fill; intro hR
  refine wpAny_call ?_
  k_dflt ktr_enter
  k_steps
  unfold Halt
  rename Fr _ _ _ _ => F9
  rename News _ _ _ _ => N9
  refine iter_strX [] (fun i nw => nw = ((sa, listOf vs.toArray n1) :: R) ∧ (0 < i → ¬ 1 < cnt (Str.ofString "$") ss) ∧ (1 < i → ¬ 1 < cnt (Str.ofString "+") ss) ∧ (2 < i → ¬ 1 < cnt (Str.ofString "-") ss)) rfl F9 N9 (fun _ h => h) ⟨rfl, by omega, by omega, by omega⟩ ?_ ?_
  · rintro i c u us news₁ h tk I it hc ⟨rfl, h0, h1, h2⟩ F8 N8 off
    clear F9 N9
    match i, hc with
    | 0, hc =>
      obtain rfl : 36 = c := one_of (by decide +kernel) hc
      rw [str36] at F8
      k_steps
      · refine hret _ _ _ _ ⟨str_is ?_, rfl⟩ (by k_asm) (fun p hp => (by k_asm : News h₀ L _ _) p (List.mem_cons_of_mem _ hp))
        unfold floatS cnt; rw [if_pos (by assumption)]
      · unfold Halt
        refine MyEnd.ofX ((sa, listOf vs.toArray n1) :: R) (by k_asm) (by k_asm) (by walk_at "m_sub") (by walk_at "m_sub") off (by walk_at "m_map") ⟨rfl, fun _ => by assumption, by omega, by omega⟩
    | 1, hc =>
      obtain rfl : 43 = c := one_of (by decide +kernel) hc
      rw [str43] at F8
      have h0 := h0 (by omega)
      k_steps
      · refine hret _ _ _ _ ⟨str_is ?_, rfl⟩ (by k_asm) (fun p hp => (by k_asm : News h₀ L _ _) p (List.mem_cons_of_mem _ hp))
        unfold floatS; rw [if_neg h0]; unfold cnt; rw [if_pos (by assumption)]
      · unfold Halt
        refine MyEnd.ofX ((sa, listOf vs.toArray n1) :: R) (by k_asm) (by k_asm) (by walk_at "m_sub") (by walk_at "m_sub") off (by walk_at "m_map") ⟨rfl, fun _ => h0, fun _ => by assumption, by omega⟩
    | 2, hc =>
      obtain rfl : 45 = c := one_of (by decide +kernel) hc
      rw [str45] at F8
      have h0 := h0 (by omega)
      have h1 := h1 (by omega)
      k_steps
      · refine hret _ _ _ _ ⟨str_is ?_, rfl⟩ (by k_asm) (fun p hp => (by k_asm : News h₀ L _ _) p (List.mem_cons_of_mem _ hp))
        unfold floatS; rw [if_neg h0, if_neg h1]; unfold cnt; rw [if_pos (by assumption)]
      · unfold Halt
        refine MyEnd.ofX ((sa, listOf vs.toArray n1) :: R) (by k_asm) (by k_asm) (by walk_at "m_sub") (by walk_at "m_sub") off (by walk_at "m_map") ⟨rfl, fun _ => h0, fun _ => h1, fun _ => by assumption⟩
    | i + 3, hc =>
      have e : (Str.ofString "$+-").cps = #[36, 43, 45] := by decide +kernel
      rw [e] at hc
      exact absurd hc (by simp)
  · rintro us news₁ h tk ⟨rfl, h0, h1, h2⟩ F8 N8
    have e : (Str.ofString "$+-").cps.size = 3 := by decide +kernel
    rw [e] at h0 h1 h2
    have h0 := h0 (by omega)
    have h1 := h1 (by omega)
    have h2 := h2 (by omega)
    clear F9 N9
    k_steps
    refine hret _ _ _ _ ⟨str_is ?_, rfl⟩ (by k_asm) (by k_asm)
    unfold floatS; rw [if_neg h0, if_neg h1, if_neg h2]
end
theorem reset_T4 : True := by
  (w_top off)
  k_with_none
  first | walk1 | trivial
section
open PySem PySem.W PyProof.Rows PySem.Spec PySem.Calls
theorem rows_T4_1 : True := by
  k_with "MyPost" => (with_unfolding_all first | refine MyPost.next ?_ | refine MyPost.cont ?_ | refine MyPost.brk ?_ | refine MyPost.ret ?_)
  k_with "MyPostT" => (with_unfolding_all refine MyPostT.next ?_)
  k_with "exec For Name Name cons nil" => ((k_here; (rename Fr _ _ _ _ => lFq_rw); (with_unfolding_all refine' For_invVF lFq_rw (by exact rfl) (by exact rfl) ?_; k_whole)))
  k_with "pyIter str" => ((k_here; refine Halt.out ?_))
  k_with "pyIter ref" => ((k_here; refine Halt.out ?_))
  k_with "m_in" => (first | assumption | exact List.mem_append_left _ (by assumption) | exact List.mem_append_right _ (by assumption) | (refine List.mem_cons_of_mem _ ?_; walk_at "m_in"))
  k_with "m_sub" => (first | exact (fun _ h => h) | exact List.forall_mem_nil _ | (refine List.forall_mem_cons.mpr ⟨by k_mem, ?_⟩; walk_at "m_sub") | (intro p9_rw hp9_rw; walk_at "m_in"))
  k_with "m_map" => (first | exact off_sto (by walk_at "m_sub") | (refine off_step (by k_mem) ?_; walk_at "m_map"))
  k_with "getMethod ref" => ((k_here; (with_reducible show wpAny _ _ (getMethod (Value.ref _) (PySem.Str.ofString "count") _) _ _ _); k_dflt (refine' kf_method (by k_asm) (by k_mem) PySem.F.slot_list_count PySem.F.type_list_count ?_)))
  k_with "call builtin:list.append" => ((k_here; (with_reducible show wpAny _ _ (call (Value.builtin _) [Value.ref _, _]) _ _ _); k_dflt (refine' append_L (by k_asm) (by k_asm) (by k_upd) (by first | assumption | (simp only [List.length_append, List.length_cons, List.length_nil]; omega)) ?_; k_whole); intro hq_rw Fq_rw Nq_rw; (try k_sweep)))
  k_with "compareOp In str ref" => ((k_here; (with_reducible show wpAny _ _ (compareOp CmpOp.In (Value.str _ _) (Value.ref _)) _ _ _); k_dflt (refine' in_list_strs (by exact News.isList (by k_asm) (by k_mem)) (by k_asm) ?_; k_whole)))
  k_with "ite" => ((k_here; (with_reducible show (if ((_ : Int) == _) = true then _ else _)); first | (refine ite_pos (by (simp only [beq_iff_eq]); omega) ?_) | (refine ite_neg (by (simp only [beq_iff_eq]); omega) ?_)))
  k_with "WPost" => (with_unfolding_all refine WPost.next ?_)
  k_with "m_map" => (with_reducible exact fun _ _ => rfl)
  k_with "callWith" => ((k_here; (with_reducible show wpAny _ _ (callWith _ (Prod.fst _) (Prod.snd _) _ _) _ _ _); dsimp only; (with_reducible refine' callWith_method1 ?_ (by exact rfl) (by exact rfl))))
  k_with "t_at" => ((k_here; (with_reducible show wpAny _ _ (subscriptTail _ _ (Value.ref _) (Value.int _ _)) _ _ _); k_dflt (refine' tup_at (by k_asm) (by k_mem) (by omega) (by (simp only [List.length_cons, List.length_nil]; omega)) (by (simp only [List.length_cons, List.length_nil]; omega)) ?_); intro vq_rw hvq_rw))
  k_with "subscriptTail Tuple cons Call ref int" => (walk_at "t_at")
  k_with "subscriptTail Tuple cons BinOp ref int" => (walk_at "t_at")
  k_with "subscriptTail Tuple cons Name ref int" => (walk_at "t_at")
  k_with "execs cons" => ((k_here; (try dsimp only); (try (with_reducible refine gen_toks ?_; intro tkg_rw)); (with_reducible refine wpAny_execs_cons ?_); (try dsimp only); k_fold))
  k_with "call ref" => ((k_here; (with_reducible show wpAny _ _ (call (Value.ref 28) _) _ _ _); (rename News _ _ _ _ => N7_rw); k_dflt (refine' tel_use (floating_tel _ _ _ _ _ _ (by k_asm) (by k_asm)) (by k_asm) (by k_asm) (by k_asm) (news_dup N7_rw (by k_mem)) (by k_asm) (by first | exact rfl | assumption) (by ktr_room) (by ktr_units) ?_); clear N7_rw; rintro r_rw news9_rw h9_rw tk9_rw ⟨⟨t9, hr9⟩, hn9⟩ F' N'; subst hr9 hn9; (try k_fold)))
  k_with "setItem ref str" => ((k_here; k_dflt (refine' kda_set (knd := PySem.strKind _ _) (by k_asm) (by k_asm) (by k_updF) (by k_asm) (strKind_is _ _ _ _) (by exact Nat.le_trans (m := 1000) (by assumption) (by decide)) ?_; k_whole); intro hq_rw oq_rw Fq_rw Nq_rw hdq_rw; (try k_sweep)))
  trivial
def InsAt (i : Nat) (x : Sym) : Prop := match x with | .bee => 0 < i | .nought => 1 < i | .slash => 2 < i | .comma => 3 < i | _ => True
def PlainAt (i : Nat) (kvs : List (Str × Value)) : Prop := ∀ x : Sym, InsAt i x → (x.plain = .fixed ∧ valueAt kvs x.str = none) ∨ (x.plain ≠ .fixed ∧ ∃ t, valueAt kvs x.str = some (.str x.plain.str t))
theorem valueAt_stored {kvs : List (Str × Value)} {k k' : Str} {v : Value} : valueAt (stored kvs k v) k' = if k = k' then some v else valueAt kvs k' := by
  unfold valueAt stored
  have hmap : ∀ l : List (Str × Value), (l.map (fun kv => if kv.1 = k then (kv.1, v) else kv)).find? (fun kv => decide (kv.1 = k')) = (l.find? (fun kv => decide (kv.1 = k'))).map (fun kv => if kv.1 = k then (kv.1, v) else kv) := by
    intro l
    induction l with
    | nil => rfl
    | cons a t ih =>
      rw [List.map_cons]
      by_cases hk : a.1 = k
      · rw [if_pos hk]
        by_cases hk' : a.1 = k'
        · simp [hk', hk.symm.trans hk']
        · rw [List.find?_cons_of_neg (by simpa using hk'), List.find?_cons_of_neg (by simpa using hk'), ih]
      · rw [if_neg hk]
        by_cases hk' : a.1 = k'
        · rw [List.find?_cons_of_pos (by simpa using hk'), List.find?_cons_of_pos (by simpa using hk')]; simp [hk]
        · rw [List.find?_cons_of_neg (by simpa using hk'), List.find?_cons_of_neg (by simpa using hk'), ih]
  split
  · rename_i hany
    rw [hmap, Option.map_map]
    by_cases hkk : k = k'
    · subst hkk
      rw [if_pos rfl]
      obtain ⟨kv, hm, hkv⟩ := List.any_eq_true.mp hany
      cases hf : kvs.find? (fun kv => decide (kv.1 = k)) with
      | none => exact absurd hkv (by simpa using List.find?_eq_none.mp hf kv hm)
      | some z =>
        have hz : z.1 = k := by simpa using List.find?_some hf
        simp [hz]
    · rw [if_neg hkk]
      cases hf : kvs.find? (fun kv => decide (kv.1 = k')) with
      | none => rfl
      | some z =>
        have hz : z.1 = k' := by simpa using List.find?_some hf
        have : ¬ z.1 = k := fun e => hkk (e.symm.trans hz)
        simp [this]
  · rename_i hany
    rw [List.find?_append]
    by_cases hkk : k = k'
    · subst hkk
      rw [if_pos rfl]
      have : kvs.find? (fun kv => decide (kv.1 = k)) = none := by
        rw [List.find?_eq_none]
        intro z hz hzk
        exact hany (List.any_eq_true.mpr ⟨z, hz, hzk⟩)
      rw [this]; simp
    · rw [if_neg hkk]
      cases hf : kvs.find? (fun kv => decide (kv.1 = k')) with
      | none => simp [hkk]
      | some z => simp
theorem plainAt_succ {i c : Nat} {kvs : List (Str × Value)} {t : Tok} (h : PlainAt i kvs) (hc : (Str.ofString "B0/,").cps[i]? = some c) : PlainAt (i + 1) (stored kvs ⟨#[c]⟩ (.str (Str.ofString "insert") t)) := by
  have e : (Str.ofString "B0/,").cps = #[66, 48, 47, 44] := by decide +kernel
  rw [e] at hc
  intro x hx
  rw [valueAt_stored]
  have key : ∀ y : Sym, (⟨#[c]⟩ : Str) = y.str → y.plain = .insert → (x = y ∨ (x ≠ y ∧ InsAt i x)) → (x.plain = .fixed ∧ (if (⟨#[c]⟩ : Str) = x.str then some (Value.str (Str.ofString "insert") t) else valueAt kvs x.str) = none) ∨ (x.plain ≠ .fixed ∧ ∃ t', (if (⟨#[c]⟩ : Str) = x.str then some (Value.str (Str.ofString "insert") t) else valueAt kvs x.str) = some (.str x.plain.str t')) := by
    intro y hy hp hxy
    rcases hxy with rfl | ⟨hne, hI⟩
    · rw [if_pos hy]
      exact .inr ⟨by rw [hp]; decide, t, by rw [hp]; rfl⟩
    · rw [if_neg (by rw [hy]; exact fun e => hne (symStr_inj e.symm))]
      exact h x hI
  match i, hc with
  | 0, hc =>
    obtain rfl : 66 = c := by simpa using hc
    refine key .bee (by decide +kernel) rfl ?_
    cases x <;> simp_all [InsAt]
  | 1, hc =>
    obtain rfl : 48 = c := by simpa using hc
    refine key .nought (by decide +kernel) rfl ?_
    cases x <;> simp_all [InsAt]
  | 2, hc =>
    obtain rfl : 47 = c := by simpa using hc
    refine key .slash (by decide +kernel) rfl ?_
    cases x <;> simp_all [InsAt]
  | 3, hc =>
    obtain rfl : 44 = c := by simpa using hc
    refine key .comma (by decide +kernel) rfl ?_
    cases x <;> simp_all [InsAt]
  | i + 4, hc => exact absurd hc (by simp)
theorem role_next {fl : Str} {xs : List Sym} {i : Nat} {x : Sym} {fvs : List Value} {r : Role} {t : Tok} (hfv : StrsAre fvs ((rolesGo fl (xs.take i)).map Role.str)) (hx : xs[i]? = some x)
    (hr : r = if x.str = fl then (if Role.lead ∈ rolesGo fl (xs.take i) then .float else .lead) else x.plain) : StrsAre (fvs ++ [.str r.str t]) ((rolesGo fl (xs.take (i + 1))).map Role.str) := by
  rw [take_succ_get hx, rolesGo_snoc, roleStep, ← hr, List.map_append]
  exact strs_snoc hfv
theorem stored_len {kvs : List (Str × Value)} {k : Str} {v : Value} {n : Nat} (h : kvs.length ≤ n) : (stored kvs k v).length ≤ n + 1 := by
  unfold stored
  split
  · rw [List.length_map]; omega
  · rw [List.length_append, List.length_singleton]; omega
section
variable {w : World} {A : Around} {E : Value → Shared → Prop} {s : Shared} {h₀ : Heap} {L d : Addr} {news : Led} {o : Obj} {kvs : List (Str × Value)}
theorem plain_get {i : Nat} {x : Sym} {t u : Tok} {Q : Value → Shared → Prop} (N : News h₀ L s.heap news) (hp : (d, o) ∈ news) (hd : o.IsDictOf (PySem.strKind pw w) kvs) (lo : (d == sysModules) = false) (hP : PlainAt i kvs) (hi : 3 < i)
    (h : ∀ t', Q (.str x.plain.str t') { s with toks := s.toks + 1 }) : wpAny (model pw w) A (call (.builtin "dict.get") [.ref d, .str x.str t, .str (Str.ofString "fixed") u]) Q E s := by
  refine kdg_get2 (knd := PySem.strKind pw w) N hp hd lo (strKind_is _ _ _ _) _ rfl ?_
  rcases hP x (by cases x <;> simp only [InsAt] <;> omega) with ⟨e, hv⟩ | ⟨_, t', hv⟩
  · rw [hv]; have := h u; rw [e] at this; exact this
  · rw [hv]; exact h t'
end
theorem rows_T4_2 : True := by
  k_with "getMethod ref" => ((k_here; (with_reducible show wpAny _ _ (getMethod (Value.ref _) (Str.ofString "get") _) _ _ _); k_dflt (refine kdg_method (knd := PySem.strKind _ _) (by k_asm) (by k_mem) (by k_asm) ?_)))
  k_with "call builtin:dict.get" => ((k_here; k_dflt (refine plain_get (by k_asm) (by k_mem) (by k_asm) (by k_asm) (by k_asm) (by decide +kernel) ?_); intro tq_rw))
  trivial
inductive RolesOut (sa : Addr) (vs : List Value) (n1 : Nat) (xs : List Sym) (R : Led) (r : Value) (news' : Led) : Prop
  | intro (fa : Addr) (fvs : List Value) (n : Nat) (hr : r = .ref fa) (hs : StrsAre fvs ((rolesGo (floatS (xs.map Sym.str)) xs).map Role.str)) (hn : news' = ((fa, listOf fvs.toArray n) :: (sa, listOf vs.toArray n1) :: R)) (hl : AllLt fa ((sa, listOf vs.toArray n1) :: R)) : RolesOut sa vs n1 xs R r news'
inductive RolesJ (w : World) (pa sa : Addr) (vs : List Value) (n1 : Nat) (R : Led) (i : Nat) (nw : Led) : Prop
  | intro (o : Obj) (kvs : List (Str × Value)) (hn : nw = ((pa, o) :: (sa, listOf vs.toArray n1) :: R)) (hd : o.IsDictOf (PySem.strKind pw w) kvs) (hz : kvs.length ≤ 6 + i) (hp : PlainAt i kvs) : RolesJ w pa sa vs n1 R i nw
theorem roles_tel (w : World) (sa : Addr) (vs : List Value) (xs : List Sym) (n1 : Nat) (R : Led)
   (hi : StrsAre vs (xs.map Sym.str)) (hL : xs.length ≤ 63) :
   Tel w 35 4 [.ref sa] ((sa, listOf vs.toArray n1) :: R) (RolesOut sa vs n1 xs R) := by
  have hl' : (xs.map Sym.str).length ≤ 63 := by simpa using hL
  unfold Tel
  intro p loose mean mg mb dp un gd cn cs a ccd cl outer A₀ base h₀ L m s Q E hR B F X N T hk hd hu hret
  revert hR; k_fill; intro hR
  refine wpAny_call ?_
  k_dflt ktr_enter
  k_steps
  unfold Halt
  rename Fr _ _ _ _ => F9
  rename News _ _ _ _ => N9
  rename Obj.IsDictOf _ _ _ => hd9
  rename _ ∧ AllLt _ _ => hl9
  rename (_ == sysModules) = false => hlo9
  refine news_open N9 fun pa epa => ?_
  rw [epa] at F9 N9 hl9 hlo9
  obtain ⟨hlt9, hall9⟩ := hl9
  refine iter_strX [] (fun i => RolesJ w pa sa vs n1 R i) rfl F9 N9 (fun _ h => h) ⟨_, _, rfl, hd9, ?_, ?_⟩ ?_ ?_
  · exact Nat.le_refl _
  · rintro (_ | _ | _ | _ | _ | _ | _ | _ | _ | _ | _ | _ | _ | _ | _) hx
    any_goals exact .inr ⟨by decide, _, rfl⟩
    any_goals exact .inl ⟨rfl, rfl⟩
    all_goals exact absurd hx (Nat.not_lt_zero _)
  · rintro i c u us news₁ h tk I it hc hJ9a F8 N8 off
    refine fold_goal fun G9 hG9 => ?_
    obtain ⟨o, kvs, rfl, hd8, hz8, hp8⟩ := hJ9a
    refine hG9 ?_
    clear hG9
    clear F9 N9 hd9
    have hi4 : i < 4 := by
      have := (Array.getElem?_eq_some_iff.mp hc).1
      have e : (Str.ofString "B0/,").cps.size = 4 := by decide +kernel
      omega
    have hz7 : kvs.length ≤ 1000 := by omega
    have hne8 : @Ne Nat pa I := off _ (List.Mem.head _)
    k_steps
    unfold Halt
    exact MyEnd.ofX (_ :: (sa, listOf vs.toArray n1) :: R) (by k_asm) (by k_asm) (by walk_at "m_sub") (by walk_at "m_sub") (off_put off) (by walk_at "m_map") ⟨_, _, rfl, by k_asm, stored_len hz8, plainAt_succ hp8 hc⟩
  · rintro us news₁ h tk hJ9a F8 N8
    refine fold_goal fun G9 hG9 => ?_
    obtain ⟨o, kvs, rfl, hd8, hz8, hp8⟩ := hJ9a
    refine hG9 ?_
    clear hG9
    clear F9 N9 hd9
    have e : (Str.ofString "B0/,").cps.size = 4 := by decide +kernel
    rw [e] at hp8
    k_steps
    unfold Halt
    rename Fr _ _ _ _ => F7
    rename News _ _ _ _ => N7
    rename _ ∧ _ ∧ _ ∧ AllLt _ _ => hl7
    replace N7 := news_tl N7
    refine news_open N7 fun fa efa => ?_
    rw [efa] at F7 N7 hl7
    refine fold_goal fun G9 hG9 => ?_
    obtain ⟨hsf, hpf, _, hall7⟩ := hl7
    refine hG9 ?_
    clear hG9
    refine iter_listX [] (fun i nw => ∃ fvs, nw = ((fa, listOf fvs.toArray i) :: (pa, o) :: R) ∧ StrsAre fvs ((rolesGo (floatS (xs.map Sym.str)) (xs.take i)).map Role.str)) rfl F7 N7 (by k_mem) (by walk_at "m_sub") ⟨_, rfl, strs_nil⟩ ?_ ?_
    · rintro i v us news₁ h tk I it hv hJ9a F6 N6 hne6 off
      refine fold_goal fun G9 hG9 => ?_
      obtain ⟨fvs, rfl, hfv⟩ := hJ9a
      refine hG9 ?_
      clear hG9
      clear F7 N7
      refine fold_goal fun G9 hG9 => ?_
      obtain ⟨y, t, rfl, hy⟩ := StrsAre.item hi _ _ hv
      refine hG9 ?_
      clear hG9
      rw [List.getElem?_map] at hy
      obtain ⟨x, hx, rfl⟩ := Option.map_eq_some_iff.mp hy
      have hneF : @Ne Nat fa I := off _ (List.Mem.head _)
      have hfl := StrsAre.length hfv
      rw [List.length_map, rolesGo_length, List.length_take] at hfl
      have hfz : fvs.length ≤ 1000 := by omega
      have hoff2 : ∀ p ∈ (pa, o) :: R, p.1 ≠ I := fun p hp => off p (List.mem_cons_of_mem _ hp)
      k_steps
      · rename (_ == _) = true => hb1
        rename List.any _ _ = true => hb2
        have hb2 := (any_role _ Role.lead).symm.trans hb2
        unfold Halt
        refine MyEnd.ofX ((fa, _) :: (pa, o) :: R) (by k_asm) (by k_asm) (by walk_at "m_sub") (by walk_at "m_sub") (off_put off) (by walk_at "m_map") ⟨_, rfl, role_next (r := .float) hfv hx ?_⟩
        rw [if_pos (eq_of_beq hb1), if_pos (by simpa using hb2)]
      · rename (_ == _) = true => hb1
        rename List.any _ _ = false => hb2
        have hb2 := (any_role _ Role.lead).symm.trans hb2
        unfold Halt
        refine MyEnd.ofX ((fa, _) :: (pa, o) :: R) (by k_asm) (by k_asm) (by walk_at "m_sub") (by walk_at "m_sub") (off_put off) (by walk_at "m_map") ⟨_, rfl, role_next (r := .lead) hfv hx ?_⟩
        rw [if_pos (eq_of_beq hb1), if_neg (by simpa using hb2)]
      · rename (_ == _) = false => hb1
        unfold Halt
        refine MyEnd.ofX ((fa, _) :: (pa, o) :: R) (by k_asm) (by k_asm) (by walk_at "m_sub") (by walk_at "m_sub") (off_put off) (by walk_at "m_map") ⟨_, rfl, role_next hfv hx ?_⟩
        rw [if_neg (by simpa using hb1)]
    · rintro us news₁ h tk hJ9a F6 N6
      refine fold_goal fun G9 hG9 => ?_
      obtain ⟨fvs, rfl, hfv⟩ := hJ9a
      refine hG9 ?_
      clear hG9
      clear F7 N7
      have hln := StrsAre.length hi
      rw [List.length_map] at hln
      rw [hln, List.take_length] at hfv
      k_steps
      rename News h₀ L _ _ => N5
      exact hret _ ((fa, listOf fvs.toArray vs.length) :: (sa, listOf vs.toArray n1) :: R) _ _ ⟨fa, fvs, vs.length, rfl, hfv, rfl, ⟨hsf, hall7⟩⟩ (by k_asm) (news_sub N5 (by walk_at "m_sub"))
end
theorem reset_T5 : True := by
  (w_top off)
  k_with_none
  first | walk1 | trivial
section
open PySem PySem.W PyProof.Rows PySem.Spec PySem.Calls
theorem rows_T5_1 : True := by
  k_with "MyPost" => (with_unfolding_all first | refine MyPost.next ?_ | refine MyPost.cont ?_ | refine MyPost.brk ?_ | refine MyPost.ret ?_)
  k_with "MyPostT" => (with_unfolding_all refine MyPostT.next ?_)
  k_with "exec For Name Name cons nil" => ((k_here; (rename Fr _ _ _ _ => lFq_rw); (with_unfolding_all refine' For_invVF lFq_rw (by exact rfl) (by exact rfl) ?_; k_whole)))
  k_with "pyIter str" => ((k_here; refine Halt.out ?_))
  k_with "pyIter ref" => ((k_here; refine Halt.out ?_))
  k_with "m_in" => (first | assumption | exact List.mem_append_left _ (by assumption) | exact List.mem_append_right _ (by assumption) | (refine List.mem_cons_of_mem _ ?_; walk_at "m_in"))
  k_with "m_sub" => (first | exact (fun _ h => h) | exact List.forall_mem_nil _ | (refine List.forall_mem_cons.mpr ⟨by k_mem, ?_⟩; walk_at "m_sub") | (intro p9_rw hp9_rw; walk_at "m_in"))
  k_with "m_map" => (first | exact off_sto (by walk_at "m_sub") | (refine off_step (by k_mem) ?_; walk_at "m_map"))
  k_with "getMethod ref" => ((k_here; (with_reducible show wpAny _ _ (getMethod (Value.ref _) (PySem.Str.ofString "count") _) _ _ _); k_dflt (refine' kf_method (by k_asm) (by k_mem) PySem.F.slot_list_count PySem.F.type_list_count ?_)))
  k_with "call builtin:list.append" => ((k_here; (with_reducible show wpAny _ _ (call (Value.builtin _) [Value.ref _, _]) _ _ _); k_dflt (refine' append_L (by k_asm) (by k_asm) (by k_upd) (by first | assumption | (simp only [List.length_append, List.length_cons, List.length_nil]; omega)) ?_; k_whole); intro hq_rw Fq_rw Nq_rw; (try k_sweep)))
  k_with "compareOp In str ref" => ((k_here; (with_reducible show wpAny _ _ (compareOp CmpOp.In (Value.str _ _) (Value.ref _)) _ _ _); k_dflt (refine' in_list_strs (by exact News.isList (by k_asm) (by k_mem)) (by k_asm) ?_; k_whole)))
  k_with "ite" => ((k_here; (with_reducible show (if ((_ : Int) == _) = true then _ else _)); first | (refine ite_pos (by (simp only [beq_iff_eq]); omega) ?_) | (refine ite_neg (by (simp only [beq_iff_eq]); omega) ?_)))
  k_with "WPost" => (with_unfolding_all refine WPost.next ?_)
  k_with "m_map" => (with_reducible exact fun _ _ => rfl)
  k_with "callWith" => ((k_here; (with_reducible show wpAny _ _ (callWith _ (Prod.fst _) (Prod.snd _) _ _) _ _ _); dsimp only; (with_reducible refine' callWith_method1 ?_ (by exact rfl) (by exact rfl))))
  k_with "t_at" => ((k_here; (with_reducible show wpAny _ _ (subscriptTail _ _ (Value.ref _) (Value.int _ _)) _ _ _); k_dflt (refine' tup_at (by k_asm) (by k_mem) (by omega) (by (simp only [List.length_cons, List.length_nil]; omega)) (by (simp only [List.length_cons, List.length_nil]; omega)) ?_); intro vq_rw hvq_rw))
  k_with "subscriptTail Tuple cons Call ref int" => (walk_at "t_at")
  k_with "subscriptTail Tuple cons BinOp ref int" => (walk_at "t_at")
  k_with "subscriptTail Tuple cons Name ref int" => (walk_at "t_at")
  k_with "execs cons" => ((k_here; (try dsimp only); (try (with_reducible refine gen_toks ?_; intro tkg_rw)); (with_reducible refine wpAny_execs_cons ?_); (try dsimp only); k_fold))
  k_with "exec For Tuple Attribute cons nil" => ((k_here; (rename Fr _ _ _ _ => lFq_rw); (with_unfolding_all refine' For_invTF lFq_rw ?_ (by (intro _; with_unfolding_all rfl)); k_whole)))
  k_with "binaryOp Mult ref int" => ((k_here; (with_reducible show wpAny _ _ (binaryOp Operator.Mult (Value.ref _) (Value.int _ _)) _ _ _); k_dflt (refine' mul_1 (by k_asm) (by k_asm) (by k_mem) (by omega) (by omega) ?_); intro aq_rw hq_rw Fq_rw Nq_rw l1_rw; (try k_lt l1_rw); (try k_sweep)))
  k_with "call builtin:list.extend" => ((k_here; (with_reducible show wpAny _ _ (call (Value.builtin _) [Value.ref _, Value.ref _]) _ _ _); k_dflt (refine' extend_LL (by k_asm) (by k_asm) (by k_mem) (by assumption) (by assumption) (by k_upd) ?_); intro hq_rw Fq_rw Nq_rw; (try k_sweep)))
  trivial
theorem places_tel (w : World) (pa pd ya : Addr) (k : Nat → Tok) (v0 v2 v3 v4 v5 v6 : Value) (ys : List Value) (ps : List (Sym × Int)) (n1 : Nat) (R : Led)
   (hi : PairsAre R ys ps) (hp : ∀ p ∈ ps, 1 ≤ p.2 ∧ p.2 ≤ 63) (hL : (spread ps).length ≤ 63) :
   Tel w 330 4 [.ref pa] ((pa, instObj 112 pd) :: (pd, picDict w k v0 (.ref ya) v2 v3 v4 v5 v6) :: (ya, listOf ys.toArray n1) :: R) fun r news' => ∃ fa fvs n, r = .ref fa ∧ StrsAre fvs ((spread ps).map Sym.str) ∧ news' = ((fa, listOf fvs.toArray n) :: (pa, instObj 112 pd) :: (pd, picDict w k v0 (.ref ya) v2 v3 v4 v5 v6) :: (ya, listOf ys.toArray n1) :: R) ∧ AllLt fa ((pa, instObj 112 pd) :: (pd, picDict w k v0 (.ref ya) v2 v3 v4 v5 v6) :: (ya, listOf ys.toArray n1) :: R) := by
  unfold Tel picDict
  intro p loose mean mg mb dp un gd cn cs a ccd cl outer A₀ base h₀ L m s Q E hR B F X N T hk hd hu hret
  revert hR; k_fill; intro hR
  refine wpAny_call ?_
  k_dflt ktr_enter
  k_steps
  unfold Halt
  rename Fr _ _ _ _ => F9
  rename News _ _ _ _ => N9
  rename _ ∧ _ ∧ _ ∧ AllLt _ _ => hl9
  refine news_open N9 fun fa efa => ?_
  rw [efa] at F9 N9 hl9
  refine fold_goal fun G9 hG9 => ?_
  obtain ⟨q1, q2, q3, q4⟩ := hl9
  refine hG9 ?_
  clear hG9
  have hyl := hi.length
  refine iter_listY [Str.ofString "sign", Str.ofString "count"] (fun i nw => ∃ fvs n, nw = ((fa, listOf fvs.toArray n) :: (pa, instObj 112 pd) :: (pd, picDict w k v0 (.ref ya) v2 v3 v4 v5 v6) :: R) ∧ StrsAre fvs ((spread (ps.take i)).map Sym.str)) rfl F9 N9 (by k_mem) (by walk_at "m_sub") ⟨_, _, rfl, strs_nil⟩ ?_ ?_
  · rintro i v us news₁ s₁ I it hv hJ9a F8 N8 hne off
    refine fold_goal fun G9 hG9 => ?_
    obtain ⟨fvs, n, rfl, hfv⟩ := hJ9a
    refine hG9 ?_
    clear hG9
    clear F9 N9
    refine fold_goal fun G9 hG9 => ?_
    obtain ⟨q, hq, t, kk, tx, tc, rfl, hm⟩ := hi.item hv
    refine hG9 ?_
    clear hG9
    have hcnt := hp q (List.mem_of_getElem? hq)
    have hlen1 := StrsAre.length hfv
    have hlen2 := spread_len_le ps (i + 1)
    rw [take_succ_get hq, spread_snoc, List.length_append, List.length_replicate] at hlen2
    rw [List.length_map] at hlen1
    have hfz : fvs.length + (List.replicate q.2.toNat (Value.str q.1.str tx)).length ≤ 1000 := by rw [List.length_replicate]; omega
    have hne2 : List.replicate q.2.toNat (Value.str q.1.str tx) ≠ [] := by
      intro e
      have := congrArg List.length e
      rw [List.length_replicate, List.length_nil] at this
      omega
    have hneF : @Ne Nat fa I := off _ (List.Mem.head _)
    simp only [stoL] at F8
    refine asg_pairF rfl F8 N8 (List.mem_cons_of_mem _ (List.mem_cons_of_mem _ (List.mem_cons_of_mem _ (List.mem_cons_of_mem _ (List.mem_cons_of_mem _ hm))))) rfl rfl rfl fun h' tk' F7 N7 => ?_
    clear F8 N8
    k_steps
    unfold Halt
    refine MyEnd.ofY ((fa, _) :: (pa, instObj 112 pd) :: (pd, picDict w k v0 (.ref ya) v2 v3 v4 v5 v6) :: R) (by k_asm) (by k_asm) (by walk_at "m_sub") (by walk_at "m_sub") (off_put off) (by walk_at "m_map") ⟨_, _, rfl, ?_⟩
    rw [take_succ_get hq, spread_snoc, List.map_append, List.map_replicate]
    exact StrsAre.append' hfv (strs_rep _)
  · rintro us news₁ h tk hJ9a F8 N8
    refine fold_goal fun G9 hG9 => ?_
    obtain ⟨fvs, n, rfl, hfv⟩ := hJ9a
    refine hG9 ?_
    clear hG9
    clear F9 N9
    rw [hyl, List.take_length] at hfv
    k_steps
    rename News h₀ L _ _ => N5
    exact hret _ ((fa, listOf fvs.toArray n) :: (pa, instObj 112 pd) :: (pd, picDict w k v0 (.ref ya) v2 v3 v4 v5 v6) :: (ya, listOf ys.toArray n1) :: R) _ _ ⟨fa, fvs, n, rfl, hfv, rfl, ⟨q1, q2, q3, q4⟩⟩ (by k_asm) (news_sub N5 (by walk_at "m_sub"))
end
theorem reset_Og : True := by
  (w_top off)
  k_with_none
  first | walk1 | trivial
section
open PySem PySem.W PyProof.Rows PySem.Spec PySem.Calls
theorem rows_Og_1 : True := by
  k_with "MyPost" => (with_unfolding_all first | refine MyPost.next ?_ | refine MyPost.cont ?_ | refine MyPost.brk ?_ | refine MyPost.ret ?_)
  k_with "MyPostT" => (with_unfolding_all refine MyPostT.next ?_)
  k_with "exec For Name Name cons nil" => ((k_here; (rename Fr _ _ _ _ => lFq_rw); (with_unfolding_all refine' For_invVF lFq_rw (by exact rfl) (by exact rfl) ?_; k_whole)))
  k_with "pyIter str" => ((k_here; refine Halt.out ?_))
  k_with "pyIter ref" => ((k_here; refine Halt.out ?_))
  k_with "m_in" => (first | assumption | exact List.mem_append_left _ (by assumption) | exact List.mem_append_right _ (by assumption) | (refine List.mem_cons_of_mem _ ?_; walk_at "m_in"))
  k_with "m_sub" => (first | exact (fun _ h => h) | exact List.forall_mem_nil _ | (refine List.forall_mem_cons.mpr ⟨by k_mem, ?_⟩; walk_at "m_sub") | (intro p9_rw hp9_rw; walk_at "m_in"))
  k_with "m_map" => (first | exact off_sto (by walk_at "m_sub") | (refine off_step (by k_mem) ?_; walk_at "m_map"))
  k_with "getMethod ref" => ((k_here; (with_reducible show wpAny _ _ (getMethod (Value.ref _) (PySem.Str.ofString "count") _) _ _ _); k_dflt (refine' kf_method (by k_asm) (by k_mem) PySem.F.slot_list_count PySem.F.type_list_count ?_)))
  k_with "call builtin:list.append" => ((k_here; (with_reducible show wpAny _ _ (call (Value.builtin _) [Value.ref _, _]) _ _ _); k_dflt (refine' append_L (by k_asm) (by k_asm) (by k_upd) (by first | assumption | (simp only [List.length_append, List.length_cons, List.length_nil]; omega)) ?_; k_whole); intro hq_rw Fq_rw Nq_rw; (try k_sweep)))
  k_with "compareOp In str ref" => ((k_here; (with_reducible show wpAny _ _ (compareOp CmpOp.In (Value.str _ _) (Value.ref _)) _ _ _); k_dflt (refine' in_list_strs (by exact News.isList (by k_asm) (by k_mem)) (by k_asm) ?_; k_whole)))
  k_with "ite" => ((k_here; (with_reducible show (if ((_ : Int) == _) = true then _ else _)); first | (refine ite_pos (by (simp only [beq_iff_eq]); omega) ?_) | (refine ite_neg (by (simp only [beq_iff_eq]); omega) ?_)))
  k_with "WPost" => (with_unfolding_all refine WPost.next ?_)
  k_with "m_map" => (with_reducible exact fun _ _ => rfl)
  k_with "callWith" => ((k_here; (with_reducible show wpAny _ _ (callWith _ (Prod.fst _) (Prod.snd _) _ _) _ _ _); dsimp only; (with_reducible refine' callWith_method1 ?_ (by exact rfl) (by exact rfl))))
  k_with "t_at" => ((k_here; (with_reducible show wpAny _ _ (subscriptTail _ _ (Value.ref _) (Value.int _ _)) _ _ _); k_dflt (refine' tup_at (by k_asm) (by k_mem) (by omega) (by (simp only [List.length_cons, List.length_nil]; omega)) (by (simp only [List.length_cons, List.length_nil]; omega)) ?_); intro vq_rw hvq_rw))
  k_with "subscriptTail Tuple cons Call ref int" => (walk_at "t_at")
  k_with "subscriptTail Tuple cons BinOp ref int" => (walk_at "t_at")
  k_with "subscriptTail Tuple cons Name ref int" => (walk_at "t_at")
  k_with "execs cons" => ((k_here; (try (k_gentoks; rename Nat => tkg_rw)); (with_reducible refine wpAny_execs_cons ?_); (try dsimp only); k_fold))
  trivial
section
variable {w : World} {A : Around} {E : Value → Shared → Prop} {s : Shared} {h₀ : Heap} {L : Addr} {m : Str → Option Value} {news : Led} {oa od : Addr} {ob : Obj} {R : Led} {o : Ord} {pos : Bool}
theorem og_seen {Q : Value → Shared → Prop} (F : Fr h₀ L s.heap m) (N : News h₀ L s.heap news) (X : (hd.heap_1 w.params).In h₀) (a : (oa, instObj 297 od) ∈ news) (b : (od, ob) ∈ news) (ho : OrdAt w o ob) (h : ∀ t k, Q (.int o.seen t) { s with toks := k }) : wpAny (model pw w) A (getAttr (.ref oa) (Str.ofString "seen") pos) Q E s := by
  obtain ⟨k, t, rfl⟩ := ho
  have N2 : News h₀ L s.heap [(oa, instObj 297 od), (od, ordDict w k t o)] := news_sub N (List.forall_mem_cons.mpr ⟨a, List.forall_mem_cons.mpr ⟨b, List.forall_mem_nil _⟩⟩)
  clear N a b
  unfold ordDict at N2
  have hR : Held PySem.Challenge.rw_pb0256_01 hd.heap_1 := trivial
  revert hR; k_fill; intro hR
  walk1
  exact h _ _
theorem og_is_plain {Q : Value → Shared → Prop} (F : Fr h₀ L s.heap m) (N : News h₀ L s.heap news) (X : (hd.heap_1 w.params).In h₀) (a : (oa, instObj 297 od) ∈ news) (b : (od, ob) ∈ news) (ho : OrdAt w o ob) (h : ∀ k, Q (.bool false) { s with toks := k }) : wpAny (model pw w) A (getAttr (.ref oa) (Str.ofString "is_plain") pos) Q E s := by
  obtain ⟨k, t, rfl⟩ := ho
  have N2 : News h₀ L s.heap [(oa, instObj 297 od), (od, ordDict w k t o)] := news_sub N (List.forall_mem_cons.mpr ⟨a, List.forall_mem_cons.mpr ⟨b, List.forall_mem_nil _⟩⟩)
  clear N a b
  unfold ordDict at N2
  have hR : Held PySem.Challenge.rw_pb0256_01 hd.heap_1 := trivial
  revert hR; k_fill; intro hR
  walk1
  exact h _
theorem og_point {Q : Value → Shared → Prop} (F : Fr h₀ L s.heap m) (N : News h₀ L s.heap news) (X : (hd.heap_1 w.params).In h₀) (a : (oa, instObj 297 od) ∈ news) (b : (od, ob) ∈ news) (ho : OrdAt w o ob) (h : ∀ t k, Q (.str o.point t) { s with toks := k }) : wpAny (model pw w) A (getAttr (.ref oa) (Str.ofString "point") pos) Q E s := by
  obtain ⟨k, t, rfl⟩ := ho
  have N2 : News h₀ L s.heap [(oa, instObj 297 od), (od, ordDict w k t o)] := news_sub N (List.forall_mem_cons.mpr ⟨a, List.forall_mem_cons.mpr ⟨b, List.forall_mem_nil _⟩⟩)
  clear N a b
  unfold ordDict at N2
  have hR : Held PySem.Challenge.rw_pb0256_01 hd.heap_1 := trivial
  revert hR; k_fill; intro hR
  walk1
  exact h _ _
theorem og_lead {Q : Value → Shared → Prop} (F : Fr h₀ L s.heap m) (N : News h₀ L s.heap news) (X : (hd.heap_1 w.params).In h₀) (a : (oa, instObj 297 od) ∈ news) (b : (od, ob) ∈ news) (ho : OrdAt w o ob) (h : ∀ t k, Q (.int 0 t) { s with toks := k }) : wpAny (model pw w) A (getAttr (.ref oa) (Str.ofString "lead") pos) Q E s := by
  obtain ⟨k, t, rfl⟩ := ho
  have N2 : News h₀ L s.heap [(oa, instObj 297 od), (od, ordDict w k t o)] := news_sub N (List.forall_mem_cons.mpr ⟨a, List.forall_mem_cons.mpr ⟨b, List.forall_mem_nil _⟩⟩)
  clear N a b
  unfold ordDict at N2
  have hR : Held PySem.Challenge.rw_pb0256_01 hd.heap_1 := trivial
  revert hR; k_fill; intro hR
  walk1
  exact h _ _
theorem og_trail {Q : Value → Shared → Prop} (F : Fr h₀ L s.heap m) (N : News h₀ L s.heap news) (X : (hd.heap_1 w.params).In h₀) (a : (oa, instObj 297 od) ∈ news) (b : (od, ob) ∈ news) (ho : OrdAt w o ob) (h : ∀ t k, Q (.int o.trail t) { s with toks := k }) : wpAny (model pw w) A (getAttr (.ref oa) (Str.ofString "trail") pos) Q E s := by
  obtain ⟨k, t, rfl⟩ := ho
  have N2 : News h₀ L s.heap [(oa, instObj 297 od), (od, ordDict w k t o)] := news_sub N (List.forall_mem_cons.mpr ⟨a, List.forall_mem_cons.mpr ⟨b, List.forall_mem_nil _⟩⟩)
  clear N a b
  unfold ordDict at N2
  have hR : Held PySem.Challenge.rw_pb0256_01 hd.heap_1 := trivial
  revert hR; k_fill; intro hR
  walk1
  exact h _ _
theorem og_nines {Q : Value → Shared → Prop} (F : Fr h₀ L s.heap m) (N : News h₀ L s.heap news) (X : (hd.heap_1 w.params).In h₀) (a : (oa, instObj 297 od) ∈ news) (b : (od, ob) ∈ news) (ho : OrdAt w o ob) (h : ∀ t k, Q (.int o.nines t) { s with toks := k }) : wpAny (model pw w) A (getAttr (.ref oa) (Str.ofString "nines") pos) Q E s := by
  obtain ⟨k, t, rfl⟩ := ho
  have N2 : News h₀ L s.heap [(oa, instObj 297 od), (od, ordDict w k t o)] := news_sub N (List.forall_mem_cons.mpr ⟨a, List.forall_mem_cons.mpr ⟨b, List.forall_mem_nil _⟩⟩)
  clear N a b
  unfold ordDict at N2
  have hR : Held PySem.Challenge.rw_pb0256_01 hd.heap_1 := trivial
  revert hR; k_fill; intro hR
  walk1
  exact h _ _
theorem og_zero {Q : Value → Shared → Prop} (F : Fr h₀ L s.heap m) (N : News h₀ L s.heap news) (X : (hd.heap_1 w.params).In h₀) (a : (oa, instObj 297 od) ∈ news) (b : (od, ob) ∈ news) (ho : OrdAt w o ob) (h : ∀ t k, Q (.str o.zero t) { s with toks := k }) : wpAny (model pw w) A (getAttr (.ref oa) (Str.ofString "zero") pos) Q E s := by
  obtain ⟨k, t, rfl⟩ := ho
  have N2 : News h₀ L s.heap [(oa, instObj 297 od), (od, ordDict w k t o)] := news_sub N (List.forall_mem_cons.mpr ⟨a, List.forall_mem_cons.mpr ⟨b, List.forall_mem_nil _⟩⟩)
  clear N a b
  unfold ordDict at N2
  have hR : Held PySem.Challenge.rw_pb0256_01 hd.heap_1 := trivial
  revert hR; k_fill; intro hR
  walk1
  exact h _ _
theorem og_zeros {Q : Value → Shared → Prop} (F : Fr h₀ L s.heap m) (N : News h₀ L s.heap news) (X : (hd.heap_1 w.params).In h₀) (a : (oa, instObj 297 od) ∈ news) (b : (od, ob) ∈ news) (ho : OrdAt w o ob) (h : ∀ t k, Q (.int o.zeros t) { s with toks := k }) : wpAny (model pw w) A (getAttr (.ref oa) (Str.ofString "zeros") pos) Q E s := by
  obtain ⟨k, t, rfl⟩ := ho
  have N2 : News h₀ L s.heap [(oa, instObj 297 od), (od, ordDict w k t o)] := news_sub N (List.forall_mem_cons.mpr ⟨a, List.forall_mem_cons.mpr ⟨b, List.forall_mem_nil _⟩⟩)
  clear N a b
  unfold ordDict at N2
  have hR : Held PySem.Challenge.rw_pb0256_01 hd.heap_1 := trivial
  revert hR; k_fill; intro hR
  walk1
  exact h _ _
theorem og_floats {Q : Value → Shared → Prop} (F : Fr h₀ L s.heap m) (N : News h₀ L s.heap news) (X : (hd.heap_1 w.params).In h₀) (a : (oa, instObj 297 od) ∈ news) (b : (od, ob) ∈ news) (ho : OrdAt w o ob) (h : ∀ t k, Q (.int o.floats t) { s with toks := k }) : wpAny (model pw w) A (getAttr (.ref oa) (Str.ofString "floats") pos) Q E s := by
  obtain ⟨k, t, rfl⟩ := ho
  have N2 : News h₀ L s.heap [(oa, instObj 297 od), (od, ordDict w k t o)] := news_sub N (List.forall_mem_cons.mpr ⟨a, List.forall_mem_cons.mpr ⟨b, List.forall_mem_nil _⟩⟩)
  clear N a b
  unfold ordDict at N2
  have hR : Held PySem.Challenge.rw_pb0256_01 hd.heap_1 := trivial
  revert hR; k_fill; intro hR
  walk1
  exact h _ _
theorem og_behind {Q : Value → Shared → Prop} (F : Fr h₀ L s.heap m) (N : News h₀ L s.heap news) (X : (hd.heap_1 w.params).In h₀) (a : (oa, instObj 297 od) ∈ news) (b : (od, ob) ∈ news) (ho : OrdAt w o ob) (h : ∀ t k, Q (.int o.behind t) { s with toks := k }) : wpAny (model pw w) A (getAttr (.ref oa) (Str.ofString "behind") pos) Q E s := by
  obtain ⟨k, t, rfl⟩ := ho
  have N2 : News h₀ L s.heap [(oa, instObj 297 od), (od, ordDict w k t o)] := news_sub N (List.forall_mem_cons.mpr ⟨a, List.forall_mem_cons.mpr ⟨b, List.forall_mem_nil _⟩⟩)
  clear N a b
  unfold ordDict at N2
  have hR : Held PySem.Challenge.rw_pb0256_01 hd.heap_1 := trivial
  revert hR; k_fill; intro hR
  walk1
  exact h _ _
theorem og_is_late {Q : Value → Shared → Prop} (F : Fr h₀ L s.heap m) (N : News h₀ L s.heap news) (X : (hd.heap_1 w.params).In h₀) (a : (oa, instObj 297 od) ∈ news) (b : (od, ob) ∈ news) (ho : OrdAt w o ob) (h : ∀ k, Q (.bool o.late) { s with toks := k }) : wpAny (model pw w) A (getAttr (.ref oa) (Str.ofString "is_late") pos) Q E s := by
  obtain ⟨k, t, rfl⟩ := ho
  have N2 : News h₀ L s.heap [(oa, instObj 297 od), (od, ordDict w k t o)] := news_sub N (List.forall_mem_cons.mpr ⟨a, List.forall_mem_cons.mpr ⟨b, List.forall_mem_nil _⟩⟩)
  clear N a b
  unfold ordDict at N2
  have hR : Held PySem.Challenge.rw_pb0256_01 hd.heap_1 := trivial
  revert hR; k_fill; intro hR
  walk1
  exact h _
theorem og_sign {Q : Value → Shared → Prop} (F : Fr h₀ L s.heap m) (N : News h₀ L s.heap news) (X : (hd.heap_1 w.params).In h₀) (a : (oa, instObj 297 od) ∈ news) (b : (od, ob) ∈ news) (ho : OrdAt w o ob) (h : ∀ t k, Q (.str o.sign t) { s with toks := k }) : wpAny (model pw w) A (getAttr (.ref oa) (Str.ofString "sign") pos) Q E s := by
  obtain ⟨k, t, rfl⟩ := ho
  have N2 : News h₀ L s.heap [(oa, instObj 297 od), (od, ordDict w k t o)] := news_sub N (List.forall_mem_cons.mpr ⟨a, List.forall_mem_cons.mpr ⟨b, List.forall_mem_nil _⟩⟩)
  clear N a b
  unfold ordDict at N2
  have hR : Held PySem.Challenge.rw_pb0256_01 hd.heap_1 := trivial
  revert hR; k_fill; intro hR
  walk1
  exact h _ _
theorem og_money {Q : Value → Shared → Prop} (F : Fr h₀ L s.heap m) (N : News h₀ L s.heap news) (X : (hd.heap_1 w.params).In h₀) (a : (oa, instObj 297 od) ∈ news) (b : (od, ob) ∈ news) (ho : OrdAt w o ob) (h : ∀ t k, Q (.str o.money t) { s with toks := k }) : wpAny (model pw w) A (getAttr (.ref oa) (Str.ofString "money") pos) Q E s := by
  obtain ⟨k, t, rfl⟩ := ho
  have N2 : News h₀ L s.heap [(oa, instObj 297 od), (od, ordDict w k t o)] := news_sub N (List.forall_mem_cons.mpr ⟨a, List.forall_mem_cons.mpr ⟨b, List.forall_mem_nil _⟩⟩)
  clear N a b
  unfold ordDict at N2
  have hR : Held PySem.Challenge.rw_pb0256_01 hd.heap_1 := trivial
  revert hR; k_fill; intro hR
  walk1
  exact h _ _
theorem og_last {Q : Value → Shared → Prop} (F : Fr h₀ L s.heap m) (N : News h₀ L s.heap news) (X : (hd.heap_1 w.params).In h₀) (a : (oa, instObj 297 od) ∈ news) (b : (od, ob) ∈ news) (ho : OrdAt w o ob) (h : ∀ t k, Q (.str o.last t) { s with toks := k }) : wpAny (model pw w) A (getAttr (.ref oa) (Str.ofString "last") pos) Q E s := by
  obtain ⟨k, t, rfl⟩ := ho
  have N2 : News h₀ L s.heap [(oa, instObj 297 od), (od, ordDict w k t o)] := news_sub N (List.forall_mem_cons.mpr ⟨a, List.forall_mem_cons.mpr ⟨b, List.forall_mem_nil _⟩⟩)
  clear N a b
  unfold ordDict at N2
  have hR : Held PySem.Challenge.rw_pb0256_01 hd.heap_1 := trivial
  revert hR; k_fill; intro hR
  walk1
  exact h _ _
theorem og_is_over {Q : Value → Shared → Prop} (F : Fr h₀ L s.heap m) (N : News h₀ L s.heap news) (X : (hd.heap_1 w.params).In h₀) (a : (oa, instObj 297 od) ∈ news) (b : (od, ob) ∈ news) (ho : OrdAt w o ob) (h : ∀ k, Q (.bool o.over) { s with toks := k }) : wpAny (model pw w) A (getAttr (.ref oa) (Str.ofString "is_over") pos) Q E s := by
  obtain ⟨k, t, rfl⟩ := ho
  have N2 : News h₀ L s.heap [(oa, instObj 297 od), (od, ordDict w k t o)] := news_sub N (List.forall_mem_cons.mpr ⟨a, List.forall_mem_cons.mpr ⟨b, List.forall_mem_nil _⟩⟩)
  clear N a b
  unfold ordDict at N2
  have hR : Held PySem.Challenge.rw_pb0256_01 hd.heap_1 := trivial
  revert hR; k_fill; intro hR
  walk1
  exact h _
theorem og_is_inserted {Q : Value → Shared → Prop} (F : Fr h₀ L s.heap m) (N : News h₀ L s.heap news) (X : (hd.heap_1 w.params).In h₀) (a : (oa, instObj 297 od) ∈ news) (b : (od, ob) ∈ news) (ho : OrdAt w o ob) (h : ∀ k, Q (.bool o.ins) { s with toks := k }) : wpAny (model pw w) A (getAttr (.ref oa) (Str.ofString "is_inserted") pos) Q E s := by
  obtain ⟨k, t, rfl⟩ := ho
  have N2 : News h₀ L s.heap [(oa, instObj 297 od), (od, ordDict w k t o)] := news_sub N (List.forall_mem_cons.mpr ⟨a, List.forall_mem_cons.mpr ⟨b, List.forall_mem_nil _⟩⟩)
  clear N a b
  unfold ordDict at N2
  have hR : Held PySem.Challenge.rw_pb0256_01 hd.heap_1 := trivial
  revert hR; k_fill; intro hR
  walk1
  exact h _
theorem os_seen (x : Int) (t : Tok) {Q : Unit → Shared → Prop} (F : Fr h₀ L s.heap m) (N : News h₀ L s.heap ((oa, instObj 297 od) :: (od, ob) :: R)) (X : (hd.heap_1 w.params).In h₀) (ne : @Ne Nat oa od) (nr : ∀ p ∈ R, p.1 ≠ od) (ho : OrdAt w o ob)
    (h : ∀ ob' h' k, OrdAt w { o with seen := x } ob' → Fr h₀ L h' m → News h₀ L h' ((oa, instObj 297 od) :: (od, ob') :: R) → Q () { s with heap := h', toks := k }) : wpAny (model pw w) A (setAttr (.ref oa) (Str.ofString "seen") (.int x t)) Q E s := by
  obtain ⟨k, t, rfl⟩ := ho
  unfold ordDict at N
  have hR : Held PySem.Challenge.rw_pb0256_01 hd.heap_1 := trivial
  revert hR; k_fill; intro hR
  walk1
  rename News _ _ _ _ => N5
  exact h _ _ _ ord_intro (by k_asm) N5
theorem os_point (x : Str) (t : Tok) {Q : Unit → Shared → Prop} (F : Fr h₀ L s.heap m) (N : News h₀ L s.heap ((oa, instObj 297 od) :: (od, ob) :: R)) (X : (hd.heap_1 w.params).In h₀) (ne : @Ne Nat oa od) (nr : ∀ p ∈ R, p.1 ≠ od) (ho : OrdAt w o ob)
    (h : ∀ ob' h' k, OrdAt w { o with point := x } ob' → Fr h₀ L h' m → News h₀ L h' ((oa, instObj 297 od) :: (od, ob') :: R) → Q () { s with heap := h', toks := k }) : wpAny (model pw w) A (setAttr (.ref oa) (Str.ofString "point") (.str x t)) Q E s := by
  obtain ⟨k, t, rfl⟩ := ho
  unfold ordDict at N
  have hR : Held PySem.Challenge.rw_pb0256_01 hd.heap_1 := trivial
  revert hR; k_fill; intro hR
  walk1
  rename News _ _ _ _ => N5
  exact h _ _ _ ord_intro (by k_asm) N5
theorem os_trail (x : Int) (t : Tok) {Q : Unit → Shared → Prop} (F : Fr h₀ L s.heap m) (N : News h₀ L s.heap ((oa, instObj 297 od) :: (od, ob) :: R)) (X : (hd.heap_1 w.params).In h₀) (ne : @Ne Nat oa od) (nr : ∀ p ∈ R, p.1 ≠ od) (ho : OrdAt w o ob)
    (h : ∀ ob' h' k, OrdAt w { o with trail := x } ob' → Fr h₀ L h' m → News h₀ L h' ((oa, instObj 297 od) :: (od, ob') :: R) → Q () { s with heap := h', toks := k }) : wpAny (model pw w) A (setAttr (.ref oa) (Str.ofString "trail") (.int x t)) Q E s := by
  obtain ⟨k, t, rfl⟩ := ho
  unfold ordDict at N
  have hR : Held PySem.Challenge.rw_pb0256_01 hd.heap_1 := trivial
  revert hR; k_fill; intro hR
  walk1
  rename News _ _ _ _ => N5
  exact h _ _ _ ord_intro (by k_asm) N5
theorem os_nines (x : Int) (t : Tok) {Q : Unit → Shared → Prop} (F : Fr h₀ L s.heap m) (N : News h₀ L s.heap ((oa, instObj 297 od) :: (od, ob) :: R)) (X : (hd.heap_1 w.params).In h₀) (ne : @Ne Nat oa od) (nr : ∀ p ∈ R, p.1 ≠ od) (ho : OrdAt w o ob)
    (h : ∀ ob' h' k, OrdAt w { o with nines := x } ob' → Fr h₀ L h' m → News h₀ L h' ((oa, instObj 297 od) :: (od, ob') :: R) → Q () { s with heap := h', toks := k }) : wpAny (model pw w) A (setAttr (.ref oa) (Str.ofString "nines") (.int x t)) Q E s := by
  obtain ⟨k, t, rfl⟩ := ho
  unfold ordDict at N
  have hR : Held PySem.Challenge.rw_pb0256_01 hd.heap_1 := trivial
  revert hR; k_fill; intro hR
  walk1
  rename News _ _ _ _ => N5
  exact h _ _ _ ord_intro (by k_asm) N5
theorem os_zero (x : Str) (t : Tok) {Q : Unit → Shared → Prop} (F : Fr h₀ L s.heap m) (N : News h₀ L s.heap ((oa, instObj 297 od) :: (od, ob) :: R)) (X : (hd.heap_1 w.params).In h₀) (ne : @Ne Nat oa od) (nr : ∀ p ∈ R, p.1 ≠ od) (ho : OrdAt w o ob)
    (h : ∀ ob' h' k, OrdAt w { o with zero := x } ob' → Fr h₀ L h' m → News h₀ L h' ((oa, instObj 297 od) :: (od, ob') :: R) → Q () { s with heap := h', toks := k }) : wpAny (model pw w) A (setAttr (.ref oa) (Str.ofString "zero") (.str x t)) Q E s := by
  obtain ⟨k, t, rfl⟩ := ho
  unfold ordDict at N
  have hR : Held PySem.Challenge.rw_pb0256_01 hd.heap_1 := trivial
  revert hR; k_fill; intro hR
  walk1
  rename News _ _ _ _ => N5
  exact h _ _ _ ord_intro (by k_asm) N5
theorem os_zeros (x : Int) (t : Tok) {Q : Unit → Shared → Prop} (F : Fr h₀ L s.heap m) (N : News h₀ L s.heap ((oa, instObj 297 od) :: (od, ob) :: R)) (X : (hd.heap_1 w.params).In h₀) (ne : @Ne Nat oa od) (nr : ∀ p ∈ R, p.1 ≠ od) (ho : OrdAt w o ob)
    (h : ∀ ob' h' k, OrdAt w { o with zeros := x } ob' → Fr h₀ L h' m → News h₀ L h' ((oa, instObj 297 od) :: (od, ob') :: R) → Q () { s with heap := h', toks := k }) : wpAny (model pw w) A (setAttr (.ref oa) (Str.ofString "zeros") (.int x t)) Q E s := by
  obtain ⟨k, t, rfl⟩ := ho
  unfold ordDict at N
  have hR : Held PySem.Challenge.rw_pb0256_01 hd.heap_1 := trivial
  revert hR; k_fill; intro hR
  walk1
  rename News _ _ _ _ => N5
  exact h _ _ _ ord_intro (by k_asm) N5
theorem os_floats (x : Int) (t : Tok) {Q : Unit → Shared → Prop} (F : Fr h₀ L s.heap m) (N : News h₀ L s.heap ((oa, instObj 297 od) :: (od, ob) :: R)) (X : (hd.heap_1 w.params).In h₀) (ne : @Ne Nat oa od) (nr : ∀ p ∈ R, p.1 ≠ od) (ho : OrdAt w o ob)
    (h : ∀ ob' h' k, OrdAt w { o with floats := x } ob' → Fr h₀ L h' m → News h₀ L h' ((oa, instObj 297 od) :: (od, ob') :: R) → Q () { s with heap := h', toks := k }) : wpAny (model pw w) A (setAttr (.ref oa) (Str.ofString "floats") (.int x t)) Q E s := by
  obtain ⟨k, t, rfl⟩ := ho
  unfold ordDict at N
  have hR : Held PySem.Challenge.rw_pb0256_01 hd.heap_1 := trivial
  revert hR; k_fill; intro hR
  walk1
  rename News _ _ _ _ => N5
  exact h _ _ _ ord_intro (by k_asm) N5
theorem os_behind (x : Int) (t : Tok) {Q : Unit → Shared → Prop} (F : Fr h₀ L s.heap m) (N : News h₀ L s.heap ((oa, instObj 297 od) :: (od, ob) :: R)) (X : (hd.heap_1 w.params).In h₀) (ne : @Ne Nat oa od) (nr : ∀ p ∈ R, p.1 ≠ od) (ho : OrdAt w o ob)
    (h : ∀ ob' h' k, OrdAt w { o with behind := x } ob' → Fr h₀ L h' m → News h₀ L h' ((oa, instObj 297 od) :: (od, ob') :: R) → Q () { s with heap := h', toks := k }) : wpAny (model pw w) A (setAttr (.ref oa) (Str.ofString "behind") (.int x t)) Q E s := by
  obtain ⟨k, t, rfl⟩ := ho
  unfold ordDict at N
  have hR : Held PySem.Challenge.rw_pb0256_01 hd.heap_1 := trivial
  revert hR; k_fill; intro hR
  walk1
  rename News _ _ _ _ => N5
  exact h _ _ _ ord_intro (by k_asm) N5
theorem os_is_late (x : Bool) {Q : Unit → Shared → Prop} (F : Fr h₀ L s.heap m) (N : News h₀ L s.heap ((oa, instObj 297 od) :: (od, ob) :: R)) (X : (hd.heap_1 w.params).In h₀) (ne : @Ne Nat oa od) (nr : ∀ p ∈ R, p.1 ≠ od) (ho : OrdAt w o ob)
    (h : ∀ ob' h' k, OrdAt w { o with late := x } ob' → Fr h₀ L h' m → News h₀ L h' ((oa, instObj 297 od) :: (od, ob') :: R) → Q () { s with heap := h', toks := k }) : wpAny (model pw w) A (setAttr (.ref oa) (Str.ofString "is_late") (.bool x)) Q E s := by
  obtain ⟨k, t, rfl⟩ := ho
  unfold ordDict at N
  have hR : Held PySem.Challenge.rw_pb0256_01 hd.heap_1 := trivial
  revert hR; k_fill; intro hR
  walk1
  rename News _ _ _ _ => N5
  exact h _ _ _ ord_intro (by k_asm) N5
theorem os_sign (x : Str) (t : Tok) {Q : Unit → Shared → Prop} (F : Fr h₀ L s.heap m) (N : News h₀ L s.heap ((oa, instObj 297 od) :: (od, ob) :: R)) (X : (hd.heap_1 w.params).In h₀) (ne : @Ne Nat oa od) (nr : ∀ p ∈ R, p.1 ≠ od) (ho : OrdAt w o ob)
    (h : ∀ ob' h' k, OrdAt w { o with sign := x } ob' → Fr h₀ L h' m → News h₀ L h' ((oa, instObj 297 od) :: (od, ob') :: R) → Q () { s with heap := h', toks := k }) : wpAny (model pw w) A (setAttr (.ref oa) (Str.ofString "sign") (.str x t)) Q E s := by
  obtain ⟨k, t, rfl⟩ := ho
  unfold ordDict at N
  have hR : Held PySem.Challenge.rw_pb0256_01 hd.heap_1 := trivial
  revert hR; k_fill; intro hR
  walk1
  rename News _ _ _ _ => N5
  exact h _ _ _ ord_intro (by k_asm) N5
theorem os_money (x : Str) (t : Tok) {Q : Unit → Shared → Prop} (F : Fr h₀ L s.heap m) (N : News h₀ L s.heap ((oa, instObj 297 od) :: (od, ob) :: R)) (X : (hd.heap_1 w.params).In h₀) (ne : @Ne Nat oa od) (nr : ∀ p ∈ R, p.1 ≠ od) (ho : OrdAt w o ob)
    (h : ∀ ob' h' k, OrdAt w { o with money := x } ob' → Fr h₀ L h' m → News h₀ L h' ((oa, instObj 297 od) :: (od, ob') :: R) → Q () { s with heap := h', toks := k }) : wpAny (model pw w) A (setAttr (.ref oa) (Str.ofString "money") (.str x t)) Q E s := by
  obtain ⟨k, t, rfl⟩ := ho
  unfold ordDict at N
  have hR : Held PySem.Challenge.rw_pb0256_01 hd.heap_1 := trivial
  revert hR; k_fill; intro hR
  walk1
  rename News _ _ _ _ => N5
  exact h _ _ _ ord_intro (by k_asm) N5
theorem os_last (x : Str) (t : Tok) {Q : Unit → Shared → Prop} (F : Fr h₀ L s.heap m) (N : News h₀ L s.heap ((oa, instObj 297 od) :: (od, ob) :: R)) (X : (hd.heap_1 w.params).In h₀) (ne : @Ne Nat oa od) (nr : ∀ p ∈ R, p.1 ≠ od) (ho : OrdAt w o ob)
    (h : ∀ ob' h' k, OrdAt w { o with last := x } ob' → Fr h₀ L h' m → News h₀ L h' ((oa, instObj 297 od) :: (od, ob') :: R) → Q () { s with heap := h', toks := k }) : wpAny (model pw w) A (setAttr (.ref oa) (Str.ofString "last") (.str x t)) Q E s := by
  obtain ⟨k, t, rfl⟩ := ho
  unfold ordDict at N
  have hR : Held PySem.Challenge.rw_pb0256_01 hd.heap_1 := trivial
  revert hR; k_fill; intro hR
  walk1
  rename News _ _ _ _ => N5
  exact h _ _ _ ord_intro (by k_asm) N5
theorem os_is_over (x : Bool) {Q : Unit → Shared → Prop} (F : Fr h₀ L s.heap m) (N : News h₀ L s.heap ((oa, instObj 297 od) :: (od, ob) :: R)) (X : (hd.heap_1 w.params).In h₀) (ne : @Ne Nat oa od) (nr : ∀ p ∈ R, p.1 ≠ od) (ho : OrdAt w o ob)
    (h : ∀ ob' h' k, OrdAt w { o with over := x } ob' → Fr h₀ L h' m → News h₀ L h' ((oa, instObj 297 od) :: (od, ob') :: R) → Q () { s with heap := h', toks := k }) : wpAny (model pw w) A (setAttr (.ref oa) (Str.ofString "is_over") (.bool x)) Q E s := by
  obtain ⟨k, t, rfl⟩ := ho
  unfold ordDict at N
  have hR : Held PySem.Challenge.rw_pb0256_01 hd.heap_1 := trivial
  revert hR; k_fill; intro hR
  walk1
  rename News _ _ _ _ => N5
  exact h _ _ _ ord_intro (by k_asm) N5
theorem os_is_inserted (x : Bool) {Q : Unit → Shared → Prop} (F : Fr h₀ L s.heap m) (N : News h₀ L s.heap ((oa, instObj 297 od) :: (od, ob) :: R)) (X : (hd.heap_1 w.params).In h₀) (ne : @Ne Nat oa od) (nr : ∀ p ∈ R, p.1 ≠ od) (ho : OrdAt w o ob)
    (h : ∀ ob' h' k, OrdAt w { o with ins := x } ob' → Fr h₀ L h' m → News h₀ L h' ((oa, instObj 297 od) :: (od, ob') :: R) → Q () { s with heap := h', toks := k }) : wpAny (model pw w) A (setAttr (.ref oa) (Str.ofString "is_inserted") (.bool x)) Q E s := by
  obtain ⟨k, t, rfl⟩ := ho
  unfold ordDict at N
  have hR : Held PySem.Challenge.rw_pb0256_01 hd.heap_1 := trivial
  revert hR; k_fill; intro hR
  walk1
  rename News _ _ _ _ => N5
  exact h _ _ _ ord_intro (by k_asm) N5
theorem om_digits {Q : Value × List Value → Shared → Prop} {pl : Sem Bool} (F : Fr h₀ L s.heap m) (N : News h₀ L s.heap news) (X : (hd.heap_1 w.params).In h₀) (a : (oa, instObj 297 od) ∈ news) (b : (od, ob) ∈ news) (ho : OrdAt w o ob) (h : Q (.ref 196, [.ref oa]) s) : wpAny (model pw w) A (getMethod (.ref oa) (Str.ofString "digits") pl) Q E s := by
  obtain ⟨k, t, rfl⟩ := ho
  have N2 : News h₀ L s.heap [(oa, instObj 297 od), (od, ordDict w k t o)] := news_sub N (List.forall_mem_cons.mpr ⟨a, List.forall_mem_cons.mpr ⟨b, List.forall_mem_nil _⟩⟩)
  clear N a b
  unfold ordDict at N2
  have hR : Held PySem.Challenge.rw_pb0256_01 hd.heap_1 := trivial
  revert hR; k_fill; intro hR
  walk1
  exact h
theorem om_add_behind {Q : Value × List Value → Shared → Prop} {pl : Sem Bool} (F : Fr h₀ L s.heap m) (N : News h₀ L s.heap news) (X : (hd.heap_1 w.params).In h₀) (a : (oa, instObj 297 od) ∈ news) (b : (od, ob) ∈ news) (ho : OrdAt w o ob) (h : Q (.ref 203, [.ref oa]) s) : wpAny (model pw w) A (getMethod (.ref oa) (Str.ofString "add_behind") pl) Q E s := by
  obtain ⟨k, t, rfl⟩ := ho
  have N2 : News h₀ L s.heap [(oa, instObj 297 od), (od, ordDict w k t o)] := news_sub N (List.forall_mem_cons.mpr ⟨a, List.forall_mem_cons.mpr ⟨b, List.forall_mem_nil _⟩⟩)
  clear N a b
  unfold ordDict at N2
  have hR : Held PySem.Challenge.rw_pb0256_01 hd.heap_1 := trivial
  revert hR; k_fill; intro hR
  walk1
  exact h
theorem om_take_nine {Q : Value × List Value → Shared → Prop} {pl : Sem Bool} (F : Fr h₀ L s.heap m) (N : News h₀ L s.heap news) (X : (hd.heap_1 w.params).In h₀) (a : (oa, instObj 297 od) ∈ news) (b : (od, ob) ∈ news) (ho : OrdAt w o ob) (h : Q (.ref 210, [.ref oa]) s) : wpAny (model pw w) A (getMethod (.ref oa) (Str.ofString "take_nine") pl) Q E s := by
  obtain ⟨k, t, rfl⟩ := ho
  have N2 : News h₀ L s.heap [(oa, instObj 297 od), (od, ordDict w k t o)] := news_sub N (List.forall_mem_cons.mpr ⟨a, List.forall_mem_cons.mpr ⟨b, List.forall_mem_nil _⟩⟩)
  clear N a b
  unfold ordDict at N2
  have hR : Held PySem.Challenge.rw_pb0256_01 hd.heap_1 := trivial
  revert hR; k_fill; intro hR
  walk1
  exact h
theorem om_take_zero {Q : Value × List Value → Shared → Prop} {pl : Sem Bool} (F : Fr h₀ L s.heap m) (N : News h₀ L s.heap news) (X : (hd.heap_1 w.params).In h₀) (a : (oa, instObj 297 od) ∈ news) (b : (od, ob) ∈ news) (ho : OrdAt w o ob) (h : Q (.ref 217, [.ref oa]) s) : wpAny (model pw w) A (getMethod (.ref oa) (Str.ofString "take_zero") pl) Q E s := by
  obtain ⟨k, t, rfl⟩ := ho
  have N2 : News h₀ L s.heap [(oa, instObj 297 od), (od, ordDict w k t o)] := news_sub N (List.forall_mem_cons.mpr ⟨a, List.forall_mem_cons.mpr ⟨b, List.forall_mem_nil _⟩⟩)
  clear N a b
  unfold ordDict at N2
  have hR : Held PySem.Challenge.rw_pb0256_01 hd.heap_1 := trivial
  revert hR; k_fill; intro hR
  walk1
  exact h
theorem om_take_point {Q : Value × List Value → Shared → Prop} {pl : Sem Bool} (F : Fr h₀ L s.heap m) (N : News h₀ L s.heap news) (X : (hd.heap_1 w.params).In h₀) (a : (oa, instObj 297 od) ∈ news) (b : (od, ob) ∈ news) (ho : OrdAt w o ob) (h : Q (.ref 224, [.ref oa]) s) : wpAny (model pw w) A (getMethod (.ref oa) (Str.ofString "take_point") pl) Q E s := by
  obtain ⟨k, t, rfl⟩ := ho
  have N2 : News h₀ L s.heap [(oa, instObj 297 od), (od, ordDict w k t o)] := news_sub N (List.forall_mem_cons.mpr ⟨a, List.forall_mem_cons.mpr ⟨b, List.forall_mem_nil _⟩⟩)
  clear N a b
  unfold ordDict at N2
  have hR : Held PySem.Challenge.rw_pb0256_01 hd.heap_1 := trivial
  revert hR; k_fill; intro hR
  walk1
  exact h
theorem om_take_scaling {Q : Value × List Value → Shared → Prop} {pl : Sem Bool} (F : Fr h₀ L s.heap m) (N : News h₀ L s.heap news) (X : (hd.heap_1 w.params).In h₀) (a : (oa, instObj 297 od) ∈ news) (b : (od, ob) ∈ news) (ho : OrdAt w o ob) (h : Q (.ref 231, [.ref oa]) s) : wpAny (model pw w) A (getMethod (.ref oa) (Str.ofString "take_scaling") pl) Q E s := by
  obtain ⟨k, t, rfl⟩ := ho
  have N2 : News h₀ L s.heap [(oa, instObj 297 od), (od, ordDict w k t o)] := news_sub N (List.forall_mem_cons.mpr ⟨a, List.forall_mem_cons.mpr ⟨b, List.forall_mem_nil _⟩⟩)
  clear N a b
  unfold ordDict at N2
  have hR : Held PySem.Challenge.rw_pb0256_01 hd.heap_1 := trivial
  revert hR; k_fill; intro hR
  walk1
  exact h
theorem om_take_inserted {Q : Value × List Value → Shared → Prop} {pl : Sem Bool} (F : Fr h₀ L s.heap m) (N : News h₀ L s.heap news) (X : (hd.heap_1 w.params).In h₀) (a : (oa, instObj 297 od) ∈ news) (b : (od, ob) ∈ news) (ho : OrdAt w o ob) (h : Q (.ref 238, [.ref oa]) s) : wpAny (model pw w) A (getMethod (.ref oa) (Str.ofString "take_inserted") pl) Q E s := by
  obtain ⟨k, t, rfl⟩ := ho
  have N2 : News h₀ L s.heap [(oa, instObj 297 od), (od, ordDict w k t o)] := news_sub N (List.forall_mem_cons.mpr ⟨a, List.forall_mem_cons.mpr ⟨b, List.forall_mem_nil _⟩⟩)
  clear N a b
  unfold ordDict at N2
  have hR : Held PySem.Challenge.rw_pb0256_01 hd.heap_1 := trivial
  revert hR; k_fill; intro hR
  walk1
  exact h
theorem om_float_on {Q : Value × List Value → Shared → Prop} {pl : Sem Bool} (F : Fr h₀ L s.heap m) (N : News h₀ L s.heap news) (X : (hd.heap_1 w.params).In h₀) (a : (oa, instObj 297 od) ∈ news) (b : (od, ob) ∈ news) (ho : OrdAt w o ob) (h : Q (.ref 245, [.ref oa]) s) : wpAny (model pw w) A (getMethod (.ref oa) (Str.ofString "float_on") pl) Q E s := by
  obtain ⟨k, t, rfl⟩ := ho
  have N2 : News h₀ L s.heap [(oa, instObj 297 od), (od, ordDict w k t o)] := news_sub N (List.forall_mem_cons.mpr ⟨a, List.forall_mem_cons.mpr ⟨b, List.forall_mem_nil _⟩⟩)
  clear N a b
  unfold ordDict at N2
  have hR : Held PySem.Challenge.rw_pb0256_01 hd.heap_1 := trivial
  revert hR; k_fill; intro hR
  walk1
  exact h
theorem om_may_float {Q : Value × List Value → Shared → Prop} {pl : Sem Bool} (F : Fr h₀ L s.heap m) (N : News h₀ L s.heap news) (X : (hd.heap_1 w.params).In h₀) (a : (oa, instObj 297 od) ∈ news) (b : (od, ob) ∈ news) (ho : OrdAt w o ob) (h : Q (.ref 252, [.ref oa]) s) : wpAny (model pw w) A (getMethod (.ref oa) (Str.ofString "may_float") pl) Q E s := by
  obtain ⟨k, t, rfl⟩ := ho
  have N2 : News h₀ L s.heap [(oa, instObj 297 od), (od, ordDict w k t o)] := news_sub N (List.forall_mem_cons.mpr ⟨a, List.forall_mem_cons.mpr ⟨b, List.forall_mem_nil _⟩⟩)
  clear N a b
  unfold ordDict at N2
  have hR : Held PySem.Challenge.rw_pb0256_01 hd.heap_1 := trivial
  revert hR; k_fill; intro hR
  walk1
  exact h
theorem om_take_sign {Q : Value × List Value → Shared → Prop} {pl : Sem Bool} (F : Fr h₀ L s.heap m) (N : News h₀ L s.heap news) (X : (hd.heap_1 w.params).In h₀) (a : (oa, instObj 297 od) ∈ news) (b : (od, ob) ∈ news) (ho : OrdAt w o ob) (h : Q (.ref 259, [.ref oa]) s) : wpAny (model pw w) A (getMethod (.ref oa) (Str.ofString "take_sign") pl) Q E s := by
  obtain ⟨k, t, rfl⟩ := ho
  have N2 : News h₀ L s.heap [(oa, instObj 297 od), (od, ordDict w k t o)] := news_sub N (List.forall_mem_cons.mpr ⟨a, List.forall_mem_cons.mpr ⟨b, List.forall_mem_nil _⟩⟩)
  clear N a b
  unfold ordDict at N2
  have hR : Held PySem.Challenge.rw_pb0256_01 hd.heap_1 := trivial
  revert hR; k_fill; intro hR
  walk1
  exact h
theorem om_take_money {Q : Value × List Value → Shared → Prop} {pl : Sem Bool} (F : Fr h₀ L s.heap m) (N : News h₀ L s.heap news) (X : (hd.heap_1 w.params).In h₀) (a : (oa, instObj 297 od) ∈ news) (b : (od, ob) ∈ news) (ho : OrdAt w o ob) (h : Q (.ref 266, [.ref oa]) s) : wpAny (model pw w) A (getMethod (.ref oa) (Str.ofString "take_money") pl) Q E s := by
  obtain ⟨k, t, rfl⟩ := ho
  have N2 : News h₀ L s.heap [(oa, instObj 297 od), (od, ordDict w k t o)] := news_sub N (List.forall_mem_cons.mpr ⟨a, List.forall_mem_cons.mpr ⟨b, List.forall_mem_nil _⟩⟩)
  clear N a b
  unfold ordDict at N2
  have hR : Held PySem.Challenge.rw_pb0256_01 hd.heap_1 := trivial
  revert hR; k_fill; intro hR
  walk1
  exact h
theorem om_take_end {Q : Value × List Value → Shared → Prop} {pl : Sem Bool} (F : Fr h₀ L s.heap m) (N : News h₀ L s.heap news) (X : (hd.heap_1 w.params).In h₀) (a : (oa, instObj 297 od) ∈ news) (b : (od, ob) ∈ news) (ho : OrdAt w o ob) (h : Q (.ref 273, [.ref oa]) s) : wpAny (model pw w) A (getMethod (.ref oa) (Str.ofString "take_end") pl) Q E s := by
  obtain ⟨k, t, rfl⟩ := ho
  have N2 : News h₀ L s.heap [(oa, instObj 297 od), (od, ordDict w k t o)] := news_sub N (List.forall_mem_cons.mpr ⟨a, List.forall_mem_cons.mpr ⟨b, List.forall_mem_nil _⟩⟩)
  clear N a b
  unfold ordDict at N2
  have hR : Held PySem.Challenge.rw_pb0256_01 hd.heap_1 := trivial
  revert hR; k_fill; intro hR
  walk1
  exact h
theorem om_take {Q : Value × List Value → Shared → Prop} {pl : Sem Bool} (F : Fr h₀ L s.heap m) (N : News h₀ L s.heap news) (X : (hd.heap_1 w.params).In h₀) (a : (oa, instObj 297 od) ∈ news) (b : (od, ob) ∈ news) (ho : OrdAt w o ob) (h : Q (.ref 280, [.ref oa]) s) : wpAny (model pw w) A (getMethod (.ref oa) (Str.ofString "take") pl) Q E s := by
  obtain ⟨k, t, rfl⟩ := ho
  have N2 : News h₀ L s.heap [(oa, instObj 297 od), (od, ordDict w k t o)] := news_sub N (List.forall_mem_cons.mpr ⟨a, List.forall_mem_cons.mpr ⟨b, List.forall_mem_nil _⟩⟩)
  clear N a b
  unfold ordDict at N2
  have hR : Held PySem.Challenge.rw_pb0256_01 hd.heap_1 := trivial
  revert hR; k_fill; intro hR
  walk1
  exact h
theorem om_is_whole {Q : Value × List Value → Shared → Prop} {pl : Sem Bool} (F : Fr h₀ L s.heap m) (N : News h₀ L s.heap news) (X : (hd.heap_1 w.params).In h₀) (a : (oa, instObj 297 od) ∈ news) (b : (od, ob) ∈ news) (ho : OrdAt w o ob) (h : Q (.ref 287, [.ref oa]) s) : wpAny (model pw w) A (getMethod (.ref oa) (Str.ofString "is_whole") pl) Q E s := by
  obtain ⟨k, t, rfl⟩ := ho
  have N2 : News h₀ L s.heap [(oa, instObj 297 od), (od, ordDict w k t o)] := news_sub N (List.forall_mem_cons.mpr ⟨a, List.forall_mem_cons.mpr ⟨b, List.forall_mem_nil _⟩⟩)
  clear N a b
  unfold ordDict at N2
  have hR : Held PySem.Challenge.rw_pb0256_01 hd.heap_1 := trivial
  revert hR; k_fill; intro hR
  walk1
  exact h
theorem om_scale {Q : Value × List Value → Shared → Prop} {pl : Sem Bool} (F : Fr h₀ L s.heap m) (N : News h₀ L s.heap news) (X : (hd.heap_1 w.params).In h₀) (a : (oa, instObj 297 od) ∈ news) (b : (od, ob) ∈ news) (ho : OrdAt w o ob) (h : Q (.ref 294, [.ref oa]) s) : wpAny (model pw w) A (getMethod (.ref oa) (Str.ofString "scale") pl) Q E s := by
  obtain ⟨k, t, rfl⟩ := ho
  have N2 : News h₀ L s.heap [(oa, instObj 297 od), (od, ordDict w k t o)] := news_sub N (List.forall_mem_cons.mpr ⟨a, List.forall_mem_cons.mpr ⟨b, List.forall_mem_nil _⟩⟩)
  clear N a b
  unfold ordDict at N2
  have hR : Held PySem.Challenge.rw_pb0256_01 hd.heap_1 := trivial
  revert hR; k_fill; intro hR
  walk1
  exact h
theorem on_sign {Q : Value → Shared → Prop} {y : Str} (F : Fr h₀ L s.heap m) (N : News h₀ L s.heap news) (X : (hd.heap_1 w.params).In h₀) (a : (oa, instObj 140 od) ∈ news) (b : (od, ob) ∈ news) (ho : SignAt w y ob) (h : ∀ t k, Q (.str y t) { s with toks := k }) : wpAny (model pw w) A (getAttr (.ref oa) (Str.ofString "sign") pos) Q E s := by
  obtain ⟨j0, j1, j2, u0, u1, u2, at9, rfl⟩ := ho
  have N2 : News h₀ L s.heap [(oa, instObj 140 od), (od, signDict w j0 j1 j2 u0 u1 u2 y at9)] := news_sub N (List.forall_mem_cons.mpr ⟨a, List.forall_mem_cons.mpr ⟨b, List.forall_mem_nil _⟩⟩)
  clear N a b
  unfold signDict at N2
  have hR : Held PySem.Challenge.rw_pb0256_01 hd.heap_1 := trivial
  revert hR; k_fill; intro hR
  walk1
  exact h _ _
theorem on_count {Q : Value → Shared → Prop} {y : Str} (F : Fr h₀ L s.heap m) (N : News h₀ L s.heap news) (X : (hd.heap_1 w.params).In h₀) (a : (oa, instObj 140 od) ∈ news) (b : (od, ob) ∈ news) (ho : SignAt w y ob) (h : ∀ t k, Q (.int 1 t) { s with toks := k }) : wpAny (model pw w) A (getAttr (.ref oa) (Str.ofString "count") pos) Q E s := by
  obtain ⟨j0, j1, j2, u0, u1, u2, at9, rfl⟩ := ho
  have N2 : News h₀ L s.heap [(oa, instObj 140 od), (od, signDict w j0 j1 j2 u0 u1 u2 y at9)] := news_sub N (List.forall_mem_cons.mpr ⟨a, List.forall_mem_cons.mpr ⟨b, List.forall_mem_nil _⟩⟩)
  clear N a b
  unfold signDict at N2
  have hR : Held PySem.Challenge.rw_pb0256_01 hd.heap_1 := trivial
  revert hR; k_fill; intro hR
  walk1
  exact h _ _
end
end
theorem reset_Ua : True := by
  (w_top off)
  k_with_none
  first | walk1 | trivial
section
open PySem PySem.W PyProof.Rows PySem.Spec PySem.Calls
theorem rows_Ua_1 : True := by
  k_with "MyPost" => (with_unfolding_all first | refine MyPost.next ?_ | refine MyPost.cont ?_ | refine MyPost.brk ?_ | refine MyPost.ret ?_)
  k_with "MyPostT" => (with_unfolding_all refine MyPostT.next ?_)
  k_with "exec For Name Name cons nil" => ((k_here; (rename Fr _ _ _ _ => lFq_rw); (with_unfolding_all refine' For_invVF lFq_rw (by exact rfl) (by exact rfl) ?_; k_whole)))
  k_with "pyIter str" => ((k_here; refine Halt.out ?_))
  k_with "pyIter ref" => ((k_here; refine Halt.out ?_))
  k_with "m_in" => (first | assumption | exact List.mem_append_left _ (by assumption) | exact List.mem_append_right _ (by assumption) | (refine List.mem_cons_of_mem _ ?_; walk_at "m_in"))
  k_with "m_sub" => (first | exact (fun _ h => h) | exact List.forall_mem_nil _ | (refine List.forall_mem_cons.mpr ⟨by k_mem, ?_⟩; walk_at "m_sub") | (intro p9_rw hp9_rw; walk_at "m_in"))
  k_with "m_map" => (first | exact off_sto (by walk_at "m_sub") | (refine off_step (by k_mem) ?_; walk_at "m_map"))
  k_with "getMethod ref" => ((k_here; (with_reducible show wpAny _ _ (getMethod (Value.ref _) (PySem.Str.ofString "count") _) _ _ _); k_dflt (refine' kf_method (by k_asm) (by k_mem) PySem.F.slot_list_count PySem.F.type_list_count ?_)))
  k_with "call builtin:list.append" => ((k_here; (with_reducible show wpAny _ _ (call (Value.builtin _) [Value.ref _, _]) _ _ _); k_dflt (refine' append_L (by k_asm) (by k_asm) (by k_upd) (by first | assumption | (simp only [List.length_append, List.length_cons, List.length_nil]; omega)) ?_; k_whole); intro hq_rw Fq_rw Nq_rw; (try k_sweep)))
  k_with "compareOp In str ref" => ((k_here; (with_reducible show wpAny _ _ (compareOp CmpOp.In (Value.str _ _) (Value.ref _)) _ _ _); k_dflt (refine' in_list_strs (by exact News.isList (by k_asm) (by k_mem)) (by k_asm) ?_; k_whole)))
  k_with "ite" => ((k_here; (with_reducible show (if ((_ : Int) == _) = true then _ else _)); first | (refine ite_pos (by (simp only [beq_iff_eq]); omega) ?_) | (refine ite_neg (by (simp only [beq_iff_eq]); omega) ?_)))
  k_with "WPost" => (with_unfolding_all refine WPost.next ?_)
  k_with "m_map" => (with_reducible exact fun _ _ => rfl)
  k_with "callWith" => ((k_here; (with_reducible show wpAny _ _ (callWith _ (Prod.fst _) (Prod.snd _) _ _) _ _ _); dsimp only; (with_reducible refine' callWith_method1 ?_ (by exact rfl) (by exact rfl))))
  k_with "t_at" => ((k_here; (with_reducible show wpAny _ _ (subscriptTail _ _ (Value.ref _) (Value.int _ _)) _ _ _); k_dflt (refine' tup_at (by k_asm) (by k_mem) (by omega) (by (simp only [List.length_cons, List.length_nil]; omega)) (by (simp only [List.length_cons, List.length_nil]; omega)) ?_); intro vq_rw hvq_rw))
  k_with "subscriptTail Tuple cons Call ref int" => (walk_at "t_at")
  k_with "subscriptTail Tuple cons BinOp ref int" => (walk_at "t_at")
  k_with "subscriptTail Tuple cons Name ref int" => (walk_at "t_at")
  k_with "execs cons" => ((k_here; (try dsimp only); (try (with_reducible refine gen_toks ?_; intro tkg_rw)); (with_reducible refine wpAny_execs_cons ?_); (try dsimp only); k_fold))
  k_with "og_tail" => (k_dflt ((case F => k_asm); (case N => k_asm); (case X => k_asm); (case a => k_mem); (case b => k_mem); (case ho => assumption)))
  k_with "getAttr ref" => ((k_here; (first | ((with_reducible first | apply og_seen | apply og_is_plain | apply og_point | apply og_lead | apply og_trail | apply og_nines | apply og_zero | apply og_zeros | apply og_floats | apply og_behind | apply og_is_late | apply og_money | apply og_last | apply og_is_over | apply og_is_inserted); walk_at "og_tail") | ((with_reducible apply og_sign); walk_at "og_tail") | ((with_reducible first | apply on_sign | apply on_count); walk_at "og_tail")); intros; (try dsimp only)))
  k_with "setAttr ref" => ((k_here; (with_reducible first | apply os_seen | apply os_point | apply os_trail | apply os_nines | apply os_zero | apply os_zeros | apply os_floats | apply os_behind | apply os_is_late | apply os_sign | apply os_money | apply os_last | apply os_is_over | apply os_is_inserted); k_dflt ((case F => k_asm); (case N => first | k_asm | exact news_tl (by k_asm) | exact news_tl (news_tl (by k_asm))); (case X => k_asm); (case ne => assumption); (case nr => assumption); (case ho => assumption)); intro obq_rw hq_rw kq_rw hoq_rw Fq_rw Nq_rw; (try dsimp only at hoq_rw); (try k_sweep)))
  k_with "getMethod ref" => ((k_here; (with_reducible first | apply om_digits | apply om_add_behind | apply om_take_nine | apply om_take_zero | apply om_take_point | apply om_take_scaling | apply om_take_inserted | apply om_float_on | apply om_may_float | apply om_take_sign | apply om_take_money | apply om_take_end | apply om_take | apply om_is_whole | apply om_scale); walk_at "og_tail"))
  k_with "callWith ref" => ((k_here; (with_reducible show wpAny _ _ (callWith _ (Prod.fst _) _ (backTo _ (starEach [] _)) []) _ _ _); dsimp only; k_dflt (refine' callWith_K0 (by k_in) (by k_is) ?_); k_whole))
  trivial
theorem digits_tel (w : World) (oa od : Addr) (ob : Obj) (o : Ord) (R : Led) (hob : OrdAt w o ob) :
   Tel w 196 2 [.ref oa] ((oa, instObj 297 od) :: (od, ob) :: R) fun r news' => (∃ t, r = .int (o.nines + o.zeros + o.floats) t) ∧ news' = (oa, instObj 297 od) :: (od, ob) :: R := by
  unfold Tel
  intro p loose mean mg mb dp un gd cn cs a ccd cl outer A₀ base h₀ L m s Q E hR B F X N T hk hd hu hret
  revert hR; k_fill; intro hR
  refine wpAny_call ?_
  k_dflt ktr_enter
  k_steps
  exact hret _ _ _ _ ⟨⟨_, rfl⟩, rfl⟩ (by k_asm) (by k_asm)
theorem digits_use {w : World} {oa od : Addr} {ob : Obj} {o : Ord} {R : Led} {p : Program} {loose : List Str} {mean : ExcName → Option Value} {mg mb : Str → Option Value} {dp un : Nat} {gd : Option (List Code)} {cn : Str} {cs : Scope} {a : Addr} {ccd : Value} {cl : List (Str × Addr)} {outer : List Env} {A₀ : Around} {base h₀ : Heap} {L : Addr} {m : Str → Option Value} {s : Shared} {Q E : Value → Shared → Prop} (B : Below A₀ base outer h₀) (F : Fr h₀ L s.heap m) (X : (hd.heap_1 w.params).In h₀) (N : News h₀ L s.heap ((oa, instObj 297 od) :: (od, ob) :: R)) (T : Top p loose mean mg mb h₀) (hk : cs.kind = .function) (hd : dp + 2 < recursionLimit) (hu : un + 8 * 2 < cLine) (hob : OrdAt w o ob)
    (h : ∀ t h' k', Fr h₀ L h' m → News h₀ L h' ((oa, instObj 297 od) :: (od, ob) :: R) → Q (.int (o.nines + o.zeros + o.floats) t) { s with heap := h', toks := k' }) : wpAny (model pw w) (ktrTop dp un gd cn cs L a ccd cl outer) (call (.ref 196) [.ref oa]) Q E s :=
  tel_use (digits_tel w oa od ob o R hob) B F X N T hk hd hu fun r n h' k' ⟨⟨t, e⟩, en⟩ F N => by subst e en; exact h t h' k' F N
def Ord.addB (o : Ord) (c : Int) (b : Bool) : Ord := if (o.point != Str.ofString "") = true then { o with behind := o.behind + c, late := o.late || b } else o
theorem addb_tel (w : World) (oa od : Addr) (ob : Obj) (o : Ord) (R : Led) (ne : @Ne Nat oa od) (nr : ∀ p ∈ R, p.1 ≠ od) (c : Int) (t : Tok) (b : Bool) (hob : OrdAt w o ob) :
   Tel w 203 2 [.ref oa, .int c t, .bool b] ((oa, instObj 297 od) :: (od, ob) :: R) fun r news' => r = .none ∧ ∃ ob', OrdAt w (o.addB c b) ob' ∧ news' = (oa, instObj 297 od) :: (od, ob') :: R := by
  unfold Tel
  intro p loose mean mg mb dp un gd cn cs a ccd cl outer A₀ base h₀ L m s Q E hR B F X N T hk hd hu hret
  revert hR; k_fill; intro hR
  refine wpAny_call ?_
  k_dflt ktr_enter
  k_steps
  all_goals refine hret _ _ _ _ ⟨rfl, _, ?_, rfl⟩ (by k_asm) (by k_asm)
  all_goals unfold Ord.addB
  · rw [if_pos (by assumption)]
    rename OrdAt _ _ _ => ho9
    rename _ = true => hl
    have hl' : o.late = true := hl
    rw [hl'] at ho9 ⊢
    exact ho9
  · rw [if_pos (by assumption)]
    rename OrdAt _ _ _ => ho9
    rename _ = false => hl
    have hl' : o.late = false := hl
    rw [hl']
    exact ho9
  · rw [if_neg (by rw [‹(o.point != Str.ofString "") = false›]; decide)]
    exact hob
theorem addb_use {w : World} {oa od : Addr} {ob : Obj} {o : Ord} {R : Led} {p : Program} {loose : List Str} {mean : ExcName → Option Value} {mg mb : Str → Option Value} {dp un : Nat} {gd : Option (List Code)} {cn : Str} {cs : Scope} {a : Addr} {ccd : Value} {cl : List (Str × Addr)} {outer : List Env} {A₀ : Around} {base h₀ : Heap} {L : Addr} {m : Str → Option Value} {s : Shared} {Q E : Value → Shared → Prop} {c : Int} {t : Tok} {b : Bool} (B : Below A₀ base outer h₀) (F : Fr h₀ L s.heap m) (X : (hd.heap_1 w.params).In h₀) (N : News h₀ L s.heap ((oa, instObj 297 od) :: (od, ob) :: R)) (T : Top p loose mean mg mb h₀) (hk : cs.kind = .function) (hd : dp + 2 < recursionLimit) (hu : un + 8 * 2 < cLine) (ne : @Ne Nat oa od) (nr : ∀ p ∈ R, p.1 ≠ od) (hob : OrdAt w o ob)
    (h : ∀ ob' h' k', OrdAt w (o.addB c b) ob' → Fr h₀ L h' m → News h₀ L h' ((oa, instObj 297 od) :: (od, ob') :: R) → Q .none { s with heap := h', toks := k' }) : wpAny (model pw w) (ktrTop dp un gd cn cs L a ccd cl outer) (call (.ref 203) [.ref oa, .int c t, .bool b]) Q E s :=
  tel_use (addb_tel w oa od ob o R ne nr c t b hob) B F X N T hk hd hu fun r n h' k' ⟨e, ob9, ho, en⟩ F N => by subst e en; exact h ob9 h' k' ho F N
theorem mayf_tel (w : World) (oa od : Addr) (ob : Obj) (o : Ord) (R : Led) (hob : OrdAt w o ob) (hn0 : o.nines = 0) (hz0 : o.zeros = 0) (ht0 : o.trail = 0) :
   Tel w 252 2 [.ref oa] ((oa, instObj 297 od) :: (od, ob) :: R) fun r news' => r = .bool true ∧ news' = (oa, instObj 297 od) :: (od, ob) :: R := by
  unfold Tel
  intro p loose mean mg mb dp un gd cn cs a ccd cl outer A₀ base h₀ L m s Q E hR B F X N T hk hd hu hret
  revert hR; k_fill; intro hR
  refine wpAny_call ?_
  k_dflt ktr_enter
  k_steps
  exact hret _ _ _ _ ⟨congrArg Value.bool (by simp [ht0]), rfl⟩ (by k_asm) (by k_asm)
theorem mayf_use {w : World} {oa od : Addr} {ob : Obj} {o : Ord} {R : Led} {p : Program} {loose : List Str} {mean : ExcName → Option Value} {mg mb : Str → Option Value} {dp un : Nat} {gd : Option (List Code)} {cn : Str} {cs : Scope} {a : Addr} {ccd : Value} {cl : List (Str × Addr)} {outer : List Env} {A₀ : Around} {base h₀ : Heap} {L : Addr} {m : Str → Option Value} {s : Shared} {Q E : Value → Shared → Prop} (B : Below A₀ base outer h₀) (F : Fr h₀ L s.heap m) (X : (hd.heap_1 w.params).In h₀) (N : News h₀ L s.heap ((oa, instObj 297 od) :: (od, ob) :: R)) (T : Top p loose mean mg mb h₀) (hk : cs.kind = .function) (hd : dp + 2 < recursionLimit) (hu : un + 8 * 2 < cLine) (hob : OrdAt w o ob) (hn0 : o.nines = 0) (hz0 : o.zeros = 0) (ht0 : o.trail = 0)
    (h : ∀ h' k', Fr h₀ L h' m → News h₀ L h' ((oa, instObj 297 od) :: (od, ob) :: R) → Q (.bool true) { s with heap := h', toks := k' }) : wpAny (model pw w) (ktrTop dp un gd cn cs L a ccd cl outer) (call (.ref 252) [.ref oa]) Q E s :=
  tel_use (mayf_tel w oa od ob o R hob hn0 hz0 ht0) B F X N T hk hd hu fun r n h' k' ⟨e, en⟩ F N => by subst e en; exact h h' k' F N
theorem rows_Ua_2 : True := by
  k_with "call ref" => ((k_here; (first | ((with_reducible show wpAny _ _ (call (Value.ref 196) _) _ _ _); k_dflt (refine' digits_use (by k_asm) (by k_asm) (by k_asm) (by first | k_asm | exact news_tl (by k_asm) | exact news_tl (news_tl (by k_asm))) (by k_asm) (by first | exact rfl | assumption) (by ktr_room) (by ktr_units) (by assumption) ?_)) | ((with_reducible show wpAny _ _ (call (Value.ref 203) _) _ _ _); k_dflt (refine' addb_use (by k_asm) (by k_asm) (by k_asm) (by first | k_asm | exact news_tl (by k_asm) | exact news_tl (news_tl (by k_asm))) (by k_asm) (by first | exact rfl | assumption) (by ktr_room) (by ktr_units) ?_ ?_ (by assumption) ?_)) | ((with_reducible show wpAny _ _ (call (Value.ref 252) _) _ _ _); k_dflt (refine' mayf_use (by k_asm) (by k_asm) (by k_asm) (by first | k_asm | exact news_tl (by k_asm) | exact news_tl (news_tl (by k_asm))) (by k_asm) (by first | exact rfl | assumption) (by ktr_room) (by ktr_units) (by assumption) ?_ ?_ ?_ ?_)) | ((with_reducible show wpAny _ _ (call (Value.ref 245) _) _ _ _); k_dflt (refine' float_use (by k_asm) (by k_asm) (by k_asm) (by first | k_asm | exact news_tl (by k_asm) | exact news_tl (news_tl (by k_asm))) (by k_asm) (by first | exact rfl | assumption) (by ktr_room) (by ktr_units) ?_ ?_ (by assumption) ?_))); k_dflt (skip); (all_goals first | assumption | skip); (try intros); (try dsimp only)))
  trivial
theorem float_tel (w : World) (oa od na : Addr) (ob : Obj) (o : Ord) (R : Led) (ne : @Ne Nat oa od) (nr : ∀ p ∈ R, p.1 ≠ od) (c : Int) (t : Tok) (hob : OrdAt w o ob) :
   Tel w 245 3 [.ref oa, .ref na, .int c t] ((oa, instObj 297 od) :: (od, ob) :: R) fun r news' => r = .none ∧ ∃ ob', OrdAt w (({ o with floats := o.floats + c } : Ord).addB c true) ob' ∧ news' = (oa, instObj 297 od) :: (od, ob') :: R := by
  unfold Tel
  intro p loose mean mg mb dp un gd cn cs a ccd cl outer A₀ base h₀ L m s Q E hR B F X N T hk hd hu hret
  revert hR; k_fill; intro hR
  refine wpAny_call ?_
  k_dflt ktr_enter
  k_steps
  refine hret _ _ _ _ ⟨rfl, _, ?_, rfl⟩ (by k_asm) (by k_asm)
  assumption
theorem float_use {w : World} {oa od : Addr} {ob : Obj} {o : Ord} {R : Led} {p : Program} {loose : List Str} {mean : ExcName → Option Value} {mg mb : Str → Option Value} {dp un : Nat} {gd : Option (List Code)} {cn : Str} {cs : Scope} {a : Addr} {ccd : Value} {cl : List (Str × Addr)} {outer : List Env} {A₀ : Around} {base h₀ : Heap} {L : Addr} {m : Str → Option Value} {s : Shared} {Q E : Value → Shared → Prop} {na : Addr} {c : Int} {t : Tok} (B : Below A₀ base outer h₀) (F : Fr h₀ L s.heap m) (X : (hd.heap_1 w.params).In h₀) (N : News h₀ L s.heap ((oa, instObj 297 od) :: (od, ob) :: R)) (T : Top p loose mean mg mb h₀) (hk : cs.kind = .function) (hd : dp + 3 < recursionLimit) (hu : un + 8 * 3 < cLine) (ne : @Ne Nat oa od) (nr : ∀ p ∈ R, p.1 ≠ od) (hob : OrdAt w o ob)
    (h : ∀ ob' h' k', OrdAt w (({ o with floats := o.floats + c } : Ord).addB c true) ob' → Fr h₀ L h' m → News h₀ L h' ((oa, instObj 297 od) :: (od, ob') :: R) → Q .none { s with heap := h', toks := k' }) : wpAny (model pw w) (ktrTop dp un gd cn cs L a ccd cl outer) (call (.ref 245) [.ref oa, .ref na, .int c t]) Q E s :=
  tel_use (float_tel w oa od na ob o R ne nr c t hob) B F X N T hk hd hu fun r n h' k' ⟨e, ob9, ho, en⟩ F N => by subst e en; exact h ob9 h' k' ho F N
theorem Tel.mono {w : World} {f : Addr} {d d' : Nat} {vs : List Value} {news : Led} {Out : Value → Led → Prop} (C : Tel w f d vs news Out) (h : d ≤ d') : Tel w f d' vs news Out :=
  fun _ _ _ _ _ _ _ _ _ _ _ _ _ _ _ _ _ _ _ _ _ _ hR B F X N T hk hd hu hret => C _ _ _ _ _ _ _ _ _ _ _ _ _ _ _ _ _ _ _ _ _ _ hR B F X N T hk (by omega) (by omega) hret
end
theorem reset_U1 : True := by
  (w_top off)
  k_with_none
  first | walk1 | trivial
section
open PySem PySem.W PyProof.Rows PySem.Spec PySem.Calls
theorem rows_U1_1 : True := by
  k_with "MyPost" => (with_unfolding_all first | refine MyPost.next ?_ | refine MyPost.cont ?_ | refine MyPost.brk ?_ | refine MyPost.ret ?_)
  k_with "MyPostT" => (with_unfolding_all refine MyPostT.next ?_)
  k_with "exec For Name Name cons nil" => ((k_here; (rename Fr _ _ _ _ => lFq_rw); (with_unfolding_all refine' For_invVF lFq_rw (by exact rfl) (by exact rfl) ?_; k_whole)))
  k_with "pyIter str" => ((k_here; refine Halt.out ?_))
  k_with "pyIter ref" => ((k_here; refine Halt.out ?_))
  k_with "m_in" => (first | assumption | exact List.mem_append_left _ (by assumption) | exact List.mem_append_right _ (by assumption) | (refine List.mem_cons_of_mem _ ?_; walk_at "m_in"))
  k_with "m_sub" => (first | exact (fun _ h => h) | exact List.forall_mem_nil _ | (refine List.forall_mem_cons.mpr ⟨by k_mem, ?_⟩; walk_at "m_sub") | (intro p9_rw hp9_rw; walk_at "m_in"))
  k_with "m_map" => (first | exact off_sto (by walk_at "m_sub") | (refine off_step (by k_mem) ?_; walk_at "m_map"))
  k_with "getMethod ref" => ((k_here; (with_reducible show wpAny _ _ (getMethod (Value.ref _) (PySem.Str.ofString "count") _) _ _ _); k_dflt (refine' kf_method (by k_asm) (by k_mem) PySem.F.slot_list_count PySem.F.type_list_count ?_)))
  k_with "call builtin:list.append" => ((k_here; (with_reducible show wpAny _ _ (call (Value.builtin _) [Value.ref _, _]) _ _ _); k_dflt (refine' append_L (by k_asm) (by k_asm) (by k_upd) (by first | assumption | (simp only [List.length_append, List.length_cons, List.length_nil]; omega)) ?_; k_whole); intro hq_rw Fq_rw Nq_rw; (try k_sweep)))
  k_with "compareOp In str ref" => ((k_here; (with_reducible show wpAny _ _ (compareOp CmpOp.In (Value.str _ _) (Value.ref _)) _ _ _); k_dflt (refine' in_list_strs (by exact News.isList (by k_asm) (by k_mem)) (by k_asm) ?_; k_whole)))
  k_with "ite" => ((k_here; (with_reducible show (if ((_ : Int) == _) = true then _ else _)); first | (refine ite_pos (by (simp only [beq_iff_eq]); omega) ?_) | (refine ite_neg (by (simp only [beq_iff_eq]); omega) ?_)))
  k_with "WPost" => (with_unfolding_all refine WPost.next ?_)
  k_with "m_map" => (with_reducible exact fun _ _ => rfl)
  k_with "callWith" => ((k_here; (with_reducible show wpAny _ _ (callWith _ (Prod.fst _) (Prod.snd _) _ _) _ _ _); dsimp only; (with_reducible refine' callWith_method1 ?_ (by exact rfl) (by exact rfl))))
  k_with "t_at" => ((k_here; (with_reducible show wpAny _ _ (subscriptTail _ _ (Value.ref _) (Value.int _ _)) _ _ _); k_dflt (refine' tup_at (by k_asm) (by k_mem) (by omega) (by (simp only [List.length_cons, List.length_nil]; omega)) (by (simp only [List.length_cons, List.length_nil]; omega)) ?_); intro vq_rw hvq_rw))
  k_with "subscriptTail Tuple cons Call ref int" => (walk_at "t_at")
  k_with "subscriptTail Tuple cons BinOp ref int" => (walk_at "t_at")
  k_with "subscriptTail Tuple cons Name ref int" => (walk_at "t_at")
  k_with "execs cons" => ((k_here; (try dsimp only); (try (with_reducible refine gen_toks ?_; intro tkg_rw)); (with_reducible refine wpAny_execs_cons ?_); (try dsimp only); k_fold))
  k_with "og_tail" => (k_dflt ((case F => k_asm); (case N => k_asm); (case X => k_asm); (case a => k_mem); (case b => k_mem); (case ho => assumption)))
  k_with "getAttr ref" => ((k_here; (first | ((with_reducible first | apply og_seen | apply og_is_plain | apply og_point | apply og_lead | apply og_trail | apply og_nines | apply og_zero | apply og_zeros | apply og_floats | apply og_behind | apply og_is_late | apply og_money | apply og_last | apply og_is_over | apply og_is_inserted); walk_at "og_tail") | ((with_reducible apply og_sign); walk_at "og_tail") | ((with_reducible first | apply on_sign | apply on_count); walk_at "og_tail")); intros; (try dsimp only)))
  k_with "setAttr ref" => ((k_here; (with_reducible first | apply os_seen | apply os_point | apply os_trail | apply os_nines | apply os_zero | apply os_zeros | apply os_floats | apply os_behind | apply os_is_late | apply os_sign | apply os_money | apply os_last | apply os_is_over | apply os_is_inserted); k_dflt ((case F => k_asm); (case N => first | k_asm | exact news_tl (by k_asm) | exact news_tl (news_tl (by k_asm))); (case X => k_asm); (case ne => assumption); (case nr => assumption); (case ho => assumption)); intro obq_rw hq_rw kq_rw hoq_rw Fq_rw Nq_rw; (try dsimp only at hoq_rw); (try k_sweep)))
  k_with "getMethod ref" => ((k_here; (with_reducible first | apply om_digits | apply om_add_behind | apply om_take_nine | apply om_take_zero | apply om_take_point | apply om_take_scaling | apply om_take_inserted | apply om_float_on | apply om_may_float | apply om_take_sign | apply om_take_money | apply om_take_end | apply om_take | apply om_is_whole | apply om_scale); walk_at "og_tail"))
  k_with "callWith ref" => ((k_here; (with_reducible show wpAny _ _ (callWith _ (Prod.fst _) _ (backTo _ (starEach [] _)) []) _ _ _); dsimp only; k_dflt (refine' callWith_K0 (by k_in) (by k_is) ?_); k_whole))
  k_with "call ref" => ((k_here; (first | ((with_reducible show wpAny _ _ (call (Value.ref 196) _) _ _ _); k_dflt (refine' digits_use (by k_asm) (by k_asm) (by k_asm) (by first | k_asm | exact news_tl (by k_asm) | exact news_tl (news_tl (by k_asm))) (by k_asm) (by first | exact rfl | assumption) (by ktr_room) (by ktr_units) (by assumption) ?_)) | ((with_reducible show wpAny _ _ (call (Value.ref 203) _) _ _ _); k_dflt (refine' addb_use (by k_asm) (by k_asm) (by k_asm) (by first | k_asm | exact news_tl (by k_asm) | exact news_tl (news_tl (by k_asm))) (by k_asm) (by first | exact rfl | assumption) (by ktr_room) (by ktr_units) ?_ ?_ (by assumption) ?_)) | ((with_reducible show wpAny _ _ (call (Value.ref 252) _) _ _ _); k_dflt (refine' mayf_use (by k_asm) (by k_asm) (by k_asm) (by first | k_asm | exact news_tl (by k_asm) | exact news_tl (news_tl (by k_asm))) (by k_asm) (by first | exact rfl | assumption) (by ktr_room) (by ktr_units) (by assumption) ?_ ?_ ?_ ?_)) | ((with_reducible show wpAny _ _ (call (Value.ref 245) _) _ _ _); k_dflt (refine' float_use (by k_asm) (by k_asm) (by k_asm) (by first | k_asm | exact news_tl (by k_asm) | exact news_tl (news_tl (by k_asm))) (by k_asm) (by first | exact rfl | assumption) (by ktr_room) (by ktr_units) ?_ ?_ (by assumption) ?_))); k_dflt (skip); (all_goals first | assumption | skip); (try intros); (try dsimp only)))
  trivial
theorem addB_off {o : Ord} {c : Int} {b : Bool} (h : (o.point != Str.ofString "") = false) : o.addB c b = o := if_neg (by rw [h]; decide)
theorem addB_on {o : Ord} {c : Int} {b : Bool} (h : (o.point != Str.ofString "") = true) : o.addB c b = { o with behind := o.behind + c, late := o.late || b } := if_pos h
theorem nine0_tel (w : World) (oa od na nd : Addr) (nb : Obj) (R : Led) (o : Ord) (y : Str) (hn : SignAt w y nb) (hap : Apart4 oa od na nd R) (htr : o.trail ≤ 0) (hlt : o.late = false) (hpt : (o.point != Str.ofString "") = false) (ob : Obj) (ho : OrdAt w o ob) :
   Tel w 210 4 [.ref oa, .ref na] ((oa, instObj 297 od) :: (od, ob) :: (na, instObj 140 nd) :: (nd, nb) :: R) (OrdOut w oa od na nd nb R { o with nines := o.nines + 1 }) := by
  refine fold_goal fun G9 hG9 => ?_
  obtain ⟨ha, hb, hc, hd9⟩ := hap
  refine hG9 ?_
  clear hG9
  have hnr : ∀ p ∈ (na, instObj 140 nd) :: (nd, nb) :: R, p.1 ≠ od := List.forall_mem_cons.mpr ⟨hb, List.forall_mem_cons.mpr ⟨hc, hd9⟩⟩
  unfold Tel
  intro p loose mean mg mb dp un gd cn cs a ccd cl outer A₀ base h₀ L m s Q E hR B F X N T hk hd hu hret
  revert hR; k_fill; intro hR
  refine wpAny_call ?_
  k_dflt ktr_enter
  k_steps
  all_goals
    refine hret _ _ _ _ ⟨rfl, _, ?_, rfl⟩ (by k_asm) (by first | k_asm | exact news_tl (by k_asm) | exact news_tl (news_tl (by k_asm)))
    rename OrdAt w _ _ => ho9
    first | exact ho9 | (rw [addB_off (by exact hpt)] at ho9; exact ho9) | (rw [addB_on (by exact hpt)] at ho9; exact ho9) | (rw [addB_on (by exact hpt)] at ho9; simp only [hlt, Bool.or_false, Bool.or_true] at ho9; exact ho9) | (rw [addB_on (by exact hpt)] at ho9; simp only [Bool.or_false, Bool.or_true] at ho9; exact ho9)
theorem nine1_tel (w : World) (oa od na nd : Addr) (nb : Obj) (R : Led) (o : Ord) (y : Str) (hn : SignAt w y nb) (hap : Apart4 oa od na nd R) (htr : o.trail ≤ 0) (hlt : o.late = false) (hpt : (o.point != Str.ofString "") = true) (ob : Obj) (ho : OrdAt w o ob) :
   Tel w 210 4 [.ref oa, .ref na] ((oa, instObj 297 od) :: (od, ob) :: (na, instObj 140 nd) :: (nd, nb) :: R) (OrdOut w oa od na nd nb R { o with nines := o.nines + 1, behind := o.behind + 1, late := false }) := by
  refine fold_goal fun G9 hG9 => ?_
  obtain ⟨ha, hb, hc, hd9⟩ := hap
  refine hG9 ?_
  clear hG9
  have hnr : ∀ p ∈ (na, instObj 140 nd) :: (nd, nb) :: R, p.1 ≠ od := List.forall_mem_cons.mpr ⟨hb, List.forall_mem_cons.mpr ⟨hc, hd9⟩⟩
  unfold Tel
  intro p loose mean mg mb dp un gd cn cs a ccd cl outer A₀ base h₀ L m s Q E hR B F X N T hk hd hu hret
  revert hR; k_fill; intro hR
  refine wpAny_call ?_
  k_dflt ktr_enter
  k_steps
  all_goals
    refine hret _ _ _ _ ⟨rfl, _, ?_, rfl⟩ (by k_asm) (by first | k_asm | exact news_tl (by k_asm) | exact news_tl (news_tl (by k_asm)))
    rename OrdAt w _ _ => ho9
    first | exact ho9 | (rw [addB_off (by exact hpt)] at ho9; exact ho9) | (rw [addB_on (by exact hpt)] at ho9; exact ho9) | (rw [addB_on (by exact hpt)] at ho9; simp only [hlt, Bool.or_false, Bool.or_true] at ho9; exact ho9) | (rw [addB_on (by exact hpt)] at ho9; simp only [Bool.or_false, Bool.or_true] at ho9; exact ho9)
theorem zero0_tel (w : World) (oa od na nd : Addr) (nb : Obj) (R : Led) (o : Ord) (y : Str) (hn : SignAt w y nb) (hap : Apart4 oa od na nd R) (htr : o.trail ≤ 0) (hni : o.nines ≤ 0) (hfl : o.floats ≤ 0) (hze : ([Str.ofString "", y].any fun x => x == o.zero) = true) (hpt : (o.point != Str.ofString "") = false) (ob : Obj) (ho : OrdAt w o ob) :
   Tel w 217 4 [.ref oa, .ref na] ((oa, instObj 297 od) :: (od, ob) :: (na, instObj 140 nd) :: (nd, nb) :: R) (OrdOut w oa od na nd nb R { o with zero := y, zeros := o.zeros + 1 }) := by
  refine fold_goal fun G9 hG9 => ?_
  obtain ⟨ha, hb, hc, hd9⟩ := hap
  refine hG9 ?_
  clear hG9
  have hnr : ∀ p ∈ (na, instObj 140 nd) :: (nd, nb) :: R, p.1 ≠ od := List.forall_mem_cons.mpr ⟨hb, List.forall_mem_cons.mpr ⟨hc, hd9⟩⟩
  unfold Tel
  intro p loose mean mg mb dp un gd cn cs a ccd cl outer A₀ base h₀ L m s Q E hR B F X N T hk hd hu hret
  revert hR; k_fill; intro hR
  refine wpAny_call ?_
  k_dflt ktr_enter
  k_steps
  all_goals
    refine hret _ _ _ _ ⟨rfl, _, ?_, rfl⟩ (by k_asm) (by first | k_asm | exact news_tl (by k_asm) | exact news_tl (news_tl (by k_asm)))
    rename OrdAt w _ _ => ho9
    first | exact ho9 | (rw [addB_off (by exact hpt)] at ho9; exact ho9) | (rw [addB_on (by exact hpt)] at ho9; exact ho9) | (rw [addB_on (by exact hpt)] at ho9; simp only [hlt, Bool.or_false, Bool.or_true] at ho9; exact ho9) | (rw [addB_on (by exact hpt)] at ho9; simp only [Bool.or_false, Bool.or_true] at ho9; exact ho9)
theorem zero1_tel (w : World) (oa od na nd : Addr) (nb : Obj) (R : Led) (o : Ord) (y : Str) (hn : SignAt w y nb) (hap : Apart4 oa od na nd R) (htr : o.trail ≤ 0) (hni : o.nines ≤ 0) (hfl : o.floats ≤ 0) (hze : ([Str.ofString "", y].any fun x => x == o.zero) = true) (hpt : (o.point != Str.ofString "") = true) (ob : Obj) (ho : OrdAt w o ob) :
   Tel w 217 4 [.ref oa, .ref na] ((oa, instObj 297 od) :: (od, ob) :: (na, instObj 140 nd) :: (nd, nb) :: R) (OrdOut w oa od na nd nb R { o with zero := y, zeros := o.zeros + 1, behind := o.behind + 1, late := true }) := by
  refine fold_goal fun G9 hG9 => ?_
  obtain ⟨ha, hb, hc, hd9⟩ := hap
  refine hG9 ?_
  clear hG9
  have hnr : ∀ p ∈ (na, instObj 140 nd) :: (nd, nb) :: R, p.1 ≠ od := List.forall_mem_cons.mpr ⟨hb, List.forall_mem_cons.mpr ⟨hc, hd9⟩⟩
  unfold Tel
  intro p loose mean mg mb dp un gd cn cs a ccd cl outer A₀ base h₀ L m s Q E hR B F X N T hk hd hu hret
  revert hR; k_fill; intro hR
  refine wpAny_call ?_
  k_dflt ktr_enter
  k_steps
  all_goals
    refine hret _ _ _ _ ⟨rfl, _, ?_, rfl⟩ (by k_asm) (by first | k_asm | exact news_tl (by k_asm) | exact news_tl (news_tl (by k_asm)))
    rename OrdAt w _ _ => ho9
    first | exact ho9 | (rw [addB_off (by exact hpt)] at ho9; exact ho9) | (rw [addB_on (by exact hpt)] at ho9; exact ho9) | (rw [addB_on (by exact hpt)] at ho9; simp only [hlt, Bool.or_false, Bool.or_true] at ho9; exact ho9) | (rw [addB_on (by exact hpt)] at ho9; simp only [Bool.or_false, Bool.or_true] at ho9; exact ho9)
theorem point_tel (w : World) (oa od na nd : Addr) (nb : Obj) (R : Led) (o : Ord) (y : Str) (hn : SignAt w y nb) (hap : Apart4 oa od na nd R) (htr : o.trail ≤ 0) (hpt : (o.point != Str.ofString "") = false) (ob : Obj) (ho : OrdAt w o ob) :
   Tel w 224 4 [.ref oa, .ref na] ((oa, instObj 297 od) :: (od, ob) :: (na, instObj 140 nd) :: (nd, nb) :: R) (OrdOut w oa od na nd nb R { o with point := y }) := by
  refine fold_goal fun G9 hG9 => ?_
  obtain ⟨ha, hb, hc, hd9⟩ := hap
  refine hG9 ?_
  clear hG9
  have hnr : ∀ p ∈ (na, instObj 140 nd) :: (nd, nb) :: R, p.1 ≠ od := List.forall_mem_cons.mpr ⟨hb, List.forall_mem_cons.mpr ⟨hc, hd9⟩⟩
  unfold Tel
  intro p loose mean mg mb dp un gd cn cs a ccd cl outer A₀ base h₀ L m s Q E hR B F X N T hk hd hu hret
  revert hR; k_fill; intro hR
  refine wpAny_call ?_
  k_dflt ktr_enter
  k_steps
  all_goals
    refine hret _ _ _ _ ⟨rfl, _, ?_, rfl⟩ (by k_asm) (by first | k_asm | exact news_tl (by k_asm) | exact news_tl (news_tl (by k_asm)))
    rename OrdAt w _ _ => ho9
    first | exact ho9 | (rw [addB_off (by exact hpt)] at ho9; exact ho9) | (rw [addB_on (by exact hpt)] at ho9; exact ho9) | (rw [addB_on (by exact hpt)] at ho9; simp only [hlt, Bool.or_false, Bool.or_true] at ho9; exact ho9) | (rw [addB_on (by exact hpt)] at ho9; simp only [Bool.or_false, Bool.or_true] at ho9; exact ho9)
theorem scale_tel (w : World) (oa od na nd : Addr) (nb : Obj) (R : Led) (o : Ord) (y : Str) (hn : SignAt w y nb) (hap : Apart4 oa od na nd R) (hdg : 0 < o.nines + o.zeros + o.floats) (hpt : (o.point != Str.ofString "") = false) (ob : Obj) (ho : OrdAt w o ob) :
   Tel w 231 4 [.ref oa, .ref na] ((oa, instObj 297 od) :: (od, ob) :: (na, instObj 140 nd) :: (nd, nb) :: R) (OrdOut w oa od na nd nb R { o with trail := o.trail + 1 }) := by
  refine fold_goal fun G9 hG9 => ?_
  obtain ⟨ha, hb, hc, hd9⟩ := hap
  refine hG9 ?_
  clear hG9
  have hnr : ∀ p ∈ (na, instObj 140 nd) :: (nd, nb) :: R, p.1 ≠ od := List.forall_mem_cons.mpr ⟨hb, List.forall_mem_cons.mpr ⟨hc, hd9⟩⟩
  unfold Tel
  intro p loose mean mg mb dp un gd cn cs a ccd cl outer A₀ base h₀ L m s Q E hR B F X N T hk hd hu hret
  revert hR; k_fill; intro hR
  refine wpAny_call ?_
  k_dflt ktr_enter
  k_steps
  all_goals
    refine hret _ _ _ _ ⟨rfl, _, ?_, rfl⟩ (by k_asm) (by first | k_asm | exact news_tl (by k_asm) | exact news_tl (news_tl (by k_asm)))
    rename OrdAt w _ _ => ho9
    first | exact ho9 | (rw [addB_off (by exact hpt)] at ho9; exact ho9) | (rw [addB_on (by exact hpt)] at ho9; exact ho9) | (rw [addB_on (by exact hpt)] at ho9; simp only [hlt, Bool.or_false, Bool.or_true] at ho9; exact ho9) | (rw [addB_on (by exact hpt)] at ho9; simp only [Bool.or_false, Bool.or_true] at ho9; exact ho9)
theorem insert_tel (w : World) (oa od na nd : Addr) (nb : Obj) (R : Led) (o : Ord) (y : Str) (hn : SignAt w y nb) (hap : Apart4 oa od na nd R) (htr : o.trail ≤ 0) (ob : Obj) (ho : OrdAt w o ob) :
   Tel w 238 4 [.ref oa, .ref na] ((oa, instObj 297 od) :: (od, ob) :: (na, instObj 140 nd) :: (nd, nb) :: R) (OrdOut w oa od na nd nb R { o with ins := true }) := by
  refine fold_goal fun G9 hG9 => ?_
  obtain ⟨ha, hb, hc, hd9⟩ := hap
  refine hG9 ?_
  clear hG9
  have hnr : ∀ p ∈ (na, instObj 140 nd) :: (nd, nb) :: R, p.1 ≠ od := List.forall_mem_cons.mpr ⟨hb, List.forall_mem_cons.mpr ⟨hc, hd9⟩⟩
  unfold Tel
  intro p loose mean mg mb dp un gd cn cs a ccd cl outer A₀ base h₀ L m s Q E hR B F X N T hk hd hu hret
  revert hR; k_fill; intro hR
  refine wpAny_call ?_
  k_dflt ktr_enter
  k_steps
  all_goals
    refine hret _ _ _ _ ⟨rfl, _, ?_, rfl⟩ (by k_asm) (by first | k_asm | exact news_tl (by k_asm) | exact news_tl (news_tl (by k_asm)))
    rename OrdAt w _ _ => ho9
    first | exact ho9 | (rw [addB_off (by exact hpt)] at ho9; exact ho9) | (rw [addB_on (by exact hpt)] at ho9; exact ho9) | (rw [addB_on (by exact hpt)] at ho9; simp only [hlt, Bool.or_false, Bool.or_true] at ho9; exact ho9) | (rw [addB_on (by exact hpt)] at ho9; simp only [Bool.or_false, Bool.or_true] at ho9; exact ho9)
theorem sign0_tel (w : World) (oa od na nd : Addr) (nb : Obj) (R : Led) (o : Ord) (y : Str) (hn : SignAt w y nb) (hap : Apart4 oa od na nd R) (hse : o.seen = 0) (hpt : (o.point != Str.ofString "") = false) (ob : Obj) (ho : OrdAt w o ob) :
   Tel w 259 4 [.ref oa, .ref na] ((oa, instObj 297 od) :: (od, ob) :: (na, instObj 140 nd) :: (nd, nb) :: R) (OrdOut w oa od na nd nb R { o with sign := y, floats := o.floats + (1 - 1) }) := by
  refine fold_goal fun G9 hG9 => ?_
  obtain ⟨ha, hb, hc, hd9⟩ := hap
  refine hG9 ?_
  clear hG9
  have hnr : ∀ p ∈ (na, instObj 140 nd) :: (nd, nb) :: R, p.1 ≠ od := List.forall_mem_cons.mpr ⟨hb, List.forall_mem_cons.mpr ⟨hc, hd9⟩⟩
  unfold Tel
  intro p loose mean mg mb dp un gd cn cs a ccd cl outer A₀ base h₀ L m s Q E hR B F X N T hk hd hu hret
  revert hR; k_fill; intro hR
  refine wpAny_call ?_
  k_dflt ktr_enter
  k_steps
  all_goals
    refine hret _ _ _ _ ⟨rfl, _, ?_, rfl⟩ (by k_asm) (by first | k_asm | exact news_tl (by k_asm) | exact news_tl (news_tl (by k_asm)))
    rename OrdAt w _ _ => ho9
    first | exact ho9 | (rw [addB_off (by exact hpt)] at ho9; exact ho9) | (rw [addB_on (by exact hpt)] at ho9; exact ho9) | (rw [addB_on (by exact hpt)] at ho9; simp only [hlt, Bool.or_false, Bool.or_true] at ho9; exact ho9) | (rw [addB_on (by exact hpt)] at ho9; simp only [Bool.or_false, Bool.or_true] at ho9; exact ho9)
theorem sign1_tel (w : World) (oa od na nd : Addr) (nb : Obj) (R : Led) (o : Ord) (y : Str) (hn : SignAt w y nb) (hap : Apart4 oa od na nd R) (hse : 0 < o.seen) (hsg : (o.sign == y) = true) (hmo : (o.money == Str.ofString "") = true) (hn0 : o.nines = 0) (hz0 : o.zeros = 0) (ht0 : o.trail = 0) (hpt : (o.point != Str.ofString "") = false) (ob : Obj) (ho : OrdAt w o ob) :
   Tel w 259 4 [.ref oa, .ref na] ((oa, instObj 297 od) :: (od, ob) :: (na, instObj 140 nd) :: (nd, nb) :: R) (OrdOut w oa od na nd nb R { o with floats := o.floats + 1 }) := by
  refine fold_goal fun G9 hG9 => ?_
  obtain ⟨ha, hb, hc, hd9⟩ := hap
  refine hG9 ?_
  clear hG9
  have hnr : ∀ p ∈ (na, instObj 140 nd) :: (nd, nb) :: R, p.1 ≠ od := List.forall_mem_cons.mpr ⟨hb, List.forall_mem_cons.mpr ⟨hc, hd9⟩⟩
  unfold Tel
  intro p loose mean mg mb dp un gd cn cs a ccd cl outer A₀ base h₀ L m s Q E hR B F X N T hk hd hu hret
  revert hR; k_fill; intro hR
  refine wpAny_call ?_
  k_dflt ktr_enter
  k_steps
  all_goals
    refine hret _ _ _ _ ⟨rfl, _, ?_, rfl⟩ (by k_asm) (by first | k_asm | exact news_tl (by k_asm) | exact news_tl (news_tl (by k_asm)))
    rename OrdAt w _ _ => ho9
    first | exact ho9 | (rw [addB_off (by exact hpt)] at ho9; exact ho9) | (rw [addB_on (by exact hpt)] at ho9; exact ho9) | (rw [addB_on (by exact hpt)] at ho9; simp only [hlt, Bool.or_false, Bool.or_true] at ho9; exact ho9) | (rw [addB_on (by exact hpt)] at ho9; simp only [Bool.or_false, Bool.or_true] at ho9; exact ho9)
theorem sign2_tel (w : World) (oa od na nd : Addr) (nb : Obj) (R : Led) (o : Ord) (y : Str) (hn : SignAt w y nb) (hap : Apart4 oa od na nd R) (hse : 0 < o.seen) (hsg : (o.sign == y) = true) (hmo : (o.money == Str.ofString "") = true) (hn0 : o.nines = 0) (hz0 : o.zeros = 0) (ht0 : o.trail = 0) (hpt : (o.point != Str.ofString "") = true) (ob : Obj) (ho : OrdAt w o ob) :
   Tel w 259 4 [.ref oa, .ref na] ((oa, instObj 297 od) :: (od, ob) :: (na, instObj 140 nd) :: (nd, nb) :: R) (OrdOut w oa od na nd nb R { o with floats := o.floats + 1, behind := o.behind + 1, late := true }) := by
  refine fold_goal fun G9 hG9 => ?_
  obtain ⟨ha, hb, hc, hd9⟩ := hap
  refine hG9 ?_
  clear hG9
  have hnr : ∀ p ∈ (na, instObj 140 nd) :: (nd, nb) :: R, p.1 ≠ od := List.forall_mem_cons.mpr ⟨hb, List.forall_mem_cons.mpr ⟨hc, hd9⟩⟩
  unfold Tel
  intro p loose mean mg mb dp un gd cn cs a ccd cl outer A₀ base h₀ L m s Q E hR B F X N T hk hd hu hret
  revert hR; k_fill; intro hR
  refine wpAny_call ?_
  k_dflt ktr_enter
  k_steps
  all_goals
    refine hret _ _ _ _ ⟨rfl, _, ?_, rfl⟩ (by k_asm) (by first | k_asm | exact news_tl (by k_asm) | exact news_tl (news_tl (by k_asm)))
    rename OrdAt w _ _ => ho9
    first | exact ho9 | (rw [addB_off (by exact hpt)] at ho9; exact ho9) | (rw [addB_on (by exact hpt)] at ho9; exact ho9) | (rw [addB_on (by exact hpt)] at ho9; simp only [hlt, Bool.or_false, Bool.or_true] at ho9; exact ho9) | (rw [addB_on (by exact hpt)] at ho9; simp only [Bool.or_false, Bool.or_true] at ho9; exact ho9)
theorem sign3_tel (w : World) (oa od na nd : Addr) (nb : Obj) (R : Led) (o : Ord) (y : Str) (hn : SignAt w y nb) (hap : Apart4 oa od na nd R) (hse : 0 < o.seen) (hsg : (o.sign == y) = false) (hsi : (o.sign != Str.ofString "") = false) (hdg : 0 < o.nines + o.zeros + o.floats) (ob : Obj) (ho : OrdAt w o ob) :
   Tel w 259 4 [.ref oa, .ref na] ((oa, instObj 297 od) :: (od, ob) :: (na, instObj 140 nd) :: (nd, nb) :: R) (OrdOut w oa od na nd nb R { o with sign := y, over := true }) := by
  refine fold_goal fun G9 hG9 => ?_
  obtain ⟨ha, hb, hc, hd9⟩ := hap
  refine hG9 ?_
  clear hG9
  have hnr : ∀ p ∈ (na, instObj 140 nd) :: (nd, nb) :: R, p.1 ≠ od := List.forall_mem_cons.mpr ⟨hb, List.forall_mem_cons.mpr ⟨hc, hd9⟩⟩
  unfold Tel
  intro p loose mean mg mb dp un gd cn cs a ccd cl outer A₀ base h₀ L m s Q E hR B F X N T hk hd hu hret
  revert hR; k_fill; intro hR
  refine wpAny_call ?_
  k_dflt ktr_enter
  k_steps
  all_goals
    refine hret _ _ _ _ ⟨rfl, _, ?_, rfl⟩ (by k_asm) (by first | k_asm | exact news_tl (by k_asm) | exact news_tl (news_tl (by k_asm)))
    rename OrdAt w _ _ => ho9
    first | exact ho9 | (rw [addB_off (by exact hpt)] at ho9; exact ho9) | (rw [addB_on (by exact hpt)] at ho9; exact ho9) | (rw [addB_on (by exact hpt)] at ho9; simp only [hlt, Bool.or_false, Bool.or_true] at ho9; exact ho9) | (rw [addB_on (by exact hpt)] at ho9; simp only [Bool.or_false, Bool.or_true] at ho9; exact ho9)
theorem money0_tel (w : World) (oa od na nd : Addr) (nb : Obj) (R : Led) (o : Ord) (y : Str) (hn : SignAt w y nb) (hap : Apart4 oa od na nd R) (hmo : (o.money == Str.ofString "") = true) (hse : o.seen = 0) (hpt : (o.point != Str.ofString "") = false) (ob : Obj) (ho : OrdAt w o ob) :
   Tel w 266 4 [.ref oa, .ref na] ((oa, instObj 297 od) :: (od, ob) :: (na, instObj 140 nd) :: (nd, nb) :: R) (OrdOut w oa od na nd nb R { o with money := y, floats := o.floats + (1 - 1) }) := by
  refine fold_goal fun G9 hG9 => ?_
  obtain ⟨ha, hb, hc, hd9⟩ := hap
  refine hG9 ?_
  clear hG9
  have hnr : ∀ p ∈ (na, instObj 140 nd) :: (nd, nb) :: R, p.1 ≠ od := List.forall_mem_cons.mpr ⟨hb, List.forall_mem_cons.mpr ⟨hc, hd9⟩⟩
  unfold Tel
  intro p loose mean mg mb dp un gd cn cs a ccd cl outer A₀ base h₀ L m s Q E hR B F X N T hk hd hu hret
  revert hR; k_fill; intro hR
  refine wpAny_call ?_
  k_dflt ktr_enter
  k_steps
  all_goals
    refine hret _ _ _ _ ⟨rfl, _, ?_, rfl⟩ (by k_asm) (by first | k_asm | exact news_tl (by k_asm) | exact news_tl (news_tl (by k_asm)))
    rename OrdAt w _ _ => ho9
    first | exact ho9 | (rw [addB_off (by exact hpt)] at ho9; exact ho9) | (rw [addB_on (by exact hpt)] at ho9; exact ho9) | (rw [addB_on (by exact hpt)] at ho9; simp only [hlt, Bool.or_false, Bool.or_true] at ho9; exact ho9) | (rw [addB_on (by exact hpt)] at ho9; simp only [Bool.or_false, Bool.or_true] at ho9; exact ho9)
theorem money3_tel (w : World) (oa od na nd : Addr) (nb : Obj) (R : Led) (o : Ord) (y : Str) (hn : SignAt w y nb) (hap : Apart4 oa od na nd R) (hmo : (o.money == Str.ofString "") = true) (hse : o.seen = 1) (hsi : (o.sign == Str.ofString "") = false) (hfl : o.floats ≤ 0) (hpt : (o.point != Str.ofString "") = false) (ob : Obj) (ho : OrdAt w o ob) :
   Tel w 266 4 [.ref oa, .ref na] ((oa, instObj 297 od) :: (od, ob) :: (na, instObj 140 nd) :: (nd, nb) :: R) (OrdOut w oa od na nd nb R { o with money := y, floats := o.floats + (1 - 1) }) := by
  refine fold_goal fun G9 hG9 => ?_
  obtain ⟨ha, hb, hc, hd9⟩ := hap
  refine hG9 ?_
  clear hG9
  have hnr : ∀ p ∈ (na, instObj 140 nd) :: (nd, nb) :: R, p.1 ≠ od := List.forall_mem_cons.mpr ⟨hb, List.forall_mem_cons.mpr ⟨hc, hd9⟩⟩
  unfold Tel
  intro p loose mean mg mb dp un gd cn cs a ccd cl outer A₀ base h₀ L m s Q E hR B F X N T hk hd hu hret
  revert hR; k_fill; intro hR
  refine wpAny_call ?_
  k_dflt ktr_enter
  k_steps
  all_goals
    refine hret _ _ _ _ ⟨rfl, _, ?_, rfl⟩ (by k_asm) (by first | k_asm | exact news_tl (by k_asm) | exact news_tl (news_tl (by k_asm)))
    rename OrdAt w _ _ => ho9
    first | exact ho9 | (rw [addB_off (by exact hpt)] at ho9; exact ho9) | (rw [addB_on (by exact hpt)] at ho9; exact ho9) | (rw [addB_on (by exact hpt)] at ho9; simp only [hlt, Bool.or_false, Bool.or_true] at ho9; exact ho9) | (rw [addB_on (by exact hpt)] at ho9; simp only [Bool.or_false, Bool.or_true] at ho9; exact ho9)
theorem money1_tel (w : World) (oa od na nd : Addr) (nb : Obj) (R : Led) (o : Ord) (y : Str) (hn : SignAt w y nb) (hap : Apart4 oa od na nd R) (hmo : (o.money == Str.ofString "") = false) (hn0 : o.nines = 0) (hz0 : o.zeros = 0) (ht0 : o.trail = 0) (hpt : (o.point != Str.ofString "") = false) (ob : Obj) (ho : OrdAt w o ob) :
   Tel w 266 4 [.ref oa, .ref na] ((oa, instObj 297 od) :: (od, ob) :: (na, instObj 140 nd) :: (nd, nb) :: R) (OrdOut w oa od na nd nb R { o with floats := o.floats + 1 }) := by
  refine fold_goal fun G9 hG9 => ?_
  obtain ⟨ha, hb, hc, hd9⟩ := hap
  refine hG9 ?_
  clear hG9
  have hnr : ∀ p ∈ (na, instObj 140 nd) :: (nd, nb) :: R, p.1 ≠ od := List.forall_mem_cons.mpr ⟨hb, List.forall_mem_cons.mpr ⟨hc, hd9⟩⟩
  unfold Tel
  intro p loose mean mg mb dp un gd cn cs a ccd cl outer A₀ base h₀ L m s Q E hR B F X N T hk hd hu hret
  revert hR; k_fill; intro hR
  refine wpAny_call ?_
  k_dflt ktr_enter
  k_steps
  all_goals
    refine hret _ _ _ _ ⟨rfl, _, ?_, rfl⟩ (by k_asm) (by first | k_asm | exact news_tl (by k_asm) | exact news_tl (news_tl (by k_asm)))
    rename OrdAt w _ _ => ho9
    first | exact ho9 | (rw [addB_off (by exact hpt)] at ho9; exact ho9) | (rw [addB_on (by exact hpt)] at ho9; exact ho9) | (rw [addB_on (by exact hpt)] at ho9; simp only [hlt, Bool.or_false, Bool.or_true] at ho9; exact ho9) | (rw [addB_on (by exact hpt)] at ho9; simp only [Bool.or_false, Bool.or_true] at ho9; exact ho9)
theorem money2_tel (w : World) (oa od na nd : Addr) (nb : Obj) (R : Led) (o : Ord) (y : Str) (hn : SignAt w y nb) (hap : Apart4 oa od na nd R) (hmo : (o.money == Str.ofString "") = false) (hn0 : o.nines = 0) (hz0 : o.zeros = 0) (ht0 : o.trail = 0) (hpt : (o.point != Str.ofString "") = true) (ob : Obj) (ho : OrdAt w o ob) :
   Tel w 266 4 [.ref oa, .ref na] ((oa, instObj 297 od) :: (od, ob) :: (na, instObj 140 nd) :: (nd, nb) :: R) (OrdOut w oa od na nd nb R { o with floats := o.floats + 1, behind := o.behind + 1, late := true }) := by
  refine fold_goal fun G9 hG9 => ?_
  obtain ⟨ha, hb, hc, hd9⟩ := hap
  refine hG9 ?_
  clear hG9
  have hnr : ∀ p ∈ (na, instObj 140 nd) :: (nd, nb) :: R, p.1 ≠ od := List.forall_mem_cons.mpr ⟨hb, List.forall_mem_cons.mpr ⟨hc, hd9⟩⟩
  unfold Tel
  intro p loose mean mg mb dp un gd cn cs a ccd cl outer A₀ base h₀ L m s Q E hR B F X N T hk hd hu hret
  revert hR; k_fill; intro hR
  refine wpAny_call ?_
  k_dflt ktr_enter
  k_steps
  all_goals
    refine hret _ _ _ _ ⟨rfl, _, ?_, rfl⟩ (by k_asm) (by first | k_asm | exact news_tl (by k_asm) | exact news_tl (news_tl (by k_asm)))
    rename OrdAt w _ _ => ho9
    first | exact ho9 | (rw [addB_off (by exact hpt)] at ho9; exact ho9) | (rw [addB_on (by exact hpt)] at ho9; exact ho9) | (rw [addB_on (by exact hpt)] at ho9; simp only [hlt, Bool.or_false, Bool.or_true] at ho9; exact ho9) | (rw [addB_on (by exact hpt)] at ho9; simp only [Bool.or_false, Bool.or_true] at ho9; exact ho9)
theorem end_tel (w : World) (oa od na nd : Addr) (nb : Obj) (R : Led) (o : Ord) (y : Str) (hn : SignAt w y nb) (hap : Apart4 oa od na nd R) (hdg : 0 < o.nines + o.zeros + o.floats) (hsi : (o.sign != Str.ofString "") = false) (ob : Obj) (ho : OrdAt w o ob) :
   Tel w 273 4 [.ref oa, .ref na] ((oa, instObj 297 od) :: (od, ob) :: (na, instObj 140 nd) :: (nd, nb) :: R) (OrdOut w oa od na nd nb R { o with sign := y, over := true }) := by
  refine fold_goal fun G9 hG9 => ?_
  obtain ⟨ha, hb, hc, hd9⟩ := hap
  refine hG9 ?_
  clear hG9
  have hnr : ∀ p ∈ (na, instObj 140 nd) :: (nd, nb) :: R, p.1 ≠ od := List.forall_mem_cons.mpr ⟨hb, List.forall_mem_cons.mpr ⟨hc, hd9⟩⟩
  unfold Tel
  intro p loose mean mg mb dp un gd cn cs a ccd cl outer A₀ base h₀ L m s Q E hR B F X N T hk hd hu hret
  revert hR; k_fill; intro hR
  refine wpAny_call ?_
  k_dflt ktr_enter
  k_steps
  all_goals
    refine hret _ _ _ _ ⟨rfl, _, ?_, rfl⟩ (by k_asm) (by first | k_asm | exact news_tl (by k_asm) | exact news_tl (news_tl (by k_asm)))
    rename OrdAt w _ _ => ho9
    first | exact ho9 | (rw [addB_off (by exact hpt)] at ho9; exact ho9) | (rw [addB_on (by exact hpt)] at ho9; exact ho9) | (rw [addB_on (by exact hpt)] at ho9; simp only [hlt, Bool.or_false, Bool.or_true] at ho9; exact ho9) | (rw [addB_on (by exact hpt)] at ho9; simp only [Bool.or_false, Bool.or_true] at ho9; exact ho9)
end
theorem reset_U2 : True := by
  (w_top off)
  k_with_none
  first | walk1 | trivial
section
open PySem PySem.W PyProof.Rows PySem.Spec PySem.Calls
theorem rows_U2_1 : True := by
  k_with "MyPost" => (with_unfolding_all first | refine MyPost.next ?_ | refine MyPost.cont ?_ | refine MyPost.brk ?_ | refine MyPost.ret ?_)
  k_with "MyPostT" => (with_unfolding_all refine MyPostT.next ?_)
  k_with "exec For Name Name cons nil" => ((k_here; (rename Fr _ _ _ _ => lFq_rw); (with_unfolding_all refine' For_invVF lFq_rw (by exact rfl) (by exact rfl) ?_; k_whole)))
  k_with "pyIter str" => ((k_here; refine Halt.out ?_))
  k_with "pyIter ref" => ((k_here; refine Halt.out ?_))
  k_with "m_in" => (first | assumption | exact List.mem_append_left _ (by assumption) | exact List.mem_append_right _ (by assumption) | (refine List.mem_cons_of_mem _ ?_; walk_at "m_in"))
  k_with "m_sub" => (first | exact (fun _ h => h) | exact List.forall_mem_nil _ | (refine List.forall_mem_cons.mpr ⟨by k_mem, ?_⟩; walk_at "m_sub") | (intro p9_rw hp9_rw; walk_at "m_in"))
  k_with "m_map" => (first | exact off_sto (by walk_at "m_sub") | (refine off_step (by k_mem) ?_; walk_at "m_map"))
  k_with "getMethod ref" => ((k_here; (with_reducible show wpAny _ _ (getMethod (Value.ref _) (PySem.Str.ofString "count") _) _ _ _); k_dflt (refine' kf_method (by k_asm) (by k_mem) PySem.F.slot_list_count PySem.F.type_list_count ?_)))
  k_with "call builtin:list.append" => ((k_here; (with_reducible show wpAny _ _ (call (Value.builtin _) [Value.ref _, _]) _ _ _); k_dflt (refine' append_L (by k_asm) (by k_asm) (by k_upd) (by first | assumption | (simp only [List.length_append, List.length_cons, List.length_nil]; omega)) ?_; k_whole); intro hq_rw Fq_rw Nq_rw; (try k_sweep)))
  k_with "compareOp In str ref" => ((k_here; (with_reducible show wpAny _ _ (compareOp CmpOp.In (Value.str _ _) (Value.ref _)) _ _ _); k_dflt (refine' in_list_strs (by exact News.isList (by k_asm) (by k_mem)) (by k_asm) ?_; k_whole)))
  k_with "ite" => ((k_here; (with_reducible show (if ((_ : Int) == _) = true then _ else _)); first | (refine ite_pos (by (simp only [beq_iff_eq]); omega) ?_) | (refine ite_neg (by (simp only [beq_iff_eq]); omega) ?_)))
  k_with "WPost" => (with_unfolding_all refine WPost.next ?_)
  k_with "m_map" => (with_reducible exact fun _ _ => rfl)
  k_with "callWith" => ((k_here; (with_reducible show wpAny _ _ (callWith _ (Prod.fst _) (Prod.snd _) _ _) _ _ _); dsimp only; (with_reducible refine' callWith_method1 ?_ (by exact rfl) (by exact rfl))))
  k_with "t_at" => ((k_here; (with_reducible show wpAny _ _ (subscriptTail _ _ (Value.ref _) (Value.int _ _)) _ _ _); k_dflt (refine' tup_at (by k_asm) (by k_mem) (by omega) (by (simp only [List.length_cons, List.length_nil]; omega)) (by (simp only [List.length_cons, List.length_nil]; omega)) ?_); intro vq_rw hvq_rw))
  k_with "subscriptTail Tuple cons Call ref int" => (walk_at "t_at")
  k_with "subscriptTail Tuple cons BinOp ref int" => (walk_at "t_at")
  k_with "subscriptTail Tuple cons Name ref int" => (walk_at "t_at")
  k_with "execs cons" => ((k_here; (try dsimp only); (try (with_reducible refine gen_toks ?_; intro tkg_rw)); (with_reducible refine wpAny_execs_cons ?_); (try dsimp only); k_fold))
  k_with "og_tail" => (k_dflt ((case F => k_asm); (case N => k_asm); (case X => k_asm); (case a => k_mem); (case b => k_mem); (case ho => assumption)))
  k_with "getAttr ref" => ((k_here; (first | ((with_reducible first | apply og_seen | apply og_is_plain | apply og_point | apply og_lead | apply og_trail | apply og_nines | apply og_zero | apply og_zeros | apply og_floats | apply og_behind | apply og_is_late | apply og_money | apply og_last | apply og_is_over | apply og_is_inserted); walk_at "og_tail") | ((with_reducible apply og_sign); walk_at "og_tail") | ((with_reducible first | apply on_sign | apply on_count); walk_at "og_tail")); intros; (try dsimp only)))
  k_with "setAttr ref" => ((k_here; (with_reducible first | apply os_seen | apply os_point | apply os_trail | apply os_nines | apply os_zero | apply os_zeros | apply os_floats | apply os_behind | apply os_is_late | apply os_sign | apply os_money | apply os_last | apply os_is_over | apply os_is_inserted); k_dflt ((case F => k_asm); (case N => first | k_asm | exact news_tl (by k_asm) | exact news_tl (news_tl (by k_asm))); (case X => k_asm); (case ne => assumption); (case nr => assumption); (case ho => assumption)); intro obq_rw hq_rw kq_rw hoq_rw Fq_rw Nq_rw; (try dsimp only at hoq_rw); (try k_sweep)))
  k_with "getMethod ref" => ((k_here; (with_reducible first | apply om_digits | apply om_add_behind | apply om_take_nine | apply om_take_zero | apply om_take_point | apply om_take_scaling | apply om_take_inserted | apply om_float_on | apply om_may_float | apply om_take_sign | apply om_take_money | apply om_take_end | apply om_take | apply om_is_whole | apply om_scale); walk_at "og_tail"))
  k_with "callWith ref" => ((k_here; (with_reducible show wpAny _ _ (callWith _ (Prod.fst _) _ (backTo _ (starEach [] _)) []) _ _ _); dsimp only; k_dflt (refine' callWith_K0 (by k_in) (by k_is) ?_); k_whole))
  k_with "call ref" => ((k_here; (with_reducible show wpAny _ _ (call (Value.ref _) [Value.ref _, Value.ref _]) _ _ _); refine Halt.out ?_))
  trivial
theorem take_disp (w : World) (oa od na nd : Addr) (nb : Obj) (R : Led) (o o1 : Ord) (y : Str) (hn : SignAt w y nb) (hap : Apart4 oa od na nd R) (hov : o.over = false) (f0 : (y == Str.ofString "S") = false)
   (h1 : (y == Str.ofString "9") = true → Meth w 210 oa od na nd nb R o o1) (h2 : (y == Str.ofString "9") = false → ([Str.ofString "Z", Str.ofString "*"].any fun x => x == y) = true → Meth w 217 oa od na nd nb R o o1) (h3 : (y == Str.ofString "9") = false → ([Str.ofString "Z", Str.ofString "*"].any fun x => x == y) = false → ([Str.ofString "V", Str.ofString "."].any fun x => x == y) = true → Meth w 224 oa od na nd nb R o o1) (h4 : (y == Str.ofString "9") = false → ([Str.ofString "Z", Str.ofString "*"].any fun x => x == y) = false → ([Str.ofString "V", Str.ofString "."].any fun x => x == y) = false → (y == Str.ofString "P") = true → Meth w 231 oa od na nd nb R o o1) (h5 : (y == Str.ofString "9") = false → ([Str.ofString "Z", Str.ofString "*"].any fun x => x == y) = false → ([Str.ofString "V", Str.ofString "."].any fun x => x == y) = false → (y == Str.ofString "P") = false → ([Str.ofString "+", Str.ofString "-"].any fun x => x == y) = true → Meth w 259 oa od na nd nb R o o1) (h6 : (y == Str.ofString "9") = false → ([Str.ofString "Z", Str.ofString "*"].any fun x => x == y) = false → ([Str.ofString "V", Str.ofString "."].any fun x => x == y) = false → (y == Str.ofString "P") = false → ([Str.ofString "+", Str.ofString "-"].any fun x => x == y) = false → (y == Str.ofString "$") = true → Meth w 266 oa od na nd nb R o o1) (h7 : (y == Str.ofString "9") = false → ([Str.ofString "Z", Str.ofString "*"].any fun x => x == y) = false → ([Str.ofString "V", Str.ofString "."].any fun x => x == y) = false → (y == Str.ofString "P") = false → ([Str.ofString "+", Str.ofString "-"].any fun x => x == y) = false → (y == Str.ofString "$") = false → ([Str.ofString "CR", Str.ofString "DB"].any fun x => x == y) = true → Meth w 273 oa od na nd nb R o o1) (h8 : (y == Str.ofString "9") = false → ([Str.ofString "Z", Str.ofString "*"].any fun x => x == y) = false → ([Str.ofString "V", Str.ofString "."].any fun x => x == y) = false → (y == Str.ofString "P") = false → ([Str.ofString "+", Str.ofString "-"].any fun x => x == y) = false → (y == Str.ofString "$") = false → ([Str.ofString "CR", Str.ofString "DB"].any fun x => x == y) = false → Meth w 238 oa od na nd nb R o o1) (ob : Obj) (ho : OrdAt w o ob) :
   Tel w 280 6 [.ref oa, .ref na] ((oa, instObj 297 od) :: (od, ob) :: (na, instObj 140 nd) :: (nd, nb) :: R) (OrdOut w oa od na nd nb R { o1 with seen := o1.seen + 1, last := y }) := by
  refine fold_goal fun G9 hG9 => ?_
  obtain ⟨ha, hb, hc, hd9⟩ := hap
  refine hG9 ?_
  clear hG9
  have hnr : ∀ p ∈ (na, instObj 140 nd) :: (nd, nb) :: R, p.1 ≠ od := List.forall_mem_cons.mpr ⟨hb, List.forall_mem_cons.mpr ⟨hc, hd9⟩⟩
  unfold Tel
  intro p loose mean mg mb dp un gd cn cs a ccd cl outer A₀ base h₀ L m s Q E hR B F X N T hk hd hu hret
  revert hR; k_fill; intro hR
  refine wpAny_call ?_
  k_dflt ktr_enter
  k_steps
  all_goals
    unfold Halt
    try k_fold
    k_dflt (first | refine' tel_use (h1 (by assumption) _ ho) ?B ?F ?X ?N ?T ?hk ?hd ?hu ?_ | refine' tel_use (h2 (by assumption) (by assumption) _ ho) ?B ?F ?X ?N ?T ?hk ?hd ?hu ?_ | refine' tel_use (h3 (by assumption) (by assumption) (by assumption) _ ho) ?B ?F ?X ?N ?T ?hk ?hd ?hu ?_ | refine' tel_use (h4 (by assumption) (by assumption) (by assumption) (by assumption) _ ho) ?B ?F ?X ?N ?T ?hk ?hd ?hu ?_ | refine' tel_use (h5 (by assumption) (by assumption) (by assumption) (by assumption) (by assumption) _ ho) ?B ?F ?X ?N ?T ?hk ?hd ?hu ?_ | refine' tel_use (h6 (by assumption) (by assumption) (by assumption) (by assumption) (by assumption) (by assumption) _ ho) ?B ?F ?X ?N ?T ?hk ?hd ?hu ?_ | refine' tel_use (h7 (by assumption) (by assumption) (by assumption) (by assumption) (by assumption) (by assumption) (by assumption) _ ho) ?B ?F ?X ?N ?T ?hk ?hd ?hu ?_ | refine' tel_use (h8 (by assumption) (by assumption) (by assumption) (by assumption) (by assumption) (by assumption) (by assumption) _ ho) ?B ?F ?X ?N ?T ?hk ?hd ?hu ?_)
    case N =>
      rename News _ _ _ _ => N4
      exact news_sub N4 (by walk_at "m_sub")
    case B => k_asm
    case F => k_asm
    case X => k_asm
    case T => k_asm
    case hk => first | exact rfl | assumption
    case hd => ktr_room
    case hu => ktr_units
    rintro r9 news9 h9 tk9 ⟨hr9, ob9, hob9, hn9⟩ F' N'
    subst hr9
    subst hn9
    k_steps
    all_goals
      refine hret _ _ _ _ ⟨rfl, _, ?_, rfl⟩ (by k_asm) (by first | k_asm | exact news_tl (by k_asm) | exact news_tl (news_tl (by k_asm)))
      rename OrdAt w _ _ => ho9
      exact ho9
theorem take_nine (w : World) (oa od na nd : Addr) (nb : Obj) (R : Led) (o o1 : Ord) (y : Str) (hn : SignAt w y nb) (hap : Apart4 oa od na nd R) (hov : o.over = false)
   (f0 : (y == Str.ofString "S") = false) (f1 : (y == Str.ofString "9") = true)
   (hC : Meth w 210 oa od na nd nb R o o1) (ob : Obj) (ho : OrdAt w o ob) :
   Tel w 280 6 [.ref oa, .ref na] ((oa, instObj 297 od) :: (od, ob) :: (na, instObj 140 nd) :: (nd, nb) :: R) (OrdOut w oa od na nd nb R { o1 with seen := o1.seen + 1, last := y }) :=
  take_disp w oa od na nd nb R o o1 y hn hap hov f0 (fun _ => hC) (fun h _ => absurd h (by rw [f1]; decide)) (fun h _ _ => absurd h (by rw [f1]; decide)) (fun h _ _ _ => absurd h (by rw [f1]; decide)) (fun h _ _ _ _ => absurd h (by rw [f1]; decide)) (fun h _ _ _ _ _ => absurd h (by rw [f1]; decide)) (fun h _ _ _ _ _ _ => absurd h (by rw [f1]; decide)) (fun h _ _ _ _ _ _ => absurd h (by rw [f1]; decide)) ob ho
theorem take_zero (w : World) (oa od na nd : Addr) (nb : Obj) (R : Led) (o o1 : Ord) (y : Str) (hn : SignAt w y nb) (hap : Apart4 oa od na nd R) (hov : o.over = false)
   (f0 : (y == Str.ofString "S") = false) (f1 : (y == Str.ofString "9") = false) (f2 : ([Str.ofString "Z", Str.ofString "*"].any fun x => x == y) = true)
   (hC : Meth w 217 oa od na nd nb R o o1) (ob : Obj) (ho : OrdAt w o ob) :
   Tel w 280 6 [.ref oa, .ref na] ((oa, instObj 297 od) :: (od, ob) :: (na, instObj 140 nd) :: (nd, nb) :: R) (OrdOut w oa od na nd nb R { o1 with seen := o1.seen + 1, last := y }) :=
  take_disp w oa od na nd nb R o o1 y hn hap hov f0 (fun h => absurd h (by rw [f1]; decide)) (fun _ _ => hC) (fun _ h _ => absurd h (by rw [f2]; decide)) (fun _ h _ _ => absurd h (by rw [f2]; decide)) (fun _ h _ _ _ => absurd h (by rw [f2]; decide)) (fun _ h _ _ _ _ => absurd h (by rw [f2]; decide)) (fun _ h _ _ _ _ _ => absurd h (by rw [f2]; decide)) (fun _ h _ _ _ _ _ => absurd h (by rw [f2]; decide)) ob ho
theorem take_point (w : World) (oa od na nd : Addr) (nb : Obj) (R : Led) (o o1 : Ord) (y : Str) (hn : SignAt w y nb) (hap : Apart4 oa od na nd R) (hov : o.over = false)
   (f0 : (y == Str.ofString "S") = false) (f1 : (y == Str.ofString "9") = false) (f2 : ([Str.ofString "Z", Str.ofString "*"].any fun x => x == y) = false) (f3 : ([Str.ofString "V", Str.ofString "."].any fun x => x == y) = true)
   (hC : Meth w 224 oa od na nd nb R o o1) (ob : Obj) (ho : OrdAt w o ob) :
   Tel w 280 6 [.ref oa, .ref na] ((oa, instObj 297 od) :: (od, ob) :: (na, instObj 140 nd) :: (nd, nb) :: R) (OrdOut w oa od na nd nb R { o1 with seen := o1.seen + 1, last := y }) :=
  take_disp w oa od na nd nb R o o1 y hn hap hov f0 (fun h => absurd h (by rw [f1]; decide)) (fun _ h => absurd h (by rw [f2]; decide)) (fun _ _ _ => hC) (fun _ _ h _ => absurd h (by rw [f3]; decide)) (fun _ _ h _ _ => absurd h (by rw [f3]; decide)) (fun _ _ h _ _ _ => absurd h (by rw [f3]; decide)) (fun _ _ h _ _ _ _ => absurd h (by rw [f3]; decide)) (fun _ _ h _ _ _ _ => absurd h (by rw [f3]; decide)) ob ho
theorem take_scale (w : World) (oa od na nd : Addr) (nb : Obj) (R : Led) (o o1 : Ord) (y : Str) (hn : SignAt w y nb) (hap : Apart4 oa od na nd R) (hov : o.over = false)
   (f0 : (y == Str.ofString "S") = false) (f1 : (y == Str.ofString "9") = false) (f2 : ([Str.ofString "Z", Str.ofString "*"].any fun x => x == y) = false) (f3 : ([Str.ofString "V", Str.ofString "."].any fun x => x == y) = false) (f4 : (y == Str.ofString "P") = true)
   (hC : Meth w 231 oa od na nd nb R o o1) (ob : Obj) (ho : OrdAt w o ob) :
   Tel w 280 6 [.ref oa, .ref na] ((oa, instObj 297 od) :: (od, ob) :: (na, instObj 140 nd) :: (nd, nb) :: R) (OrdOut w oa od na nd nb R { o1 with seen := o1.seen + 1, last := y }) :=
  take_disp w oa od na nd nb R o o1 y hn hap hov f0 (fun h => absurd h (by rw [f1]; decide)) (fun _ h => absurd h (by rw [f2]; decide)) (fun _ _ h => absurd h (by rw [f3]; decide)) (fun _ _ _ _ => hC) (fun _ _ _ h _ => absurd h (by rw [f4]; decide)) (fun _ _ _ h _ _ => absurd h (by rw [f4]; decide)) (fun _ _ _ h _ _ _ => absurd h (by rw [f4]; decide)) (fun _ _ _ h _ _ _ => absurd h (by rw [f4]; decide)) ob ho
theorem take_sign (w : World) (oa od na nd : Addr) (nb : Obj) (R : Led) (o o1 : Ord) (y : Str) (hn : SignAt w y nb) (hap : Apart4 oa od na nd R) (hov : o.over = false)
   (f0 : (y == Str.ofString "S") = false) (f1 : (y == Str.ofString "9") = false) (f2 : ([Str.ofString "Z", Str.ofString "*"].any fun x => x == y) = false) (f3 : ([Str.ofString "V", Str.ofString "."].any fun x => x == y) = false) (f4 : (y == Str.ofString "P") = false) (f5 : ([Str.ofString "+", Str.ofString "-"].any fun x => x == y) = true)
   (hC : Meth w 259 oa od na nd nb R o o1) (ob : Obj) (ho : OrdAt w o ob) :
   Tel w 280 6 [.ref oa, .ref na] ((oa, instObj 297 od) :: (od, ob) :: (na, instObj 140 nd) :: (nd, nb) :: R) (OrdOut w oa od na nd nb R { o1 with seen := o1.seen + 1, last := y }) :=
  take_disp w oa od na nd nb R o o1 y hn hap hov f0 (fun h => absurd h (by rw [f1]; decide)) (fun _ h => absurd h (by rw [f2]; decide)) (fun _ _ h => absurd h (by rw [f3]; decide)) (fun _ _ _ h => absurd h (by rw [f4]; decide)) (fun _ _ _ _ _ => hC) (fun _ _ _ _ h _ => absurd h (by rw [f5]; decide)) (fun _ _ _ _ h _ _ => absurd h (by rw [f5]; decide)) (fun _ _ _ _ h _ _ => absurd h (by rw [f5]; decide)) ob ho
theorem take_money (w : World) (oa od na nd : Addr) (nb : Obj) (R : Led) (o o1 : Ord) (y : Str) (hn : SignAt w y nb) (hap : Apart4 oa od na nd R) (hov : o.over = false)
   (f0 : (y == Str.ofString "S") = false) (f1 : (y == Str.ofString "9") = false) (f2 : ([Str.ofString "Z", Str.ofString "*"].any fun x => x == y) = false) (f3 : ([Str.ofString "V", Str.ofString "."].any fun x => x == y) = false) (f4 : (y == Str.ofString "P") = false) (f5 : ([Str.ofString "+", Str.ofString "-"].any fun x => x == y) = false) (f6 : (y == Str.ofString "$") = true)
   (hC : Meth w 266 oa od na nd nb R o o1) (ob : Obj) (ho : OrdAt w o ob) :
   Tel w 280 6 [.ref oa, .ref na] ((oa, instObj 297 od) :: (od, ob) :: (na, instObj 140 nd) :: (nd, nb) :: R) (OrdOut w oa od na nd nb R { o1 with seen := o1.seen + 1, last := y }) :=
  take_disp w oa od na nd nb R o o1 y hn hap hov f0 (fun h => absurd h (by rw [f1]; decide)) (fun _ h => absurd h (by rw [f2]; decide)) (fun _ _ h => absurd h (by rw [f3]; decide)) (fun _ _ _ h => absurd h (by rw [f4]; decide)) (fun _ _ _ _ h => absurd h (by rw [f5]; decide)) (fun _ _ _ _ _ _ => hC) (fun _ _ _ _ _ h _ => absurd h (by rw [f6]; decide)) (fun _ _ _ _ _ h _ => absurd h (by rw [f6]; decide)) ob ho
theorem take_end (w : World) (oa od na nd : Addr) (nb : Obj) (R : Led) (o o1 : Ord) (y : Str) (hn : SignAt w y nb) (hap : Apart4 oa od na nd R) (hov : o.over = false)
   (f0 : (y == Str.ofString "S") = false) (f1 : (y == Str.ofString "9") = false) (f2 : ([Str.ofString "Z", Str.ofString "*"].any fun x => x == y) = false) (f3 : ([Str.ofString "V", Str.ofString "."].any fun x => x == y) = false) (f4 : (y == Str.ofString "P") = false) (f5 : ([Str.ofString "+", Str.ofString "-"].any fun x => x == y) = false) (f6 : (y == Str.ofString "$") = false) (f7 : ([Str.ofString "CR", Str.ofString "DB"].any fun x => x == y) = true)
   (hC : Meth w 273 oa od na nd nb R o o1) (ob : Obj) (ho : OrdAt w o ob) :
   Tel w 280 6 [.ref oa, .ref na] ((oa, instObj 297 od) :: (od, ob) :: (na, instObj 140 nd) :: (nd, nb) :: R) (OrdOut w oa od na nd nb R { o1 with seen := o1.seen + 1, last := y }) :=
  take_disp w oa od na nd nb R o o1 y hn hap hov f0 (fun h => absurd h (by rw [f1]; decide)) (fun _ h => absurd h (by rw [f2]; decide)) (fun _ _ h => absurd h (by rw [f3]; decide)) (fun _ _ _ h => absurd h (by rw [f4]; decide)) (fun _ _ _ _ h => absurd h (by rw [f5]; decide)) (fun _ _ _ _ _ h => absurd h (by rw [f6]; decide)) (fun _ _ _ _ _ _ _ => hC) (fun _ _ _ _ _ _ h => absurd h (by rw [f7]; decide)) ob ho
theorem take_ins (w : World) (oa od na nd : Addr) (nb : Obj) (R : Led) (o o1 : Ord) (y : Str) (hn : SignAt w y nb) (hap : Apart4 oa od na nd R) (hov : o.over = false)
   (f0 : (y == Str.ofString "S") = false) (f1 : (y == Str.ofString "9") = false) (f2 : ([Str.ofString "Z", Str.ofString "*"].any fun x => x == y) = false) (f3 : ([Str.ofString "V", Str.ofString "."].any fun x => x == y) = false) (f4 : (y == Str.ofString "P") = false) (f5 : ([Str.ofString "+", Str.ofString "-"].any fun x => x == y) = false) (f6 : (y == Str.ofString "$") = false) (f7 : ([Str.ofString "CR", Str.ofString "DB"].any fun x => x == y) = false)
   (hC : Meth w 238 oa od na nd nb R o o1) (ob : Obj) (ho : OrdAt w o ob) :
   Tel w 280 6 [.ref oa, .ref na] ((oa, instObj 297 od) :: (od, ob) :: (na, instObj 140 nd) :: (nd, nb) :: R) (OrdOut w oa od na nd nb R { o1 with seen := o1.seen + 1, last := y }) :=
  take_disp w oa od na nd nb R o o1 y hn hap hov f0 (fun h => absurd h (by rw [f1]; decide)) (fun _ h => absurd h (by rw [f2]; decide)) (fun _ _ h => absurd h (by rw [f3]; decide)) (fun _ _ _ h => absurd h (by rw [f4]; decide)) (fun _ _ _ _ h => absurd h (by rw [f5]; decide)) (fun _ _ _ _ _ h => absurd h (by rw [f6]; decide)) (fun _ _ _ _ _ _ h => absurd h (by rw [f7]; decide)) (fun _ _ _ _ _ _ _ => hC) ob ho
end
theorem reset_U3 : True := by
  (w_top off)
  k_with_none
  first | walk1 | trivial
section
open PySem PySem.W PyProof.Rows PySem.Spec PySem.Calls
theorem rows_U3_1 : True := by
  k_with "MyPost" => (with_unfolding_all first | refine MyPost.next ?_ | refine MyPost.cont ?_ | refine MyPost.brk ?_ | refine MyPost.ret ?_)
  k_with "MyPostT" => (with_unfolding_all refine MyPostT.next ?_)
  k_with "exec For Name Name cons nil" => ((k_here; (rename Fr _ _ _ _ => lFq_rw); (with_unfolding_all refine' For_invVF lFq_rw (by exact rfl) (by exact rfl) ?_; k_whole)))
  k_with "pyIter str" => ((k_here; refine Halt.out ?_))
  k_with "pyIter ref" => ((k_here; refine Halt.out ?_))
  k_with "m_in" => (first | assumption | exact List.mem_append_left _ (by assumption) | exact List.mem_append_right _ (by assumption) | (refine List.mem_cons_of_mem _ ?_; walk_at "m_in"))
  k_with "m_sub" => (first | exact (fun _ h => h) | exact List.forall_mem_nil _ | (refine List.forall_mem_cons.mpr ⟨by k_mem, ?_⟩; walk_at "m_sub") | (intro p9_rw hp9_rw; walk_at "m_in"))
  k_with "m_map" => (first | exact off_sto (by walk_at "m_sub") | (refine off_step (by k_mem) ?_; walk_at "m_map"))
  k_with "getMethod ref" => ((k_here; (with_reducible show wpAny _ _ (getMethod (Value.ref _) (PySem.Str.ofString "count") _) _ _ _); k_dflt (refine' kf_method (by k_asm) (by k_mem) PySem.F.slot_list_count PySem.F.type_list_count ?_)))
  k_with "call builtin:list.append" => ((k_here; (with_reducible show wpAny _ _ (call (Value.builtin _) [Value.ref _, _]) _ _ _); k_dflt (refine' append_L (by k_asm) (by k_asm) (by k_upd) (by first | assumption | (simp only [List.length_append, List.length_cons, List.length_nil]; omega)) ?_; k_whole); intro hq_rw Fq_rw Nq_rw; (try k_sweep)))
  k_with "compareOp In str ref" => ((k_here; (with_reducible show wpAny _ _ (compareOp CmpOp.In (Value.str _ _) (Value.ref _)) _ _ _); k_dflt (refine' in_list_strs (by exact News.isList (by k_asm) (by k_mem)) (by k_asm) ?_; k_whole)))
  k_with "ite" => ((k_here; (with_reducible show (if ((_ : Int) == _) = true then _ else _)); first | (refine ite_pos (by (simp only [beq_iff_eq]); omega) ?_) | (refine ite_neg (by (simp only [beq_iff_eq]); omega) ?_)))
  k_with "WPost" => (with_unfolding_all refine WPost.next ?_)
  k_with "m_map" => (with_reducible exact fun _ _ => rfl)
  k_with "callWith" => ((k_here; (with_reducible show wpAny _ _ (callWith _ (Prod.fst _) (Prod.snd _) _ _) _ _ _); dsimp only; (with_reducible refine' callWith_method1 ?_ (by exact rfl) (by exact rfl))))
  k_with "t_at" => ((k_here; (with_reducible show wpAny _ _ (subscriptTail _ _ (Value.ref _) (Value.int _ _)) _ _ _); k_dflt (refine' tup_at (by k_asm) (by k_mem) (by omega) (by (simp only [List.length_cons, List.length_nil]; omega)) (by (simp only [List.length_cons, List.length_nil]; omega)) ?_); intro vq_rw hvq_rw))
  k_with "subscriptTail Tuple cons Call ref int" => (walk_at "t_at")
  k_with "subscriptTail Tuple cons BinOp ref int" => (walk_at "t_at")
  k_with "subscriptTail Tuple cons Name ref int" => (walk_at "t_at")
  k_with "execs cons" => ((k_here; (try dsimp only); (try (with_reducible refine gen_toks ?_; intro tkg_rw)); (with_reducible refine wpAny_execs_cons ?_); (try dsimp only); k_fold))
  trivial
/-- what one sign does to the Order -/
inductive Take : Ord → Sym → Ord → Prop
  | nine0 {o : Ord} {x : Sym} (hx : x = .nine) (hov : o.over = false) (htr : o.trail ≤ 0) (hlt : o.late = false) (hpt : (o.point != Str.ofString "") = false) : Take o x { ({ o with nines := o.nines + 1 } : Ord) with seen := o.seen + 1, last := x.str }
  | nine1 {o : Ord} {x : Sym} (hx : x = .nine) (hov : o.over = false) (htr : o.trail ≤ 0) (hlt : o.late = false) (hpt : (o.point != Str.ofString "") = true) : Take o x { ({ o with nines := o.nines + 1, behind := o.behind + 1, late := false } : Ord) with seen := o.seen + 1, last := x.str }
  | zero0 {o : Ord} {x : Sym} (hx : x = .zed ∨ x = .star) (hov : o.over = false) (htr : o.trail ≤ 0) (hni : o.nines ≤ 0) (hfl : o.floats ≤ 0) (hze : ([Str.ofString "", x.str].any fun x => x == o.zero) = true) (hpt : (o.point != Str.ofString "") = false) : Take o x { ({ o with zero := x.str, zeros := o.zeros + 1 } : Ord) with seen := o.seen + 1, last := x.str }
  | zero1 {o : Ord} {x : Sym} (hx : x = .zed ∨ x = .star) (hov : o.over = false) (htr : o.trail ≤ 0) (hni : o.nines ≤ 0) (hfl : o.floats ≤ 0) (hze : ([Str.ofString "", x.str].any fun x => x == o.zero) = true) (hpt : (o.point != Str.ofString "") = true) : Take o x { ({ o with zero := x.str, zeros := o.zeros + 1, behind := o.behind + 1, late := true } : Ord) with seen := o.seen + 1, last := x.str }
  | point {o : Ord} {x : Sym} (hx : x = .vee ∨ x = .dot) (hov : o.over = false) (htr : o.trail ≤ 0) (hpt : (o.point != Str.ofString "") = false) : Take o x { ({ o with point := x.str } : Ord) with seen := o.seen + 1, last := x.str }
  | scale {o : Ord} {x : Sym} (hx : x = .pee) (hov : o.over = false) (hdg : 0 < o.nines + o.zeros + o.floats) (hpt : (o.point != Str.ofString "") = false) : Take o x { ({ o with trail := o.trail + 1 } : Ord) with seen := o.seen + 1, last := x.str }
  | insert {o : Ord} {x : Sym} (hx : x = .bee ∨ x = .nought ∨ x = .slash ∨ x = .comma) (hov : o.over = false) (htr : o.trail ≤ 0) : Take o x { ({ o with ins := true } : Ord) with seen := o.seen + 1, last := x.str }
  | sign0 {o : Ord} {x : Sym} (hx : x = .plus ∨ x = .minus) (hov : o.over = false) (hse : o.seen = 0) (hpt : (o.point != Str.ofString "") = false) : Take o x { ({ o with sign := x.str, floats := o.floats + (1 - 1) } : Ord) with seen := o.seen + 1, last := x.str }
  | sign1 {o : Ord} {x : Sym} (hx : x = .plus ∨ x = .minus) (hov : o.over = false) (hse : 0 < o.seen) (hsg : (o.sign == x.str) = true) (hmo : (o.money == Str.ofString "") = true) (hn0 : o.nines = 0) (hz0 : o.zeros = 0) (ht0 : o.trail = 0) (hpt : (o.point != Str.ofString "") = false) : Take o x { ({ o with floats := o.floats + 1 } : Ord) with seen := o.seen + 1, last := x.str }
  | sign2 {o : Ord} {x : Sym} (hx : x = .plus ∨ x = .minus) (hov : o.over = false) (hse : 0 < o.seen) (hsg : (o.sign == x.str) = true) (hmo : (o.money == Str.ofString "") = true) (hn0 : o.nines = 0) (hz0 : o.zeros = 0) (ht0 : o.trail = 0) (hpt : (o.point != Str.ofString "") = true) : Take o x { ({ o with floats := o.floats + 1, behind := o.behind + 1, late := true } : Ord) with seen := o.seen + 1, last := x.str }
  | sign3 {o : Ord} {x : Sym} (hx : x = .plus ∨ x = .minus) (hov : o.over = false) (hse : 0 < o.seen) (hsg : (o.sign == x.str) = false) (hsi : (o.sign != Str.ofString "") = false) (hdg : 0 < o.nines + o.zeros + o.floats) : Take o x { ({ o with sign := x.str, over := true } : Ord) with seen := o.seen + 1, last := x.str }
  | money0 {o : Ord} {x : Sym} (hx : x = .dollar) (hov : o.over = false) (hmo : (o.money == Str.ofString "") = true) (hse : o.seen = 0) (hpt : (o.point != Str.ofString "") = false) : Take o x { ({ o with money := x.str, floats := o.floats + (1 - 1) } : Ord) with seen := o.seen + 1, last := x.str }
  | money3 {o : Ord} {x : Sym} (hx : x = .dollar) (hov : o.over = false) (hmo : (o.money == Str.ofString "") = true) (hse : o.seen = 1) (hsi : (o.sign == Str.ofString "") = false) (hfl : o.floats ≤ 0) (hpt : (o.point != Str.ofString "") = false) : Take o x { ({ o with money := x.str, floats := o.floats + (1 - 1) } : Ord) with seen := o.seen + 1, last := x.str }
  | money1 {o : Ord} {x : Sym} (hx : x = .dollar) (hov : o.over = false) (hmo : (o.money == Str.ofString "") = false) (hn0 : o.nines = 0) (hz0 : o.zeros = 0) (ht0 : o.trail = 0) (hpt : (o.point != Str.ofString "") = false) : Take o x { ({ o with floats := o.floats + 1 } : Ord) with seen := o.seen + 1, last := x.str }
  | money2 {o : Ord} {x : Sym} (hx : x = .dollar) (hov : o.over = false) (hmo : (o.money == Str.ofString "") = false) (hn0 : o.nines = 0) (hz0 : o.zeros = 0) (ht0 : o.trail = 0) (hpt : (o.point != Str.ofString "") = true) : Take o x { ({ o with floats := o.floats + 1, behind := o.behind + 1, late := true } : Ord) with seen := o.seen + 1, last := x.str }
  | fin {o : Ord} {x : Sym} (hx : x = .cr ∨ x = .db) (hov : o.over = false) (hdg : 0 < o.nines + o.zeros + o.floats) (hsi : (o.sign != Str.ofString "") = false) : Take o x { ({ o with sign := x.str, over := true } : Ord) with seen := o.seen + 1, last := x.str }
theorem take_tel {w : World} {oa od na nd : Addr} {nb : Obj} {R : Led} {o o' : Ord} {x : Sym} (hT : Take o x o') (hn : SignAt w x.str nb) (hap : Apart4 oa od na nd R) {ob : Obj} (ho : OrdAt w o ob) :
   Tel w 280 6 [.ref oa, .ref na] ((oa, instObj 297 od) :: (od, ob) :: (na, instObj 140 nd) :: (nd, nb) :: R) (OrdOut w oa od na nd nb R o') := by
  cases hT
  case nine0 hx hov htr hlt hpt =>
    have hM : Meth w 210 oa od na nd nb R o _ := nine0_tel w oa od na nd nb R o _ hn hap htr hlt hpt
    subst hx
    all_goals exact take_nine w oa od na nd nb R o _ _ hn hap hov (by decide +kernel) (by decide +kernel) hM ob ho
  case nine1 hx hov htr hlt hpt =>
    have hM : Meth w 210 oa od na nd nb R o _ := nine1_tel w oa od na nd nb R o _ hn hap htr hlt hpt
    subst hx
    all_goals exact take_nine w oa od na nd nb R o _ _ hn hap hov (by decide +kernel) (by decide +kernel) hM ob ho
  case zero0 hx hov htr hni hfl hze hpt =>
    have hM : Meth w 217 oa od na nd nb R o _ := zero0_tel w oa od na nd nb R o _ hn hap htr hni hfl hze hpt
    rcases hx with rfl | rfl
    all_goals exact take_zero w oa od na nd nb R o _ _ hn hap hov (by decide +kernel) (by decide +kernel) (by decide +kernel) hM ob ho
  case zero1 hx hov htr hni hfl hze hpt =>
    have hM : Meth w 217 oa od na nd nb R o _ := zero1_tel w oa od na nd nb R o _ hn hap htr hni hfl hze hpt
    rcases hx with rfl | rfl
    all_goals exact take_zero w oa od na nd nb R o _ _ hn hap hov (by decide +kernel) (by decide +kernel) (by decide +kernel) hM ob ho
  case point hx hov htr hpt =>
    have hM : Meth w 224 oa od na nd nb R o _ := point_tel w oa od na nd nb R o _ hn hap htr hpt
    rcases hx with rfl | rfl
    all_goals exact take_point w oa od na nd nb R o _ _ hn hap hov (by decide +kernel) (by decide +kernel) (by decide +kernel) (by decide +kernel) hM ob ho
  case scale hx hov hdg hpt =>
    have hM : Meth w 231 oa od na nd nb R o _ := scale_tel w oa od na nd nb R o _ hn hap hdg hpt
    subst hx
    all_goals exact take_scale w oa od na nd nb R o _ _ hn hap hov (by decide +kernel) (by decide +kernel) (by decide +kernel) (by decide +kernel) (by decide +kernel) hM ob ho
  case insert hx hov htr =>
    have hM : Meth w 238 oa od na nd nb R o _ := insert_tel w oa od na nd nb R o _ hn hap htr
    rcases hx with rfl | rfl | rfl | rfl
    all_goals exact take_ins w oa od na nd nb R o _ _ hn hap hov (by decide +kernel) (by decide +kernel) (by decide +kernel) (by decide +kernel) (by decide +kernel) (by decide +kernel) (by decide +kernel) (by decide +kernel) hM ob ho
  case sign0 hx hov hse hpt =>
    have hM : Meth w 259 oa od na nd nb R o _ := sign0_tel w oa od na nd nb R o _ hn hap hse hpt
    rcases hx with rfl | rfl
    all_goals exact take_sign w oa od na nd nb R o _ _ hn hap hov (by decide +kernel) (by decide +kernel) (by decide +kernel) (by decide +kernel) (by decide +kernel) (by decide +kernel) hM ob ho
  case sign1 hx hov hse hsg hmo hn0 hz0 ht0 hpt =>
    have hM : Meth w 259 oa od na nd nb R o _ := sign1_tel w oa od na nd nb R o _ hn hap hse hsg hmo hn0 hz0 ht0 hpt
    rcases hx with rfl | rfl
    all_goals exact take_sign w oa od na nd nb R o _ _ hn hap hov (by decide +kernel) (by decide +kernel) (by decide +kernel) (by decide +kernel) (by decide +kernel) (by decide +kernel) hM ob ho
  case sign2 hx hov hse hsg hmo hn0 hz0 ht0 hpt =>
    have hM : Meth w 259 oa od na nd nb R o _ := sign2_tel w oa od na nd nb R o _ hn hap hse hsg hmo hn0 hz0 ht0 hpt
    rcases hx with rfl | rfl
    all_goals exact take_sign w oa od na nd nb R o _ _ hn hap hov (by decide +kernel) (by decide +kernel) (by decide +kernel) (by decide +kernel) (by decide +kernel) (by decide +kernel) hM ob ho
  case sign3 hx hov hse hsg hsi hdg =>
    have hM : Meth w 259 oa od na nd nb R o _ := sign3_tel w oa od na nd nb R o _ hn hap hse hsg hsi hdg
    rcases hx with rfl | rfl
    all_goals exact take_sign w oa od na nd nb R o _ _ hn hap hov (by decide +kernel) (by decide +kernel) (by decide +kernel) (by decide +kernel) (by decide +kernel) (by decide +kernel) hM ob ho
  case money0 hx hov hmo hse hpt =>
    have hM : Meth w 266 oa od na nd nb R o _ := money0_tel w oa od na nd nb R o _ hn hap hmo hse hpt
    subst hx
    all_goals exact take_money w oa od na nd nb R o _ _ hn hap hov (by decide +kernel) (by decide +kernel) (by decide +kernel) (by decide +kernel) (by decide +kernel) (by decide +kernel) (by decide +kernel) hM ob ho
  case money3 hx hov hmo hse hsi hfl hpt =>
    have hM : Meth w 266 oa od na nd nb R o _ := money3_tel w oa od na nd nb R o _ hn hap hmo hse hsi hfl hpt
    subst hx
    all_goals exact take_money w oa od na nd nb R o _ _ hn hap hov (by decide +kernel) (by decide +kernel) (by decide +kernel) (by decide +kernel) (by decide +kernel) (by decide +kernel) (by decide +kernel) hM ob ho
  case money1 hx hov hmo hn0 hz0 ht0 hpt =>
    have hM : Meth w 266 oa od na nd nb R o _ := money1_tel w oa od na nd nb R o _ hn hap hmo hn0 hz0 ht0 hpt
    subst hx
    all_goals exact take_money w oa od na nd nb R o _ _ hn hap hov (by decide +kernel) (by decide +kernel) (by decide +kernel) (by decide +kernel) (by decide +kernel) (by decide +kernel) (by decide +kernel) hM ob ho
  case money2 hx hov hmo hn0 hz0 ht0 hpt =>
    have hM : Meth w 266 oa od na nd nb R o _ := money2_tel w oa od na nd nb R o _ hn hap hmo hn0 hz0 ht0 hpt
    subst hx
    all_goals exact take_money w oa od na nd nb R o _ _ hn hap hov (by decide +kernel) (by decide +kernel) (by decide +kernel) (by decide +kernel) (by decide +kernel) (by decide +kernel) (by decide +kernel) hM ob ho
  case fin hx hov hdg hsi =>
    have hM : Meth w 273 oa od na nd nb R o _ := end_tel w oa od na nd nb R o _ hn hap hdg hsi
    rcases hx with rfl | rfl
    all_goals exact take_end w oa od na nd nb R o _ _ hn hap hov (by decide +kernel) (by decide +kernel) (by decide +kernel) (by decide +kernel) (by decide +kernel) (by decide +kernel) (by decide +kernel) (by decide +kernel) hM ob ho
end
theorem reset_T6 : True := by
  (w_top off)
  k_with_none
  first | walk1 | trivial
section
open PySem PySem.W PyProof.Rows PySem.Spec PySem.Calls
theorem rows_T6_1 : True := by
  k_with "MyPost" => (with_unfolding_all first | refine MyPost.next ?_ | refine MyPost.cont ?_ | refine MyPost.brk ?_ | refine MyPost.ret ?_)
  k_with "MyPostT" => (with_unfolding_all refine MyPostT.next ?_)
  k_with "exec For Name Name cons nil" => ((k_here; (rename Fr _ _ _ _ => lFq_rw); (with_unfolding_all refine' For_invVF lFq_rw (by exact rfl) (by exact rfl) ?_; k_whole)))
  k_with "pyIter str" => ((k_here; refine Halt.out ?_))
  k_with "pyIter ref" => ((k_here; refine Halt.out ?_))
  k_with "m_in" => (first | assumption | exact List.mem_append_left _ (by assumption) | exact List.mem_append_right _ (by assumption) | (refine List.mem_cons_of_mem _ ?_; walk_at "m_in"))
  k_with "m_sub" => (first | exact (fun _ h => h) | exact List.forall_mem_nil _ | (refine List.forall_mem_cons.mpr ⟨by k_mem, ?_⟩; walk_at "m_sub") | (intro p9_rw hp9_rw; walk_at "m_in"))
  k_with "m_map" => (first | exact off_sto (by walk_at "m_sub") | (refine off_step (by k_mem) ?_; walk_at "m_map"))
  k_with "getMethod ref" => ((k_here; (with_reducible show wpAny _ _ (getMethod (Value.ref _) (PySem.Str.ofString "count") _) _ _ _); k_dflt (refine' kf_method (by k_asm) (by k_mem) PySem.F.slot_list_count PySem.F.type_list_count ?_)))
  k_with "call builtin:list.append" => ((k_here; (with_reducible show wpAny _ _ (call (Value.builtin _) [Value.ref _, _]) _ _ _); k_dflt (refine' append_L (by k_asm) (by k_asm) (by k_upd) (by first | assumption | (simp only [List.length_append, List.length_cons, List.length_nil]; omega)) ?_; k_whole); intro hq_rw Fq_rw Nq_rw; (try k_sweep)))
  k_with "compareOp In str ref" => ((k_here; (with_reducible show wpAny _ _ (compareOp CmpOp.In (Value.str _ _) (Value.ref _)) _ _ _); k_dflt (refine' in_list_strs (by exact News.isList (by k_asm) (by k_mem)) (by k_asm) ?_; k_whole)))
  k_with "ite" => ((k_here; (with_reducible show (if ((_ : Int) == _) = true then _ else _)); first | (refine ite_pos (by (simp only [beq_iff_eq]); omega) ?_) | (refine ite_neg (by (simp only [beq_iff_eq]); omega) ?_)))
  k_with "WPost" => (with_unfolding_all refine WPost.next ?_)
  k_with "m_map" => (with_reducible exact fun _ _ => rfl)
  k_with "callWith" => ((k_here; (with_reducible show wpAny _ _ (callWith _ (Prod.fst _) (Prod.snd _) _ _) _ _ _); dsimp only; (with_reducible refine' callWith_method1 ?_ (by exact rfl) (by exact rfl))))
  k_with "t_at" => ((k_here; (with_reducible show wpAny _ _ (subscriptTail _ _ (Value.ref _) (Value.int _ _)) _ _ _); k_dflt (refine' tup_at (by k_asm) (by k_mem) (by omega) (by (simp only [List.length_cons, List.length_nil]; omega)) (by (simp only [List.length_cons, List.length_nil]; omega)) ?_); intro vq_rw hvq_rw))
  k_with "subscriptTail Tuple cons Call ref int" => (walk_at "t_at")
  k_with "subscriptTail Tuple cons BinOp ref int" => (walk_at "t_at")
  k_with "subscriptTail Tuple cons Name ref int" => (walk_at "t_at")
  k_with "execs cons" => ((k_here; (try dsimp only); (try (with_reducible refine gen_toks ?_; intro tkg_rw)); (with_reducible refine wpAny_execs_cons ?_); (try dsimp only); k_fold))
  k_with "compareOp NotEq ref ref" => ((k_here; (with_reducible show wpAny _ _ (compareOp CmpOp.NotEq (Value.ref _) (Value.ref _)) _ _ _); k_dflt (first | (refine ne_nil_nil (by k_asm) (by k_mem) (by k_mem) (by units_room) ?_) | (refine ne_nil_pairs (by k_asm) (by k_mem) (by k_mem) (by first | assumption | exact PairsAre.mono (by assumption) (by walk_at "m_sub")) (by assumption) (by units_room) ?_))))
  k_with "setItem ref int ref" => ((k_here; (with_reducible show wpAny _ _ (setItem (Value.ref _) (Value.int _ _) _) _ _ _); k_dflt (refine' last_set (by k_asm) (by k_asm) (by k_upd) ?_); intro hq_rw Fq_rw Nq_rw; (try k_sweep)))
  k_with "subscriptTail Name UnaryOp ref int" => ((k_here; (with_reducible show wpAny _ _ (subscriptTail _ _ (Value.ref _) (Value.int _ _)) _ _ _); k_dflt (refine last_get (by k_asm) (by k_mem) ?_)))
  k_with "subscriptTail Subscript Name UnaryOp Constant ref int" => ((k_here; first | ((with_reducible show wpAny _ _ (subscriptTail _ _ (Value.ref _) (Value.int 0 _)) _ _ _); k_dflt (refine tup_get0 (by k_asm) (by k_mem) ?_)) | ((with_reducible show wpAny _ _ (subscriptTail _ _ (Value.ref _) (Value.int 1 _)) _ _ _); k_dflt (refine tup_get1 (by k_asm) (by k_mem) ?_))))
  trivial
inductive SymsOut (sa : Addr) (vs : List Value) (n1 : Nat) (xs : List Sym) (R : Led) (r : Value) (news' : Led) : Prop
  | intro (fa : Addr) (fvs : List Value) (n : Nat) (own : Led) (hr : r = .ref fa) (hp : PairsAre own fvs (rleS xs)) (hn : news' = ((fa, listOf fvs.toArray n) :: (sa, listOf vs.toArray n1) :: (own ++ R))) (hl : AllLt fa ((sa, listOf vs.toArray n1) :: R)) (ho : ∀ p ∈ own, p.1 ≠ fa) (hw : ∀ p ∈ own, AllLt p.1 ((sa, listOf vs.toArray n1) :: R)) : SymsOut sa vs n1 xs R r news'
inductive SymsJ (fa sa : Addr) (vs : List Value) (n1 : Nat) (xs : List Sym) (R : Led) (nw : Led) : Prop
  | intro (fvs : List Value) (n : Nat) (own : Led) (hn : nw = ((fa, listOf fvs.toArray n) :: (own ++ R))) (hp : PairsAre own fvs (rleS xs)) (ho : ∀ p ∈ own, p.1 ≠ fa) (hw : ∀ p ∈ own, AllLt p.1 ((sa, listOf vs.toArray n1) :: R)) : SymsJ fa sa vs n1 xs R nw
theorem symbols_tel (w : World) (sa : Addr) (vs : List Value) (xs : List Sym) (n1 : Nat) (R : Led)
   (hi : SignsAre w R vs xs) (hL : xs.length ≤ 63) :
   Tel w 170 12 [.ref sa] ((sa, listOf vs.toArray n1) :: R) (SymsOut sa vs n1 xs R) := by
  unfold Tel
  intro p loose mean mg mb dp un gd cn cs a ccd cl outer A₀ base h₀ L m s Q E hR B F X N T hk hd hu hret
  revert hR; k_fill; intro hR
  refine wpAny_call ?_
  k_dflt ktr_enter
  k_steps
  unfold Halt
  rename Fr _ _ _ _ => F9
  rename News _ _ _ _ => N9
  rename _ ∧ AllLt _ _ => hl9
  refine news_open N9 fun fa efa => ?_
  rw [efa] at F9 N9 hl9
  obtain ⟨q1, q2⟩ := hl9
  have hyl := hi.length
  refine iter_listX [] (fun i => SymsJ fa sa vs n1 (xs.take i) R) rfl F9 N9 (by k_mem) (by walk_at "m_sub") ⟨_, _, [], rfl, .nil, (fun _ h => nomatch h), fun _ h => nomatch h⟩ ?_ ?_
  · rintro i v us news₁ h tk I it hv hJ9a F8 N8 hne off
    refine fold_goal fun G9 hG9 => ?_
    obtain ⟨fvs, n, own, rfl, hfv, hown, hnew⟩ := hJ9a
    refine hG9 ?_
    clear hG9
    clear F9 N9
    refine fold_goal fun G9 hG9 => ?_
    obtain ⟨x, hx, na, nd, nb, rfl, hm1, hm2, hnb⟩ := hi.item hv
    refine hG9 ?_
    clear hG9
    refine fold_goal fun G9 hG9 => ?_
    obtain ⟨j0, j1, j2, u0, u1, u2, at9, rfl⟩ := hnb
    refine hG9 ?_
    clear hG9
    unfold signDict at hm2
    have hm1' := List.mem_append_right own hm1
    have hm2' := List.mem_append_right own hm2
    have hfz : fvs.length ≤ 1000 := by
      have h1 := hfv.length
      have h2 := rleS_length (xs.take i)
      have h3 := List.length_take (i := i) (l := xs)
      omega
    have hneF : @Ne Nat fa I := off _ (List.Mem.head _)
    have hT : ∀ p ∈ own ++ R, p.1 ≠ fa := fun p hp => (List.mem_append.mp hp).elim (hown p) (allLt_ne q2 p)
    have hTI : ∀ p ∈ own ++ R, p.1 ≠ I := fun p hp => off p (List.mem_cons_of_mem _ hp)
    rcases List.eq_nil_or_concat (rleS (xs.take i)) with he | ⟨pi, ⟨y, c⟩, he⟩
    · rw [he] at hfv
      cases hfv
      clear hm1 hm2
      generalize hTe : own ++ R = T9 at *
      k_steps
      subst hTe
      unfold Halt
      rename News _ _ _ _ => N5
      refine news_open N5 fun D5 eD5 => ?_
      replace eD5 := eD5.symm
      subst eD5
      refine MyEnd.ofX ((fa, _) :: (D5, _) :: (own ++ R)) (by k_asm) (by k_asm) (by walk_at "m_sub") (by walk_at "m_sub") ?_ (by walk_at "m_map") ⟨_, _, (D5, tupOf (.str x.str u0) (.int 1 u1) 0) :: own, rfl, ?_, ?_, ?_⟩
      · exact List.forall_mem_cons.mpr ⟨hneF, List.forall_mem_cons.mpr ⟨by k_ne, hTI⟩⟩
      · rw [rleS_take hx, he]
        exact .cons ⟨D5, _, _, _, rfl, List.mem_cons_self⟩ .nil
      · exact List.forall_mem_cons.mpr ⟨by k_ne, hown⟩
      · exact List.forall_mem_cons.mpr ⟨⟨by (refine ltN ?_; omega), allLt_right (a := own) (by assumption : _ ∧ _ ∧ _ ∧ _ ∧ AllLt D5 (own ++ R)).2.2.2.2⟩, hnew⟩
    · rw [List.concat_eq_append] at he
      have hfv0 := hfv
      rw [he] at hfv0
      refine fold_goal fun G9 hG9 => ?_
      obtain ⟨ws, v, rfl, hws, t, kk, tx, tc, rfl, hmt⟩ := hfv0.snoc_inv
      refine hG9 ?_
      clear hG9
      have hmt' := List.mem_append_left R hmt
      have hne2 : rleS (xs.take i) ≠ [] := by rw [he]; simp
      have hfv1 := hfv.mono (R' := own ++ R) fun q hq => List.mem_append_left _ hq
      clear hm1 hm2
      generalize hTe : own ++ R = T9 at *
      k_steps
      · rename (_ == _) = true => hb1
        have hyx : y = x := symStr_inj (eq_of_beq hb1)
        subst hyx
        subst hTe
        unfold Halt
        rename News _ _ _ _ => N5
        refine news_open N5 fun D5 eD5 => ?_
        replace eD5 := eD5.symm
        subst eD5
        refine MyEnd.ofX ((fa, _) :: (D5, _) :: (own ++ R)) (by k_asm) (by k_asm) (by walk_at "m_sub") (by walk_at "m_sub") ?_ (by walk_at "m_map") ⟨_, _, (D5, tupOf (.str y.str u0) (.int (c + 1) _) 0) :: own, rfl, ?_, ?_, ?_⟩
        · exact List.forall_mem_cons.mpr ⟨hneF, List.forall_mem_cons.mpr ⟨by k_ne, hTI⟩⟩
        · rw [rleS_take hx, he, symStep_same]
          exact (hws.mono fun q hq => List.mem_cons_of_mem _ hq).append (.cons ⟨D5, _, _, _, rfl, List.mem_cons_self⟩ .nil)
        · exact List.forall_mem_cons.mpr ⟨by k_ne, hown⟩
        · exact List.forall_mem_cons.mpr ⟨⟨by (refine ltN ?_; omega), allLt_right (a := own) (by assumption : _ ∧ _ ∧ _ ∧ _ ∧ AllLt D5 (own ++ R)).2.2.2.2⟩, hnew⟩
      · rename (_ == _) = false => hb1
        have hyx : y ≠ x := fun e => by rw [e] at hb1; simp at hb1
        subst hTe
        unfold Halt
        rename News _ _ _ _ => N5
        refine news_open N5 fun D5 eD5 => ?_
        replace eD5 := eD5.symm
        subst eD5
        refine MyEnd.ofX ((fa, _) :: (D5, _) :: (own ++ R)) (by k_asm) (by k_asm) (by walk_at "m_sub") (by walk_at "m_sub") ?_ (by walk_at "m_map") ⟨_, _, (D5, tupOf (.str x.str u0) (.int 1 u1) 0) :: own, rfl, ?_, ?_, ?_⟩
        · exact List.forall_mem_cons.mpr ⟨hneF, List.forall_mem_cons.mpr ⟨by k_ne, hTI⟩⟩
        · rw [rleS_take hx, he, symStep_other _ _ _ _ hyx, ← he]
          exact (hfv.mono fun q hq => List.mem_cons_of_mem _ hq).append (.cons ⟨D5, _, _, _, rfl, List.mem_cons_self⟩ .nil)
        · exact List.forall_mem_cons.mpr ⟨by k_ne, hown⟩
        · exact List.forall_mem_cons.mpr ⟨⟨by (refine ltN ?_; omega), allLt_right (a := own) (by assumption : _ ∧ _ ∧ _ ∧ _ ∧ AllLt D5 (own ++ R)).2.2.2.2⟩, hnew⟩
  · rintro us news₁ h tk hJ9a F8 N8
    refine fold_goal fun G9 hG9 => ?_
    obtain ⟨fvs, n, own, rfl, hfv, hown, hnew⟩ := hJ9a
    refine hG9 ?_
    clear hG9
    clear F9 N9
    rw [hyl, List.take_length] at hfv
    k_steps
    rename News h₀ L _ _ => N5
    exact hret _ ((fa, listOf fvs.toArray n) :: (sa, listOf vs.toArray n1) :: (own ++ R)) _ _ ⟨fa, fvs, n, own, rfl, hfv, rfl, ⟨q1, q2⟩, hown, hnew⟩ (by k_asm) (news_sub N5 (by walk_at "m_sub"))
end
theorem reset_T7 : True := by
  (w_top off)
  k_with_none
  first | walk1 | trivial
section
open PySem PySem.W PyProof.Rows PySem.Spec PySem.Calls
theorem rows_T7_1 : True := by
  k_with "MyPost" => (with_unfolding_all first | refine MyPost.next ?_ | refine MyPost.cont ?_ | refine MyPost.brk ?_ | refine MyPost.ret ?_)
  k_with "MyPostT" => (with_unfolding_all refine MyPostT.next ?_)
  k_with "exec For Name Name cons nil" => ((k_here; (rename Fr _ _ _ _ => lFq_rw); (with_unfolding_all refine' For_invVF lFq_rw (by exact rfl) (by exact rfl) ?_; k_whole)))
  k_with "pyIter str" => ((k_here; refine Halt.out ?_))
  k_with "pyIter ref" => ((k_here; refine Halt.out ?_))
  k_with "m_in" => (first | assumption | exact List.mem_append_left _ (by assumption) | exact List.mem_append_right _ (by assumption) | (refine List.mem_cons_of_mem _ ?_; walk_at "m_in"))
  k_with "m_sub" => (first | exact (fun _ h => h) | exact List.forall_mem_nil _ | (refine List.forall_mem_cons.mpr ⟨by k_mem, ?_⟩; walk_at "m_sub") | (intro p9_rw hp9_rw; walk_at "m_in"))
  k_with "m_map" => (first | exact off_sto (by walk_at "m_sub") | (refine off_step (by k_mem) ?_; walk_at "m_map"))
  k_with "getMethod ref" => ((k_here; (with_reducible show wpAny _ _ (getMethod (Value.ref _) (PySem.Str.ofString "count") _) _ _ _); k_dflt (refine' kf_method (by k_asm) (by k_mem) PySem.F.slot_list_count PySem.F.type_list_count ?_)))
  k_with "call builtin:list.append" => ((k_here; (with_reducible show wpAny _ _ (call (Value.builtin _) [Value.ref _, _]) _ _ _); k_dflt (refine' append_L (by k_asm) (by k_asm) (by k_upd) (by first | assumption | (simp only [List.length_append, List.length_cons, List.length_nil]; omega)) ?_; k_whole); intro hq_rw Fq_rw Nq_rw; (try k_sweep)))
  k_with "compareOp In str ref" => ((k_here; (with_reducible show wpAny _ _ (compareOp CmpOp.In (Value.str _ _) (Value.ref _)) _ _ _); k_dflt (refine' in_list_strs (by exact News.isList (by k_asm) (by k_mem)) (by k_asm) ?_; k_whole)))
  k_with "ite" => ((k_here; (with_reducible show (if ((_ : Int) == _) = true then _ else _)); first | (refine ite_pos (by (simp only [beq_iff_eq]); omega) ?_) | (refine ite_neg (by (simp only [beq_iff_eq]); omega) ?_)))
  k_with "WPost" => (with_unfolding_all refine WPost.next ?_)
  k_with "m_map" => (with_reducible exact fun _ _ => rfl)
  k_with "callWith" => ((k_here; (with_reducible show wpAny _ _ (callWith _ (Prod.fst _) (Prod.snd _) _ _) _ _ _); dsimp only; (with_reducible refine' callWith_method1 ?_ (by exact rfl) (by exact rfl))))
  k_with "t_at" => ((k_here; (with_reducible show wpAny _ _ (subscriptTail _ _ (Value.ref _) (Value.int _ _)) _ _ _); k_dflt (refine' tup_at (by k_asm) (by k_mem) (by omega) (by (simp only [List.length_cons, List.length_nil]; omega)) (by (simp only [List.length_cons, List.length_nil]; omega)) ?_); intro vq_rw hvq_rw))
  k_with "subscriptTail Tuple cons Call ref int" => (walk_at "t_at")
  k_with "subscriptTail Tuple cons BinOp ref int" => (walk_at "t_at")
  k_with "subscriptTail Tuple cons Name ref int" => (walk_at "t_at")
  k_with "execs cons" => ((k_here; (try dsimp only); (try (with_reducible refine gen_toks ?_; intro tkg_rw)); (with_reducible refine wpAny_execs_cons ?_); (try dsimp only); k_fold))
  k_with "eval ListComp" => ((k_here; k_dflt (refine ListComp_at (by k_asm) (by with_unfolding_all rfl) (by decide) (by rfl) (by decide) ?_)))
  k_with "compareOp NotIn str ref" => ((k_here; (with_reducible show wpAny _ _ (compareOp CmpOp.NotIn (Value.str _ _) (Value.ref _)) _ _ _); (with_unfolding_all refine' notin_list_strs (by exact News.isList (by k_asm) (by k_mem)) (by kde_strs) ?_; k_whole)))
  k_with "call builtin:len" => ((k_here; (with_reducible show wpAny _ _ (call (Value.builtin "len") [Value.str (Sym.str _) _]) _ _ _); k_dflt (refine len_sym ?_)))
  k_with "binaryOp Mult int int" => ((k_here; (with_reducible show wpAny _ _ (binaryOp Operator.Mult (Value.int _ _) (Value.int (Sym.len _) _)) _ _ _); k_dflt (refine mul_len ?_)))
  k_with "call builtin:sum" => ((k_here; (with_reducible show wpAny _ _ (call (Value.builtin "sum") [Value.ref _]) _ _ _); (with_unfolding_all refine' sumK (by with_unfolding_all rfl) (by k_asm) (by k_asm) (by exact ⟨_, (News.get (by k_asm) (by k_mem)), rfl, _, rfl⟩) (by k_asm) ?_; k_whole); intro hq_rw tkq_rw tq_rw Fq_rw Nq_rw))
  trivial
theorem size_tel (w : World) (ya : Addr) (ys : List Value) (ps : List (Sym × Int)) (n1 : Nat) (R : Led)
   (hi : PairsAre R ys ps) (hL : ps.length ≤ 63) :
   Tel w 175 12 [.ref ya] ((ya, listOf ys.toArray n1) :: R) fun r news' => (∃ t, r = .int (sizeL ps).sum t) ∧ news' = ((ya, listOf ys.toArray n1) :: R) := by
  unfold Tel
  intro p loose mean mg mb dp un gd cn cs a ccd cl outer A₀ base h₀ L m s Q E hR B F X N T hk hd hu hret
  revert hR; k_fill; intro hR
  refine wpAny_call ?_
  k_dflt ktr_enter
  k_steps
  unfold Halt
  rename Fr _ _ _ _ => F9
  rename News _ _ _ _ => N9
  refine comp_pairL (own := R) (news₀ := []) (fun i vs nw => nw = [] ∧ IntsAre vs (sizeL (ps.take i))) _ rfl rfl rfl rfl (by decide) F9 N9 (by k_mem) (fun p hp => List.mem_cons_of_mem _ (by rwa [List.append_nil] at hp)) hi.val (Nat.le_trans (Nat.le_of_eq hi.length) (Nat.le_trans hL (by decide))) ⟨rfl, .nil⟩ ?_ ?_ ?_
  · rintro i vs nw ⟨_, h⟩
    have h1 := h.length
    have h2 := sizeL_length (ps.take i)
    have h3 := List.length_take (i := i) (l := ps)
    omega
  · rintro g i v₁ v₂ hlt hJ9a ys' news₁ I oI C oC D m₂ h tk E' hJ9b hN hJ9c F8 N8 off hne
    refine fold_goal fun G9 hG9 => ?_
    obtain ⟨q, hq, tx, tc, rfl, rfl⟩ := hJ9a
    obtain ⟨rfl, hJ⟩ := hJ9b
    obtain ⟨b1, b2⟩ := hJ9c
    refine hG9 ?_
    clear hG9
    clear F9 N9
    rw [List.append_nil] at N8 off
    refine wpAny_tests_one ?_
    k_steps
    · rename List.any _ _ = true => hb1
      have hb1 := (nowhere_any _).symm.trans hb1
      unfold Halt
      refine CEnd.intro (news' := []) (by k_asm) (by k_asm) (by walk_at "m_sub") (List.forall_mem_nil _) trivial ⟨rfl, ?_⟩
      rw [take_succ_get hq, sizeL_snoc, if_pos hb1]; exact hJ
    · rename List.any _ _ = false => hb1
      have hb1 := (nowhere_any _).symm.trans hb1
      unfold Halt
      refine CEnd.intro (news' := []) (by k_asm) (by k_asm) (by walk_at "m_sub") (List.forall_mem_nil _) trivial ⟨rfl, ?_⟩
      rw [take_succ_get hq, sizeL_snoc, if_neg (by rw [hb1]; decide)]; exact ints_snoc hJ
  · rintro g ys' news₁ ⟨rfl, hJ⟩
    unfold FinC
    intro D h tk F8 N8 offD
    rw [hi.length, List.take_length] at hJ
    rw [List.append_nil] at N8
    clear F9 N9
    k_steps
    rename News h₀ L _ _ => N5
    exact hret _ ((ya, listOf ys.toArray n1) :: R) _ _ ⟨⟨_, rfl⟩, rfl⟩ (by k_asm) (news_tl N5)
end
theorem reset_T8 : True := by
  (w_top off)
  k_with_none
  first | walk1 | trivial
section
open PySem PySem.W PyProof.Rows PySem.Spec PySem.Calls
theorem rows_T8_1 : True := by
  k_with "MyPost" => (with_unfolding_all first | refine MyPost.next ?_ | refine MyPost.cont ?_ | refine MyPost.brk ?_ | refine MyPost.ret ?_)
  k_with "MyPostT" => (with_unfolding_all refine MyPostT.next ?_)
  k_with "exec For Name Name cons nil" => ((k_here; (rename Fr _ _ _ _ => lFq_rw); (with_unfolding_all refine' For_invVF lFq_rw (by exact rfl) (by exact rfl) ?_; k_whole)))
  k_with "pyIter str" => ((k_here; refine Halt.out ?_))
  k_with "pyIter ref" => ((k_here; refine Halt.out ?_))
  k_with "m_in" => (first | assumption | exact List.mem_append_left _ (by assumption) | exact List.mem_append_right _ (by assumption) | (refine List.mem_cons_of_mem _ ?_; walk_at "m_in"))
  k_with "m_sub" => (first | exact (fun _ h => h) | exact List.forall_mem_nil _ | (refine List.forall_mem_cons.mpr ⟨by k_mem, ?_⟩; walk_at "m_sub") | (intro p9_rw hp9_rw; walk_at "m_in"))
  k_with "m_map" => (first | exact off_sto (by walk_at "m_sub") | (refine off_step (by k_mem) ?_; walk_at "m_map"))
  k_with "getMethod ref" => ((k_here; (with_reducible show wpAny _ _ (getMethod (Value.ref _) (PySem.Str.ofString "count") _) _ _ _); k_dflt (refine' kf_method (by k_asm) (by k_mem) PySem.F.slot_list_count PySem.F.type_list_count ?_)))
  k_with "call builtin:list.append" => ((k_here; (with_reducible show wpAny _ _ (call (Value.builtin _) [Value.ref _, _]) _ _ _); k_dflt (refine' append_L (by k_asm) (by k_asm) (by k_upd) (by first | assumption | (simp only [List.length_append, List.length_cons, List.length_nil]; omega)) ?_; k_whole); intro hq_rw Fq_rw Nq_rw; (try k_sweep)))
  k_with "compareOp In str ref" => ((k_here; (with_reducible show wpAny _ _ (compareOp CmpOp.In (Value.str _ _) (Value.ref _)) _ _ _); k_dflt (refine' in_list_strs (by exact News.isList (by k_asm) (by k_mem)) (by k_asm) ?_; k_whole)))
  k_with "ite" => ((k_here; (with_reducible show (if ((_ : Int) == _) = true then _ else _)); first | (refine ite_pos (by (simp only [beq_iff_eq]); omega) ?_) | (refine ite_neg (by (simp only [beq_iff_eq]); omega) ?_)))
  k_with "WPost" => (with_unfolding_all refine WPost.next ?_)
  k_with "m_map" => (with_reducible exact fun _ _ => rfl)
  k_with "callWith" => ((k_here; (with_reducible show wpAny _ _ (callWith _ (Prod.fst _) (Prod.snd _) _ _) _ _ _); dsimp only; (with_reducible refine' callWith_method1 ?_ (by exact rfl) (by exact rfl))))
  k_with "t_at" => ((k_here; (with_reducible show wpAny _ _ (subscriptTail _ _ (Value.ref _) (Value.int _ _)) _ _ _); k_dflt (refine' tup_at (by k_asm) (by k_mem) (by omega) (by (simp only [List.length_cons, List.length_nil]; omega)) (by (simp only [List.length_cons, List.length_nil]; omega)) ?_); intro vq_rw hvq_rw))
  k_with "subscriptTail Tuple cons Call ref int" => (walk_at "t_at")
  k_with "subscriptTail Tuple cons BinOp ref int" => (walk_at "t_at")
  k_with "subscriptTail Tuple cons Name ref int" => (walk_at "t_at")
  k_with "execs cons" => ((k_here; (try dsimp only); (try (with_reducible refine gen_toks ?_; intro tkg_rw)); (with_reducible refine wpAny_execs_cons ?_); (try dsimp only); k_fold))
  k_with "og_tail" => (k_dflt ((case F => k_asm); (case N => k_asm); (case X => k_asm); (case a => k_mem); (case b => k_mem); (case ho => assumption)))
  k_with "getAttr ref" => ((k_here; (first | ((with_reducible first | apply og_seen | apply og_is_plain | apply og_point | apply og_lead | apply og_trail | apply og_nines | apply og_zero | apply og_zeros | apply og_floats | apply og_behind | apply og_is_late | apply og_money | apply og_last | apply og_is_over | apply og_is_inserted); walk_at "og_tail") | ((with_reducible apply og_sign); walk_at "og_tail") | ((with_reducible first | apply on_sign | apply on_count); walk_at "og_tail")); intros; (try dsimp only)))
  k_with "setAttr ref" => ((k_here; (with_reducible first | apply os_seen | apply os_point | apply os_trail | apply os_nines | apply os_zero | apply os_zeros | apply os_floats | apply os_behind | apply os_is_late | apply os_sign | apply os_money | apply os_last | apply os_is_over | apply os_is_inserted); k_dflt ((case F => k_asm); (case N => first | k_asm | exact news_tl (by k_asm) | exact news_tl (news_tl (by k_asm))); (case X => k_asm); (case ne => assumption); (case nr => assumption); (case ho => assumption)); intro obq_rw hq_rw kq_rw hoq_rw Fq_rw Nq_rw; (try dsimp only at hoq_rw); (try k_sweep)))
  k_with "getMethod ref" => ((k_here; (with_reducible first | apply om_digits | apply om_add_behind | apply om_take_nine | apply om_take_zero | apply om_take_point | apply om_take_scaling | apply om_take_inserted | apply om_float_on | apply om_may_float | apply om_take_sign | apply om_take_money | apply om_take_end | apply om_take | apply om_is_whole | apply om_scale); walk_at "og_tail"))
  k_with "callWith ref" => ((k_here; (with_reducible show wpAny _ _ (callWith _ (Prod.fst _) _ (backTo _ (starEach [] _)) []) _ _ _); dsimp only; k_dflt (refine' callWith_K0 (by k_in) (by k_is) ?_); k_whole))
  k_with "call ref" => ((k_here; (first | ((with_reducible show wpAny _ _ (call (Value.ref 196) _) _ _ _); k_dflt (refine' digits_use (by k_asm) (by k_asm) (by k_asm) (by first | k_asm | exact news_tl (by k_asm) | exact news_tl (news_tl (by k_asm))) (by k_asm) (by first | exact rfl | assumption) (by ktr_room) (by ktr_units) (by assumption) ?_)) | ((with_reducible show wpAny _ _ (call (Value.ref 203) _) _ _ _); k_dflt (refine' addb_use (by k_asm) (by k_asm) (by k_asm) (by first | k_asm | exact news_tl (by k_asm) | exact news_tl (news_tl (by k_asm))) (by k_asm) (by first | exact rfl | assumption) (by ktr_room) (by ktr_units) ?_ ?_ (by assumption) ?_)) | ((with_reducible show wpAny _ _ (call (Value.ref 252) _) _ _ _); k_dflt (refine' mayf_use (by k_asm) (by k_asm) (by k_asm) (by first | k_asm | exact news_tl (by k_asm) | exact news_tl (news_tl (by k_asm))) (by k_asm) (by first | exact rfl | assumption) (by ktr_room) (by ktr_units) (by assumption) ?_ ?_ ?_ ?_)) | ((with_reducible show wpAny _ _ (call (Value.ref 245) _) _ _ _); k_dflt (refine' float_use (by k_asm) (by k_asm) (by k_asm) (by first | k_asm | exact news_tl (by k_asm) | exact news_tl (news_tl (by k_asm))) (by k_asm) (by first | exact rfl | assumption) (by ktr_room) (by ktr_units) ?_ ?_ (by assumption) ?_))); k_dflt (skip); (all_goals first | assumption | skip); (try intros); (try dsimp only)))
  trivial
theorem scale_tel' (w : World) (oa od : Addr) (ob : Obj) (o : Ord) (R : Led) (hob : OrdAt w o ob) :
   Tel w 294 4 [.ref oa] ((oa, instObj 297 od) :: (od, ob) :: R) fun r news' => (∃ x t, r = .int x t) ∧ news' = (oa, instObj 297 od) :: (od, ob) :: R := by
  unfold Tel
  intro p loose mean mg mb dp un gd cn cs a ccd cl outer A₀ base h₀ L m s Q E hR B F X N T hk hd hu hret
  revert hR; k_fill; intro hR
  refine wpAny_call ?_
  k_dflt ktr_enter
  k_steps
  exact hret _ _ _ _ ⟨⟨_, _, rfl⟩, rfl⟩ (by k_asm) (by k_asm)
theorem whole_tel (w : World) (oa od : Addr) (ob : Obj) (o : Ord) (R : Led) (hob : OrdAt w o ob) (hdg : 0 < o.nines + o.zeros + o.floats) (hls : ([Str.ofString ",", Str.ofString "."].any fun x => x == o.last) = false) (hmo : o.nines + o.zeros + o.floats + o.trail ≤ 18) :
   Tel w 287 4 [.ref oa] ((oa, instObj 297 od) :: (od, ob) :: R) fun r news' => r = .bool true ∧ news' = (oa, instObj 297 od) :: (od, ob) :: R := by
  unfold Tel
  intro p loose mean mg mb dp un gd cn cs a ccd cl outer A₀ base h₀ L m s Q E hR B F X N T hk hd hu hret
  revert hR; k_fill; intro hR
  refine wpAny_call ?_
  k_dflt ktr_enter
  k_steps
  exact hret _ _ _ _ ⟨congrArg Value.bool (decide_eq_true (by omega)), rfl⟩ (by k_asm) (by k_asm)
end
theorem reset_T9 : True := by
  (w_top off)
  k_with_none
  first | walk1 | trivial
section
open PySem PySem.W PyProof.Rows PySem.Spec PySem.Calls
theorem rows_T9_1 : True := by
  k_with "MyPost" => (with_unfolding_all first | refine MyPost.next ?_ | refine MyPost.cont ?_ | refine MyPost.brk ?_ | refine MyPost.ret ?_)
  k_with "MyPostT" => (with_unfolding_all refine MyPostT.next ?_)
  k_with "exec For Name Name cons nil" => ((k_here; (rename Fr _ _ _ _ => lFq_rw); (with_unfolding_all refine' For_invVF lFq_rw (by exact rfl) (by exact rfl) ?_; k_whole)))
  k_with "pyIter str" => ((k_here; refine Halt.out ?_))
  k_with "pyIter ref" => ((k_here; refine Halt.out ?_))
  k_with "m_in" => (first | assumption | exact List.mem_append_left _ (by assumption) | exact List.mem_append_right _ (by assumption) | (refine List.mem_cons_of_mem _ ?_; walk_at "m_in"))
  k_with "m_sub" => (first | exact (fun _ h => h) | exact List.forall_mem_nil _ | (refine List.forall_mem_cons.mpr ⟨by k_mem, ?_⟩; walk_at "m_sub") | (intro p9_rw hp9_rw; walk_at "m_in"))
  k_with "m_map" => (first | exact off_sto (by walk_at "m_sub") | (refine off_step (by k_mem) ?_; walk_at "m_map"))
  k_with "getMethod ref" => ((k_here; (with_reducible show wpAny _ _ (getMethod (Value.ref _) (PySem.Str.ofString "count") _) _ _ _); k_dflt (refine' kf_method (by k_asm) (by k_mem) PySem.F.slot_list_count PySem.F.type_list_count ?_)))
  k_with "call builtin:list.append" => ((k_here; (with_reducible show wpAny _ _ (call (Value.builtin _) [Value.ref _, _]) _ _ _); k_dflt (refine' append_L (by k_asm) (by k_asm) (by k_upd) (by first | assumption | (simp only [List.length_append, List.length_cons, List.length_nil]; omega)) ?_; k_whole); intro hq_rw Fq_rw Nq_rw; (try k_sweep)))
  k_with "compareOp In str ref" => ((k_here; (with_reducible show wpAny _ _ (compareOp CmpOp.In (Value.str _ _) (Value.ref _)) _ _ _); k_dflt (refine' in_list_strs (by exact News.isList (by k_asm) (by k_mem)) (by k_asm) ?_; k_whole)))
  k_with "ite" => ((k_here; (with_reducible show (if ((_ : Int) == _) = true then _ else _)); first | (refine ite_pos (by (simp only [beq_iff_eq]); omega) ?_) | (refine ite_neg (by (simp only [beq_iff_eq]); omega) ?_)))
  k_with "WPost" => (with_unfolding_all refine WPost.next ?_)
  k_with "m_map" => (with_reducible exact fun _ _ => rfl)
  k_with "callWith" => ((k_here; (with_reducible show wpAny _ _ (callWith _ (Prod.fst _) (Prod.snd _) _ _) _ _ _); dsimp only; (with_reducible refine' callWith_method1 ?_ (by exact rfl) (by exact rfl))))
  k_with "t_at" => ((k_here; (with_reducible show wpAny _ _ (subscriptTail _ _ (Value.ref _) (Value.int _ _)) _ _ _); k_dflt (refine' tup_at (by k_asm) (by k_mem) (by omega) (by (simp only [List.length_cons, List.length_nil]; omega)) (by (simp only [List.length_cons, List.length_nil]; omega)) ?_); intro vq_rw hvq_rw))
  k_with "subscriptTail Tuple cons Call ref int" => (walk_at "t_at")
  k_with "subscriptTail Tuple cons BinOp ref int" => (walk_at "t_at")
  k_with "subscriptTail Tuple cons Name ref int" => (walk_at "t_at")
  k_with "execs cons" => ((k_here; (try dsimp only); (try (with_reducible refine gen_toks ?_; intro tkg_rw)); (with_reducible refine wpAny_execs_cons ?_); (try dsimp only); k_fold))
  k_with "og_tail" => (k_dflt ((case F => k_asm); (case N => k_asm); (case X => k_asm); (case a => k_mem); (case b => k_mem); (case ho => assumption)))
  k_with "getAttr ref" => ((k_here; (first | ((with_reducible first | apply og_seen | apply og_is_plain | apply og_point | apply og_lead | apply og_trail | apply og_nines | apply og_zero | apply og_zeros | apply og_floats | apply og_behind | apply og_is_late | apply og_money | apply og_last | apply og_is_over | apply og_is_inserted); walk_at "og_tail") | ((with_reducible apply og_sign); walk_at "og_tail") | ((with_reducible first | apply on_sign | apply on_count); walk_at "og_tail")); intros; (try dsimp only)))
  k_with "setAttr ref" => ((k_here; (with_reducible first | apply os_seen | apply os_point | apply os_trail | apply os_nines | apply os_zero | apply os_zeros | apply os_floats | apply os_behind | apply os_is_late | apply os_sign | apply os_money | apply os_last | apply os_is_over | apply os_is_inserted); k_dflt ((case F => k_asm); (case N => first | k_asm | exact news_tl (by k_asm) | exact news_tl (news_tl (by k_asm))); (case X => k_asm); (case ne => assumption); (case nr => assumption); (case ho => assumption)); intro obq_rw hq_rw kq_rw hoq_rw Fq_rw Nq_rw; (try dsimp only at hoq_rw); (try k_sweep)))
  k_with "getMethod ref" => ((k_here; (with_reducible first | apply om_digits | apply om_add_behind | apply om_take_nine | apply om_take_zero | apply om_take_point | apply om_take_scaling | apply om_take_inserted | apply om_float_on | apply om_may_float | apply om_take_sign | apply om_take_money | apply om_take_end | apply om_take | apply om_is_whole | apply om_scale); walk_at "og_tail"))
  k_with "callWith ref" => ((k_here; (with_reducible show wpAny _ _ (callWith _ (Prod.fst _) _ (backTo _ (starEach [] _)) []) _ _ _); dsimp only; k_dflt (refine' callWith_K0 (by k_in) (by k_is) ?_); k_whole))
  k_with "m_in" => (first | assumption | exact List.mem_append_left _ (by assumption) | exact List.mem_append_right _ (by assumption) | (refine List.mem_cons_of_mem _ ?_; walk_at "m_in") | (refine List.mem_append_right _ ?_; walk_at "m_in"))
  k_with "callWith ref" => ((k_here; (with_reducible show wpAny _ _ (callWith _ (Prod.fst _) _ (backTo _ (starEach [] _)) []) _ _ _); dsimp only; k_dflt (refine' callWith_K0 (by k_in) (by k_is) ?_); k_whole))
  k_with "call ref" => ((k_here; (first | (with_reducible show wpAny _ _ (call (Value.ref 170) _) _ _ _) | (with_reducible show wpAny _ _ (call (Value.ref 175) _) _ _ _) | (with_reducible show wpAny _ _ (call (Value.ref 280) _) _ _ _) | (with_reducible show wpAny _ _ (call (Value.ref 287) _) _ _ _) | (with_reducible show wpAny _ _ (call (Value.ref 196) _) _ _ _) | (with_reducible show wpAny _ _ (call (Value.ref 294) _) _ _ _)); refine Halt.out ?_))
  k_with "eval ListComp" => ((k_here; k_dflt (refine ListComp_at (by k_asm) (by with_unfolding_all rfl) (by decide) (by rfl) (by decide) ?_)))
  trivial
def ord0 : Ord := ⟨0, Str.ofString "", 0, 0, Str.ofString "", 0, 0, 0, false, Str.ofString "", Str.ofString "", Str.ofString "", false, false⟩
inductive Takes : Ord → List Sym → Ord → Prop
  | nil {o} : Takes o [] o
  | cons {o x xs o1 o2} : Take o x o1 → Takes o1 xs o2 → Takes o (x :: xs) o2
theorem abs_ord {P : Prop} {w : World} {h₀ h : Heap} {L a b : Addr} {o ob : Obj} {r : Led} {o0 : Ord} (N : News h₀ L h ((a, o) :: (b, ob) :: r)) (ho : OrdAt w o0 ob) (k : ∀ ob', OrdAt w o0 ob' → News h₀ L h ((a, o) :: (b, ob') :: r) → P) : P := k ob ho N
theorem rows_T9_2 : True := by
  k_with "compareOp NotIn str ref" => ((k_here; (with_reducible show wpAny _ _ (compareOp CmpOp.NotIn (Value.str _ _) (Value.ref _)) _ _ _); (with_unfolding_all refine' notin_list_strs (by exact News.isList (by k_asm) (by k_mem)) (by kde_strs) ?_; k_whole)))
  k_with "compareOp Eq ref ref" => ((k_here; refine Halt.out ?_))
  trivial
def PicAt (w : World) (v0 v1 v2 v3 v4 v5 v6 : Value) (ob : Obj) : Prop := ∃ k : Nat → Tok, ob = picDict w k v0 v1 v2 v3 v4 v5 v6
theorem pic_intro {w : World} {k0 k1 k2 k3 k4 k5 k6 : Tok} {v0 v1 v2 v3 v4 v5 v6 : Value} : PicAt w v0 v1 v2 v3 v4 v5 v6 (dictOf [⟨PyData.keyHash w.params (Str.ofString "text"), .str (Str.ofString "text") k0, v0⟩, ⟨PyData.keyHash w.params (Str.ofString "symbols"), .str (Str.ofString "symbols") k1, v1⟩, ⟨PyData.keyHash w.params (Str.ofString "category"), .str (Str.ofString "category") k2, v2⟩, ⟨PyData.keyHash w.params (Str.ofString "digits"), .str (Str.ofString "digits") k3, v3⟩, ⟨PyData.keyHash w.params (Str.ofString "scale"), .str (Str.ofString "scale") k4, v4⟩, ⟨PyData.keyHash w.params (Str.ofString "is_signed"), .str (Str.ofString "is_signed") k5, v5⟩, ⟨PyData.keyHash w.params (Str.ofString "size"), .str (Str.ofString "size") k6, v6⟩] 7) := ⟨fun i => [k0, k1, k2, k3, k4, k5, k6].getD i 0, rfl⟩
inductive PicOut (w : World) (txt : Str) (tt : Tok) (xs : List Sym) (dg : Int) (R : Led) (r : Value) (news' : Led) : Prop
  | intro (pa pd ya : Addr) (yvs : List Value) (n : Nat) (own : Led) (ob : Obj) (v2 v4 v5 : Value) (t t' : Tok) (hr : r = .ref pa) (hp : PicAt w (.str txt tt) (.ref ya) v2 (.int dg t) v4 v5 (.int (sizeL (rleS xs)).sum t') ob) (hq : PairsAre own yvs (rleS xs)) (hn : news' = (pa, instObj 112 pd) :: (pd, ob) :: (ya, listOf yvs.toArray n) :: (own ++ R)) : PicOut w txt tt xs dg R r news'
theorem num_tel (w : World) (txt : Str) (tt : Tok) (sa : Addr) (vs : List Value) (xs : List Sym) (n1 : Nat) (R : Led) (o' : Ord)
   (hi : SignsAre w R vs xs) (hL : xs.length ≤ 63) (hT : Takes ord0 xs o') (hdg : 0 < o'.nines + o'.zeros + o'.floats) (hls : ([Str.ofString ",", Str.ofString "."].any fun x => x == o'.last) = false) (hmo : o'.nines + o'.zeros + o'.floats + o'.trail ≤ 18) (hsz : (sizeL (rleS xs)).sum ≤ 9999) :
   Tel w 306 20 [.str txt tt, .ref sa] ((sa, listOf vs.toArray n1) :: R) (PicOut w txt tt xs (o'.nines + o'.zeros + o'.floats) R) := by
  unfold Tel
  intro p loose mean mg mb dp un gd cn cs a ccd cl outer A₀ base h₀ L m s Q E hR B F X N T hk hd hu hret
  revert hR; k_fill; intro hR
  refine wpAny_call ?_
  k_dflt ktr_enter
  k_steps
  unfold Halt
  rename News _ _ _ _ => N9
  rename _ ∧ AllLt _ _ => hl9
  refine news_open N9 fun xa exa => ?_
  refine news_open (news_tl N9) fun da eda => ?_
  replace exa := exa.symm
  subst exa
  replace eda := eda.symm
  subst eda
  obtain ⟨q1, q2⟩ := hl9
  refine abs_ord (w := w) (o0 := ord0) N9 ord_intro fun ob hob N8 => ?_
  clear N9
  k_dflt (refine' tel_use (symbols_tel w sa vs xs n1 _ ?hs hL) ?B ?F ?X (news_dup N8 ?hm) ?T ?hk ?hd ?hu ?_)
  case hm => k_mem
  case hs => exact hi.mono (by walk_at "m_sub")
  case B => k_asm
  case F => k_asm
  case X => k_asm
  case T => k_asm
  case hk => first | exact rfl | assumption
  case hd => ktr_room
  case hu => ktr_units
  rintro r9 news9 h9 tk9 ⟨ya, yvs, yn, own, hr9, hpr, hn9, hlt, hown, hnew⟩ F7 N7
  subst hr9
  subst hn9
  have N6 : News _ _ _ ((ya, listOf yvs.toArray yn) :: (xa, instObj 297 da) :: (da, ob) :: (sa, listOf vs.toArray n1) :: (own ++ R)) := news_sub N7 (by
    refine List.forall_mem_cons.mpr ⟨by k_mem, ?_⟩
    refine List.forall_mem_cons.mpr ⟨?_, ?_⟩
    · refine List.mem_cons_of_mem _ (List.mem_cons_of_mem _ (List.mem_append_right _ ?_)); k_mem
    refine List.forall_mem_cons.mpr ⟨?_, ?_⟩
    · refine List.mem_cons_of_mem _ (List.mem_cons_of_mem _ (List.mem_append_right _ ?_)); k_mem
    refine List.forall_mem_cons.mpr ⟨by k_mem, ?_⟩
    intro p9 hp9
    rcases List.mem_append.mp hp9 with h9 | h9 <;> walk_at "m_in")
  clear N7 N8
  k_steps
  unfold Halt
  rename Fr _ _ _ _ => F5
  rename News _ _ _ _ => N5
  replace N5 := news_tl N5
  have hxd : @Ne Nat xa da := by k_ne
  have hlm := allLt_mem hlt
  have hyd : @LT.lt Nat _ da ya := hlm (da, ob) (by k_mem)
  have hod : ∀ p ∈ own, p.1 ≠ da := fun p hp => Nat.ne_of_gt (allLt_mem (hnew p hp) (da, ob) (by k_mem))
  have hsd : @LT.lt Nat _ sa da := q1
  have hrd : ∀ p ∈ R, @LT.lt Nat _ p.1 da := allLt_mem q2
  have hyl := hi.length
  clear hlt hnew q1 q2
  refine iter_listX [] (fun i nw => ∃ o1 ob1, nw = ((xa, instObj 297 da) :: (da, ob1) :: (ya, listOf yvs.toArray yn) :: (own ++ R)) ∧ OrdAt w o1 ob1 ∧ Takes o1 (xs.drop i) o') rfl F5 N5 (by k_mem) (by walk_at "m_sub") ⟨_, _, rfl, hob, hT⟩ ?_ ?_
  · rintro i v us news₁ h tk I it hv hJ9a F4 N4 hne off
    refine fold_goal fun G9 hG9 => ?_
    obtain ⟨o1, ob1, rfl, hob1, hT1⟩ := hJ9a
    refine hG9 ?_
    clear hG9
    clear F5 N5
    refine fold_goal fun G9 hG9 => ?_
    obtain ⟨x, hx, na, nd, nb, rfl, hm1, hm2, hnb⟩ := hi.item hv
    refine hG9 ?_
    clear hG9
    have hdr : xs.drop i = x :: xs.drop (i + 1) := by
      have hlt := (List.getElem?_eq_some_iff.mp hx).1
      rw [List.drop_eq_getElem_cons hlt]
      congr 1
      exact Option.some.inj ((List.getElem?_eq_getElem hlt).symm.trans hx)
    rw [hdr] at hT1
    cases hT1 with
    | cons hTk hT2 =>
    rename_i o2
    k_steps
    unfold Halt
    rename News _ _ _ _ => N3
    have hap : Apart4 xa da na nd ((I, it) :: (sa, listOf vs.toArray n1) :: (ya, listOf yvs.toArray yn) :: (own ++ R)) := ⟨hxd, Nat.ne_of_lt (hrd _ hm1), Nat.ne_of_lt (hrd _ hm2), by
      refine List.forall_mem_cons.mpr ⟨Ne.symm (off (da, ob1) (by k_mem)), ?_⟩
      refine List.forall_mem_cons.mpr ⟨Nat.ne_of_lt hsd, ?_⟩
      refine List.forall_mem_cons.mpr ⟨Nat.ne_of_gt hyd, ?_⟩
      intro p9 hp9
      rcases List.mem_append.mp hp9 with h9 | h9
      · exact hod _ h9
      · exact Nat.ne_of_lt (hrd _ h9)⟩
    have N2 : News _ _ _ ((xa, instObj 297 da) :: (da, ob1) :: (na, instObj 140 nd) :: (nd, nb) :: ((I, it) :: (sa, listOf vs.toArray n1) :: (ya, listOf yvs.toArray yn) :: (own ++ R))) := news_sub N3 (by
      refine List.forall_mem_cons.mpr ⟨by k_mem, ?_⟩
      refine List.forall_mem_cons.mpr ⟨by k_mem, ?_⟩
      refine List.forall_mem_cons.mpr ⟨by walk_at "m_in", ?_⟩
      refine List.forall_mem_cons.mpr ⟨by walk_at "m_in", ?_⟩
      walk_at "m_sub")
    k_dflt (refine' tel_use (take_tel hTk hnb hap hob1) ?B ?F ?X N2 ?T ?hk ?hd ?hu ?_)
    case B => k_asm
    case F => k_asm
    case X => k_asm
    case T => k_asm
    case hk => first | exact rfl | assumption
    case hd => ktr_room
    case hu => ktr_units
    rintro r8 news8 h8 tk8 ⟨hr8, ob2, hob2, hn8⟩ F2 N1
    subst hr8
    subst hn8
    clear N2 N3
    k_steps
    unfold Halt
    refine MyEnd.ofX ((xa, instObj 297 da) :: (da, ob2) :: (ya, listOf yvs.toArray yn) :: (own ++ R)) (by k_asm) (by k_asm) (by walk_at "m_sub") (by walk_at "m_sub") ?_ (by walk_at "m_map") ⟨_, _, rfl, hob2, hT2⟩
    refine List.forall_mem_cons.mpr ⟨off _ (List.Mem.head _), ?_⟩
    exact off_put fun p hp => off p (List.mem_cons_of_mem _ hp)
  · rintro us news₁ h tk hJ9a F4 N4
    refine fold_goal fun G9 hG9 => ?_
    obtain ⟨o1, ob1, rfl, hob1, hT1⟩ := hJ9a
    refine hG9 ?_
    clear hG9
    clear F5 N5
    rw [hyl, List.drop_length] at hT1
    cases hT1
    have hrl : (rleS xs).length ≤ 63 := Nat.le_trans (rleS_length xs) hL
    k_steps
    unfold Halt
    rename News _ _ _ _ => N3
    have N2 : News _ _ _ ((xa, instObj 297 da) :: (da, ob1) :: (ya, listOf yvs.toArray yn) :: (sa, listOf vs.toArray n1) :: (own ++ R)) := news_sub N3 (by walk_at "m_sub")
    try k_fold
    k_dflt (refine' tel_use (whole_tel w xa da _ o' _ hob1 hdg hls hmo) ?B ?F ?X (N2) ?T ?hk ?hd ?hu ?_)
    case B => k_asm
    case F => k_asm
    case X => k_asm
    case T => k_asm
    case hk => first | exact rfl | assumption
    case hd => ktr_room
    case hu => ktr_units
    rintro r8 news8 h8 tk8 ⟨hr8, hn8⟩ F2 N1
    subst hr8
    subst hn8
    clear N3 N2
    k_steps
    unfold Halt
    rename News _ _ _ _ => N3
    try k_fold
    k_dflt (refine' tel_use (size_tel w ya yvs (rleS xs) yn _ ?hs hrl) ?B ?F ?X ((news_dup N3 (by k_mem))) ?T ?hk ?hd ?hu ?_)
    case B => k_asm
    case F => k_asm
    case X => k_asm
    case T => k_asm
    case hk => first | exact rfl | assumption
    case hd => ktr_room
    case hu => ktr_units
    case hs => exact hpr.mono (by walk_at "m_sub")
    rintro r8 news8 h8 tk8 ⟨⟨t8, hr8⟩, hn8⟩ F2 N1
    subst hr8
    subst hn8
    replace N1 := news_tl N1
    clear N3
    k_steps
    unfold Halt
    rename Fr _ _ _ _ => F9
    rename News _ _ _ _ => N9
    have hown9 : ∀ p ∈ own, p ∈ (xa, instObj 297 da) :: (da, ob1) :: (sa, listOf vs.toArray n1) :: (own ++ R) := by walk_at "m_sub"
    refine comp_pairL (own := (xa, instObj 297 da) :: (da, ob1) :: (sa, listOf vs.toArray n1) :: (own ++ R)) (news₀ := []) (fun i vs' nw => nw = [] ∧ ∃ zs : List Sym, StrsAre vs' (zs.map Sym.str) ∧ zs.length ≤ i) _ rfl rfl rfl rfl (by decide) F9 N9 (by k_mem) (by rw [List.append_nil]; walk_at "m_sub") (hpr.mono hown9).val (Nat.le_trans (Nat.le_of_eq hpr.length) (Nat.le_trans hrl (by decide))) ⟨rfl, [], strs_nil, Nat.le_refl _⟩ ?_ ?_ ?_
    · rintro i vs' nw hJ9a
      refine fold_goal fun G9 hG9 => ?_
      obtain ⟨_, zs, h, hz⟩ := hJ9a
      refine hG9 ?_
      clear hG9
      have := StrsAre.length h
      rw [List.length_map] at this
      omega
    · rintro g i v₁ v₂ hlt hJ9a ys' news₁ I oI C oC D m₂ h tk E' hJ9b hN hJ9c F8 N8 off hne
      refine fold_goal fun G9 hG9 => ?_
      obtain ⟨q, hq, tx, tc, rfl, rfl⟩ := hJ9a
      obtain ⟨rfl, zs, hzs, hz⟩ := hJ9b
      obtain ⟨b1, b2⟩ := hJ9c
      refine hG9 ?_
      clear hG9
      clear F9 N9
      rw [List.append_nil] at N8 off
      refine wpAny_tests_one ?_
      generalize hTe : own ++ R = T9 at *
      k_steps
      · subst hTe
        unfold Halt
        refine CEnd.intro (news' := []) (by k_asm) (by k_asm) (by walk_at "m_sub") (List.forall_mem_nil _) trivial ⟨rfl, zs, hzs, by omega⟩
      · subst hTe
        unfold Halt
        refine CEnd.intro (news' := []) (by k_asm) (by k_asm) (by walk_at "m_sub") (List.forall_mem_nil _) trivial ⟨rfl, zs ++ [q.1], by rw [List.map_append]; exact strs_snoc hzs, by rw [List.length_append, List.length_singleton]; omega⟩
    · rintro g ys' news₁ hJ9a
      refine fold_goal fun G9 hG9 => ?_
      obtain ⟨rfl, zs, hzs, hz⟩ := hJ9a
      refine hG9 ?_
      clear hG9
      unfold FinC
      intro D h tk F8 N8 offD
      clear F9 N9
      rw [List.append_nil] at N8 offD
      replace N8 : News _ _ _ ((D, listOf ys'.toArray ys'.length) :: (ya, listOf yvs.toArray yn) :: (xa, instObj 297 da) :: (da, ob1) :: (sa, listOf vs.toArray n1) :: (own ++ R)) := N8
      k_steps
      unfold Halt
      refine eq_nil_strs (zs := zs) (by k_asm) (by k_mem) (by k_mem) hzs (by units_room) fun c' => ?_
      clear hzs hz offD
      k_steps
      all_goals
        unfold Halt
        rename News _ _ _ _ => N5
        have N6 : News _ _ _ ((xa, instObj 297 da) :: (da, ob1) :: (ya, listOf yvs.toArray yn) :: (own ++ R)) := news_sub N5 (by walk_at "m_sub")
        clear N5
        try k_fold
        k_dflt (refine' tel_use (digits_tel w xa da _ o' _ hob1) ?B ?F ?X (N6) ?T ?hk ?hd ?hu ?_)
        case B => k_asm
        case F => k_asm
        case X => k_asm
        case T => k_asm
        case hk => first | exact rfl | assumption
        case hd => ktr_room
        case hu => ktr_units
        rintro r7 news7 h7 tk7 ⟨⟨t7, hr7⟩, hn7⟩ F7 N7
        subst hr7
        subst hn7
        clear N6
        k_steps
        unfold Halt
        rename News _ _ _ _ => N5
        try k_fold
        k_dflt (refine' tel_use (scale_tel' w xa da _ o' _ hob1) ?B ?F ?X (N5) ?T ?hk ?hd ?hu ?_)
        case B => k_asm
        case F => k_asm
        case X => k_asm
        case T => k_asm
        case hk => first | exact rfl | assumption
        case hd => ktr_room
        case hu => ktr_units
        rintro r6 news6 h6 tk6 ⟨⟨x6, t6, hr6⟩, hn6⟩ F7 N7
        subst hr6
        subst hn6
        clear N5
        k_steps
        unfold Halt
        rename News _ _ _ _ => N5
        try k_fold
        k_dflt (refine' tel_use (size_tel w ya yvs (rleS xs) yn _ ?hs hrl) ?B ?F ?X ((news_dup N5 (by k_mem))) ?T ?hk ?hd ?hu ?_)
        case B => k_asm
        case F => k_asm
        case X => k_asm
        case T => k_asm
        case hk => first | exact rfl | assumption
        case hd => ktr_room
        case hu => ktr_units
        case hs => exact hpr.mono (by walk_at "m_sub")
        rintro r5 news5 h5 tk5 ⟨⟨t5, hr5⟩, hn5⟩ F7 N7
        subst hr5
        subst hn5
        replace N7 := news_tl N7
        clear N5
        k_steps
        rename News h₀ L _ _ => N5
        refine hret _ _ _ _ ⟨_, _, ya, yvs, yn, own, _, _, _, _, _, _, rfl, pic_intro, hpr, rfl⟩ (by k_asm) (news_sub N5 (by walk_at "m_sub"))
end
theorem reset_S1 : True := by
  (w_top off)
  k_with_none
  first | walk1 | trivial
section
open PySem PySem.W PyProof.Rows PySem.Spec PySem.Calls
theorem rows_S1_1 : True := by
  k_with "MyPost" => (with_unfolding_all first | refine MyPost.next ?_ | refine MyPost.cont ?_ | refine MyPost.brk ?_ | refine MyPost.ret ?_)
  k_with "MyPostT" => (with_unfolding_all refine MyPostT.next ?_)
  k_with "exec For Name Name cons nil" => ((k_here; (rename Fr _ _ _ _ => lFq_rw); (with_unfolding_all refine' For_invVF lFq_rw (by exact rfl) (by exact rfl) ?_; k_whole)))
  k_with "pyIter str" => ((k_here; refine Halt.out ?_))
  k_with "pyIter ref" => ((k_here; refine Halt.out ?_))
  k_with "m_in" => (first | assumption | exact List.mem_append_left _ (by assumption) | exact List.mem_append_right _ (by assumption) | (refine List.mem_cons_of_mem _ ?_; walk_at "m_in"))
  k_with "m_sub" => (first | exact (fun _ h => h) | exact List.forall_mem_nil _ | (refine List.forall_mem_cons.mpr ⟨by k_mem, ?_⟩; walk_at "m_sub") | (intro p9_rw hp9_rw; walk_at "m_in"))
  k_with "m_map" => (first | exact off_sto (by walk_at "m_sub") | (refine off_step (by k_mem) ?_; walk_at "m_map"))
  k_with "getMethod ref" => ((k_here; (with_reducible show wpAny _ _ (getMethod (Value.ref _) (PySem.Str.ofString "count") _) _ _ _); k_dflt (refine' kf_method (by k_asm) (by k_mem) PySem.F.slot_list_count PySem.F.type_list_count ?_)))
  k_with "call builtin:list.append" => ((k_here; (with_reducible show wpAny _ _ (call (Value.builtin _) [Value.ref _, _]) _ _ _); k_dflt (refine' append_L (by k_asm) (by k_asm) (by k_upd) (by first | assumption | (simp only [List.length_append, List.length_cons, List.length_nil]; omega)) ?_; k_whole); intro hq_rw Fq_rw Nq_rw; (try k_sweep)))
  k_with "compareOp In str ref" => ((k_here; (with_reducible show wpAny _ _ (compareOp CmpOp.In (Value.str _ _) (Value.ref _)) _ _ _); k_dflt (refine' in_list_strs (by exact News.isList (by k_asm) (by k_mem)) (by k_asm) ?_; k_whole)))
  k_with "ite" => ((k_here; (with_reducible show (if ((_ : Int) == _) = true then _ else _)); first | (refine ite_pos (by (simp only [beq_iff_eq]); omega) ?_) | (refine ite_neg (by (simp only [beq_iff_eq]); omega) ?_)))
  k_with "WPost" => (with_unfolding_all refine WPost.next ?_)
  k_with "m_map" => (with_reducible exact fun _ _ => rfl)
  k_with "callWith" => ((k_here; (with_reducible show wpAny _ _ (callWith _ (Prod.fst _) (Prod.snd _) _ _) _ _ _); dsimp only; (with_reducible refine' callWith_method1 ?_ (by exact rfl) (by exact rfl))))
  k_with "t_at" => ((k_here; (with_reducible show wpAny _ _ (subscriptTail _ _ (Value.ref _) (Value.int _ _)) _ _ _); k_dflt (refine' tup_at (by k_asm) (by k_mem) (by omega) (by (simp only [List.length_cons, List.length_nil]; omega)) (by (simp only [List.length_cons, List.length_nil]; omega)) ?_); intro vq_rw hvq_rw))
  k_with "subscriptTail Tuple cons Call ref int" => (walk_at "t_at")
  k_with "subscriptTail Tuple cons BinOp ref int" => (walk_at "t_at")
  k_with "subscriptTail Tuple cons Name ref int" => (walk_at "t_at")
  k_with "execs cons" => ((k_here; (try dsimp only); (try (with_reducible refine gen_toks ?_; intro tkg_rw)); (with_reducible refine wpAny_execs_cons ?_); (try dsimp only); k_fold))
  trivial
def Sym.two : Sym → Bool
  | .cr => true | .db => true | _ => false
structure SymAt (tx : Str) (i : Int) (x : Sym) : Prop where
  h2 : x.two = true → Txt.slice tx (some i) (some (i + 2)) = x.str
  h1 : x.two = false → Txt.item tx i = x.str ∧ ([Str.ofString "CR", Str.ofString "DB"].any fun y => y == Txt.slice tx (some i) (some (i + 2))) = false
theorem two_any (x : Sym) (h : x.two = true) : ([Str.ofString "CR", Str.ofString "DB"].any fun y => y == x.str) = true := by cases x <;> first | (exact absurd h (by decide)) | decide +kernel
theorem one_occ (x : Sym) (h : x.two = false) : (Builtin.Str.occurrences (Str.ofString "ABPSVXZ90/,.+-*$") x.str 0 (Str.ofString "ABPSVXZ90/,.+-*$").length 1).isEmpty = false := by cases x <;> first | (exact absurd h (by decide)) | decide +kernel
theorem str_eq {a b : Str} {u : Tok} (e : a = b) : ∃ t, Value.str a u = Value.str b t := ⟨u, by rw [e]⟩
theorem signat_tel (w : World) (tx : Str) (tt : Tok) (i : Int) (ti : Tok) (x : Sym) (R : Led) (h0 : 0 ≤ i) (hi : i < tx.length) (hz : tx.length ≤ 100) (hx : SymAt tx i x) :
   Tel w 151 2 [.str tx tt, .int i ti] R fun r news' => (∃ t, r = .str x.str t) ∧ news' = R := by
  unfold Tel
  intro p loose mean mg mb dp un gd cn cs a ccd cl outer A₀ base h₀ L m s Q E hR B F X N T hk hd hu hret
  revert hR; k_fill; intro hR
  refine wpAny_call ?_
  k_dflt ktr_enter
  k_steps
  · rename List.any _ _ = true => hb
    cases ht : x.two with
    | false => have := (hx.h1 ht).2; rw [this] at hb; cases hb
    | true => refine hret _ R _ _ ⟨str_eq (hx.h2 ht), rfl⟩ (by k_asm) (news_sub (by k_asm) (by walk_at "m_sub"))
  · exfalso
    rename List.any _ _ = false => hb
    rename _ = true => hc
    cases ht : x.two with
    | true => rw [hx.h2 ht, two_any x ht] at hb; cases hb
    | false => rw [(hx.h1 ht).1, one_occ x ht] at hc; cases hc
  · rename List.any _ _ = false => hb
    cases ht : x.two with
    | true => rw [hx.h2 ht, two_any x ht] at hb; cases hb
    | false => refine hret _ R _ _ ⟨str_eq (hx.h1 ht).1, rfl⟩ (by k_asm) (news_sub (by k_asm) (by walk_at "m_sub"))
theorem rows_S1_2 : True := by
  k_with "ite" => ((k_here; (with_reducible show (if ((_ : Str) != _) = true then _ else _)); refine ite_pos (by assumption) ?_))
  trivial
theorem countat_tel (w : World) (tx : Str) (tt : Tok) (i : Int) (ti : Tok) (R : Led) (h0 : 0 ≤ i) (hi : i ≤ tx.length) (hz : tx.length ≤ 100) (hx : (Txt.slice tx (some i) (some (i + 1)) != Str.ofString "(") = true) :
   Tel w 156 2 [.str tx tt, .int i ti] R fun r news' => ∃ ta t1 t2 k, r = .ref ta ∧ news' = (ta, tupOf (.int 1 t1) (.int i t2) k) :: R ∧ AllLt ta R := by
  unfold Tel
  intro p loose mean mg mb dp un gd cn cs a ccd cl outer A₀ base h₀ L m s Q E hR B F X N T hk hd hu hret
  revert hR; k_fill; intro hR
  refine wpAny_call ?_
  k_dflt ktr_enter
  k_steps
  rename ∀ p : Addr × Obj, p ∈ R → _ => hl
  exact hret _ _ _ _ ⟨_, _, _, _, rfl, rfl, allLt_mk hl⟩ (by k_asm) (by k_asm)
end
theorem reset_S2 : True := by
  (w_top off)
  k_with_none
  first | walk1 | trivial
section
open PySem PySem.W PyProof.Rows PySem.Spec PySem.Calls
theorem rows_S2_1 : True := by
  k_with "MyPost" => (with_unfolding_all first | refine MyPost.next ?_ | refine MyPost.cont ?_ | refine MyPost.brk ?_ | refine MyPost.ret ?_)
  k_with "MyPostT" => (with_unfolding_all refine MyPostT.next ?_)
  k_with "exec For Name Name cons nil" => ((k_here; (rename Fr _ _ _ _ => lFq_rw); (with_unfolding_all refine' For_invVF lFq_rw (by exact rfl) (by exact rfl) ?_; k_whole)))
  k_with "pyIter str" => ((k_here; refine Halt.out ?_))
  k_with "pyIter ref" => ((k_here; refine Halt.out ?_))
  k_with "m_in" => (first | assumption | exact List.mem_append_left _ (by assumption) | exact List.mem_append_right _ (by assumption) | (refine List.mem_cons_of_mem _ ?_; walk_at "m_in"))
  k_with "m_sub" => (first | exact (fun _ h => h) | exact List.forall_mem_nil _ | (refine List.forall_mem_cons.mpr ⟨by k_mem, ?_⟩; walk_at "m_sub") | (intro p9_rw hp9_rw; walk_at "m_in"))
  k_with "m_map" => (first | exact off_sto (by walk_at "m_sub") | (refine off_step (by k_mem) ?_; walk_at "m_map"))
  k_with "getMethod ref" => ((k_here; (with_reducible show wpAny _ _ (getMethod (Value.ref _) (PySem.Str.ofString "count") _) _ _ _); k_dflt (refine' kf_method (by k_asm) (by k_mem) PySem.F.slot_list_count PySem.F.type_list_count ?_)))
  k_with "call builtin:list.append" => ((k_here; (with_reducible show wpAny _ _ (call (Value.builtin _) [Value.ref _, _]) _ _ _); k_dflt (refine' append_L (by k_asm) (by k_asm) (by k_upd) (by first | assumption | (simp only [List.length_append, List.length_cons, List.length_nil]; omega)) ?_; k_whole); intro hq_rw Fq_rw Nq_rw; (try k_sweep)))
  k_with "compareOp In str ref" => ((k_here; (with_reducible show wpAny _ _ (compareOp CmpOp.In (Value.str _ _) (Value.ref _)) _ _ _); k_dflt (refine' in_list_strs (by exact News.isList (by k_asm) (by k_mem)) (by k_asm) ?_; k_whole)))
  k_with "ite" => ((k_here; (with_reducible show (if ((_ : Int) == _) = true then _ else _)); first | (refine ite_pos (by (simp only [beq_iff_eq]); omega) ?_) | (refine ite_neg (by (simp only [beq_iff_eq]); omega) ?_)))
  k_with "WPost" => (with_unfolding_all refine WPost.next ?_)
  k_with "m_map" => (with_reducible exact fun _ _ => rfl)
  k_with "callWith" => ((k_here; (with_reducible show wpAny _ _ (callWith _ (Prod.fst _) (Prod.snd _) _ _) _ _ _); dsimp only; (with_reducible refine' callWith_method1 ?_ (by exact rfl) (by exact rfl))))
  k_with "t_at" => ((k_here; (with_reducible show wpAny _ _ (subscriptTail _ _ (Value.ref _) (Value.int _ _)) _ _ _); k_dflt (refine' tup_at (by k_asm) (by k_mem) (by omega) (by (simp only [List.length_cons, List.length_nil]; omega)) (by (simp only [List.length_cons, List.length_nil]; omega)) ?_); intro vq_rw hvq_rw))
  k_with "subscriptTail Tuple cons Call ref int" => (walk_at "t_at")
  k_with "subscriptTail Tuple cons BinOp ref int" => (walk_at "t_at")
  k_with "subscriptTail Tuple cons Name ref int" => (walk_at "t_at")
  k_with "execs cons" => ((k_here; (try dsimp only); (try (with_reducible refine gen_toks ?_; intro tkg_rw)); (with_reducible refine wpAny_execs_cons ?_); (try dsimp only); k_fold))
  k_with "call builtin:len" => ((k_here; (with_reducible show wpAny _ _ (call (Value.builtin "len") [Value.str (Sym.str _) _]) _ _ _); k_dflt (refine len_sym ?_)))
  k_with "call ref" => ((k_here; (first | (with_reducible show wpAny _ _ (call (Value.ref 151) _) _ _ _) | (with_reducible show wpAny _ _ (call (Value.ref 156) _) _ _ _)); refine Halt.out ?_))
  k_with "exec While Compare cons nil" => ((k_here; refine Halt.out ?_))
  trivial
def offS (xs : List Sym) : Int := (xs.map Sym.len).sum
structure TextIs (tx : Str) (xs : List Sym) : Prop where
  len : (tx.length : Int) = offS xs
  le : ∀ i x, xs[i]? = some x → 0 ≤ offS (xs.take i) ∧ offS (xs.take i) < tx.length ∧ offS (xs.take i) + x.len ≤ tx.length
  at' : ∀ i x, xs[i]? = some x → SymAt tx (offS (xs.take i)) x
  no : ∀ i x, xs[i]? = some x → (Txt.slice tx (some (offS (xs.take i) + x.len)) (some (offS (xs.take i) + x.len + 1)) != Str.ofString "(") = true
theorem len_pos (x : Sym) : 1 ≤ x.len ∧ x.len ≤ 2 := by cases x <;> decide
inductive SignsOut (w : World) (xs : List Sym) (R : Led) (r : Value) (news' : Led) : Prop
  | intro (fa : Addr) (fvs : List Value) (n : Nat) (own : Led) (hr : r = .ref fa) (hs : SignsAre w own fvs xs) (hn : news' = ((fa, listOf fvs.toArray n) :: (own ++ R))) (hl : AllLt fa R) (ho : ∀ p ∈ own, @LT.lt Nat _ fa p.1) : SignsOut w xs R r news'
inductive SignsJ (w : World) (fa : Addr) (ys : List Sym) (R : Led) (v : Value) (nw : Led) : Prop
  | intro (t : Tok) (fvs : List Value) (n : Nat) (own : Led) (hv : v = .int (offS ys) t) (hn : nw = ((fa, listOf fvs.toArray n) :: (own ++ R))) (hs : SignsAre w own fvs ys) (ho : ∀ p ∈ own, @LT.lt Nat _ fa p.1) : SignsJ w fa ys R v nw
theorem signsof_tel (w : World) (tx : Str) (tt : Tok) (xs : List Sym) (R : Led) (hx : TextIs tx xs) (hL : xs.length ≤ 63) (hz : tx.length ≤ 100) :
   Tel w 163 12 [.str tx tt] R (SignsOut w xs R) := by
  unfold Tel
  intro p loose mean mg mb dp un gd cn cs a ccd cl outer A₀ base h₀ L m s Q E hR B F X N T hk hd hu hret
  revert hR; k_fill; intro hR
  refine wpAny_call ?_
  k_dflt ktr_enter
  k_steps
  unfold Halt
  rename Fr _ _ _ _ => F9
  rename News _ _ _ _ => N9
  refine news_open (news_tl N9) fun fa efa => ?_
  replace efa := efa.symm
  subst efa
  rename ∀ p : Addr × Obj, p ∈ R → _ => hl9
  k_dflt (refine While_Y xs.length (Str.ofString "at") [Str.ofString "sign", Str.ofString "count", Str.ofString "end"] (fun i => SignsJ w fa (xs.take i) R) F9 N9 rfl (news₀ := (fa, listOf #[] 0) :: R) (by walk_at "m_sub") ⟨_, [], 0, [], rfl, rfl, .nil, fun _ h => nomatch h⟩ ?_ ?_)
  · rintro i v us news₁ h tk hi hJ9a F8 N8
    refine fold_goal fun G9 hG9 => ?_
    obtain ⟨t, fvs, n, own, rfl, rfl, hfv, hown⟩ := hJ9a
    refine hG9 ?_
    clear hG9
    clear F9 N9
    have hxi := List.getElem?_eq_getElem hi
    generalize xs[i] = x at hxi
    obtain ⟨g0, g1, g2⟩ := hx.le i x hxi
    have hat := hx.at' i x hxi
    have hno := hx.no i x hxi
    have hto : offS (xs.take (i + 1)) = offS (xs.take i) + x.len := by rw [take_succ_get hxi]; simp [offS]
    generalize hob : offS (xs.take i) = ob at *
    simp only [stoL] at F8
    have hlp := len_pos x
    have hfz : fvs.length ≤ 1000 := by
      have h1 := hfv.length
      have h3 := List.length_take (i := i) (l := xs)
      omega
    have hT : ∀ p ∈ own ++ R, p.1 ≠ fa := fun p hp => (List.mem_append.mp hp).elim (fun h => Nat.ne_of_gt (hown p h)) (fun h => Nat.ne_of_lt (hl9 p h))
    generalize hTe : own ++ R = T9 at *
    k_steps
    unfold Halt
    rename News _ _ _ _ => N5
    try k_fold
    k_dflt (refine' tel_use (signat_tel w tx tt ob _ x _ g0 g1 hz hat) ?B ?F ?X (N5) ?T ?hk ?hd ?hu ?_)
    case B => k_asm
    case F => k_asm
    case X => k_asm
    case T => k_asm
    case hk => first | exact rfl | assumption
    case hd => ktr_room
    case hu => ktr_units
    rintro r9 news9 h9 tk9 ⟨⟨t9, hr9⟩, hn9⟩ F7 N7
    subst hr9
    subst hn9
    clear N5
    k_steps
    unfold Halt
    rename News _ _ _ _ => N5
    try k_fold
    k_dflt (refine' tel_use (countat_tel w tx tt (ob + x.len) _ _ (by omega) (by omega) hz hno) ?B ?F ?X (N5) ?T ?hk ?hd ?hu ?_)
    case B => k_asm
    case F => k_asm
    case X => k_asm
    case T => k_asm
    case hk => first | exact rfl | assumption
    case hd => ktr_room
    case hu => ktr_units
    rintro r9 news9 h9 tk9 ⟨ta, t1, t2, k2, hr9, hn9, hlt9⟩ F7 N7
    subst hr9
    subst hn9
    clear N5
    obtain ⟨q5, q6⟩ := hlt9
    k_steps
    unfold Halt
    subst hTe
    rename News _ _ _ _ => N5
    refine news_open N5 fun na ena => ?_
    replace ena := ena.symm
    subst ena
    refine news_open (news_tl N5) fun nd end' => ?_
    replace end' := end'.symm
    subst end'
    refine WEnd.of ((fa, _) :: (na, _) :: (nd, _) :: (own ++ R)) (by k_asm) N5 (by walk_at "m_sub") (by walk_at "m_map") rfl ⟨t2, _, _, (na, _) :: (nd, _) :: own, ?_, rfl, ?_, ?_⟩
    · rw [hto]
    · rw [take_succ_get hxi]
      refine (hfv.mono fun q hq => List.mem_cons_of_mem _ (List.mem_cons_of_mem _ hq)).append (.cons ⟨na, nd, _, rfl, List.mem_cons_self, List.mem_cons_of_mem _ List.mem_cons_self, ⟨_, _, _, _, _, _, _, rfl⟩⟩ .nil)
    · exact List.forall_mem_cons.mpr ⟨by (refine ltN ?_; omega), List.forall_mem_cons.mpr ⟨by (refine ltN ?_; omega), hown⟩⟩
  · rintro v us news₁ h tk hJ9a F8 N8
    refine fold_goal fun G9 hG9 => ?_
    obtain ⟨t, fvs, n, own, rfl, rfl, hfv, hown⟩ := hJ9a
    refine hG9 ?_
    clear hG9
    clear F9 N9
    rw [List.take_length, ← hx.len] at *
    k_steps
    rename News h₀ L _ _ => N5
    exact hret _ _ _ _ ⟨fa, fvs, n, own, rfl, hfv, rfl, allLt_mk hl9, hown⟩ (by k_asm) N5
end
theorem reset_S3 : True := by
  (w_top off)
  k_with_none
  first | walk1 | trivial
section
open PySem PySem.W PyProof.Rows PySem.Spec PySem.Calls
theorem rows_S3_1 : True := by
  k_with "MyPost" => (with_unfolding_all first | refine MyPost.next ?_ | refine MyPost.cont ?_ | refine MyPost.brk ?_ | refine MyPost.ret ?_)
  k_with "MyPostT" => (with_unfolding_all refine MyPostT.next ?_)
  k_with "exec For Name Name cons nil" => ((k_here; (rename Fr _ _ _ _ => lFq_rw); (with_unfolding_all refine' For_invVF lFq_rw (by exact rfl) (by exact rfl) ?_; k_whole)))
  k_with "pyIter str" => ((k_here; refine Halt.out ?_))
  k_with "pyIter ref" => ((k_here; refine Halt.out ?_))
  k_with "m_in" => (first | assumption | exact List.mem_append_left _ (by assumption) | exact List.mem_append_right _ (by assumption) | (refine List.mem_cons_of_mem _ ?_; walk_at "m_in"))
  k_with "m_sub" => (first | exact (fun _ h => h) | exact List.forall_mem_nil _ | (refine List.forall_mem_cons.mpr ⟨by k_mem, ?_⟩; walk_at "m_sub") | (intro p9_rw hp9_rw; walk_at "m_in"))
  k_with "m_map" => (first | exact off_sto (by walk_at "m_sub") | (refine off_step (by k_mem) ?_; walk_at "m_map"))
  k_with "getMethod ref" => ((k_here; (with_reducible show wpAny _ _ (getMethod (Value.ref _) (PySem.Str.ofString "count") _) _ _ _); k_dflt (refine' kf_method (by k_asm) (by k_mem) PySem.F.slot_list_count PySem.F.type_list_count ?_)))
  k_with "call builtin:list.append" => ((k_here; (with_reducible show wpAny _ _ (call (Value.builtin _) [Value.ref _, _]) _ _ _); k_dflt (refine' append_L (by k_asm) (by k_asm) (by k_upd) (by first | assumption | (simp only [List.length_append, List.length_cons, List.length_nil]; omega)) ?_; k_whole); intro hq_rw Fq_rw Nq_rw; (try k_sweep)))
  k_with "compareOp In str ref" => ((k_here; (with_reducible show wpAny _ _ (compareOp CmpOp.In (Value.str _ _) (Value.ref _)) _ _ _); k_dflt (refine' in_list_strs (by exact News.isList (by k_asm) (by k_mem)) (by k_asm) ?_; k_whole)))
  k_with "ite" => ((k_here; (with_reducible show (if ((_ : Int) == _) = true then _ else _)); first | (refine ite_pos (by (simp only [beq_iff_eq]); omega) ?_) | (refine ite_neg (by (simp only [beq_iff_eq]); omega) ?_)))
  k_with "WPost" => (with_unfolding_all refine WPost.next ?_)
  k_with "m_map" => (with_reducible exact fun _ _ => rfl)
  k_with "callWith" => ((k_here; (with_reducible show wpAny _ _ (callWith _ (Prod.fst _) (Prod.snd _) _ _) _ _ _); dsimp only; (with_reducible refine' callWith_method1 ?_ (by exact rfl) (by exact rfl))))
  k_with "t_at" => ((k_here; (with_reducible show wpAny _ _ (subscriptTail _ _ (Value.ref _) (Value.int _ _)) _ _ _); k_dflt (refine' tup_at (by k_asm) (by k_mem) (by omega) (by (simp only [List.length_cons, List.length_nil]; omega)) (by (simp only [List.length_cons, List.length_nil]; omega)) ?_); intro vq_rw hvq_rw))
  k_with "subscriptTail Tuple cons Call ref int" => (walk_at "t_at")
  k_with "subscriptTail Tuple cons BinOp ref int" => (walk_at "t_at")
  k_with "subscriptTail Tuple cons Name ref int" => (walk_at "t_at")
  k_with "execs cons" => ((k_here; (try dsimp only); (try (with_reducible refine gen_toks ?_; intro tkg_rw)); (with_reducible refine wpAny_execs_cons ?_); (try dsimp only); k_fold))
  k_with "call ref" => ((k_here; (first | (with_reducible show wpAny _ _ (call (Value.ref 163) _) _ _ _) | (with_reducible show wpAny _ _ (call (Value.ref 306) _) _ _ _)); refine Halt.out ?_))
  k_with "eval ListComp" => ((k_here; k_dflt (refine ListComp_at (by k_asm) (by with_unfolding_all rfl) (by decide) (by rfl) (by decide) ?_)))
  trivial
def oneS (c : Nat) : Str := ⟨#[c]⟩
section
variable {prog : Program} {w : World} {A : Around} {E : Value → Shared → Prop} {s : Shared} {h₀ : Heap} {L D : Addr} {news : Led} {n : Nat} {vs : List Value} {ss : List Str} {x z : Str} {t : Tok}
theorem join_own {Q : Value → Shared → Prop} (N : News h₀ L s.heap news) (hm : (D, listOf vs.toArray n) ∈ news) (hs : StrsAre vs ss) (hsep : x.length ≤ 16) (hw : (ss.map (·.length)).sum + ss.length ≤ 1048576) (e : Txt.join x ss = z)
    (h : ∀ t' k, Q (.str z t') { s with toks := k }) : wpAny (model prog w) A (call (.builtin "str.join") [.str x t, .ref D]) Q E s :=
  join_listW (ys := ss) ⟨_, (N _ hm).1, rfl, _, rfl⟩ hs hsep hw (by rw [e]; exact h)
end
theorem sum_ones : ∀ l : List Nat, ((l.map oneS).map (·.length)).sum = l.length
  | [] => rfl
  | c :: l => by
    rw [List.map_cons, List.map_cons, List.sum_cons, sum_ones l, List.length_cons]
    show 1 + _ = _
    omega
theorem join_oneS (tx : Str) : Txt.join (Str.ofString "") (tx.cps.toList.map oneS) = tx := by
  have e : Str.ofString "" = ⟨#[]⟩ := by decide +kernel
  rw [e]
  rw [eq_of_beq (join_plain_closes _ _)]
  exact PyProof.Rows.join_ones tx.cps.toList
theorem no_text (x : Sym) : ([Str.ofString "A", Str.ofString "X"].any fun y => y == x.str) = false := by cases x <;> decide +kernel
theorem one_lt {c : Nat} (h : c < 97) : (⟨#[c]⟩ : Str).cps.toList < (Str.ofString "a").cps.toList := by
  have e : (Str.ofString "a").cps.toList = [97] := by decide +kernel
  rw [e]
  exact List.Lex.rel h
theorem rows_S3_2 : True := by
  k_with "call builtin:str.join" => ((k_here; (with_reducible show wpAny _ _ (call (Value.builtin "str.join") [Value.str _ _, Value.ref _]) _ _ _); k_dflt (refine join_own (by k_asm) (by k_mem) (by assumption) (by decide +kernel) (by assumption) (by assumption) ?_); intro _ _))
  trivial
theorem read_tel (w : World) (tx : Str) (tt : Tok) (xs : List Sym) (R : Led) (o' : Ord) (hx : TextIs tx xs) (hL : xs.length ≤ 63) (hz : tx.length ≤ 30) (hlow : ∀ c ∈ tx.cps, c < 97)
   (hT : Takes ord0 xs o') (hdg : 0 < o'.nines + o'.zeros + o'.floats) (hls : ([Str.ofString ",", Str.ofString "."].any fun x => x == o'.last) = false) (hmo : o'.nines + o'.zeros + o'.floats + o'.trail ≤ 18) (hsz : (sizeL (rleS xs)).sum ≤ 9999) :
   Tel w 323 24 [.str tx tt] R fun r news' => ∃ t', PicOut w tx t' xs (o'.nines + o'.zeros + o'.floats) R r news' := by
  unfold Tel
  intro p loose mean mg mb dp un gd cn cs a ccd cl outer A₀ base h₀ L m s Q E hR B F X N T hk hd hu hret
  revert hR; k_fill; intro hR
  refine wpAny_call ?_
  k_dflt ktr_enter
  k_steps
  unfold Halt
  rename Fr _ _ _ _ => F9
  rename News _ _ _ _ => N9
  refine comp_nameS (news₀ := R) (fun i ys nw => nw = R ∧ StrsAre ys ((tx.cps.toList.take i).map oneS)) rfl rfl rfl F9 N9 (fun _ h => h) (Nat.le_trans hz (by decide)) ⟨rfl, .nil⟩ ?_ ?_ ?_
  · rintro i ys nw ⟨_, h⟩
    have := StrsAre.length h
    rw [List.length_map, List.length_take] at this
    omega
  · rintro g i c u hc ys news₁ I oI C oC D m₂ h tk E' ⟨rfl, hys⟩ hN hB F8 N8 off hne
    clear F9 N9
    have hc97 : c < 97 := hlow c (Array.mem_of_getElem? hc)
    refine wpAny_tests_nil ?_
    k_steps
    · unfold Halt
      refine CEnd.intro (news' := _) (by k_asm) (by k_asm) (by walk_at "m_sub") (by walk_at "m_sub") off ⟨rfl, ?_⟩
      rw [take_succ_get (x := c) (by simpa using hc), List.map_append]; exact strs_snoc hys
    all_goals exact absurd (one_lt hc97) (by assumption)
  · rintro g ys news₁ ⟨hnw, hys⟩
    replace hnw := hnw.symm
    subst hnw
    unfold FinC
    intro D h tk F8 N8 offD
    clear F9 N9
    rw [← Array.length_toList, List.take_length] at hys
    have hw9 : ((tx.cps.toList.map oneS).map (·.length)).sum + (tx.cps.toList.map oneS).length ≤ 1048576 := by
      rw [sum_ones, List.length_map, Array.length_toList]
      have : tx.cps.size ≤ 30 := hz
      omega
    have hj9 := join_oneS tx
    k_steps
    unfold Halt
    rename News _ _ _ _ => N5
    try k_fold
    k_dflt (refine' tel_use (signsof_tel w tx _ xs _ hx hL (by omega)) ?B ?F ?X ((news_tl N5)) ?T ?hk ?hd ?hu ?_)
    case B => k_asm
    case F => k_asm
    case X => k_asm
    case T => k_asm
    case hk => first | exact rfl | assumption
    case hd => ktr_room
    case hu => ktr_units
    rintro r9 news9 h9 tk9 ⟨fa, fvs, n, own, hr9, hfv, hn9, hlt9, hown9⟩ F7 N7
    subst hr9
    subst hn9
    clear N5 hw9 hj9 hys offD
    k_steps
    unfold Halt
    rename Fr _ _ _ _ => F9
    rename News _ _ _ _ => N9
    refine comp_nameL (own := own ++ R) (news₀ := []) (fun i vs' nw => nw = [] ∧ vs' = []) rfl rfl rfl F9 N9 (by k_mem) (by rw [List.append_nil]; walk_at "m_sub") (Nat.le_trans (Nat.le_of_eq hfv.length) (Nat.le_trans hL (by decide))) ⟨rfl, rfl⟩ ?_ ?_ ?_
    · rintro i ys nw ⟨_, rfl⟩
      exact Nat.zero_le _
    · rintro g i v hv ys' news₁ I oI C oC D m₂ h tk E' ⟨rfl, rfl⟩ hN hB F8 N8 off hne
      clear F9 N9
      refine fold_goal fun G9 hG9 => ?_
      obtain ⟨x, hxi, na, nd, nb, rfl, hm1, hm2, hnb⟩ := hfv.item hv
      refine hG9 ?_
      clear hG9
      refine fold_goal fun G9 hG9 => ?_
      obtain ⟨j0, j1, j2, u0, u1, u2, at9, rfl⟩ := hnb
      refine hG9 ?_
      clear hG9
      unfold signDict at hm2
      have hm1' := List.mem_append_left R hm1
      have hm2' := List.mem_append_left R hm2
      clear hm1 hm2
      rw [List.append_nil] at N8 off
      refine wpAny_tests_one ?_
      have hnt := no_text x
      generalize hTe : own ++ R = T9 at *
      k_steps
      subst hTe
      unfold Halt
      refine CEnd.intro (news' := []) (by k_asm) (by k_asm) (by walk_at "m_sub") (List.forall_mem_nil _) trivial ⟨rfl, rfl⟩
    · rintro g ys' news₁ ⟨rfl, rfl⟩
      unfold FinC
      intro D h tk F8 N8 offD
      clear F9 N9
      rw [List.append_nil] at N8 offD
      k_steps
      unfold Halt
      rename News _ _ _ _ => N5
      have N6 : News _ _ _ ((fa, listOf fvs.toArray n) :: (own ++ R)) := news_sub N5 (by walk_at "m_sub")
      clear N5
      try k_fold
      k_dflt (refine' tel_use (num_tel w tx _ fa fvs xs n _ o' (hfv.mono fun q hq => List.mem_append_left _ hq) hL hT hdg hls hmo hsz) ?B ?F ?X (N6) ?T ?hk ?hd ?hu ?_)
      case B => k_asm
      case F => k_asm
      case X => k_asm
      case T => k_asm
      case hk => first | exact rfl | assumption
      case hd => ktr_room
      case hu => ktr_units
      rintro r5 news5 h5 tk5 ho F7 N7
      clear N6
      k_steps
      refine fold_goal fun G9 hG9 => ?_
      obtain ⟨pa, pd, ya, yvs, n9, own', ob, v2, v4, v5, t8, t9, hr5, hpic, hpr, hn5⟩ := ho
      refine hG9 ?_
      clear hG9
      subst hr5
      subst hn5
      rename News h₀ L _ _ => N5
      exact hret _ _ _ _ ⟨_, pa, pd, ya, yvs, n9, own' ++ own, ob, v2, v4, v5, t8, t9, rfl, hpic, hpr.mono fun q hq => List.mem_append_left _ hq, rfl⟩ (by k_asm) (by rw [List.append_assoc]; exact N5)
end
theorem reset_Rw : True := by
  (w_top off)
  k_with_none
  first | walk1 | trivial
section
open PySem PySem.W PyProof.Rows PySem.Spec PySem.Calls
theorem rows_Rw_1 : True := by
  k_with "MyPost" => (with_unfolding_all first | refine MyPost.next ?_ | refine MyPost.cont ?_ | refine MyPost.brk ?_ | refine MyPost.ret ?_)
  k_with "MyPostT" => (with_unfolding_all refine MyPostT.next ?_)
  k_with "exec For Name Name cons nil" => ((k_here; (rename Fr _ _ _ _ => lFq_rw); (with_unfolding_all refine' For_invVF lFq_rw (by exact rfl) (by exact rfl) ?_; k_whole)))
  k_with "pyIter str" => ((k_here; refine Halt.out ?_))
  k_with "pyIter ref" => ((k_here; refine Halt.out ?_))
  k_with "m_in" => (first | assumption | exact List.mem_append_left _ (by assumption) | exact List.mem_append_right _ (by assumption) | (refine List.mem_cons_of_mem _ ?_; walk_at "m_in"))
  k_with "m_sub" => (first | exact (fun _ h => h) | exact List.forall_mem_nil _ | (refine List.forall_mem_cons.mpr ⟨by k_mem, ?_⟩; walk_at "m_sub") | (intro p9_rw hp9_rw; walk_at "m_in"))
  k_with "m_map" => (first | exact off_sto (by walk_at "m_sub") | (refine off_step (by k_mem) ?_; walk_at "m_map"))
  k_with "getMethod ref" => ((k_here; (with_reducible show wpAny _ _ (getMethod (Value.ref _) (PySem.Str.ofString "count") _) _ _ _); k_dflt (refine' kf_method (by k_asm) (by k_mem) PySem.F.slot_list_count PySem.F.type_list_count ?_)))
  k_with "call builtin:list.append" => ((k_here; (with_reducible show wpAny _ _ (call (Value.builtin _) [Value.ref _, _]) _ _ _); k_dflt (refine' append_L (by k_asm) (by k_asm) (by k_upd) (by first | assumption | (simp only [List.length_append, List.length_cons, List.length_nil]; omega)) ?_; k_whole); intro hq_rw Fq_rw Nq_rw; (try k_sweep)))
  k_with "compareOp In str ref" => ((k_here; (with_reducible show wpAny _ _ (compareOp CmpOp.In (Value.str _ _) (Value.ref _)) _ _ _); k_dflt (refine' in_list_strs (by exact News.isList (by k_asm) (by k_mem)) (by k_asm) ?_; k_whole)))
  k_with "ite" => ((k_here; (with_reducible show (if ((_ : Int) == _) = true then _ else _)); first | (refine ite_pos (by (simp only [beq_iff_eq]); omega) ?_) | (refine ite_neg (by (simp only [beq_iff_eq]); omega) ?_)))
  k_with "WPost" => (with_unfolding_all refine WPost.next ?_)
  k_with "m_map" => (with_reducible exact fun _ _ => rfl)
  k_with "callWith" => ((k_here; (with_reducible show wpAny _ _ (callWith _ (Prod.fst _) (Prod.snd _) _ _) _ _ _); dsimp only; (with_reducible refine' callWith_method1 ?_ (by exact rfl) (by exact rfl))))
  k_with "t_at" => ((k_here; (with_reducible show wpAny _ _ (subscriptTail _ _ (Value.ref _) (Value.int _ _)) _ _ _); k_dflt (refine' tup_at (by k_asm) (by k_mem) (by omega) (by (simp only [List.length_cons, List.length_nil]; omega)) (by (simp only [List.length_cons, List.length_nil]; omega)) ?_); intro vq_rw hvq_rw))
  k_with "subscriptTail Tuple cons Call ref int" => (walk_at "t_at")
  k_with "subscriptTail Tuple cons BinOp ref int" => (walk_at "t_at")
  k_with "subscriptTail Tuple cons Name ref int" => (walk_at "t_at")
  k_with "execs cons" => ((k_here; (try dsimp only); (try (with_reducible refine gen_toks ?_; intro tkg_rw)); (with_reducible refine wpAny_execs_cons ?_); (try dsimp only); k_fold))
  trivial
/-- v is a pair of a sign and its role, laid in R -/
def CellIs (R : Led) (v : Value) (p : Sym × Role) : Prop := ∃ t k tx tr, v = .ref t ∧ (t, tupOf (.str p.1.str tx) (.str p.2.str tr) k) ∈ R
inductive CellsAre (R : Led) : List Value → List (Sym × Role) → Prop
  | nil : CellsAre R [] []
  | cons {v p vs ps} : CellIs R v p → CellsAre R vs ps → CellsAre R (v :: vs) (p :: ps)
theorem CellIs.mono {R R' : Led} {v : Value} {p : Sym × Role} (h : CellIs R v p) (s : ∀ q ∈ R, q ∈ R') : CellIs R' v p := let ⟨t, k, tx, tc, e, m⟩ := h; ⟨t, k, tx, tc, e, s _ m⟩
theorem CellsAre.mono {R R' : Led} {vs : List Value} {ps : List (Sym × Role)} (h : CellsAre R vs ps) (s : ∀ q ∈ R, q ∈ R') : CellsAre R' vs ps := by
  induction h with
  | nil => exact .nil
  | cons a _ ih => exact .cons (a.mono s) ih
theorem CellsAre.length {R : Led} {vs : List Value} {ps : List (Sym × Role)} (h : CellsAre R vs ps) : vs.length = ps.length := by
  induction h with
  | nil => rfl
  | cons _ _ ih => simp [ih]
theorem CellsAre.append {R : Led} {vs ws : List Value} {ps qs : List (Sym × Role)} (h : CellsAre R vs ps) (h' : CellsAre R ws qs) : CellsAre R (vs ++ ws) (ps ++ qs) := by
  induction h with
  | nil => exact h'
  | cons a _ ih => exact .cons a ih
theorem CellsAre.item {R : Led} {vs : List Value} {ps : List (Sym × Role)} (h : CellsAre R vs ps) : ∀ {i : Nat} {v : Value}, vs[i]? = some v → ∃ p, ps[i]? = some p ∧ CellIs R v p := by
  induction h with
  | nil => intro i v e; simp at e
  | cons a _ ih =>
    intro i v e
    cases i with
    | zero => exact ⟨_, rfl, by simp at e; exact e ▸ a⟩
    | succ i => simpa using ih (by simpa using e)
theorem CellsAre.rep {R : Led} {v : Value} {p : Sym × Role} (h : CellIs R v p) : ∀ n : Nat, CellsAre R (List.replicate n v) (List.replicate n p)
  | 0 => .nil
  | n + 1 => .cons h (CellsAre.rep h n)
theorem CellsAre.val {R : Led} {vs : List Value} {ps : List (Sym × Role)} (h : CellsAre R vs ps) (i : Nat) (v : Value) (e : vs[i]? = some v) :
    ∃ t v₁ v₂ k, v = .ref t ∧ (t, tupOf v₁ v₂ k) ∈ R ∧ ∃ p, ps[i]? = some p ∧ ∃ tx tr, v₁ = .str p.1.str tx ∧ v₂ = .str p.2.str tr := by
  obtain ⟨p, hp, t, k, tx, tr, e, m⟩ := h.item e
  exact ⟨t, _, _, k, e, m, p, hp, tx, tr, rfl, rfl⟩
/-- rows with inserted signs, never ahead of the first, never last -/
def insSym : Nat → Sym
  | 0 => .bee | 1 => .nought | 2 => .slash | _ => .comma
inductive WithR : List (Sym × Role) → List (Sym × Role) → Prop
  | nil : WithR [] []
  | keep {a r f} : WithR r f → WithR (r ++ [a]) (f ++ [a])
  | ins {a r f j} : WithR r f → r ≠ [] → WithR (r ++ [a]) (f ++ [(insSym j, .insert), a])
theorem WithR.length {r f : List (Sym × Role)} (h : WithR r f) : f.length ≤ 2 * r.length := by
  induction h with
  | nil => simp
  | keep _ ih => simp only [List.length_append, List.length_cons, List.length_nil]; omega
  | ins _ _ ih => simp only [List.length_append, List.length_cons, List.length_nil]; omega
theorem CellsAre.take {R : Led} {vs : List Value} {ps : List (Sym × Role)} (h : CellsAre R vs ps) : ∀ n : Nat, CellsAre R (vs.take n) (ps.take n) := by
  induction h with
  | nil => intro n; simp only [List.take_nil]; exact .nil
  | cons a _ ih =>
    intro n
    cases n with
    | zero => exact .nil
    | succ n => exact .cons a (ih n)
section
variable {prog : Program} {w : World} {A : Around} {E : Value → Shared → Prop} {s : Shared} {h₀ : Heap} {L t : Addr} {news : Led} {n : Nat} {vs : List Value} {x : Int} {u : Tok} {value slice : PySem.Expr}
/-- an item of a made tuple, at an open place -/
theorem tup_at {Q : Value → Shared → Prop} (N : News h₀ L s.heap news) (hm : (t, { cls := .type "tuple", data := .seq vs.toArray n }) ∈ news) (h0 : 0 ≤ x) (hx : x < vs.length) (hz : vs.length ≤ 1000) (h : ∀ v, vs[x.toNat]? = some v → Q v s)
    (hs : subscripted slice false (.ref t) (.int x u) = operate [.ref t, .int x u] (getItem (.ref t) (.int x u)) := by with_unfolding_all rfl) :
    wpAny (model prog w) A (subscriptTail value slice (.ref t) (.int x u)) Q E s := by
  obtain ⟨j, rfl⟩ : ∃ j : Nat, x = j := ⟨x.toNat, by omega⟩
  have hj : j < vs.length := by omega
  refine item_tupleT (l := vs) (j := j) ⟨_, (N _ hm).1, rfl, _, rfl⟩ (by omega) (by omega) ?_ (List.getElem?_eq_getElem hj) (h _ ?_) hs
  · unfold seqIndex?
    simp
    omega
  · rw [Int.toNat_natCast]; exact List.getElem?_eq_getElem hj
end
theorem strOk_role (x : Role) : PyData.strOk x.str = true := by cases x <;> decide +kernel
theorem CellsAre.dat {R : Led} {vs : List Value} {ps : List (Sym × Role)} (h : CellsAre R vs ps) : DatAll R vs (ps.map fun p => .tuple [.str p.1.str, .str p.2.str]) := by
  induction h with
  | nil => exact .nil
  | cons a _ ih =>
    obtain ⟨t, k, tx, tc, rfl, m⟩ := a
    exact .cons (.tuple (vs := [_, _]) m (.cons (.str _ _) (.cons (.str _ _) .nil))) ih
section
variable {prog : Program} {w : World} {A : Around} {E : Value → Shared → Prop} {s : Shared} {h₀ : Heap} {L D b : Addr} {news : Led} {n n2 : Nat} {vs : List Value}
theorem eq_nil_cells {ps : List (Sym × Role)} {Q : Value → Shared → Prop} (N : News h₀ L s.heap news) (ma : (D, listOf vs.toArray n) ∈ news) (mb : (b, listOf #[] n2) ∈ news) (Da : CellsAre news vs ps) (hu : A.units + 64 < cLine) (h : ∀ c : Bool, (c = true → ps = []) → Q (.bool c) s) :
    wpAny (model prog w) A (compareOp .Eq (.ref D) (.ref b)) Q E s := by
  refine eq_dat (ws := []) N ma mb Da.dat .nil ?_ (by intro d hd; cases hd) hu (h _ fun hc => ?_)
  · intro d hd
    obtain ⟨p, _, rfl⟩ := List.mem_map.mp hd
    simp [kqdOk, strOk_sym, strOk_role]
  · exact List.map_eq_nil_iff.mp (of_decide_eq_true hc)
end
end
theorem reset_Sl : True := by
  (w_top off)
  k_with_none
  first | walk1 | trivial
section
open PySem PySem.W PyProof.Rows PySem.Spec PySem.Calls
theorem rows_Sl_1 : True := by
  k_with "MyPost" => (with_unfolding_all first | refine MyPost.next ?_ | refine MyPost.cont ?_ | refine MyPost.brk ?_ | refine MyPost.ret ?_)
  k_with "MyPostT" => (with_unfolding_all refine MyPostT.next ?_)
  k_with "exec For Name Name cons nil" => ((k_here; (rename Fr _ _ _ _ => lFq_rw); (with_unfolding_all refine' For_invVF lFq_rw (by exact rfl) (by exact rfl) ?_; k_whole)))
  k_with "pyIter str" => ((k_here; refine Halt.out ?_))
  k_with "pyIter ref" => ((k_here; refine Halt.out ?_))
  k_with "m_in" => (first | assumption | exact List.mem_append_left _ (by assumption) | exact List.mem_append_right _ (by assumption) | (refine List.mem_cons_of_mem _ ?_; walk_at "m_in"))
  k_with "m_sub" => (first | exact (fun _ h => h) | exact List.forall_mem_nil _ | (refine List.forall_mem_cons.mpr ⟨by k_mem, ?_⟩; walk_at "m_sub") | (intro p9_rw hp9_rw; walk_at "m_in"))
  k_with "m_map" => (first | exact off_sto (by walk_at "m_sub") | (refine off_step (by k_mem) ?_; walk_at "m_map"))
  k_with "getMethod ref" => ((k_here; (with_reducible show wpAny _ _ (getMethod (Value.ref _) (PySem.Str.ofString "count") _) _ _ _); k_dflt (refine' kf_method (by k_asm) (by k_mem) PySem.F.slot_list_count PySem.F.type_list_count ?_)))
  k_with "call builtin:list.append" => ((k_here; (with_reducible show wpAny _ _ (call (Value.builtin _) [Value.ref _, _]) _ _ _); k_dflt (refine' append_L (by k_asm) (by k_asm) (by k_upd) (by first | assumption | (simp only [List.length_append, List.length_cons, List.length_nil]; omega)) ?_; k_whole); intro hq_rw Fq_rw Nq_rw; (try k_sweep)))
  k_with "compareOp In str ref" => ((k_here; (with_reducible show wpAny _ _ (compareOp CmpOp.In (Value.str _ _) (Value.ref _)) _ _ _); k_dflt (refine' in_list_strs (by exact News.isList (by k_asm) (by k_mem)) (by k_asm) ?_; k_whole)))
  k_with "ite" => ((k_here; (with_reducible show (if ((_ : Int) == _) = true then _ else _)); first | (refine ite_pos (by (simp only [beq_iff_eq]); omega) ?_) | (refine ite_neg (by (simp only [beq_iff_eq]); omega) ?_)))
  k_with "WPost" => (with_unfolding_all refine WPost.next ?_)
  k_with "m_map" => (with_reducible exact fun _ _ => rfl)
  k_with "callWith" => ((k_here; (with_reducible show wpAny _ _ (callWith _ (Prod.fst _) (Prod.snd _) _ _) _ _ _); dsimp only; (with_reducible refine' callWith_method1 ?_ (by exact rfl) (by exact rfl))))
  k_with "t_at" => ((k_here; (with_reducible show wpAny _ _ (subscriptTail _ _ (Value.ref _) (Value.int _ _)) _ _ _); k_dflt (refine' tup_at (by k_asm) (by k_mem) (by omega) (by (simp only [List.length_cons, List.length_nil]; omega)) (by (simp only [List.length_cons, List.length_nil]; omega)) ?_); intro vq_rw hvq_rw))
  k_with "subscriptTail Tuple cons Call ref int" => (walk_at "t_at")
  k_with "subscriptTail Tuple cons BinOp ref int" => (walk_at "t_at")
  k_with "subscriptTail Tuple cons Name ref int" => (walk_at "t_at")
  k_with "execs cons" => ((k_here; (try dsimp only); (try (with_reducible refine gen_toks ?_; intro tkg_rw)); (with_reducible refine wpAny_execs_cons ?_); (try dsimp only); k_fold))
  trivial
section
variable {prog : Program} {w : World} {A : Around} {E : Value → Shared → Prop} {s : Shared} {h₀ : Heap} {L l : Addr} {m : Str → Option Value} {news : Led} {value slice : PySem.Expr} {vs : List Value} {n : Nat} {x y : Int} {ux uy : Tok} {Q : Value → Shared → Prop}
theorem pick_upto (h : 0 ≤ y) : (slicePick vs.toArray none (some y) none).toList = vs.take y.toNat := by
  have e : sliceBounds none (some y) none vs.toArray.size = (((0 : Nat) : Int), ((min y.toNat vs.toArray.size : Nat) : Int), 1) := by
    simp only [sliceBounds, Option.getD_none, show (1 : Int) > 0 by decide, if_true, if_neg (show ¬ (y < 0) by omega)]
    congr 1
    congr 1
    omega
  rw [kmk_pick_nat _ e]
  show (vs.drop 0).take (min y.toNat vs.toArray.size - 0) = _
  rw [List.drop_zero, Nat.sub_zero, List.size_toArray, kmk_take_min]
theorem pick_from (h : 0 ≤ x) : (slicePick vs.toArray (some x) none none).toList = vs.drop x.toNat := by
  have e : sliceBounds (some x) none none vs.toArray.size = (((min x.toNat vs.toArray.size : Nat) : Int), ((vs.toArray.size : Nat) : Int), 1) := by
    simp only [sliceBounds, Option.getD_none, show (1 : Int) > 0 by decide, if_true, if_neg (show ¬ (x < 0) by omega)]
    congr 1
    omega
  rw [kmk_pick_nat _ e]
  show (vs.drop (min x.toNat vs.toArray.size)).take (vs.toArray.size - min x.toNat vs.toArray.size) = _
  rw [List.size_toArray, kmk_drop_min, List.take_of_length_le (by rw [List.length_drop]; omega)]
theorem slice_upto (F : Fr h₀ L s.heap m) (N : News h₀ L s.heap news) (hm : (l, listOf vs.toArray n) ∈ news) (h0 : 0 ≤ y) (hz : vs.length ≤ 1000)
    (h : ∀ D h', Fr h₀ L h' m → News h₀ L h' ((D, listOf (vs.take y.toNat).toArray 0) :: news) → (∀ p ∈ news, p.1 < D) → Q (.ref D) { s with heap := h' })
    (hs : subscripted slice false (.ref l) (.ref s.heap.objs.size) = operate [.ref s.heap.objs.size, .ref l] (getItem (.ref l) (.ref s.heap.objs.size)) := by with_unfolding_all rfl) (ht : ∀ r, letTemporaryGo value (.ref l) r = pure () := by intro _; with_unfolding_all rfl) :
    wpAny (model prog w) A (subscriptTail value slice (.ref l) (.ref s.heap.objs.size)) Q E { s with heap := s.heap.push { cls := .type "slice", data := .fields #[.none, .int y uy, .none] } } :=
  kmk_slice_lit F N (News.isList N hm) IsPart.none (IsPart.int _ _) (pick_upto h0) h hs ht (by rw [List.size_toArray]; exact Nat.le_trans hz (by decide))
theorem slice_from (F : Fr h₀ L s.heap m) (N : News h₀ L s.heap news) (hm : (l, listOf vs.toArray n) ∈ news) (h0 : 0 ≤ x) (hz : vs.length ≤ 1000)
    (h : ∀ D h', Fr h₀ L h' m → News h₀ L h' ((D, listOf (vs.drop x.toNat).toArray 0) :: news) → (∀ p ∈ news, p.1 < D) → Q (.ref D) { s with heap := h' })
    (hs : subscripted slice false (.ref l) (.ref s.heap.objs.size) = operate [.ref s.heap.objs.size, .ref l] (getItem (.ref l) (.ref s.heap.objs.size)) := by with_unfolding_all rfl) (ht : ∀ r, letTemporaryGo value (.ref l) r = pure () := by intro _; with_unfolding_all rfl) :
    wpAny (model prog w) A (subscriptTail value slice (.ref l) (.ref s.heap.objs.size)) Q E { s with heap := s.heap.push { cls := .type "slice", data := .fields #[.int x ux, .none, .none] } } :=
  kmk_slice_lit F N (News.isList N hm) (IsPart.int _ _) IsPart.none (pick_from h0) h hs ht (by rw [List.size_toArray]; exact Nat.le_trans hz (by decide))
end
end
theorem reset_Rp : True := by
  (w_top off)
  k_with_none
  first | walk1 | trivial
section
open PySem PySem.W PyProof.Rows PySem.Spec PySem.Calls
theorem rows_Rp_1 : True := by
  k_with "MyPost" => (with_unfolding_all first | refine MyPost.next ?_ | refine MyPost.cont ?_ | refine MyPost.brk ?_ | refine MyPost.ret ?_)
  k_with "MyPostT" => (with_unfolding_all refine MyPostT.next ?_)
  k_with "exec For Name Name cons nil" => ((k_here; (rename Fr _ _ _ _ => lFq_rw); (with_unfolding_all refine' For_invVF lFq_rw (by exact rfl) (by exact rfl) ?_; k_whole)))
  k_with "pyIter str" => ((k_here; refine Halt.out ?_))
  k_with "pyIter ref" => ((k_here; refine Halt.out ?_))
  k_with "m_in" => (first | assumption | exact List.mem_append_left _ (by assumption) | exact List.mem_append_right _ (by assumption) | (refine List.mem_cons_of_mem _ ?_; walk_at "m_in"))
  k_with "m_sub" => (first | exact (fun _ h => h) | exact List.forall_mem_nil _ | (refine List.forall_mem_cons.mpr ⟨by k_mem, ?_⟩; walk_at "m_sub") | (intro p9_rw hp9_rw; walk_at "m_in"))
  k_with "m_map" => (first | exact off_sto (by walk_at "m_sub") | (refine off_step (by k_mem) ?_; walk_at "m_map"))
  k_with "getMethod ref" => ((k_here; (with_reducible show wpAny _ _ (getMethod (Value.ref _) (PySem.Str.ofString "count") _) _ _ _); k_dflt (refine' kf_method (by k_asm) (by k_mem) PySem.F.slot_list_count PySem.F.type_list_count ?_)))
  k_with "call builtin:list.append" => ((k_here; (with_reducible show wpAny _ _ (call (Value.builtin _) [Value.ref _, _]) _ _ _); k_dflt (refine' append_L (by k_asm) (by k_asm) (by k_upd) (by first | assumption | (simp only [List.length_append, List.length_cons, List.length_nil]; omega)) ?_; k_whole); intro hq_rw Fq_rw Nq_rw; (try k_sweep)))
  k_with "compareOp In str ref" => ((k_here; (with_reducible show wpAny _ _ (compareOp CmpOp.In (Value.str _ _) (Value.ref _)) _ _ _); k_dflt (refine' in_list_strs (by exact News.isList (by k_asm) (by k_mem)) (by k_asm) ?_; k_whole)))
  k_with "ite" => ((k_here; (with_reducible show (if ((_ : Int) == _) = true then _ else _)); first | (refine ite_pos (by (simp only [beq_iff_eq]); omega) ?_) | (refine ite_neg (by (simp only [beq_iff_eq]); omega) ?_)))
  k_with "WPost" => (with_unfolding_all refine WPost.next ?_)
  k_with "m_map" => (with_reducible exact fun _ _ => rfl)
  k_with "callWith" => ((k_here; (with_reducible show wpAny _ _ (callWith _ (Prod.fst _) (Prod.snd _) _ _) _ _ _); dsimp only; (with_reducible refine' callWith_method1 ?_ (by exact rfl) (by exact rfl))))
  k_with "t_at" => ((k_here; (with_reducible show wpAny _ _ (subscriptTail _ _ (Value.ref _) (Value.int _ _)) _ _ _); k_dflt (refine' tup_at (by k_asm) (by k_mem) (by omega) (by (simp only [List.length_cons, List.length_nil]; omega)) (by (simp only [List.length_cons, List.length_nil]; omega)) ?_); intro vq_rw hvq_rw))
  k_with "subscriptTail Tuple cons Call ref int" => (walk_at "t_at")
  k_with "subscriptTail Tuple cons BinOp ref int" => (walk_at "t_at")
  k_with "subscriptTail Tuple cons Name ref int" => (walk_at "t_at")
  k_with "execs cons" => ((k_here; (try dsimp only); (try (with_reducible refine gen_toks ?_; intro tkg_rw)); (with_reducible refine wpAny_execs_cons ?_); (try dsimp only); k_fold))
  trivial
def menuW : Nat → Sym × Role
  | 0 => (.zed, .zero) | 1 => (.star, .star) | 2 => (.dollar, .float) | 3 => (.plus, .float) | 4 => (.minus, .float) | _ => (.nine, .figure)
def looseW (c : Sym × Role) (many : Nat) : List (Sym × Role) := if c.2 = .float then (c.1, .lead) :: List.replicate many c else List.replicate many c
def openW (way : Nat) : Bool := !(way == 3 || way == 4)
inductive FrontR (o : Bool) : List (Sym × Role) → Prop
  | nil : FrontR o []
  | plus : o = true → FrontR o [(.plus, .fixed)]
  | minus : o = true → FrontR o [(.minus, .fixed)]
inductive MoneyR (o : Bool) (way : Nat) : List (Sym × Role) → Prop
  | nil : MoneyR o way []
  | one : o = true → way ≠ 2 → MoneyR o way [(.dollar, .fixed)]
inductive PointC : Sym × Role → Prop
  | dot : PointC (.dot, .point)
  | vee : PointC (.vee, .mark)
inductive TailR (way nines : Nat) : List (Sym × Role) → Prop
  | nil : TailR way nines []
  | scale {n} : 1 ≤ n → n ≤ 2 → TailR way nines (List.replicate n (.pee, .none))
  | nines {p n} : PointC p → 1 ≤ n → n ≤ 3 → TailR way nines (p :: List.replicate n (.nine, .figure))
  | loose {p n} : PointC p → 1 ≤ n → n ≤ 3 → nines = 0 → way < 5 → TailR way nines (p :: List.replicate n (menuW way))
inductive LastR (o : Bool) (front : List (Sym × Role)) : List (Sym × Role) → Prop
  | nil : LastR o front []
  | one {x} : o = true → front = [] → x = .cr ∨ x = .db ∨ x = .plus ∨ x = .minus → LastR o front [(x, .fixed)]
structure IsRow (rows : List (Sym × Role)) : Prop where
  ex : ∃ way many nines front money mid tail last, way < 6 ∧ 1 ≤ many ∧ many ≤ 4 ∧ nines ≤ 2 ∧ FrontR (openW way) front ∧ MoneyR (openW way) way money ∧
    WithR (looseW (menuW way) many ++ List.replicate nines (.nine, .figure)) mid ∧ TailR way nines tail ∧ LastR (openW way) front last ∧ rows = front ++ money ++ mid ++ tail ++ last
end
theorem reset_S4 : True := by
  (w_top off)
  k_with_none
  first | walk1 | trivial
section
open PySem PySem.W PyProof.Rows PySem.Spec PySem.Calls
theorem rows_S4_1 : True := by
  k_with "MyPost" => (with_unfolding_all first | refine MyPost.next ?_ | refine MyPost.cont ?_ | refine MyPost.brk ?_ | refine MyPost.ret ?_)
  k_with "MyPostT" => (with_unfolding_all refine MyPostT.next ?_)
  k_with "exec For Name Name cons nil" => ((k_here; (rename Fr _ _ _ _ => lFq_rw); (with_unfolding_all refine' For_invVF lFq_rw (by exact rfl) (by exact rfl) ?_; k_whole)))
  k_with "pyIter str" => ((k_here; refine Halt.out ?_))
  k_with "pyIter ref" => ((k_here; refine Halt.out ?_))
  k_with "m_in" => (first | assumption | exact List.mem_append_left _ (by assumption) | exact List.mem_append_right _ (by assumption) | (refine List.mem_cons_of_mem _ ?_; walk_at "m_in"))
  k_with "m_sub" => (first | exact (fun _ h => h) | exact List.forall_mem_nil _ | (refine List.forall_mem_cons.mpr ⟨by k_mem, ?_⟩; walk_at "m_sub") | (intro p9_rw hp9_rw; walk_at "m_in"))
  k_with "m_map" => (first | exact off_sto (by walk_at "m_sub") | (refine off_step (by k_mem) ?_; walk_at "m_map"))
  k_with "getMethod ref" => ((k_here; (with_reducible show wpAny _ _ (getMethod (Value.ref _) (PySem.Str.ofString "count") _) _ _ _); k_dflt (refine' kf_method (by k_asm) (by k_mem) PySem.F.slot_list_count PySem.F.type_list_count ?_)))
  k_with "call builtin:list.append" => ((k_here; (with_reducible show wpAny _ _ (call (Value.builtin _) [Value.ref _, _]) _ _ _); k_dflt (refine' append_L (by k_asm) (by k_asm) (by k_upd) (by first | assumption | (simp only [List.length_append, List.length_cons, List.length_nil]; omega)) ?_; k_whole); intro hq_rw Fq_rw Nq_rw; (try k_sweep)))
  k_with "compareOp In str ref" => ((k_here; (with_reducible show wpAny _ _ (compareOp CmpOp.In (Value.str _ _) (Value.ref _)) _ _ _); k_dflt (refine' in_list_strs (by exact News.isList (by k_asm) (by k_mem)) (by k_asm) ?_; k_whole)))
  k_with "ite" => ((k_here; (with_reducible show (if ((_ : Int) == _) = true then _ else _)); first | (refine ite_pos (by (simp only [beq_iff_eq]); omega) ?_) | (refine ite_neg (by (simp only [beq_iff_eq]); omega) ?_)))
  k_with "WPost" => (with_unfolding_all refine WPost.next ?_)
  k_with "m_map" => (with_reducible exact fun _ _ => rfl)
  k_with "callWith" => ((k_here; (with_reducible show wpAny _ _ (callWith _ (Prod.fst _) (Prod.snd _) _ _) _ _ _); dsimp only; (with_reducible refine' callWith_method1 ?_ (by exact rfl) (by exact rfl))))
  k_with "t_at" => ((k_here; (with_reducible show wpAny _ _ (subscriptTail _ _ (Value.ref _) (Value.int _ _)) _ _ _); k_dflt (refine' tup_at (by k_asm) (by k_mem) (by omega) (by (simp only [List.length_cons, List.length_nil]; omega)) (by (simp only [List.length_cons, List.length_nil]; omega)) ?_); intro vq_rw hvq_rw))
  k_with "subscriptTail Tuple cons Call ref int" => (walk_at "t_at")
  k_with "subscriptTail Tuple cons BinOp ref int" => (walk_at "t_at")
  k_with "subscriptTail Tuple cons Name ref int" => (walk_at "t_at")
  k_with "execs cons" => ((k_here; (try dsimp only); (try (with_reducible refine gen_toks ?_; intro tkg_rw)); (with_reducible refine wpAny_execs_cons ?_); (try dsimp only); k_fold))
  k_with "exec For Name Subscript cons nil" => ((k_here; (rename Fr _ _ _ _ => lFq_rw); (with_unfolding_all refine' For_invVF lFq_rw (by exact rfl) (by exact rfl) ?_ (by (intro _; with_unfolding_all rfl)); k_whole)))
  trivial
local macro_rules | `(tactic| walk_at "subscriptTail Name Slice ref ref") => `(tactic| (k_here; (with_reducible show wpAny _ _ (subscriptTail _ (PySem.Expr.Slice _ _ none _) (Value.ref _) (Value.ref _)) _ _ _); first
  | (k_dflt (refine' slice_upto ?F ?N ?m ?y ?z ?_; (case F => k_asm); (case N => k_asm); (case m => k_mem); (case y => decide); (case z => assumption)); intro D' h' F' N' l1; (try simp only [Int.reduceToNat] at N'); (try k_lt l1); (try k_sweep))
  | (k_dflt (refine' slice_from ?F ?N ?m ?y ?z ?_; (case F => k_asm); (case N => k_asm); (case m => k_mem); (case y => decide); (case z => assumption)); intro D' h' F' N' l1; (try simp only [Int.reduceToNat] at N'); (try k_lt l1); (try k_sweep))))
theorem rows_S4_2 : True := by
  k_with "call ref" => ((k_here; (with_reducible show wpAny _ _ (call (Value.ref 348) _) _ _ _); refine Halt.out ?_))
  trivial
theorem off_tl {I : Addr} {x : Addr × Obj} {r : Led} (h : ∀ p ∈ x :: r, p.1 ≠ I) : ∀ p ∈ r, p.1 ≠ I := fun p hp => h p (List.mem_cons_of_mem _ hp)
theorem ins_val {t0 t1 t2 t3 : Tok} {v : Value} : ∀ {j : Nat}, [Value.str (Str.ofString "B") t0, Value.str (Str.ofString "0") t1, Value.str (Str.ofString "/") t2, Value.str (Str.ofString ",") t3][j]? = some v → ∃ u, v = .str (insSym j).str u
  | 0, h => ⟨t0, (Option.some.inj h).symm⟩
  | 1, h => ⟨t1, (Option.some.inj h).symm⟩
  | 2, h => ⟨t2, (Option.some.inj h).symm⟩
  | 3, h => ⟨t3, (Option.some.inj h).symm⟩
  | j + 4, h => by simp at h
inductive WithOut (wa la : Addr) (vs : List Value) (n1 n2 : Nat) (rows : List (Sym × Role)) (R : Led) (r : Value) (news' : Led) : Prop
  | intro (fa : Addr) (fvs : List Value) (n : Nat) (k' : Int) (t' : Tok) (own : Led) (rows' : List (Sym × Role)) (hr : r = .ref fa) (hW : WithR rows rows') (hC : CellsAre (own ++ R) fvs rows') (hk : 0 ≤ k') (hn : news' = ((fa, listOf fvs.toArray n) :: (wa, listOf [.ref la, .int k' t'].toArray n2) :: (la, listOf vs.toArray n1) :: (own ++ R))) (hf : @LT.lt Nat _ wa fa) (ho : ∀ p ∈ own, @LT.lt Nat _ wa p.1) : WithOut wa la vs n1 n2 rows R r news'
inductive WithJ (wa la fa : Addr) (vs : List Value) (n1 n2 : Nat) (rows : List (Sym × Role)) (R : Led) (nw : Led) : Prop
  | intro (fvs : List Value) (n : Nat) (k' : Int) (t' : Tok) (own : Led) (rows' : List (Sym × Role)) (hn : nw = ((fa, listOf fvs.toArray n) :: (wa, listOf [.ref la, .int k' t'].toArray n2) :: (la, listOf vs.toArray n1) :: (own ++ R))) (hW : WithR rows rows') (hC : CellsAre (own ++ R) fvs rows') (hk : 0 ≤ k') (ho : ∀ p ∈ own, @LT.lt Nat _ wa p.1) (hf : ∀ p ∈ own ++ R, p.1 ≠ fa) : WithJ wa la fa vs n1 n2 rows R nw
theorem with_tel (w : World) (la wa ra : Addr) (vs rvs : List Value) (ns : List Int) (rows : List (Sym × Role)) (n1 n2 n3 : Nat) (k : Int) (tk : Tok) (R : Led)
   (hi : IntsAre vs ns) (hL : ns.length ≤ 63) (hk0 : 0 ≤ k) (hr : CellsAre R rvs rows) (hz : rows.length ≤ 30) (hne : @LT.lt Nat _ la wa) (h1 : ∀ p ∈ R, p.1 ≠ wa) (hra : @LT.lt Nat _ wa ra) :
   Tel w 355 8 [.ref wa, .ref ra] ((wa, listOf [.ref la, .int k tk].toArray n2) :: (la, listOf vs.toArray n1) :: (ra, listOf rvs.toArray n3) :: R) (WithOut wa la vs n1 n2 rows R) := by
  unfold Tel
  intro p loose mean mg mb dp un gd cn cs a ccd cl outer A₀ base h₀ L m s Q E hR B F X N T hk hd hu hret
  revert hR; k_fill; intro hR
  refine wpAny_call ?_
  k_dflt ktr_enter
  have hz9 : rvs.length ≤ 1000 := by have := hr.length; omega
  k_steps
  unfold Halt
  rename Fr _ _ _ _ => F9
  rename News _ _ _ _ => N9
  refine news_open N9 fun xa exa => ?_
  replace exa := exa.symm
  subst exa
  refine news_open (news_tl N9) fun fa efa => ?_
  replace efa := efa.symm
  subst efa
  rename _ ∧ _ ∧ _ ∧ _ ∧ AllLt xa _ => hlx
  rename _ ∧ _ ∧ _ ∧ AllLt fa _ => hlf
  refine fold_goal fun G9 hG9 => ?_
  obtain ⟨x1, x2, x3, x4, x5⟩ := hlx
  refine hG9 ?_
  clear hG9
  refine fold_goal fun G9 hG9 => ?_
  obtain ⟨f1, f2, f3, f4⟩ := hlf
  refine hG9 ?_
  clear hG9
  have hN0 : 1 ≤ 1 + (rvs.drop 1).length := by omega
  refine iter_listX [] (fun i => WithJ wa la fa vs n1 n2 (rows.take (i + 1)) R) rfl F9 N9 (by k_mem) (by walk_at "m_sub") ⟨rvs.take 1, 0, k, tk, [], rows.take 1, rfl, ?_, ?_, hk0, (fun _ h => nomatch h), allLt_ne f4⟩ ?_ ?_
  · cases rows with
    | nil => exact .nil
    | cons r0 rest => exact .keep (r := []) (f := []) .nil
  · exact hr.take 1
  · rintro i v us news₁ h tk' I it hv hJ9a F8 N8 hne8 off
    refine fold_goal fun G9 hG9 => ?_
    obtain ⟨fvs, n, k', t', own, rows', rfl, hW, hC, hk', hown, hownf⟩ := hJ9a
    refine hG9 ?_
    clear hG9
    clear F9 N9
    rw [List.getElem?_drop, Nat.add_comm] at hv
    refine fold_goal fun G9 hG9 => ?_
    obtain ⟨q, hq, t0, kk, tx, tr, rfl, hm⟩ := hr.item hv
    refine hG9 ?_
    clear hG9
    have hfz2 : fvs.length ≤ 100 := by
      have e1 := hC.length
      have e2 := hW.length
      have e3 := List.length_take (i := i + 1) (l := rows)
      omega
    have hfz : fvs.length ≤ 1000 := by omega
    have hne0 : rows.take (i + 1) ≠ [] := by
      intro e
      have e1 := congrArg List.length e
      have e2 := (List.getElem?_eq_some_iff.mp hq).1
      rw [List.length_take, List.length_nil] at e1
      omega
    have hIw : @Ne Nat I wa := Ne.symm (off (wa, _) (List.mem_cons_of_mem _ List.mem_cons_self))
    have hIf : @Ne Nat fa I := off (fa, _) List.mem_cons_self
    have hoR : ∀ p ∈ own ++ R, p.1 ≠ wa := fun p hp => (List.mem_append.mp hp).elim (fun h => Nat.ne_of_gt (hown p h)) (h1 p)
    have hmo := List.mem_append_right own hm
    have hT : ∀ p ∈ own ++ R, p.1 ≠ fa := hownf
    generalize hTe : own ++ R = T9 at *
    k_steps
    unfold Halt
    rename News _ _ _ _ => N5
    have N6 : News _ _ _ ((wa, listOf [.ref la, .int k' t'].toArray n2) :: (la, listOf vs.toArray n1) :: ((I, it) :: (xa, listOf (rvs.drop 1).toArray 0) :: (fa, listOf fvs.toArray n) :: T9)) := news_sub N5 (by walk_at "m_sub")
    try k_fold
    k_dflt (refine' tel_use (turn_tel w la wa vs ns n1 n2 k' t' 3 _ _ hi hL hk' (by decide) hne (List.forall_mem_cons.mpr ⟨hIw, List.forall_mem_cons.mpr ⟨Nat.ne_of_gt x2, List.forall_mem_cons.mpr ⟨Nat.ne_of_gt f1, hoR⟩⟩⟩)) ?B ?F ?X (N6) ?T ?hk ?hd ?hu ?_)
    case B => k_asm
    case F => k_asm
    case X => k_asm
    case T => k_asm
    case hk => first | exact rfl | assumption
    case hd => ktr_room
    case hu => ktr_units
    rintro r9 news9 h9 tk9 ⟨x9, t9, t9', hr9, hx0, hx3, hn9⟩ F7 N7
    subst hr9
    subst hn9
    clear N5 N6
    k_steps
    · unfold Halt
      rename News _ _ _ _ => N5
      refine news_open N5 fun ta eta => ?_
      replace eta := eta.symm
      subst eta
      have hwt : @Ne Nat ta wa := by k_ne
      have N6 : News _ _ _ ((wa, listOf [.ref la, .int (k' + 1) t9'].toArray n2) :: (la, listOf vs.toArray n1) :: ((ta, _) :: (I, it) :: (xa, listOf (rvs.drop 1).toArray 0) :: (fa, listOf fvs.toArray n) :: T9)) := news_sub N5 (by walk_at "m_sub")
      try k_fold
      k_dflt (refine' tel_use (turn_tel w la wa vs ns n1 n2 (k' + 1) t9' 4 _ _ hi hL (by omega) (by decide) hne (List.forall_mem_cons.mpr ⟨hwt, List.forall_mem_cons.mpr ⟨hIw, List.forall_mem_cons.mpr ⟨Nat.ne_of_gt x2, List.forall_mem_cons.mpr ⟨Nat.ne_of_gt f1, hoR⟩⟩⟩⟩)) ?B ?F ?X (N6) ?T ?hk ?hd ?hu ?_)
      case B => k_asm
      case F => k_asm
      case X => k_asm
      case T => k_asm
      case hk => first | exact rfl | assumption
      case hd => ktr_room
      case hu => ktr_units
      rintro r8 news8 h8 tk8 ⟨x8, t8, t8', hr8, hy0, hy4, hn8⟩ F7 N7
      subst hr8
      subst hn8
      clear N5 N6
      k_steps
      subst hTe
      rename _ = some _ => hv9
      obtain ⟨u9, rfl⟩ := ins_val hv9
      unfold Halt
      rename News _ _ _ _ => N5
      refine news_open N5 fun D5 eD5 => ?_
      replace eD5 := eD5.symm
      subst eD5
      have hD5I : @Ne Nat D5 I := by k_ne
      have hD5f : @Ne Nat D5 fa := by k_ne
      have hD5w : @LT.lt Nat _ wa D5 := by (refine ltN ?_; omega)
      refine MyEnd.ofX ((fa, _) :: (wa, listOf [.ref la, .int (k' + 1 + 1) t8'].toArray n2) :: (la, listOf vs.toArray n1) :: (((D5, tupOf (.str (insSym x8.toNat).str u9) (.str (Str.ofString "insert") _) 0) :: own) ++ R)) (by k_asm) N5 (by walk_at "m_sub") (by walk_at "m_sub") (List.forall_mem_cons.mpr ⟨hIf, off_put (List.forall_mem_cons.mpr ⟨off _ (List.mem_cons_of_mem _ (List.mem_cons_self)), List.forall_mem_cons.mpr ⟨off _ (List.mem_cons_of_mem _ (List.mem_cons_of_mem _ List.mem_cons_self)), List.forall_mem_cons.mpr ⟨hD5I, off_tl (off_tl (off_tl off))⟩⟩⟩)⟩) (by walk_at "m_map") ⟨_, _, k' + 1 + 1, t8', _, rows' ++ [(insSym x8.toNat, .insert), q], rfl, ?_, ?_, by omega, ?_, ?_⟩
      · rw [take_succ_get hq]
        exact .ins hW hne0
      · rw [List.append_assoc]
        exact (hC.mono fun q hq => List.mem_cons_of_mem _ hq).append (.cons ⟨D5, _, _, _, rfl, List.mem_cons_self⟩ (.cons ⟨t0, kk, tx, tr, rfl, List.mem_cons_of_mem _ hmo⟩ .nil))
      · exact List.forall_mem_cons.mpr ⟨hD5w, hown⟩
      · exact List.forall_mem_cons.mpr ⟨hD5f, hownf⟩
    · subst hTe
      unfold Halt
      refine MyEnd.ofX ((fa, _) :: (wa, listOf [.ref la, .int (k' + 1) t9'].toArray n2) :: (la, listOf vs.toArray n1) :: (own ++ R)) (by k_asm) (by k_asm) (by walk_at "m_sub") (by walk_at "m_sub") (List.forall_mem_cons.mpr ⟨hIf, off_put (off_tl off)⟩) (by walk_at "m_map") ⟨_, _, k' + 1, t9', own, _, rfl, ?_, hC.append (.cons ⟨t0, kk, tx, tr, rfl, hmo⟩ .nil), by omega, hown, hownf⟩
      rw [take_succ_get hq]
      exact .keep hW
  · rintro us news₁ h tk' hJ9a F8 N8
    refine fold_goal fun G9 hG9 => ?_
    obtain ⟨fvs, n, k', t', own, rows', rfl, hW, hC, hk', hown, hownf⟩ := hJ9a
    refine hG9 ?_
    clear hG9
    clear F9 N9
    have hr9 : rows.take ((rvs.drop 1).length + 1) = rows := by
      rw [List.length_drop]
      have := hr.length
      exact List.take_of_length_le (by omega)
    rw [hr9] at hW
    k_steps
    rename News h₀ L _ _ => N5
    exact hret _ _ _ _ ⟨fa, fvs, n, k', t', own, rows', rfl, hW, hC, hk', rfl, f1, hown⟩ (by k_asm) (news_sub N5 (by walk_at "m_sub"))
end
theorem reset_S5 : True := by
  (w_top off)
  k_with_none
  first | walk1 | trivial
section
open PySem PySem.W PyProof.Rows PySem.Spec PySem.Calls
theorem rows_S5_1 : True := by
  k_with "MyPost" => (with_unfolding_all first | refine MyPost.next ?_ | refine MyPost.cont ?_ | refine MyPost.brk ?_ | refine MyPost.ret ?_)
  k_with "MyPostT" => (with_unfolding_all refine MyPostT.next ?_)
  k_with "exec For Name Name cons nil" => ((k_here; (rename Fr _ _ _ _ => lFq_rw); (with_unfolding_all refine' For_invVF lFq_rw (by exact rfl) (by exact rfl) ?_; k_whole)))
  k_with "pyIter str" => ((k_here; refine Halt.out ?_))
  k_with "pyIter ref" => ((k_here; refine Halt.out ?_))
  k_with "m_in" => (first | assumption | exact List.mem_append_left _ (by assumption) | exact List.mem_append_right _ (by assumption) | (refine List.mem_cons_of_mem _ ?_; walk_at "m_in"))
  k_with "m_sub" => (first | exact (fun _ h => h) | exact List.forall_mem_nil _ | (refine List.forall_mem_cons.mpr ⟨by k_mem, ?_⟩; walk_at "m_sub") | (intro p9_rw hp9_rw; walk_at "m_in"))
  k_with "m_map" => (first | exact off_sto (by walk_at "m_sub") | (refine off_step (by k_mem) ?_; walk_at "m_map"))
  k_with "getMethod ref" => ((k_here; (with_reducible show wpAny _ _ (getMethod (Value.ref _) (PySem.Str.ofString "count") _) _ _ _); k_dflt (refine' kf_method (by k_asm) (by k_mem) PySem.F.slot_list_count PySem.F.type_list_count ?_)))
  k_with "call builtin:list.append" => ((k_here; (with_reducible show wpAny _ _ (call (Value.builtin _) [Value.ref _, _]) _ _ _); k_dflt (refine' append_L (by k_asm) (by k_asm) (by k_upd) (by first | assumption | (simp only [List.length_append, List.length_cons, List.length_nil]; omega)) ?_; k_whole); intro hq_rw Fq_rw Nq_rw; (try k_sweep)))
  k_with "compareOp In str ref" => ((k_here; (with_reducible show wpAny _ _ (compareOp CmpOp.In (Value.str _ _) (Value.ref _)) _ _ _); k_dflt (refine' in_list_strs (by exact News.isList (by k_asm) (by k_mem)) (by k_asm) ?_; k_whole)))
  k_with "ite" => ((k_here; (with_reducible show (if ((_ : Int) == _) = true then _ else _)); first | (refine ite_pos (by (simp only [beq_iff_eq]); omega) ?_) | (refine ite_neg (by (simp only [beq_iff_eq]); omega) ?_)))
  k_with "WPost" => (with_unfolding_all refine WPost.next ?_)
  k_with "m_map" => (with_reducible exact fun _ _ => rfl)
  k_with "callWith" => ((k_here; (with_reducible show wpAny _ _ (callWith _ (Prod.fst _) (Prod.snd _) _ _) _ _ _); dsimp only; (with_reducible refine' callWith_method1 ?_ (by exact rfl) (by exact rfl))))
  k_with "t_at" => ((k_here; (with_reducible show wpAny _ _ (subscriptTail _ _ (Value.ref _) (Value.int _ _)) _ _ _); k_dflt (refine' tup_at (by k_asm) (by k_mem) (by omega) (by (simp only [List.length_cons, List.length_nil]; omega)) (by (simp only [List.length_cons, List.length_nil]; omega)) ?_); intro vq_rw hvq_rw))
  k_with "subscriptTail Tuple cons Call ref int" => (walk_at "t_at")
  k_with "subscriptTail Tuple cons BinOp ref int" => (walk_at "t_at")
  k_with "subscriptTail Tuple cons Name ref int" => (walk_at "t_at")
  k_with "execs cons" => ((k_here; (try dsimp only); (try (with_reducible refine gen_toks ?_; intro tkg_rw)); (with_reducible refine wpAny_execs_cons ?_); (try dsimp only); k_fold))
  k_with "call ref" => ((k_here; (first | (with_reducible show wpAny _ _ (call (Value.ref 348) _) _ _ _) | (with_reducible show wpAny _ _ (call (Value.ref 355) _) _ _ _)); refine Halt.out ?_))
  k_with "exec Assign cons IfExp" => ((k_here; (have stp9_rw := (by assumption : Stop)); clear stp9_rw; refine Halt.out ?_))
  k_with "exec Assign cons Subscript" => ((k_here; (have stp9_rw := (by assumption : Stop)); clear stp9_rw; refine Halt.out ?_))
  k_with "compareOp Eq ref ref" => ((k_here; (with_reducible show wpAny _ _ (compareOp CmpOp.Eq (Value.ref _) (Value.ref _)) _ _ _); k_dflt (refine eq_nil_cells (by k_asm) (by k_mem) (by k_mem) (by first | assumption | exact CellsAre.mono (by assumption) (by walk_at "m_sub")) (by units_room) ?_); intro cq_rw hcq_rw))
  trivial
inductive Stop3 : Prop | mk
theorem rows_S5_2 : True := by
  k_with "exec If" => ((k_here; (have stp9_rw := (by assumption : Stop3)); clear stp9_rw; refine Halt.out ?_))
  k_with "binaryOp Mult ref int" => ((k_here; (with_reducible show wpAny _ _ (binaryOp Operator.Mult (Value.ref _) (Value.int _ _)) _ _ _); k_dflt (refine' mul_1 (by k_asm) (by k_asm) (by k_mem) (by omega) (by omega) ?_); intro aq_rw hq_rw Fq_rw Nq_rw l1_rw; (try k_lt l1_rw); (try k_sweep)))
  k_with "binaryOp Add ref ref" => ((k_here; (with_reducible show wpAny _ _ (binaryOp Operator.Add (Value.ref _) (Value.ref _)) _ _ _); k_dflt (refine' add_LL (by k_asm) (by k_asm) (by k_mem) (by k_mem) (by first | omega | (simp only [List.length_append, List.length_cons, List.length_nil, List.length_replicate]; omega)) ?_); intro aq_rw hq_rw Fq_rw Nq_rw l1_rw; (try k_lt l1_rw); (try k_sweep)))
  k_with "subscriptTail Tuple cons Name ref int" => ((k_here; (have stp9_rw := (by assumption : Stop2)); clear stp9_rw; refine Halt.out ?_))
  trivial
/-- v is a list of rows, laid in T -/
def RowAt (T : Led) (v : Value) (rows : List (Sym × Role)) : Prop := ∃ a vs n, v = .ref a ∧ (a, listOf vs.toArray n) ∈ T ∧ CellsAre T vs rows
theorem RowAt.mono {T T' : Led} {v : Value} {rows : List (Sym × Role)} (h : RowAt T v rows) (s : ∀ q ∈ T, q ∈ T') : RowAt T' v rows := let ⟨a, vs, n, e, m, c⟩ := h; ⟨a, vs, n, e, s _ m, c.mono s⟩
inductive StepJ (wa la : Addr) (vs : List Value) (n1 n2 : Nat) (T0 : Led) (P : List (Sym × Role) → Prop) (v : Value) (nw : Led) : Prop
  | intro (k : Int) (t : Tok) (T : Led) (rows : List (Sym × Role)) (e : nw = (wa, listOf [.ref la, .int k t].toArray n2) :: (la, listOf vs.toArray n1) :: T) (hk : 0 ≤ k) (hT : ∀ p ∈ T, p.1 ≠ wa) (hs : ∀ p ∈ T0, p ∈ T) (hr : RowAt T v rows) (hp : P rows) : StepJ wa la vs n1 n2 T0 P v nw
theorem float_str (r : Role) : (r.str == Str.ofString "float") = decide (r = .float) := by cases r <;> decide +kernel
theorem pm_val {t0 t1 : Tok} {v : Value} : ∀ {j : Nat}, [Value.str (Str.ofString "+") t0, Value.str (Str.ofString "-") t1][j]? = some v → ∃ x u, v = .str (Sym.str x) u ∧ (x = .plus ∨ x = .minus)
  | 0, h => ⟨.plus, t0, (Option.some.inj h).symm, .inl rfl⟩
  | 1, h => ⟨.minus, t1, (Option.some.inj h).symm, .inr rfl⟩
  | j + 2, h => by simp at h
theorem looseW_len (c : Sym × Role) (n : Nat) : (looseW c n).length ≤ n + 1 := by
  unfold looseW
  split <;> simp
theorem any12 {k : Int} (h : (([1, 2] : List Int).any fun x => x == k) = true) : k = 1 ∨ k = 2 := by
  simp only [List.any_cons, List.any_nil, Bool.or_false, Bool.or_eq_true, beq_iff_eq] at h
  omega
theorem pt_val {R : Led} {a b : Addr} {ta tb tc td : Tok} {v : Value} (ha : (a, tupOf (.str (Str.ofString ".") ta) (.str (Str.ofString "point") tb) 0) ∈ R) (hb : (b, tupOf (.str (Str.ofString "V") tc) (.str (Str.ofString "mark") td) 0) ∈ R) : ∀ {j : Nat}, [Value.ref a, Value.ref b][j]? = some v → ∃ p, PointC p ∧ CellIs R v p
  | 0, h => ⟨(.dot, .point), .dot, a, _, ta, tb, (Option.some.inj h).symm, ha⟩
  | 1, h => ⟨(.vee, .mark), .vee, b, _, tc, td, (Option.some.inj h).symm, hb⟩
  | j + 2, h => by simp at h
theorem cr_val {t0 t1 t2 t3 : Tok} {v : Value} : ∀ {j : Nat}, [Value.str (Str.ofString "CR") t0, Value.str (Str.ofString "DB") t1, Value.str (Str.ofString "+") t2, Value.str (Str.ofString "-") t3][j]? = some v → ∃ x u, v = .str (Sym.str x) u ∧ (x = .cr ∨ x = .db ∨ x = .plus ∨ x = .minus)
  | 0, h => ⟨.cr, t0, (Option.some.inj h).symm, .inl rfl⟩
  | 1, h => ⟨.db, t1, (Option.some.inj h).symm, .inr (.inl rfl)⟩
  | 2, h => ⟨.plus, t2, (Option.some.inj h).symm, .inr (.inr (.inl rfl))⟩
  | 3, h => ⟨.minus, t3, (Option.some.inj h).symm, .inr (.inr (.inr rfl))⟩
  | j + 4, h => by simp at h
theorem FrontR.len {o : Bool} {l : List (Sym × Role)} (h : FrontR o l) : l.length ≤ 1 := by cases h <;> decide
theorem MoneyR.len {o : Bool} {w : Nat} {l : List (Sym × Role)} (h : MoneyR o w l) : l.length ≤ 1 := by cases h <;> decide
theorem LastR.len {o : Bool} {f l : List (Sym × Role)} (h : LastR o f l) : l.length ≤ 1 := by cases h <;> exact Nat.le_of_ble_eq_true rfl
theorem TailR.len {w n : Nat} {l : List (Sym × Role)} (h : TailR w n l) : l.length ≤ 4 := by
  cases h <;> simp only [List.length_cons, List.length_nil, List.length_replicate] <;> omega
theorem parts_tel (w : World) (la wa : Addr) (vs : List Value) (ns : List Int) (n1 n2 : Nat) (tk : Tok) (R : Led)
   (hi : IntsAre vs ns) (hL : ns.length ≤ 63) (hne : @LT.lt Nat _ la wa) (h1 : ∀ p ∈ R, p.1 ≠ wa) :
   Tel w 362 12 [.ref wa] ((wa, listOf [.ref la, .int 0 tk].toArray n2) :: (la, listOf vs.toArray n1) :: R) fun r news' =>
    ∃ fa fvs n T rows, r = .ref fa ∧ IsRow rows ∧ CellsAre T fvs rows ∧ news' = (fa, listOf fvs.toArray n) :: T := by
  unfold Tel
  intro p loose mean mg mb dp un gd cn cs a ccd cl outer A₀ base h₀ L m s Q E hR B F X N T hk hd hu hret
  revert hR; k_fill; intro hR
  refine wpAny_call ?_
  k_dflt ktr_enter
  have stp : Stop := .mk
  have stp3 : Stop3 := .mk
  k_steps
  unfold Halt
  rename News _ _ _ _ => N5
  try k_fold
  k_dflt (refine' tel_use (turn_tel w la wa vs ns n1 n2 0 tk 6 _ _ hi hL (by decide) (by decide) hne h1) ?B ?F ?X (N5) ?T ?hk ?hd ?hu ?_)
  case B => k_asm
  case F => k_asm
  case X => k_asm
  case T => k_asm
  case hk => first | exact rfl | assumption
  case hd => ktr_room
  case hu => ktr_units
  rintro r9 news9 h9 tk9 ⟨way, t9, t9', hr9, hw0, hw6, hn9⟩ F7 N7
  subst hr9
  subst hn9
  clear N5
  k_steps
  unfold Halt
  rename News _ _ _ _ => N5
  try k_fold
  k_dflt (refine' tel_use (turn_tel w la wa vs ns n1 n2 (0 + 1) t9' 4 _ _ hi hL (by decide) (by decide) hne h1) ?B ?F ?X (N5) ?T ?hk ?hd ?hu ?_)
  case B => k_asm
  case F => k_asm
  case X => k_asm
  case T => k_asm
  case hk => first | exact rfl | assumption
  case hd => ktr_room
  case hu => ktr_units
  rintro r9 news9 h9 tk9 ⟨many, t8, t8', hr9, hm0, hm4, hn9⟩ F7 N7
  subst hr9
  subst hn9
  clear N5
  k_steps
  unfold Halt
  rename News _ _ _ _ => N5
  try k_fold
  k_dflt (refine' tel_use (turn_tel w la wa vs ns n1 n2 (0 + 1 + 1) t8' 3 _ _ hi hL (by decide) (by decide) hne h1) ?B ?F ?X (N5) ?T ?hk ?hd ?hu ?_)
  case B => k_asm
  case F => k_asm
  case X => k_asm
  case T => k_asm
  case hk => first | exact rfl | assumption
  case hd => ktr_room
  case hu => ktr_units
  rintro r9 news9 h9 tk9 ⟨nines, t7, t7', hr9, hn0, hn3, hn9⟩ F7 N7
  subst hr9
  subst hn9
  clear N5
  k_steps
  unfold Halt
  rename Fr _ _ _ _ => F9
  rename News _ _ _ _ => N9
  have hway : way.toNat < 6 := by omega
  generalize hT9 : exec _ _ = tt9
  refine cut_2 (Str.ofString "sign") (Str.ofString "role") [] (by decide) (fun v1 v2 nw => ∃ tx tr, v1 = .str (menuW way.toNat).1.str tx ∧ v2 = .str (menuW way.toNat).2.str tr ∧ nw = (wa, listOf [.ref la, .int (0 + 1 + 1 + 1) t7'].toArray n2) :: (la, listOf vs.toArray n1) :: R) F9 ?_ ?_
  · subst hT9
    try k_fold
    clear stp
    have stq : Stop2 := .mk
    k_steps
    unfold Halt
    clear stq
    obtain rfl | rfl | rfl | rfl | rfl | rfl : way = 0 ∨ way = 1 ∨ way = 2 ∨ way = 3 ∨ way = 4 ∨ way = 5 := by omega
    all_goals
      k_steps
      rename _ = some _ => hv9
      replace hv9 := Option.some.inj hv9
      subst hv9
      k_steps
      unfold Halt
      rename News _ _ _ _ => N5
      refine WEnd.of2 ((wa, listOf [.ref la, .int (0 + 1 + 1 + 1) t7'].toArray n2) :: (la, listOf vs.toArray n1) :: R) (by k_asm) N5 (by walk_at "m_sub") (by walk_at "m_map") rfl rfl ⟨_, _, rfl, rfl, rfl⟩
  rintro v1 v2 us nw h tk' ⟨tx, tr, rfl, rfl, rfl⟩ F8 N8
  clear F9 N9 hT9
  simp only [stoL] at F8
  k_steps
  unfold Halt
  rename Fr _ _ _ _ => F9
  rename News _ _ _ _ => N9
  refine news_open N9 fun lo elo => ?_
  replace elo := elo.symm
  subst elo
  refine news_open (news_tl N9) fun l1 el1 => ?_
  replace el1 := el1.symm
  subst el1
  refine news_open (news_tl (news_tl N9)) fun tp etp => ?_
  replace etp := etp.symm
  subst etp
  have hlo : @Ne Nat lo wa := by k_ne
  have hl1 : @Ne Nat l1 wa := by k_ne
  have htp : @Ne Nat tp wa := by k_ne
  generalize hT9 : exec _ _ = tt9
  refine cut_1 (Str.ofString "loose") [] (fun v nw => ∃ T, nw = (wa, listOf [.ref la, .int (0 + 1 + 1 + 1) t7'].toArray n2) :: (la, listOf vs.toArray n1) :: T ∧ (∀ p ∈ T, p.1 ≠ wa) ∧ RowAt T v (looseW (menuW way.toNat) (1 + many).toNat)) F9 ?_ ?_
  · subst hT9
    try k_fold
    clear stp3
    k_steps
    · rename (_ == _) = true => hb9
      rw [float_str] at hb9
      have hfl := of_decide_eq_true hb9
      unfold Halt
      rename News _ _ _ _ => N5
      refine news_open N5 fun a5 ea5 => ?_
      replace ea5 := ea5.symm
      subst ea5
      refine news_open (news_tl (news_tl N5)) fun tl etl => ?_
      replace etl := etl.symm
      subst etl
      have ha5 : @Ne Nat a5 wa := by k_ne
      have htl : @Ne Nat tl wa := by k_ne
      refine WEnd.of ((wa, listOf [.ref la, .int (0 + 1 + 1 + 1) t7'].toArray n2) :: (la, listOf vs.toArray n1) :: (a5, listOf ([Value.ref tl] ++ List.replicate (1 + many).toNat (Value.ref tp)).toArray 0) :: (tl, tupOf (.str (menuW way.toNat).1.str tx) (.str (Str.ofString "lead") _) 0) :: (tp, tupOf (.str (menuW way.toNat).1.str tx) (.str (menuW way.toNat).2.str tr) 0) :: R) (by k_asm) N5 (by walk_at "m_sub") (by walk_at "m_map") rfl ⟨_, rfl, ?_, a5, _, 0, rfl, List.mem_cons_self, ?_⟩
      · exact List.forall_mem_cons.mpr ⟨ha5, List.forall_mem_cons.mpr ⟨htl, List.forall_mem_cons.mpr ⟨htp, h1⟩⟩⟩
      · rw [looseW, if_pos hfl]
        exact CellsAre.append (ps := [_]) (.cons ⟨tl, _, _, _, rfl, by k_mem⟩ .nil) (CellsAre.rep ⟨tp, _, _, _, rfl, by k_mem⟩ _)
    · rename (_ == _) = false => hb9
      rw [float_str] at hb9
      have hfl := of_decide_eq_false hb9
      unfold Halt
      rename News _ _ _ _ => N5
      refine WEnd.of ((wa, listOf [.ref la, .int (0 + 1 + 1 + 1) t7'].toArray n2) :: (la, listOf vs.toArray n1) :: (lo, listOf (List.replicate (1 + many).toNat (Value.ref tp)).toArray 0) :: (tp, tupOf (.str (menuW way.toNat).1.str tx) (.str (menuW way.toNat).2.str tr) 0) :: R) (by k_asm) N5 (by walk_at "m_sub") (by walk_at "m_map") rfl ⟨_, rfl, ?_, lo, _, 0, rfl, List.mem_cons_self, ?_⟩
      · exact List.forall_mem_cons.mpr ⟨hlo, List.forall_mem_cons.mpr ⟨htp, h1⟩⟩
      · rw [looseW, if_neg hfl]
        exact CellsAre.rep ⟨tp, _, _, _, rfl, by k_mem⟩ _
  rintro v us2 nw h2 tk2 ⟨T1, rfl, hT1, hloose⟩ F8 N8
  clear F9 N9 hT9
  simp only [stoL] at F8
  k_steps
  unfold Halt
  rename Fr _ _ _ _ => F9
  rename News _ _ _ _ => N9
  have hop : (!([3, 4] : List Int).any fun x => x == way) = openW way.toNat := by
    obtain rfl | rfl | rfl | rfl | rfl | rfl : way = 0 ∨ way = 1 ∨ way = 2 ∨ way = 3 ∨ way = 4 ∨ way = 5 := by omega
    all_goals decide
  rw [hop] at F9
  replace N9 := news_tl N9
  generalize hT9 : exec _ _ = tt9
  refine cut_1 (Str.ofString "front") [] (StepJ wa la vs n1 n2 T1 (FrontR (openW way.toNat))) F9 ?_ ?_
  · subst hT9
    try k_fold
    clear stp
    k_steps
    · rename openW _ = true => hb9
      unfold Halt
      rename News _ _ _ _ => N5
      try k_fold
      k_dflt (refine' tel_use (turn_tel w la wa vs ns n1 n2 (0 + 1 + 1 + 1) t7' 3 _ _ hi hL (by decide) (by decide) hne hT1) ?B ?F ?X (N5) ?T ?hk ?hd ?hu ?_)
      case B => k_asm
      case F => k_asm
      case X => k_asm
      case T => k_asm
      case hk => first | exact rfl | assumption
      case hd => ktr_room
      case hu => ktr_units
      rintro r6 news6 h6 tk6 ⟨x6, t6, t6', hr6, hx60, hx63, hn6⟩ F7 N7
      subst hr6
      subst hn6
      clear N5
      k_steps
      · unfold Halt
        rename News _ _ _ _ => N5
        refine news_open N5 fun tq etq => ?_
        replace etq := etq.symm
        subst etq
        have htq : @Ne Nat tq wa := by k_ne
        have N6 : News _ _ _ ((wa, listOf [.ref la, .int (0 + 1 + 1 + 1 + 1) t6'].toArray n2) :: (la, listOf vs.toArray n1) :: (tq, _) :: T1) := news_sub N5 (by walk_at "m_sub")
        try k_fold
        k_dflt (refine' tel_use (turn_tel w la wa vs ns n1 n2 (0 + 1 + 1 + 1 + 1) t6' 2 _ _ hi hL (by decide) (by decide) hne (List.forall_mem_cons.mpr ⟨htq, hT1⟩)) ?B ?F ?X (N6) ?T ?hk ?hd ?hu ?_)
        case B => k_asm
        case F => k_asm
        case X => k_asm
        case T => k_asm
        case hk => first | exact rfl | assumption
        case hd => ktr_room
        case hu => ktr_units
        rintro r5 news5 h5 tk5 ⟨x5, t5, t5', hr5, hx50, hx52, hn5⟩ F7 N7
        subst hr5
        subst hn5
        clear N5 N6
        k_steps
        rename _ = some _ => hv9
        obtain ⟨x9, u9, rfl, hx9⟩ := pm_val hv9
        unfold Halt
        rename News _ _ _ _ => N5
        refine news_open N5 fun a5 ea5 => ?_
        replace ea5 := ea5.symm
        subst ea5
        refine news_open (news_tl N5) fun d5 ed5 => ?_
        replace ed5 := ed5.symm
        subst ed5
        have ha5 : @Ne Nat a5 wa := by k_ne
        have hd5 : @Ne Nat d5 wa := by k_ne
        refine WEnd.of ((wa, listOf [.ref la, .int (0 + 1 + 1 + 1 + 1 + 1) t5'].toArray n2) :: (la, listOf vs.toArray n1) :: (a5, listOf [Value.ref d5].toArray 0) :: (d5, tupOf (.str (Sym.str x9) u9) (.str (Str.ofString "fixed") _) 0) :: T1) (by k_asm) N5 (by walk_at "m_sub") (by walk_at "m_map") rfl ⟨_, _, _, [(x9, .fixed)], rfl, by decide, ?_, (by walk_at "m_sub"), ⟨a5, _, 0, rfl, List.mem_cons_self, .cons ⟨d5, _, _, _, rfl, by k_mem⟩ .nil⟩, ?_⟩
        · exact List.forall_mem_cons.mpr ⟨ha5, List.forall_mem_cons.mpr ⟨hd5, hT1⟩⟩
        · rcases hx9 with rfl | rfl
          · exact .plus hb9
          · exact .minus hb9
      · unfold Halt
        rename News _ _ _ _ => N5
        refine news_open N5 fun a5 ea5 => ?_
        replace ea5 := ea5.symm
        subst ea5
        have ha5 : @Ne Nat a5 wa := by k_ne
        refine WEnd.of ((wa, listOf [.ref la, .int (0 + 1 + 1 + 1 + 1) t6'].toArray n2) :: (la, listOf vs.toArray n1) :: (a5, listOf [].toArray 0) :: T1) (by k_asm) N5 (by walk_at "m_sub") (by walk_at "m_map") rfl ⟨_, _, _, [], rfl, by decide, ?_, (by walk_at "m_sub"), ⟨a5, [], 0, rfl, List.mem_cons_self, .nil⟩, .nil⟩
        exact List.forall_mem_cons.mpr ⟨ha5, hT1⟩
    · unfold Halt
      rename News _ _ _ _ => N5
      refine news_open N5 fun a5 ea5 => ?_
      replace ea5 := ea5.symm
      subst ea5
      have ha5 : @Ne Nat a5 wa := by k_ne
      refine WEnd.of ((wa, listOf [.ref la, .int (0 + 1 + 1 + 1) t7'].toArray n2) :: (la, listOf vs.toArray n1) :: (a5, listOf [].toArray 0) :: T1) (by k_asm) N5 (by walk_at "m_sub") (by walk_at "m_map") rfl ⟨_, _, _, [], rfl, by decide, ?_, (by walk_at "m_sub"), ⟨a5, [], 0, rfl, List.mem_cons_self, .nil⟩, .nil⟩
      exact List.forall_mem_cons.mpr ⟨ha5, hT1⟩
  rintro v3 us3 nw h3 tk3 ⟨k3, t3, T3, front, rfl, hk3, hT3, hsub3, hfront, hfr⟩ F8 N8
  clear F9 N9 hT9
  simp only [stoL] at F8
  replace hloose := hloose.mono hsub3
  clear hsub3
  k_steps
  unfold Halt
  rename Fr _ _ _ _ => F9
  rename News _ _ _ _ => N9
  generalize hT9 : exec _ _ = tt9
  refine cut_1 (Str.ofString "money") [] (StepJ wa la vs n1 n2 T3 (MoneyR (openW way.toNat) way.toNat)) F9 ?_ ?_
  · subst hT9
    try k_fold
    clear stp
    k_steps
    · rename openW _ = true => hb9
      rename way ≠ 2 => hw2
      unfold Halt
      rename News _ _ _ _ => N5
      try k_fold
      k_dflt (refine' tel_use (turn_tel w la wa vs ns n1 n2 k3 t3 3 _ _ hi hL hk3 (by decide) hne hT3) ?B ?F ?X (N5) ?T ?hk ?hd ?hu ?_)
      case B => k_asm
      case F => k_asm
      case X => k_asm
      case T => k_asm
      case hk => first | exact rfl | assumption
      case hd => ktr_room
      case hu => ktr_units
      rintro r6 news6 h6 tk6 ⟨x6, t6, t6', hr6, hx60, hx6m, hn6⟩ F7 N7
      subst hr6
      subst hn6
      clear N5
      k_steps
      · unfold Halt
        rename News _ _ _ _ => N5
        refine news_open N5 fun a5 ea5' => ?_
        replace ea5' := ea5'.symm
        subst ea5'
        refine news_open (news_tl N5) fun d5 ed5' => ?_
        replace ed5' := ed5'.symm
        subst ed5'
        have ha5 : @Ne Nat a5 wa := by k_ne
        have hd5 : @Ne Nat d5 wa := by k_ne
        refine WEnd.of ((wa, listOf [.ref la, .int (k3 + 1) t6'].toArray n2) :: (la, listOf vs.toArray n1) :: (a5, listOf [Value.ref d5].toArray 0) :: (d5, tupOf (.str (Str.ofString "$") _) (.str (Str.ofString "fixed") _) 0) :: T3) (by k_asm) N5 (by walk_at "m_sub") (by walk_at "m_map") rfl ⟨_, _, _, [(.dollar, .fixed)], rfl, by omega, ?_, (by walk_at "m_sub"), ⟨a5, _, 0, rfl, List.mem_cons_self, .cons ⟨d5, _, _, _, rfl, List.mem_cons_of_mem _ List.mem_cons_self⟩ .nil⟩, .one hb9 (by omega)⟩
        exact List.forall_mem_cons.mpr ⟨ha5, List.forall_mem_cons.mpr ⟨hd5, hT3⟩⟩
      ·
        unfold Halt
        rename News _ _ _ _ => N5
        refine news_open N5 fun a5 ea5' => ?_
        replace ea5' := ea5'.symm
        subst ea5'
        have ha5 : @Ne Nat a5 wa := by k_ne
        refine WEnd.of ((wa, listOf [.ref la, .int (k3 + 1) t6'].toArray n2) :: (la, listOf vs.toArray n1) :: (a5, listOf [].toArray 0) :: T3) (by k_asm) N5 (by walk_at "m_sub") (by walk_at "m_map") rfl ⟨_, _, _, [], rfl, (by omega), ?_, (by walk_at "m_sub"), ⟨a5, [], 0, rfl, List.mem_cons_self, .nil⟩, .nil⟩
        exact List.forall_mem_cons.mpr ⟨ha5, hT3⟩
    ·
      unfold Halt
      rename News _ _ _ _ => N5
      refine news_open N5 fun a5 ea5' => ?_
      replace ea5' := ea5'.symm
      subst ea5'
      have ha5 : @Ne Nat a5 wa := by k_ne
      refine WEnd.of ((wa, listOf [.ref la, .int (k3) t3].toArray n2) :: (la, listOf vs.toArray n1) :: (a5, listOf [].toArray 0) :: T3) (by k_asm) N5 (by walk_at "m_sub") (by walk_at "m_map") rfl ⟨_, _, _, [], rfl, (by omega), ?_, (by walk_at "m_sub"), ⟨a5, [], 0, rfl, List.mem_cons_self, .nil⟩, .nil⟩
      exact List.forall_mem_cons.mpr ⟨ha5, hT3⟩
    ·
      unfold Halt
      rename News _ _ _ _ => N5
      refine news_open N5 fun a5 ea5' => ?_
      replace ea5' := ea5'.symm
      subst ea5'
      have ha5 : @Ne Nat a5 wa := by k_ne
      refine WEnd.of ((wa, listOf [.ref la, .int (k3) t3].toArray n2) :: (la, listOf vs.toArray n1) :: (a5, listOf [].toArray 0) :: T3) (by k_asm) N5 (by walk_at "m_sub") (by walk_at "m_map") rfl ⟨_, _, _, [], rfl, (by omega), ?_, (by walk_at "m_sub"), ⟨a5, [], 0, rfl, List.mem_cons_self, .nil⟩, .nil⟩
      exact List.forall_mem_cons.mpr ⟨ha5, hT3⟩
  rintro v4 us4 nw h4 tk4 ⟨k4, t4, T4, money, rfl, hk4, hT4, hsub4, hmoney, hmn⟩ F8 N8
  clear F9 N9 hT9
  simp only [stoL] at F8
  replace hloose := hloose.mono hsub4
  replace hfront := hfront.mono hsub4
  clear hsub4
  obtain ⟨ao, ovs, on9, rfl, hmo, hco⟩ := hloose
  have hol : ovs.length ≤ 6 := by
    have e1 := hco.length
    have e2 := looseW_len (menuW way.toNat) (1 + many).toNat
    omega
  k_steps
  unfold Halt
  rename News _ _ _ _ => N5
  refine news_open N5 fun ra era' => ?_
  replace era' := era'.symm
  subst era'
  refine news_open (news_tl N5) fun rb erb' => ?_
  replace erb' := erb'.symm
  subst erb'
  refine news_open (news_tl (news_tl N5)) fun rc erc' => ?_
  replace erc' := erc'.symm
  subst erc'
  refine news_open (news_tl (news_tl (news_tl N5))) fun rd erd' => ?_
  replace erd' := erd'.symm
  subst erd'
  have hrw : @LT.lt Nat _ wa ra := by (refine ltN ?_; omega)
  have hrd : @Ne Nat rd wa := by k_ne
  obtain ⟨tka, tkb, N6⟩ : ∃ ta tb, News _ _ _ ((wa, listOf [.ref la, .int k4 t4].toArray n2) :: (la, listOf vs.toArray n1) :: (ra, listOf (ovs ++ List.replicate nines.toNat (Value.ref rd)).toArray 0) :: (rd, tupOf (.str (Str.ofString "9") ta) (.str (Str.ofString "figure") tb) 0) :: T4) := ⟨_, _, news_sub N5 (by walk_at "m_sub")⟩
  try k_fold
  k_dflt (refine' tel_use (with_tel w la wa ra vs _ ns (looseW (menuW way.toNat) (1 + many).toNat ++ List.replicate nines.toNat (.nine, .figure)) n1 n2 0 k4 t4 _ hi hL hk4 ?hcl ?hzl hne ?hrr hrw) ?B ?F ?X (N6) ?T ?hk ?hd ?hu ?_)
  case B => k_asm
  case F => k_asm
  case X => k_asm
  case T => k_asm
  case hk => first | exact rfl | assumption
  case hd => ktr_room
  case hu => ktr_units
  case hcl => exact (hco.mono fun q hq => List.mem_cons_of_mem _ hq).append (CellsAre.rep (p := (.nine, .figure)) ⟨rd, _, _, _, rfl, List.mem_cons_self⟩ _)
  case hzl =>
    have e2 := looseW_len (menuW way.toNat) (1 + many).toNat
    rw [List.length_append, List.length_replicate]
    omega
  case hrr => exact List.forall_mem_cons.mpr ⟨hrd, hT4⟩
  rintro r9 news9 h9 tk9 ⟨ma, mvs, mn, k5, t5, own5, mid, hr9, hmid, hcm, hk5, hn9, hma, hown5⟩ F7 N7
  subst hr9
  subst hn9
  clear N5 N6
  have hT5 : ∀ p ∈ (ma, listOf mvs.toArray mn) :: (own5 ++ ((rd, tupOf (.str (Str.ofString "9") tka) (.str (Str.ofString "figure") tkb) 0) :: T4)), p.1 ≠ wa := by
    refine List.forall_mem_cons.mpr ⟨Nat.ne_of_gt hma, fun p hp => ?_⟩
    rcases List.mem_append.mp hp with hp | hp
    · exact Nat.ne_of_gt (hown5 p hp)
    · exact (List.forall_mem_cons.mpr ⟨hrd, hT4⟩ : ∀ p ∈ (rd, _) :: T4, p.1 ≠ wa) p hp
  have hsub5 : ∀ p ∈ T4, p ∈ (ma, listOf mvs.toArray mn) :: (own5 ++ ((rd, tupOf (.str (Str.ofString "9") tka) (.str (Str.ofString "figure") tkb) 0) :: T4)) := fun p hp => List.mem_cons_of_mem _ (List.mem_append_right _ (List.mem_cons_of_mem _ hp))
  have hmiddle : RowAt ((ma, listOf mvs.toArray mn) :: (own5 ++ ((rd, tupOf (.str (Str.ofString "9") tka) (.str (Str.ofString "figure") tkb) 0) :: T4))) (.ref ma) mid := ⟨ma, mvs, mn, rfl, List.mem_cons_self, hcm.mono fun q hq => List.mem_cons_of_mem _ hq⟩
  have N4 : News _ _ _ ((wa, listOf [.ref la, .int k5 t5].toArray n2) :: (la, listOf vs.toArray n1) :: ((ma, listOf mvs.toArray mn) :: (own5 ++ ((rd, tupOf (.str (Str.ofString "9") tka) (.str (Str.ofString "figure") tkb) 0) :: T4)))) := news_sub N7 (by
    refine List.forall_mem_cons.mpr ⟨by k_mem, ?_⟩
    refine List.forall_mem_cons.mpr ⟨by k_mem, ?_⟩
    refine List.forall_mem_cons.mpr ⟨by k_mem, ?_⟩
    intro p9 hp9
    exact List.mem_cons_of_mem _ (List.mem_cons_of_mem _ (List.mem_cons_of_mem _ hp9)))
  clear N7
  generalize hT5e : (ma, listOf mvs.toArray mn) :: (own5 ++ ((rd, tupOf (.str (Str.ofString "9") tka) (.str (Str.ofString "figure") tkb) 0) :: T4)) = T5 at *
  replace hfront := hfront.mono hsub5
  replace hmoney := hmoney.mono hsub5
  clear hT5e hsub5
  k_steps
  unfold Halt
  rename News _ _ _ _ => N5
  refine news_open N5 fun ea eea' => ?_
  replace eea' := eea'.symm
  subst eea'
  have hea : @Ne Nat ea wa := by k_ne
  have N6 : News _ _ _ ((wa, listOf [.ref la, .int k5 t5].toArray n2) :: (la, listOf vs.toArray n1) :: (ea, listOf [].toArray 0) :: T5) := news_sub N5 (by walk_at "m_sub")
  try k_fold
  k_dflt (refine' tel_use (turn_tel w la wa vs ns n1 n2 k5 t5 4 _ _ hi hL hk5 (by decide) hne (List.forall_mem_cons.mpr ⟨hea, hT5⟩)) ?B ?F ?X (N6) ?T ?hk ?hd ?hu ?_)
  case B => k_asm
  case F => k_asm
  case X => k_asm
  case T => k_asm
  case hk => first | exact rfl | assumption
  case hd => ktr_room
  case hu => ktr_units
  rintro r6 news6 h6 tk6 ⟨x6, t6, t6', hr6, hx60, hx6m, hn6⟩ F7 N7
  subst hr6
  subst hn6
  clear N5 N6
  k_steps
  unfold Halt
  rename Fr _ _ _ _ => F9
  rename News _ _ _ _ => N9
  generalize hT9 : exec _ _ = tt9
  refine cut_1 (Str.ofString "tail") [Str.ofString "behind"] (StepJ wa la vs n1 n2 T5 (TailR way.toNat nines.toNat)) F9 ?_ ?_
  · subst hT9
    try k_fold
    clear stp3
    have hea : @Ne Nat ea wa := by k_ne
    have hT6 : ∀ p ∈ (ea, listOf [].toArray 0) :: T5, p.1 ≠ wa := List.forall_mem_cons.mpr ⟨hea, hT5⟩
    k_steps
    · rename List.any _ _ = true => hb9
      have hk12 : x6 = 1 ∨ x6 = 2 := any12 hb9
      clear hb9
      unfold Halt
      rename Fr _ _ _ _ => F9
      rename News _ _ _ _ => N9
      replace N9 := news_tl N9
      generalize hT9 : exec _ _ = tt9
      refine cut_1 (Str.ofString "behind") [] (fun v nw => ∃ k t T c, nw = (wa, listOf [.ref la, .int k t].toArray n2) :: (la, listOf vs.toArray n1) :: T ∧ 0 ≤ k ∧ (∀ p ∈ T, p.1 ≠ wa) ∧ (∀ p ∈ T5, p ∈ T) ∧ CellIs T v c ∧ (c = (.nine, .figure) ∨ (nines = 0 ∧ way < 5 ∧ c = menuW way.toNat))) F9 ?_ ?_
      · subst hT9
        try k_fold
        clear stp
        k_steps
        · unfold Halt
          rename News _ _ _ _ => N5
          try k_fold
          k_dflt (refine' tel_use (turn_tel w la wa vs ns n1 n2 (k5 + 1) t6' 2 _ _ hi hL (by omega) (by decide) hne hT6) ?B ?F ?X (N5) ?T ?hk ?hd ?hu ?_)
          case B => k_asm
          case F => k_asm
          case X => k_asm
          case T => k_asm
          case hk => first | exact rfl | assumption
          case hd => ktr_room
          case hu => ktr_units
          rintro rb newsb hb tkb ⟨xb, tb, tb', hrb, hxb0, hxbm, hnb⟩ F7 N7
          subst hrb
          subst hnb
          clear N5
          k_steps
          · unfold Halt
            rename News _ _ _ _ => N5
            refine news_open N5 fun bt ebt' => ?_
            replace ebt' := ebt'.symm
            subst ebt'
            have hbt : @Ne Nat bt wa := by k_ne
            refine WEnd.of ((wa, listOf [.ref la, .int (k5 + 1 + 1) tb'].toArray n2) :: (la, listOf vs.toArray n1) :: (bt, tupOf (.str (menuW way.toNat).1.str tx) (.str (menuW way.toNat).2.str tr) 0) :: (ea, listOf [].toArray 0) :: T5) (by k_asm) N5 (by walk_at "m_sub") (by walk_at "m_map") rfl ⟨_, _, _, menuW way.toNat, rfl, by omega, List.forall_mem_cons.mpr ⟨hbt, hT6⟩, (by walk_at "m_sub"), ⟨bt, _, _, _, rfl, List.mem_cons_self⟩, .inr ⟨by omega, by omega, rfl⟩⟩
          ·
            unfold Halt
            rename News _ _ _ _ => N5
            refine news_open N5 fun bt ebt' => ?_
            replace ebt' := ebt'.symm
            subst ebt'
            have hbt : @Ne Nat bt wa := by k_ne
            refine WEnd.of ((wa, listOf [.ref la, .int (k5 + 1 + 1) tb'].toArray n2) :: (la, listOf vs.toArray n1) :: (bt, tupOf (.str (Str.ofString "9") _) (.str (Str.ofString "figure") _) 0) :: (ea, listOf [].toArray 0) :: T5) (by k_asm) N5 (by walk_at "m_sub") (by walk_at "m_map") rfl ⟨_, _, _, (.nine, .figure), rfl, by omega, List.forall_mem_cons.mpr ⟨hbt, hT6⟩, (by walk_at "m_sub"), ⟨bt, _, _, _, rfl, List.mem_cons_self⟩, .inl rfl⟩
        all_goals
          unfold Halt
          rename News _ _ _ _ => N5
          refine news_open N5 fun bt ebt' => ?_
          replace ebt' := ebt'.symm
          subst ebt'
          have hbt : @Ne Nat bt wa := by k_ne
          refine WEnd.of ((wa, listOf [.ref la, .int (k5 + 1) t6'].toArray n2) :: (la, listOf vs.toArray n1) :: (bt, tupOf (.str (Str.ofString "9") _) (.str (Str.ofString "figure") _) 0) :: (ea, listOf [].toArray 0) :: T5) (by k_asm) N5 (by walk_at "m_sub") (by walk_at "m_map") rfl ⟨_, _, _, (.nine, .figure), rfl, by omega, List.forall_mem_cons.mpr ⟨hbt, hT6⟩, (by walk_at "m_sub"), ⟨bt, _, _, _, rfl, List.mem_cons_self⟩, .inl rfl⟩
      rintro v8 us8 nw h8 tk8 ⟨k8, t8, T8, c8, rfl, hk8, hT8, hsub8, hcell, hc8⟩ F8 N8
      clear F9 N9 hT9
      simp only [stoL] at F8
      obtain ⟨b8, bk, btx, btr, rfl, hbm⟩ := hcell
      k_steps
      unfold Halt
      rename _ = some _ => hv9
      rename News _ _ _ _ => N5
      refine news_open N5 fun y1 ey1' => ?_
      replace ey1' := ey1'.symm
      subst ey1'
      refine news_open (news_tl N5) fun y2 ey2' => ?_
      replace ey2' := ey2'.symm
      subst ey2'
      refine news_open (news_tl (news_tl N5)) fun y3 ey3' => ?_
      replace ey3' := ey3'.symm
      subst ey3'
      refine news_open (news_tl (news_tl (news_tl N5))) fun y4 ey4' => ?_
      replace ey4' := ey4'.symm
      subst ey4'
      refine news_open (news_tl (news_tl (news_tl (news_tl N5)))) fun y5 ey5' => ?_
      replace ey5' := ey5'.symm
      subst ey5'
      have hy1 : @Ne Nat y1 wa := by k_ne
      have hy2 : @Ne Nat y2 wa := by k_ne
      have hy4 : @Ne Nat y4 wa := by k_ne
      have hy5 : @Ne Nat y5 wa := by k_ne
      have N6 : News _ _ _ ((wa, listOf [.ref la, .int k8 t8].toArray n2) :: (la, listOf vs.toArray n1) :: (y1, _) :: (y2, _) :: (y4, tupOf (.str (Str.ofString "V") _) (.str (Str.ofString "mark") _) 0) :: (y5, tupOf (.str (Str.ofString ".") _) (.str (Str.ofString "point") _) 0) :: T8) := news_sub N5 (by walk_at "m_sub")
      try k_fold
      k_dflt (refine' tel_use (turn_tel w la wa vs ns n1 n2 k8 t8 3 _ _ hi hL hk8 (by decide) hne (List.forall_mem_cons.mpr ⟨hy1, List.forall_mem_cons.mpr ⟨hy2, List.forall_mem_cons.mpr ⟨hy4, List.forall_mem_cons.mpr ⟨hy5, hT8⟩⟩⟩⟩)) ?B ?F ?X (N6) ?T ?hk ?hd ?hu ?_)
      case B => k_asm
      case F => k_asm
      case X => k_asm
      case T => k_asm
      case hk => first | exact rfl | assumption
      case hd => ktr_room
      case hu => ktr_units
      rintro rd newsd hd tkd ⟨xd, td, td', hrd, hxd0, hxdm, hnd⟩ F7 N7
      subst hrd
      subst hnd
      clear N5 N6
      k_steps
      unfold Halt
      rename News _ _ _ _ => N5
      refine news_open N5 fun z1 ez1' => ?_
      replace ez1' := ez1'.symm
      subst ez1'
      have hz1 : @Ne Nat z1 wa := by k_ne
      obtain ⟨pt9, hpt9, hcp9⟩ := pt_val (R := (z1, listOf ([_] ++ List.replicate (1 + xd).toNat (Value.ref b8)).toArray 0) :: (y4, tupOf (.str (Str.ofString "V") _) (.str (Str.ofString "mark") _) 0) :: (y5, tupOf (.str (Str.ofString ".") _) (.str (Str.ofString "point") _) 0) :: T8) (by k_mem) (by k_mem) hv9
      refine WEnd.of ((wa, listOf [.ref la, .int (k8 + 1) td'].toArray n2) :: (la, listOf vs.toArray n1) :: (z1, listOf ([_] ++ List.replicate (1 + xd).toNat (Value.ref b8)).toArray 0) :: (y4, tupOf (.str (Str.ofString "V") _) (.str (Str.ofString "mark") _) 0) :: (y5, tupOf (.str (Str.ofString ".") _) (.str (Str.ofString "point") _) 0) :: T8) (by k_asm) N5 (by walk_at "m_sub") (by walk_at "m_map") rfl ⟨_, _, _, pt9 :: List.replicate (1 + xd).toNat c8, rfl, by omega, ?_, fun p hp => List.mem_cons_of_mem _ (List.mem_cons_of_mem _ (List.mem_cons_of_mem _ (hsub8 p hp))), ⟨z1, _, 0, rfl, List.mem_cons_self, .cons hcp9 (CellsAre.rep ⟨b8, _, _, _, rfl, List.mem_cons_of_mem _ (List.mem_cons_of_mem _ (List.mem_cons_of_mem _ hbm))⟩ _)⟩, ?_⟩
      · exact List.forall_mem_cons.mpr ⟨hz1, List.forall_mem_cons.mpr ⟨hy4, List.forall_mem_cons.mpr ⟨hy5, hT8⟩⟩⟩
      · rcases hc8 with rfl | ⟨e1, e2, rfl⟩
        · exact .nines hpt9 (by omega) (by omega)
        · exact .loose hpt9 (by omega) (by omega) (by omega) (by omega)
    · unfold Halt
      rename News _ _ _ _ => N5
      refine news_open N5 fun lp elp' => ?_
      replace elp' := elp'.symm
      subst elp'
      refine news_open (news_tl N5) fun pt ept' => ?_
      replace ept' := ept'.symm
      subst ept'
      have hlp : @Ne Nat lp wa := by k_ne
      have hpt : @Ne Nat pt wa := by k_ne
      have N6 : News _ _ _ ((wa, listOf [.ref la, .int (k5 + 1) t6'].toArray n2) :: (la, listOf vs.toArray n1) :: (lp, _) :: (pt, _) :: (ea, listOf [].toArray 0) :: T5) := news_sub N5 (by walk_at "m_sub")
      try k_fold
      k_dflt (refine' tel_use (turn_tel w la wa vs ns n1 n2 (k5 + 1) t6' 2 _ _ hi hL (by omega) (by decide) hne (List.forall_mem_cons.mpr ⟨hlp, List.forall_mem_cons.mpr ⟨hpt, hT6⟩⟩)) ?B ?F ?X (N6) ?T ?hk ?hd ?hu ?_)
      case B => k_asm
      case F => k_asm
      case X => k_asm
      case T => k_asm
      case hk => first | exact rfl | assumption
      case hd => ktr_room
      case hu => ktr_units
      rintro rb newsb hb tkb ⟨xb, tb, tb', hrb, hxb0, hxbm, hnb⟩ F7 N7
      subst hrb
      subst hnb
      clear N5 N6
      k_steps
      unfold Halt
      rename News _ _ _ _ => N5
      refine news_open N5 fun a5 ea5' => ?_
      replace ea5' := ea5'.symm
      subst ea5'
      have ha5 : @Ne Nat a5 wa := by k_ne
      refine WEnd.of ((wa, listOf [.ref la, .int (k5 + 1 + 1) tb'].toArray n2) :: (la, listOf vs.toArray n1) :: (a5, listOf (List.replicate (1 + xb).toNat (Value.ref pt)).toArray 0) :: (pt, tupOf (.str (Str.ofString "P") _) (.str (Str.ofString "none") _) 0) :: T5) (by k_asm) N5 (by walk_at "m_sub") (by walk_at "m_map") rfl ⟨_, _, _, List.replicate (1 + xb).toNat (.pee, .none), rfl, by omega, ?_, (by walk_at "m_sub"), ⟨a5, _, 0, rfl, List.mem_cons_self, CellsAre.rep (p := (.pee, .none)) ⟨pt, _, _, _, rfl, List.mem_cons_of_mem _ List.mem_cons_self⟩ _⟩, .scale (by omega) (by omega)⟩
      exact List.forall_mem_cons.mpr ⟨ha5, List.forall_mem_cons.mpr ⟨hpt, hT5⟩⟩
    · unfold Halt
      rename News _ _ _ _ => N5
      refine WEnd.of ((wa, listOf [.ref la, .int (k5 + 1) t6'].toArray n2) :: (la, listOf vs.toArray n1) :: (ea, listOf [].toArray 0) :: T5) (by k_asm) N5 (by walk_at "m_sub") (by walk_at "m_map") rfl ⟨_, _, _, [], rfl, by omega, hT6, (by walk_at "m_sub"), ⟨ea, [], 0, rfl, List.mem_cons_self, .nil⟩, .nil⟩
  rintro v7 us7 nw h7 tk7 ⟨k7, t7, T7, tail, rfl, hk7, hT7, hsub7, htail, htl⟩ F8 N8
  clear F9 N9 hT9
  simp only [stoL] at F8
  replace hfront := hfront.mono hsub7
  replace hmoney := hmoney.mono hsub7
  replace hmiddle := hmiddle.mono hsub7
  clear hsub7
  k_steps
  unfold Halt
  rename Fr _ _ _ _ => F9
  rename News _ _ _ _ => N9
  obtain ⟨fo, fvs, fn, rfl, hfm, hfc⟩ := hfront
  generalize hT9 : exec _ _ = tt9
  refine cut_1 (Str.ofString "last") [] (StepJ wa la vs n1 n2 T7 (LastR (openW way.toNat) front)) F9 ?_ ?_
  · subst hT9
    try k_fold
    clear stp
    k_steps
    · rename openW _ = true => hb9
      rename _ = true → front = [] => hf9
      have hf0 : front = [] := hf9 (by assumption)
      unfold Halt
      rename News _ _ _ _ => N5
      refine news_open N5 fun q4 eq4' => ?_
      replace eq4' := eq4'.symm
      subst eq4'
      refine news_open (news_tl N5) fun el eel' => ?_
      replace eel' := eel'.symm
      subst eel'
      have hq4 : @Ne Nat q4 wa := by k_ne
      have hel : @Ne Nat el wa := by k_ne
      have N6 : News _ _ _ ((wa, listOf [.ref la, .int k7 t7].toArray n2) :: (la, listOf vs.toArray n1) :: (q4, _) :: (el, _) :: T7) := news_sub N5 (by walk_at "m_sub")
      try k_fold
      k_dflt (refine' tel_use (turn_tel w la wa vs ns n1 n2 k7 t7 4 _ _ hi hL hk7 (by decide) hne (List.forall_mem_cons.mpr ⟨hq4, List.forall_mem_cons.mpr ⟨hel, hT7⟩⟩)) ?B ?F ?X (N6) ?T ?hk ?hd ?hu ?_)
      case B => k_asm
      case F => k_asm
      case X => k_asm
      case T => k_asm
      case hk => first | exact rfl | assumption
      case hd => ktr_room
      case hu => ktr_units
      rintro rd newsd hd tkd ⟨xd, td, td', hrd, hxd0, hxdm, hnd⟩ F7 N7
      subst hrd
      subst hnd
      clear N5 N6
      k_steps
      rename _ = some _ => hv9
      obtain ⟨x9, u9, rfl, hx9⟩ := cr_val hv9
      unfold Halt
      rename News _ _ _ _ => N5
      refine news_open N5 fun a5 ea5' => ?_
      replace ea5' := ea5'.symm
      subst ea5'
      refine news_open (news_tl N5) fun d5 ed5' => ?_
      replace ed5' := ed5'.symm
      subst ed5'
      have ha5 : @Ne Nat a5 wa := by k_ne
      have hd5 : @Ne Nat d5 wa := by k_ne
      refine WEnd.of ((wa, listOf [.ref la, .int (k7 + 1) td'].toArray n2) :: (la, listOf vs.toArray n1) :: (a5, listOf [Value.ref d5].toArray 0) :: (d5, tupOf (.str (Sym.str x9) u9) (.str (Str.ofString "fixed") _) 0) :: T7) (by k_asm) N5 (by walk_at "m_sub") (by walk_at "m_map") rfl ⟨_, _, _, [(x9, .fixed)], rfl, by omega, ?_, (by walk_at "m_sub"), ⟨a5, _, 0, rfl, List.mem_cons_self, .cons ⟨d5, _, _, _, rfl, List.mem_cons_of_mem _ List.mem_cons_self⟩ .nil⟩, .one hb9 hf0 hx9⟩
      exact List.forall_mem_cons.mpr ⟨ha5, List.forall_mem_cons.mpr ⟨hd5, hT7⟩⟩
    ·
      unfold Halt
      rename News _ _ _ _ => N5
      refine news_open N5 fun a5 ea5' => ?_
      replace ea5' := ea5'.symm
      subst ea5'
      have ha5 : @Ne Nat a5 wa := by k_ne
      refine WEnd.of ((wa, listOf [.ref la, .int (k7) t7].toArray n2) :: (la, listOf vs.toArray n1) :: (a5, listOf [].toArray 0) :: T7) (by k_asm) N5 (by walk_at "m_sub") (by walk_at "m_map") rfl ⟨_, _, _, [], rfl, (by omega), ?_, (by walk_at "m_sub"), ⟨a5, [], 0, rfl, List.mem_cons_self, .nil⟩, .nil⟩
      exact List.forall_mem_cons.mpr ⟨ha5, hT7⟩
    ·
      unfold Halt
      rename News _ _ _ _ => N5
      refine news_open N5 fun a5 ea5' => ?_
      replace ea5' := ea5'.symm
      subst ea5'
      have ha5 : @Ne Nat a5 wa := by k_ne
      refine WEnd.of ((wa, listOf [.ref la, .int (k7) t7].toArray n2) :: (la, listOf vs.toArray n1) :: (a5, listOf [].toArray 0) :: T7) (by k_asm) N5 (by walk_at "m_sub") (by walk_at "m_map") rfl ⟨_, _, _, [], rfl, (by omega), ?_, (by walk_at "m_sub"), ⟨a5, [], 0, rfl, List.mem_cons_self, .nil⟩, .nil⟩
      exact List.forall_mem_cons.mpr ⟨ha5, hT7⟩
  rintro v8 us8 nw h8 tk8 ⟨k8, t8, T8, last, rfl, hk8, hT8, hsub8, hlast, hls⟩ F8 N8
  clear F9 N9 hT9
  simp only [stoL] at F8
  obtain ⟨mo, movs, mn, rfl, hmm, hmc⟩ := hmoney
  obtain ⟨di, divs, dn, edi, hdm, hdc⟩ := hmiddle
  injection edi with edi
  subst edi
  obtain ⟨ta, tavs, tn, rfl, htm, htc⟩ := htail
  obtain ⟨ls, lsvs, lsn, rfl, hlm, hlc⟩ := hlast
  replace hfm := hsub8 _ hfm
  replace hmm := hsub8 _ hmm
  replace hdm := hsub8 _ hdm
  replace htm := hsub8 _ htm
  have hcell := (((hfc.append hmc).append hdc).append htc).mono hsub8 |>.append hlc
  have g1 := hfc.length
  have g2 := hmc.length
  have g3 := hdc.length
  have g4 := htc.length
  have g5 := hlc.length
  have f1 := hfr.len
  have f2 := hmn.len
  have f3 := hmid.length
  have f4 := htl.len
  have f5 := hls.len
  have f6 := looseW_len (menuW way.toNat) (1 + many).toNat
  rw [List.length_append, List.length_replicate] at f3
  have f7 : nines.toNat ≤ 2 := by omega
  have f8 : (1 + many).toNat ≤ 4 := by omega
  have f9 : 1 ≤ (1 + many).toNat := by omega
  have hrow : IsRow (front ++ money ++ mid ++ tail ++ last) := ⟨way.toNat, (1 + many).toNat, nines.toNat, front, money, mid, tail, last, hway, f9, f8, f7, hfr, hmn, hmid, htl, hls, rfl⟩
  clear hsub8
  k_steps
  refine hret _ _ _ _ ⟨_, _, 0, _, _, rfl, hrow, ?_, rfl⟩ (by k_asm) (by k_asm)
  exact hcell.mono (by walk_at "m_sub")
end
theorem reset_Cr : True := by
  (w_top off)
  k_with_none
  first | walk1 | trivial
section
open PySem PySem.W PyProof.Rows PySem.Spec PySem.Calls
theorem rows_Cr_1 : True := by
  k_with "MyPost" => (with_unfolding_all first | refine MyPost.next ?_ | refine MyPost.cont ?_ | refine MyPost.brk ?_ | refine MyPost.ret ?_)
  k_with "MyPostT" => (with_unfolding_all refine MyPostT.next ?_)
  k_with "exec For Name Name cons nil" => ((k_here; (rename Fr _ _ _ _ => lFq_rw); (with_unfolding_all refine' For_invVF lFq_rw (by exact rfl) (by exact rfl) ?_; k_whole)))
  k_with "pyIter str" => ((k_here; refine Halt.out ?_))
  k_with "pyIter ref" => ((k_here; refine Halt.out ?_))
  k_with "m_in" => (first | assumption | exact List.mem_append_left _ (by assumption) | exact List.mem_append_right _ (by assumption) | (refine List.mem_cons_of_mem _ ?_; walk_at "m_in"))
  k_with "m_sub" => (first | exact (fun _ h => h) | exact List.forall_mem_nil _ | (refine List.forall_mem_cons.mpr ⟨by k_mem, ?_⟩; walk_at "m_sub") | (intro p9_rw hp9_rw; walk_at "m_in"))
  k_with "m_map" => (first | exact off_sto (by walk_at "m_sub") | (refine off_step (by k_mem) ?_; walk_at "m_map"))
  k_with "getMethod ref" => ((k_here; (with_reducible show wpAny _ _ (getMethod (Value.ref _) (PySem.Str.ofString "count") _) _ _ _); k_dflt (refine' kf_method (by k_asm) (by k_mem) PySem.F.slot_list_count PySem.F.type_list_count ?_)))
  k_with "call builtin:list.append" => ((k_here; (with_reducible show wpAny _ _ (call (Value.builtin _) [Value.ref _, _]) _ _ _); k_dflt (refine' append_L (by k_asm) (by k_asm) (by k_upd) (by first | assumption | (simp only [List.length_append, List.length_cons, List.length_nil]; omega)) ?_; k_whole); intro hq_rw Fq_rw Nq_rw; (try k_sweep)))
  k_with "compareOp In str ref" => ((k_here; (with_reducible show wpAny _ _ (compareOp CmpOp.In (Value.str _ _) (Value.ref _)) _ _ _); k_dflt (refine' in_list_strs (by exact News.isList (by k_asm) (by k_mem)) (by k_asm) ?_; k_whole)))
  k_with "ite" => ((k_here; (with_reducible show (if ((_ : Int) == _) = true then _ else _)); first | (refine ite_pos (by (simp only [beq_iff_eq]); omega) ?_) | (refine ite_neg (by (simp only [beq_iff_eq]); omega) ?_)))
  k_with "WPost" => (with_unfolding_all refine WPost.next ?_)
  k_with "m_map" => (with_reducible exact fun _ _ => rfl)
  k_with "callWith" => ((k_here; (with_reducible show wpAny _ _ (callWith _ (Prod.fst _) (Prod.snd _) _ _) _ _ _); dsimp only; (with_reducible refine' callWith_method1 ?_ (by exact rfl) (by exact rfl))))
  k_with "t_at" => ((k_here; (with_reducible show wpAny _ _ (subscriptTail _ _ (Value.ref _) (Value.int _ _)) _ _ _); k_dflt (refine' tup_at (by k_asm) (by k_mem) (by omega) (by (simp only [List.length_cons, List.length_nil]; omega)) (by (simp only [List.length_cons, List.length_nil]; omega)) ?_); intro vq_rw hvq_rw))
  k_with "subscriptTail Tuple cons Call ref int" => (walk_at "t_at")
  k_with "subscriptTail Tuple cons BinOp ref int" => (walk_at "t_at")
  k_with "subscriptTail Tuple cons Name ref int" => (walk_at "t_at")
  k_with "execs cons" => ((k_here; (try dsimp only); (try (with_reducible refine gen_toks ?_; intro tkg_rw)); (with_reducible refine wpAny_execs_cons ?_); (try dsimp only); k_fold))
  trivial
section
open PyProof.Rows.LCg
variable {prog : Program} {w : World} {A : Around} {E : Value → Shared → Prop} {s : Shared} {h₀ : Heap} {L : Addr} {m : Str → Option Value} {env : Env}
def JR (rows : List (Sym × Role)) (G : Sym × Role → Option Str) (i : Nat) (ys : List Value) (nw : Led) : Prop := nw = [] ∧ StrsAre ys ((rows.take i).filterMap G)
def JI (rows : List (Sym × Role)) (G : Sym × Role → Option Int) (i : Nat) (ys : List Value) (nw : Led) : Prop := nw = [] ∧ IntsAre ys ((rows.take i).filterMap G)
theorem filterMap_len {α β : Type} (G : α → Option β) (l : List α) (i : Nat) : ((l.take i).filterMap G).length ≤ i := Nat.le_trans (List.length_filterMap_le _ _) (by rw [List.length_take]; omega)
theorem comp_rowsS {elt : PySem.Expr} {ifs : List PySem.Expr} {a b : Str} {pa pb tp : Pos} {kk : Nat} {scope : Scope} {cl : List (Str × Addr)} {Fin : Shared → List Value → Led → Prop} {la : Addr} {vs : List Value} {n : Nat} {news : Led} {rows : List (Sym × Role)} (G : Sym × Role → Option Str)
    (hh : A.handled = none) (hkind : scope.kind = .function) (ha : scope.names.lookup a = some .local) (hb : scope.names.lookup b = some .local) (hab : a ≠ b) (F : Fr h₀ L s.heap m) (N : News h₀ L s.heap news) (hm : (la, listOf vs.toArray n) ∈ news) (hc : CellsAre news vs rows) (hz : rows.length ≤ 63)
    (turn : ∀ i q tx tr ys I oI C oC D m₂ h tk (E' : Value → Shared → Prop), rows[i]? = some q → StrsAre ys ((rows.take i).filterMap G) → NsObj oC m₂ → (m₂ a = some (.str (Sym.str q.1) tx) ∧ m₂ b = some (.str (Role.str q.2) tr)) → Fr h₀ L h m → News h₀ L h ((I, oI) :: (C, oC) :: (D, lst ys) :: (la, listOf vs.toArray n) :: news) → ((@Ne Nat I C) ∧ (@Ne Nat I D) ∧ (@Ne Nat C D)) →
      wpAny (model prog w) A (testsIn ifs (compEnvC scope cl C env)) (fun ok s₃ => if ok = true then
        wpAny (model prog w) A (eval elt (compEnvC scope cl C env)) (fun y s₄ => Halt (CEnd h₀ L m ((I, oI) :: (C, oC) :: (D, lst ys) :: (la, listOf vs.toArray n) :: news) I C D (JR rows G (i + 1)) { s with heap := h, gens := s.gens, drawn := s.drawn, toks := tk, os := s.os } (ys ++ [y]) s₄)) E' s₃
        else Halt (CEnd h₀ L m ((I, oI) :: (C, oC) :: (D, lst ys) :: (la, listOf vs.toArray n) :: news) I C D (JR rows G (i + 1)) { s with heap := h, gens := s.gens, drawn := s.drawn, toks := tk, os := s.os } ys s₃)) E' { s with heap := h, gens := s.gens, drawn := s.drawn, toks := tk, os := s.os })
    (done : ∀ g ys, StrsAre ys (rows.filterMap G) → Fin { s with heap := g } ys ((la, listOf vs.toArray n) :: news)) :
    wpAny (model prog w) A (pyIter (.ref la)) (CompAt prog w A h₀ L m env (.Tuple [.Name a pa, .Name b pb] kk tp) ifs elt scope cl Fin) E s := by
  refine comp_pairL (own := news) (news₀ := []) (JR rows G) _ hh hkind ha hb hab F N hm (fun p hp => by rwa [List.append_nil] at hp) hc.val (Nat.le_trans (Nat.le_of_eq hc.length) (Nat.le_trans hz (by decide))) ⟨rfl, .nil⟩ ?_ ?_ ?_
  · rintro i ys nw ⟨_, h⟩
    rw [StrsAre.length h]
    exact filterMap_len G rows i
  · rintro g i v₁ v₂ hlt ⟨q, hq, tx, tr, rfl, rfl⟩ ys news₁ I oI C oC D m₂ h tk E' ⟨rfl, hJ⟩ hN hB F8 N8 off hne
    rw [List.append_nil] at N8
    exact turn i q tx tr ys I oI C oC D m₂ h tk E' hq hJ hN hB F8 N8 hne
  · rintro g ys news₁ ⟨rfl, hJ⟩
    rw [hc.length, List.take_length] at hJ
    rw [List.append_nil]
    exact done g ys hJ
theorem comp_rowsI {elt : PySem.Expr} {ifs : List PySem.Expr} {a b : Str} {pa pb tp : Pos} {kk : Nat} {scope : Scope} {cl : List (Str × Addr)} {Fin : Shared → List Value → Led → Prop} {la : Addr} {vs : List Value} {n : Nat} {news : Led} {rows : List (Sym × Role)} (G : Sym × Role → Option Int)
    (hh : A.handled = none) (hkind : scope.kind = .function) (ha : scope.names.lookup a = some .local) (hb : scope.names.lookup b = some .local) (hab : a ≠ b) (F : Fr h₀ L s.heap m) (N : News h₀ L s.heap news) (hm : (la, listOf vs.toArray n) ∈ news) (hc : CellsAre news vs rows) (hz : rows.length ≤ 63)
    (turn : ∀ i q tx tr ys I oI C oC D m₂ h tk (E' : Value → Shared → Prop), rows[i]? = some q → IntsAre ys ((rows.take i).filterMap G) → NsObj oC m₂ → (m₂ a = some (.str (Sym.str q.1) tx) ∧ m₂ b = some (.str (Role.str q.2) tr)) → Fr h₀ L h m → News h₀ L h ((I, oI) :: (C, oC) :: (D, lst ys) :: (la, listOf vs.toArray n) :: news) → ((@Ne Nat I C) ∧ (@Ne Nat I D) ∧ (@Ne Nat C D)) →
      wpAny (model prog w) A (testsIn ifs (compEnvC scope cl C env)) (fun ok s₃ => if ok = true then
        wpAny (model prog w) A (eval elt (compEnvC scope cl C env)) (fun y s₄ => Halt (CEnd h₀ L m ((I, oI) :: (C, oC) :: (D, lst ys) :: (la, listOf vs.toArray n) :: news) I C D (JI rows G (i + 1)) { s with heap := h, gens := s.gens, drawn := s.drawn, toks := tk, os := s.os } (ys ++ [y]) s₄)) E' s₃
        else Halt (CEnd h₀ L m ((I, oI) :: (C, oC) :: (D, lst ys) :: (la, listOf vs.toArray n) :: news) I C D (JI rows G (i + 1)) { s with heap := h, gens := s.gens, drawn := s.drawn, toks := tk, os := s.os } ys s₃)) E' { s with heap := h, gens := s.gens, drawn := s.drawn, toks := tk, os := s.os })
    (done : ∀ g ys, IntsAre ys (rows.filterMap G) → Fin { s with heap := g } ys ((la, listOf vs.toArray n) :: news)) :
    wpAny (model prog w) A (pyIter (.ref la)) (CompAt prog w A h₀ L m env (.Tuple [.Name a pa, .Name b pb] kk tp) ifs elt scope cl Fin) E s := by
  refine comp_pairL (own := news) (news₀ := []) (JI rows G) _ hh hkind ha hb hab F N hm (fun p hp => by rwa [List.append_nil] at hp) hc.val (Nat.le_trans (Nat.le_of_eq hc.length) (Nat.le_trans hz (by decide))) ⟨rfl, .nil⟩ ?_ ?_ ?_
  · rintro i ys nw ⟨_, h⟩
    rw [h.length]
    exact filterMap_len G rows i
  · rintro g i v₁ v₂ hlt ⟨q, hq, tx, tr, rfl, rfl⟩ ys news₁ I oI C oC D m₂ h tk E' ⟨rfl, hJ⟩ hN hB F8 N8 off hne
    rw [List.append_nil] at N8
    exact turn i q tx tr ys I oI C oC D m₂ h tk E' hq hJ hN hB F8 N8 hne
  · rintro g ys news₁ ⟨rfl, hJ⟩
    rw [hc.length, List.take_length] at hJ
    rw [List.append_nil]
    exact done g ys hJ
theorem take_fm {α β : Type} {l : List α} {i : Nat} {q : α} {G : α → Option β} (h : l[i]? = some q) : (l.take (i + 1)).filterMap G = (l.take i).filterMap G ++ (match G q with | none => [] | some x => [x]) := by
  rw [take_succ_get h, List.filterMap_append]
  cases hg : G q <;> simp [hg]
theorem cend_yes {own all : Led} {I C D : Addr} {rows : List (Sym × Role)} {G : Sym × Role → Option Str} {i : Nat} {q : Sym × Role} {ys : List Value} {x : Str} {t : Tok} {s₁ : Shared} {h' : Heap} {tk : Nat} (hq : rows[i]? = some q) (hy : StrsAre ys ((rows.take i).filterMap G)) (F : Fr h₀ L h' m) (N : News h₀ L h' all) (ho : ∀ p ∈ own, p ∈ all) (hG : G q = some x) :
    CEnd h₀ L m own I C D (JR rows G (i + 1)) s₁ (ys ++ [.str x t]) { s₁ with heap := h', toks := tk } :=
  CEnd.intro (news' := []) F N ho (List.forall_mem_nil _) trivial ⟨rfl, by rw [take_fm hq, hG]; exact strs_snoc hy⟩
theorem cend_no {own all : Led} {I C D : Addr} {rows : List (Sym × Role)} {G : Sym × Role → Option Str} {i : Nat} {q : Sym × Role} {ys : List Value} {s₁ : Shared} {h' : Heap} {tk : Nat} (hq : rows[i]? = some q) (hy : StrsAre ys ((rows.take i).filterMap G)) (F : Fr h₀ L h' m) (N : News h₀ L h' all) (ho : ∀ p ∈ own, p ∈ all) (hG : G q = none) :
    CEnd h₀ L m own I C D (JR rows G (i + 1)) s₁ ys { s₁ with heap := h', toks := tk } :=
  CEnd.intro (news' := []) F N ho (List.forall_mem_nil _) trivial ⟨rfl, by rw [take_fm hq, hG, List.append_nil]; exact hy⟩
theorem cend_yesI {own all : Led} {I C D : Addr} {rows : List (Sym × Role)} {G : Sym × Role → Option Int} {i : Nat} {q : Sym × Role} {ys : List Value} {x : Int} {t : Tok} {s₁ : Shared} {h' : Heap} {tk : Nat} (hq : rows[i]? = some q) (hy : IntsAre ys ((rows.take i).filterMap G)) (F : Fr h₀ L h' m) (N : News h₀ L h' all) (ho : ∀ p ∈ own, p ∈ all) (hG : G q = some x) :
    CEnd h₀ L m own I C D (JI rows G (i + 1)) s₁ (ys ++ [.int x t]) { s₁ with heap := h', toks := tk } :=
  CEnd.intro (news' := []) F N ho (List.forall_mem_nil _) trivial ⟨rfl, by rw [take_fm hq, hG]; exact ints_snoc hy⟩
theorem cend_noI {own all : Led} {I C D : Addr} {rows : List (Sym × Role)} {G : Sym × Role → Option Int} {i : Nat} {q : Sym × Role} {ys : List Value} {s₁ : Shared} {h' : Heap} {tk : Nat} (hq : rows[i]? = some q) (hy : IntsAre ys ((rows.take i).filterMap G)) (F : Fr h₀ L h' m) (N : News h₀ L h' all) (ho : ∀ p ∈ own, p ∈ all) (hG : G q = none) :
    CEnd h₀ L m own I C D (JI rows G (i + 1)) s₁ ys { s₁ with heap := h', toks := tk } :=
  CEnd.intro (news' := []) F N ho (List.forall_mem_nil _) trivial ⟨rfl, by rw [take_fm hq, hG, List.append_nil]; exact hy⟩
end
section
variable {prog : Program} {w : World} {A : Around} {E : Value → Shared → Prop} {s : Shared} {env : Env} {h₀ : Heap} {L : Addr} {Q : Flow → Shared → Prop}
/-- a statement's end, cut: it lays nothing -/
theorem cut_0 {t : Sem Flow} {m₀ : Str → Option Value} {news : Led} (_F : Fr h₀ L s.heap m₀) (_N : News h₀ L s.heap news)
    (h : wpAny (model prog w) A t (WPost h₀ L (fun m' nw => (∀ y, m' y = m₀ y) ∧ nw = news) s) E s)
    (k : ∀ h tk, Fr h₀ L h m₀ → News h₀ L h news → Q .next { s with heap := h, toks := tk }) : wpAny (model prog w) A t Q E s := by
  refine wpAny_mono h (fun f s₂ h₂ => ?_) fun _ _ e => e
  obtain ⟨rfl, h', tk, m', nw, rfl, F', N', hm, rfl⟩ := h₂
  rw [show m' = m₀ from funext hm] at F'
  exact k h' tk F' N'
theorem WEnd.of0 {m₀ m' : Str → Option Value} {all news : Led} {s₁ : Shared} {h' : Heap} {tk : Nat} (F : Fr h₀ L h' m') (N : News h₀ L h' all) (hn : ∀ p ∈ news, p ∈ all) (hm : ∀ y, m' y = m₀ y) : WEnd h₀ L (fun m' nw => (∀ y, m' y = m₀ y) ∧ nw = news) s₁ { s₁ with heap := h', toks := tk } :=
  WEnd.intro F (fun p hp => N p (hn p hp)) ⟨hm, rfl⟩
end
section
variable {prog : Program} {w : World} {A : Around} {E : Value → Shared → Prop} {s : Shared} {h₀ : Heap} {L D b : Addr} {news : Led} {n n2 : Nat} {vs : List Value} {v : Value}
/-- the first of a made list -/
theorem head_get {value slice : PySem.Expr} {u : Tok} {Q : Value → Shared → Prop} (N : News h₀ L s.heap news) (hm : (D, listOf (v :: vs).toArray n) ∈ news) (h : Q v s)
    (hs : subscripted slice false (.ref D) (.int 0 u) = operate [.ref D, .int 0 u] (getItem (.ref D) (.int 0 u)) := by with_unfolding_all rfl) :
    wpAny (model prog w) A (subscriptTail value slice (.ref D) (.int 0 u)) Q E s :=
  have hl : s.heap.IsList D (v :: vs).toArray := News.isList N hm
  tail_any hl.typeIs slot_list_getitem.lookup (wpAny_getItem_list hl (by decide) (by decide) (by simp) h) hs
theorem ne_nil_strs {ss : List Str} {x : Str} {t : Tok} {Q : Value → Shared → Prop} (N : News h₀ L s.heap news) (ma : (D, listOf (Value.str x t :: vs).toArray n) ∈ news) (mb : (b, listOf #[] n2) ∈ news) (Da : StrsAre vs ss) (hk : ∀ y ∈ x :: ss, PyData.strOk y = true) (hu : A.units + 64 < cLine) (h : Q (.bool true) s) :
    wpAny (model prog w) A (compareOp .NotEq (.ref D) (.ref b)) Q E s := by
  refine ne_dat (ws := []) N ma mb (strs_dat (.cons x t Da)) .nil ?_ (by intro d hd; cases hd) hu ?_
  · intro d hd
    obtain ⟨y, hy, rfl⟩ := List.mem_map.mp hd
    exact hk y hy
  · have : ¬ ((x :: ss).map Dat.str) = [] := by simp
    rw [decide_eq_false this]; exact h
end
section
variable {prog : Program} {w : World} {A : Around} {E : Value → Shared → Prop} {s : Shared} {h₀ : Heap} {L D : Addr} {news : Led} {n : Nat} {vs : List Value} {k : Int}
theorem len_own {Q : Value → Shared → Prop} (N : News h₀ L s.heap news) (hm : (D, listOf vs.toArray n) ∈ news) (hz : vs.length ≤ 1000) (e : (vs.length : Int) = k) (h : ∀ t tk, Q (.int k t) { s with toks := tk }) :
    wpAny (model prog w) A (call (.builtin "len") [.ref D]) Q E s := by
  refine PyProof.Rows.len_list (News.isList N hm) (by rw [List.size_toArray]; omega) ?_
  rw [List.size_toArray, e]
  exact h _ _
end
end
theorem reset_P1 : True := by
  (w_top off)
  k_with_none
  first | walk1 | trivial
section
open PySem PySem.W PyProof.Rows PySem.Spec PySem.Calls
-- p lies in a written list, a tail's membership at hand (hp9)
-- a map is the old one off the named names
theorem cps_append (a b : Str) : (a ++ b).cps = a.cps ++ b.cps := rfl
theorem len_append (a b : Str) : (a ++ b).length = a.length + b.length := by show (a.cps ++ b.cps).size = _; rw [Array.size_append]; rfl
def joinS : List Sym → Str
  | [] => Str.empty
  | x :: r => x.str ++ joinS r
theorem joinS_len : ∀ xs : List Sym, ((joinS xs).length : Int) = offS xs
  | [] => rfl
  | x :: r => by
    have e : offS (x :: r) = x.len + offS r := by simp [offS]
    rw [e, joinS, len_append, Int.natCast_add, sym_len, joinS_len r]
theorem sym_low (x : Sym) : ∀ c ∈ x.str.cps, c < 97 := by cases x <;> decide +kernel
theorem join_low : ∀ (xs : List Sym), ∀ c ∈ (joinS xs).cps, c < 97
  | [], c, h => by simp [joinS, Str.empty] at h
  | x :: r, c, h => by
    rw [joinS, cps_append, Array.mem_append] at h
    rcases h with h | h
    · exact sym_low x c h
    · exact join_low r c h
theorem offS_len : ∀ (xs : List Sym), (xs.length : Int) ≤ offS xs
  | [] => by decide
  | x :: r => by
    have e : offS (x :: r) = x.len + offS r := by simp [offS]
    have := offS_len r
    have := len_pos x
    rw [e, List.length_cons, Int.natCast_add]
    omega
theorem join_strs : ∀ (xs : List Sym), Txt.join (Str.ofString "") (xs.map Sym.str) = joinS xs
  | [] => by
    rw [eq_of_beq (join_plain_closes _ _)]
    rfl
  | [x] => by
    rw [eq_of_beq (join_plain_closes _ _)]
    have h : x.str.cps ++ (#[] : Array Nat) = x.str.cps := by simp
    show x.str = ⟨x.str.cps ++ #[]⟩
    rw [h]
  | x :: y :: r => by
    have ih := join_strs (y :: r)
    rw [eq_of_beq (join_plain_closes _ _)] at ih ⊢
    show (x.str ++ Str.ofString "") ++ Str.join (Str.ofString "") ((y :: r).map Sym.str) = x.str ++ joinS (y :: r)
    rw [ih]
    have e : Str.ofString "" = ⟨#[]⟩ := by decide +kernel
    rw [e]
    congr 1
theorem spread_step (acc : List (Sym × Int)) (x : Sym) (h : ∀ p ∈ acc, 1 ≤ p.2) : spread (symStep acc x) = spread acc ++ [x] ∧ ∀ p ∈ symStep acc x, 1 ≤ p.2 := by
  rcases List.eq_nil_or_concat acc with rfl | ⟨i, ⟨y, c⟩, rfl⟩
  · exact ⟨rfl, by simp [symStep]⟩
  · rw [List.concat_eq_append] at h ⊢
    have hc : 1 ≤ c := h (y, c) (by simp)
    by_cases e : y = x
    · subst e
      rw [symStep_same]
      constructor
      · rw [spread_snoc, spread_snoc, List.append_assoc]
        congr 1
        have e2 : (c + 1).toNat = c.toNat + 1 := by omega
        rw [e2, List.replicate_succ']
      · intro p hp
        rcases List.mem_append.mp hp with hp | hp
        · exact h p (List.mem_append_left _ hp)
        · rw [List.mem_singleton.mp hp]; show 1 ≤ c + 1; omega
    · rw [symStep_other _ _ _ _ e]
      constructor
      · rw [spread_snoc]; rfl
      · intro p hp
        rcases List.mem_append.mp hp with hp | hp
        · exact h p hp
        · rw [List.mem_singleton.mp hp]; exact Int.le_refl 1
theorem spread_fold : ∀ (xs : List Sym) (acc : List (Sym × Int)), (∀ p ∈ acc, 1 ≤ p.2) → spread (xs.foldl symStep acc) = spread acc ++ xs ∧ ∀ p ∈ xs.foldl symStep acc, 1 ≤ p.2
  | [], acc, h => ⟨by simp, h⟩
  | x :: r, acc, h => by
    obtain ⟨e1, e2⟩ := spread_step acc x h
    obtain ⟨e3, e4⟩ := spread_fold r (symStep acc x) e2
    exact ⟨by rw [List.foldl_cons, e3, e1, List.append_assoc]; rfl, e4⟩
theorem spread_rle (xs : List Sym) : spread (rleS xs) = xs := by simpa [rleS, spread] using (spread_fold xs [] (by simp)).1
theorem spread_mem {ps : List (Sym × Int)} {p : Sym × Int} (h : p ∈ ps) : p.2.toNat ≤ (spread ps).length := by
  induction ps with
  | nil => cases h
  | cons a r ih =>
    have e : spread (a :: r) = List.replicate a.2.toNat a.1 ++ spread r := by simp [spread]
    rw [e, List.length_append, List.length_replicate]
    rcases List.mem_cons.mp h with rfl | h
    · omega
    · have := ih h; omega
theorem rle_counts {xs : List Sym} (h : xs.length ≤ 63) : ∀ p ∈ rleS xs, 1 ≤ p.2 ∧ p.2 ≤ 63 := by
  intro p hp
  have h1 := (spread_fold xs [] (by simp)).2 p hp
  have h2 := spread_mem hp
  rw [spread_rle] at h2
  exact ⟨h1, by omega⟩
end
theorem reset_P2 : True := by
  (w_top off)
  k_with_none
  first | walk1 | trivial
section
open PySem PySem.W PyProof.Rows PySem.Spec PySem.Calls
-- p lies in a written list, a tail's membership at hand (hp9)
-- a map is the old one off the named names
theorem slice_clip {x : Str} {i j : Int} (hj : 0 ≤ j) : Txt.slice x (some i) (some j) = Txt.slice x (some i) (some (min j x.length)) := by
  have e : PySem.Builtin.Str.strSliceIndices (some i) (some j) 1 x.length = PySem.Builtin.Str.strSliceIndices (some i) (some (min j x.length)) 1 x.length := by
    unfold PySem.Builtin.Str.strSliceIndices
    have h1 : ¬ j < 0 := by omega
    have h2 : ¬ min j (x.length : Int) < 0 := by omega
    have h3 : min (min j (x.length : Int)) (x.length : Int) = min j (x.length : Int) := by omega
    simp only [h1, h2, h3, if_false, show (1 : Int) > 0 by decide, if_true]
  unfold Txt.slice
  rw [e]
theorem slice_list {x : Str} {i j : Int} (h0 : 0 ≤ i) (h1 : i ≤ x.length) (h2 : i ≤ j) : Txt.slice x (some i) (some j) = ⟨((x.cps.toList.drop i.toNat).take (j - i).toNat).toArray⟩ := by
  have hl : x.cps.toList.length = x.length := by simp [Str.length]
  rw [slice_clip (by omega), eq_of_beq (slice_closes (x := x) (i := i) (j := min j x.length) ⟨h0, by omega, by omega⟩)]
  congr 2
  by_cases h : j ≤ x.length
  · rw [show min j (x.length : Int) = j by omega]
  · rw [show min j (x.length : Int) = x.length by omega, List.take_of_length_le (by rw [List.length_drop]; omega), List.take_of_length_le (by rw [List.length_drop]; omega)]
def codesS (xs : List Sym) : List Nat := xs.flatMap fun x => x.str.cps.toList
theorem join_codes : ∀ xs : List Sym, (joinS xs).cps.toList = codesS xs
  | [] => rfl
  | x :: r => by
    rw [joinS, cps_append, Array.toList_append, join_codes r]; rfl
theorem codes_len (xs : List Sym) : ((codesS xs).length : Int) = offS xs := by
  rw [← join_codes, ← joinS_len]; simp [Str.length]
theorem codes_drop (xs : List Sym) (i : Nat) : (codesS xs).drop (offS (xs.take i)).toNat = codesS (xs.drop i) := by
  have e : codesS xs = codesS (xs.take i) ++ codesS (xs.drop i) := by
    unfold codesS
    rw [← List.flatMap_append, List.take_append_drop]
  have hl := codes_len (xs.take i)
  rw [e, List.drop_append_of_le_length (by omega), List.drop_of_length_le (by omega)]
  rfl
theorem drop_cons {α : Type} {xs : List α} {i : Nat} {x : α} (h : xs[i]? = some x) : xs.drop i = x :: xs.drop (i + 1) := by
  obtain ⟨hlt, e⟩ := List.getElem?_eq_some_iff.mp h
  rw [List.drop_eq_getElem_cons hlt, e]
theorem sym_two (x : Sym) (h : x.two = true) : x.str.cps.toList.length = 2 := by cases x <;> first | (exact absurd h (by decide)) | decide +kernel
def Sym.code : Sym → Nat
  | .nine => 57 | .zed => 90 | .star => 42 | .dot => 46 | .vee => 86 | .pee => 80 | .bee => 66 | .nought => 48 | .slash => 47 | .comma => 44 | .plus => 43 | .minus => 45 | .dollar => 36 | .cr => 67 | .db => 68
theorem sym_one (x : Sym) (h : x.two = false) : ∃ c, x.str.cps.toList = [c] ∧ c ≠ 67 ∧ c ≠ 68 ∧ x.str = ⟨#[c]⟩ := by
  refine ⟨x.code, ?_⟩
  cases x <;> first | (exact absurd h (by decide)) | exact ⟨by decide +kernel, by decide, by decide, by decide +kernel⟩
theorem sym_par (x : Sym) : ∀ c ∈ x.str.cps.toList, c ≠ 40 := by cases x <;> decide +kernel
theorem codes_par (xs : List Sym) : ∀ c ∈ codesS xs, c ≠ 40 := by
  intro c hc
  obtain ⟨x, _, h⟩ := List.mem_flatMap.mp hc
  exact sym_par x c h
theorem str_cr : Str.ofString "CR" = ⟨#[67, 82]⟩ := by decide +kernel
theorem str_db : Str.ofString "DB" = ⟨#[68, 66]⟩ := by decide +kernel
theorem str_par : Str.ofString "(" = ⟨#[40]⟩ := by decide +kernel
theorem off_split (xs : List Sym) (i : Nat) : offS xs = offS (xs.take i) + offS (xs.drop i) := by
  have h : offS xs = offS (xs.take i ++ xs.drop i) := by rw [List.take_append_drop]
  refine h.trans ?_
  unfold offS
  rw [List.map_append, List.sum_append]
theorem off_nn (xs : List Sym) : 0 ≤ offS xs := Int.le_trans (Int.natCast_nonneg _) (offS_len xs)
theorem text_is (xs : List Sym) : TextIs (joinS xs) xs := by
  have hlen := joinS_len xs
  have hle : ∀ i x, xs[i]? = some x → 0 ≤ offS (xs.take i) ∧ offS (xs.take i) < (joinS xs).length ∧ offS (xs.take i) + x.len ≤ (joinS xs).length := by
    intro i x hx
    have h1 := off_split xs i
    rw [drop_cons hx] at h1
    have e : offS (x :: xs.drop (i + 1)) = x.len + offS (xs.drop (i + 1)) := by simp [offS]
    have h2 := off_nn (xs.drop (i + 1))
    have h3 := off_nn (xs.take i)
    have h4 := len_pos x
    omega
  refine ⟨hlen, hle, fun i x hx => ?_, fun i x hx => ?_⟩
  · obtain ⟨g0, g1, g2⟩ := hle i x hx
    have hs := slice_list (x := joinS xs) (i := offS (xs.take i)) (j := offS (xs.take i) + 2) g0 (by omega) (by omega)
    rw [join_codes, codes_drop, drop_cons hx, show (offS (xs.take i) + 2 - offS (xs.take i)).toNat = 2 by omega] at hs
    have e : codesS (x :: xs.drop (i + 1)) = x.str.cps.toList ++ codesS (xs.drop (i + 1)) := by simp [codesS]
    rw [e] at hs
    refine ⟨fun h2 => ?_, fun h1 => ?_⟩
    · rw [hs, List.take_append_of_le_length (by rw [sym_two x h2]; exact Nat.le_refl 2), List.take_of_length_le (by rw [sym_two x h2]; exact Nat.le_refl 2)]
    · obtain ⟨c, hc, n1, n2, hstr⟩ := sym_one x h1
      constructor
      · have hi : (joinS xs).cps[(offS (xs.take i)).toNat]? = some c := by
          rw [← Array.getElem?_toList, join_codes]
          have h0 : ((codesS xs).drop (offS (xs.take i)).toNat)[0]? = some c := by rw [codes_drop, drop_cons hx, e, hc]; rfl
          rw [List.getElem?_drop] at h0
          simpa using h0
        rw [hstr]
        unfold Txt.item Txt.charAt
        rw [seqIndex_of g0 g1]
        show (⟨#[((joinS xs).cps[(offS (xs.take i)).toNat]?).getD 0]⟩ : Str) = _
        rw [hi]; rfl
      · rw [hs, hc, str_cr, str_db]
        have hne : ∀ (a b : Nat) (l : List Nat), c ≠ a → ((⟨#[a, b]⟩ : Str) == ⟨(List.take 2 ([c] ++ l)).toArray⟩) = false := by
          intro a b l hca
          apply beq_false_of_ne
          intro heq
          have h5 := congrArg (fun s : Str => s.cps.toList) heq
          simp at h5
          exact hca h5.1.symm
        simp only [List.any_cons, List.any_nil, Bool.or_false, Bool.or_eq_false_iff]
        exact ⟨hne 67 82 _ n1, hne 68 66 _ n2⟩
  · obtain ⟨g0, g1, g2⟩ := hle i x hx
    have h4 := len_pos x
    have hs := slice_list (x := joinS xs) (i := offS (xs.take i) + x.len) (j := offS (xs.take i) + x.len + 1) (by omega) g2 (by omega)
    rw [join_codes, show (offS (xs.take i) + x.len + 1 - (offS (xs.take i) + x.len)).toNat = 1 by omega] at hs
    rw [hs, str_par]
    have hm : ∀ c ∈ List.take 1 (List.drop (offS (xs.take i) + x.len).toNat (codesS xs)), c ≠ 40 := fun c hc => codes_par xs c (List.mem_of_mem_drop (List.mem_of_mem_take hc))
    generalize List.take 1 (List.drop (offS (xs.take i) + x.len).toNat (codesS xs)) = l at hm
    apply bne_iff_ne.mpr
    intro heq
    have h5 := congrArg (fun s : Str => s.cps.toList) heq
    simp at h5
    subst h5
    exact hm 40 (by simp) rfl
end
theorem reset_P3 : True := by
  (w_top off)
  k_with_none
  first | walk1 | trivial
section
open PySem PySem.W PyProof.Rows PySem.Spec PySem.Calls
-- p lies in a written list, a tail's membership at hand (hp9)
-- a map is the old one off the named names
def putO (o : Ord) (x : Sym) : Ord := { o with seen := o.seen + 1, last := x.str }
def takeF (o : Ord) (x : Sym) : Option Ord :=
  if o.over = true then none else
  match x with
  | .nine => if o.trail ≤ 0 ∧ o.late = false then (if (o.point != Str.ofString "") = true then some (putO { o with nines := o.nines + 1, behind := o.behind + 1, late := false } .nine) else some (putO { o with nines := o.nines + 1 } .nine)) else none
  | .zed => if o.trail ≤ 0 ∧ o.nines ≤ 0 ∧ o.floats ≤ 0 ∧ ([Str.ofString "", Sym.zed.str].any fun x => x == o.zero) = true then (if (o.point != Str.ofString "") = true then some (putO { o with zero := Sym.zed.str, zeros := o.zeros + 1, behind := o.behind + 1, late := true } .zed) else some (putO { o with zero := Sym.zed.str, zeros := o.zeros + 1 } .zed)) else none
  | .star => if o.trail ≤ 0 ∧ o.nines ≤ 0 ∧ o.floats ≤ 0 ∧ ([Str.ofString "", Sym.star.str].any fun x => x == o.zero) = true then (if (o.point != Str.ofString "") = true then some (putO { o with zero := Sym.star.str, zeros := o.zeros + 1, behind := o.behind + 1, late := true } .star) else some (putO { o with zero := Sym.star.str, zeros := o.zeros + 1 } .star)) else none
  | .vee => if o.trail ≤ 0 ∧ (o.point != Str.ofString "") = false then some (putO { o with point := Sym.vee.str } .vee) else none
  | .dot => if o.trail ≤ 0 ∧ (o.point != Str.ofString "") = false then some (putO { o with point := Sym.dot.str } .dot) else none
  | .pee => if 0 < o.nines + o.zeros + o.floats ∧ (o.point != Str.ofString "") = false then some (putO { o with trail := o.trail + 1 } .pee) else none
  | .bee => if o.trail ≤ 0 then some (putO { o with ins := true } .bee) else none
  | .nought => if o.trail ≤ 0 then some (putO { o with ins := true } .nought) else none
  | .slash => if o.trail ≤ 0 then some (putO { o with ins := true } .slash) else none
  | .comma => if o.trail ≤ 0 then some (putO { o with ins := true } .comma) else none
  | .plus => signF o .plus
  | .minus => signF o .minus
  | .dollar =>
    if (o.money == Str.ofString "") = true then
      (if (o.point != Str.ofString "") = false then
        (if o.seen = 0 then some (putO { o with money := Sym.dollar.str, floats := o.floats + (1 - 1) } .dollar)
         else if o.seen = 1 ∧ (o.sign == Str.ofString "") = false ∧ o.floats ≤ 0 then some (putO { o with money := Sym.dollar.str, floats := o.floats + (1 - 1) } .dollar) else none) else none)
    else if o.nines = 0 ∧ o.zeros = 0 ∧ o.trail = 0 then (if (o.point != Str.ofString "") = true then some (putO { o with floats := o.floats + 1, behind := o.behind + 1, late := true } .dollar) else some (putO { o with floats := o.floats + 1 } .dollar)) else none
  | .cr => if 0 < o.nines + o.zeros + o.floats ∧ (o.sign != Str.ofString "") = false then some (putO { o with sign := Sym.cr.str, over := true } .cr) else none
  | .db => if 0 < o.nines + o.zeros + o.floats ∧ (o.sign != Str.ofString "") = false then some (putO { o with sign := Sym.db.str, over := true } .db) else none
where
  signF (o : Ord) (x : Sym) : Option Ord :=
    if o.seen = 0 then (if (o.point != Str.ofString "") = false then some (putO { o with sign := x.str, floats := o.floats + (1 - 1) } x) else none)
    else if 0 < o.seen then
      (if (o.sign == x.str) = true then
        (if (o.money == Str.ofString "") = true ∧ o.nines = 0 ∧ o.zeros = 0 ∧ o.trail = 0 then (if (o.point != Str.ofString "") = true then some (putO { o with floats := o.floats + 1, behind := o.behind + 1, late := true } x) else some (putO { o with floats := o.floats + 1 } x)) else none)
       else if (o.sign != Str.ofString "") = false ∧ 0 < o.nines + o.zeros + o.floats then some (putO { o with sign := x.str, over := true } x) else none)
    else none
theorem signF_ok {o o' : Ord} {x : Sym} (hx : x = .plus ∨ x = .minus) (hov : o.over = false) (h : takeF.signF o x = some o') : Take o x o' := by
  unfold takeF.signF at h
  split at h
  · next h0 =>
    split at h
    · next h1 => cases h; exact .sign0 hx hov h0 h1
    · cases h
  · split at h
    · next h0 =>
      split at h
      · next h1 =>
        split at h
        · next h2 =>
          obtain ⟨a, b, c, d⟩ := h2
          split at h
          · next h3 => cases h; exact .sign2 hx hov h0 h1 a b c d h3
          · next h3 => cases h; exact .sign1 hx hov h0 h1 a b c d (by simpa using h3)
        · cases h
      · next h1 =>
        split at h
        · next h2 => cases h; exact .sign3 hx hov h0 (by simpa using h1) h2.1 h2.2
        · cases h
    · cases h
theorem takeF_ok {o o' : Ord} {x : Sym} (h : takeF o x = some o') : Take o x o' := by
  unfold takeF at h
  split at h
  · cases h
  · next hov =>
    have hov : o.over = false := by simpa using hov
    cases x <;> simp only at h
    case nine =>
      split at h
      · next h1 =>
        split at h
        · next h2 => cases h; exact .nine1 rfl hov h1.1 h1.2 h2
        · next h2 => cases h; exact .nine0 rfl hov h1.1 h1.2 (by simpa using h2)
      · cases h
    case zed =>
      split at h
      · next h1 =>
        obtain ⟨a, b, c, d⟩ := h1
        split at h
        · next h2 => cases h; exact .zero1 (.inl rfl) hov a b c d h2
        · next h2 => cases h; exact .zero0 (.inl rfl) hov a b c d (by simpa using h2)
      · cases h
    case star =>
      split at h
      · next h1 =>
        obtain ⟨a, b, c, d⟩ := h1
        split at h
        · next h2 => cases h; exact .zero1 (.inr rfl) hov a b c d h2
        · next h2 => cases h; exact .zero0 (.inr rfl) hov a b c d (by simpa using h2)
      · cases h
    case vee =>
      split at h
      · next h1 => cases h; exact .point (.inl rfl) hov h1.1 h1.2
      · cases h
    case dot =>
      split at h
      · next h1 => cases h; exact .point (.inr rfl) hov h1.1 h1.2
      · cases h
    case pee =>
      split at h
      · next h1 => cases h; exact .scale rfl hov h1.1 h1.2
      · cases h
    case bee =>
      split at h
      · next h1 => cases h; exact .insert (.inl rfl) hov h1
      · cases h
    case nought =>
      split at h
      · next h1 => cases h; exact .insert (.inr (.inl rfl)) hov h1
      · cases h
    case slash =>
      split at h
      · next h1 => cases h; exact .insert (.inr (.inr (.inl rfl))) hov h1
      · cases h
    case comma =>
      split at h
      · next h1 => cases h; exact .insert (.inr (.inr (.inr rfl))) hov h1
      · cases h
    case plus => exact signF_ok (.inl rfl) hov h
    case minus => exact signF_ok (.inr rfl) hov h
    case dollar =>
      split at h
      · next h0 =>
        split at h
        · next h1 =>
          split at h
          · next h2 => cases h; exact .money0 rfl hov h0 h2 h1
          · split at h
            · next h2 => cases h; exact .money3 rfl hov h0 h2.1 h2.2.1 h2.2.2 h1
            · cases h
        · cases h
      · next h0 =>
        split at h
        · next h1 =>
          obtain ⟨a, b, c⟩ := h1
          split at h
          · next h2 => cases h; exact .money2 rfl hov (by simpa using h0) a b c h2
          · next h2 => cases h; exact .money1 rfl hov (by simpa using h0) a b c (by simpa using h2)
        · cases h
    case cr =>
      split at h
      · next h1 => cases h; exact .fin (.inl rfl) hov h1.1 h1.2
      · cases h
    case db =>
      split at h
      · next h1 => cases h; exact .fin (.inr rfl) hov h1.1 h1.2
      · cases h
def takesF (o : Ord) : List Sym → Option Ord
  | [] => some o
  | x :: r => match takeF o x with | none => none | some o1 => takesF o1 r
theorem takesF_ok : ∀ {xs : List Sym} {o o' : Ord}, takesF o xs = some o' → Takes o xs o'
  | [], o, o', h => by cases h; exact .nil
  | x :: r, o, o', h => by
    rw [takesF] at h
    split at h
    · cases h
    · next o1 h1 => exact .cons (takeF_ok h1) (takesF_ok h)
structure RowGood (xs : List Sym) (o' : Ord) : Prop where
  takes : Takes ord0 xs o'
  pos : 0 < o'.nines + o'.zeros + o'.floats
  last : ([Str.ofString ",", Str.ofString "."].any fun x => x == o'.last) = false
  most : o'.nines + o'.zeros + o'.floats + o'.trail ≤ 18
  size : (sizeL (rleS xs)).sum ≤ 9999
  short : offS xs ≤ 30
def rowOk (xs : List Sym) : Bool := match takesF ord0 xs with
  | none => false
  | some o => decide (0 < o.nines + o.zeros + o.floats) && !([Str.ofString ",", Str.ofString "."].any fun x => x == o.last) && decide (o.nines + o.zeros + o.floats + o.trail ≤ 18) && decide ((sizeL (rleS xs)).sum ≤ 9999) && decide (offS xs ≤ 30)
theorem rowOk_good {xs : List Sym} (h : rowOk xs = true) : ∃ o', RowGood xs o' := by
  unfold rowOk at h
  split at h
  · cases h
  · next o ho =>
    simp only [Bool.and_eq_true, decide_eq_true_eq, Bool.not_eq_true'] at h
    exact ⟨o, takesF_ok ho, h.1.1.1.1, h.1.1.1.2, h.1.1.2, h.1.2, h.2⟩
end
theorem reset_P4 : True := by
  (w_top off)
  k_with_none
  first | walk1 | trivial
section
open PySem PySem.W PyProof.Rows PySem.Spec PySem.Calls
-- p lies in a written list, a tail's membership at hand (hp9)
-- a map is the old one off the named names
def tableW : Array Value := #[.ref 331, .ref 332, .ref 333, .ref 334, .ref 335, .ref 336, .ref 337, .ref 338, .ref 339, .ref 340]
theorem table_is {w : World} {h₀ : Heap} (X : (hd.heap_1 w.params).In h₀) : IsTup h₀ 341 tableW := ⟨_, X 341 _ (by k_dflt (exact rfl)), rfl, _, rfl⟩
theorem tab_at {K : Frag} {h₀ : Heap} {a : Addr} {s s1 s2 : Str} {t1 t2 : Tok} {n : Nat} (X : K.In h₀) (h : K.lookup a = some { cls := .type "tuple", data := .seq #[.str s1 t1, .str s2 t2] n }) (e : s1 = s) : IsTup h₀ a #[.str s t1, .str s2 t2] := by
  subst e; exact ⟨_, X a _ h, rfl, _, rfl⟩
def tx0 : List Sym := [.dollar, .dollar, .comma, .dollar, .dollar, .nine, .dot, .nine, .nine, .minus]
theorem tx0_good : rowOk tx0 = true := by decide +kernel
theorem tx0_text : Str.ofString "$$,$$9.99-" = joinS tx0 := by decide +kernel
theorem tx0_split : Txt.split (Str.ofString "lead float insert float float figure point figure figure fixed") (Str.ofString " ") = (rolesGo (floatS (tx0.map Sym.str)) tx0).map Role.str := by decide +kernel
def tx1 : List Sym := [.zed, .zed, .nine, .vee, .nine, .cr]
theorem tx1_good : rowOk tx1 = true := by decide +kernel
theorem tx1_text : Str.ofString "ZZ9V9CR" = joinS tx1 := by decide +kernel
theorem tx1_split : Txt.split (Str.ofString "zero zero figure mark figure fixed") (Str.ofString " ") = (rolesGo (floatS (tx1.map Sym.str)) tx1).map Role.str := by decide +kernel
def tx2 : List Sym := [.plus, .dollar, .zed, .zed, .nine]
theorem tx2_good : rowOk tx2 = true := by decide +kernel
theorem tx2_text : Str.ofString "+$ZZ9" = joinS tx2 := by decide +kernel
theorem tx2_split : Txt.split (Str.ofString "fixed fixed zero zero figure") (Str.ofString " ") = (rolesGo (floatS (tx2.map Sym.str)) tx2).map Role.str := by decide +kernel
def tx3 : List Sym := [.plus, .plus, .plus]
theorem tx3_good : rowOk tx3 = true := by decide +kernel
theorem tx3_text : Str.ofString "+++" = joinS tx3 := by decide +kernel
theorem tx3_split : Txt.split (Str.ofString "lead float float") (Str.ofString " ") = (rolesGo (floatS (tx3.map Sym.str)) tx3).map Role.str := by decide +kernel
def tx4 : List Sym := [.minus, .nine]
theorem tx4_good : rowOk tx4 = true := by decide +kernel
theorem tx4_text : Str.ofString "-9" = joinS tx4 := by decide +kernel
theorem tx4_split : Txt.split (Str.ofString "fixed figure") (Str.ofString " ") = (rolesGo (floatS (tx4.map Sym.str)) tx4).map Role.str := by decide +kernel
def tx5 : List Sym := [.star, .star, .nine, .pee, .pee]
theorem tx5_good : rowOk tx5 = true := by decide +kernel
theorem tx5_text : Str.ofString "**9PP" = joinS tx5 := by decide +kernel
theorem tx5_split : Txt.split (Str.ofString "star star figure none none") (Str.ofString " ") = (rolesGo (floatS (tx5.map Sym.str)) tx5).map Role.str := by decide +kernel
def tx6 : List Sym := [.nine, .slash, .nine, .bee, .nine]
theorem tx6_good : rowOk tx6 = true := by decide +kernel
theorem tx6_text : Str.ofString "9/9B9" = joinS tx6 := by decide +kernel
theorem tx6_split : Txt.split (Str.ofString "figure insert figure insert figure") (Str.ofString " ") = (rolesGo (floatS (tx6.map Sym.str)) tx6).map Role.str := by decide +kernel
def tx7 : List Sym := [.plus, .dollar, .dollar, .nine]
theorem tx7_good : rowOk tx7 = true := by decide +kernel
theorem tx7_text : Str.ofString "+$$9" = joinS tx7 := by decide +kernel
theorem tx7_split : Txt.split (Str.ofString "fixed lead float figure") (Str.ofString " ") = (rolesGo (floatS (tx7.map Sym.str)) tx7).map Role.str := by decide +kernel
def tx8 : List Sym := [.zed, .nought, .zed, .comma, .nine, .db]
theorem tx8_good : rowOk tx8 = true := by decide +kernel
theorem tx8_text : Str.ofString "Z0Z,9DB" = joinS tx8 := by decide +kernel
theorem tx8_split : Txt.split (Str.ofString "zero insert zero insert figure fixed") (Str.ofString " ") = (rolesGo (floatS (tx8.map Sym.str)) tx8).map Role.str := by decide +kernel
def tx9 : List Sym := [.minus, .minus, .dot, .minus, .minus]
theorem tx9_good : rowOk tx9 = true := by decide +kernel
theorem tx9_text : Str.ofString "--.--" = joinS tx9 := by decide +kernel
theorem tx9_split : Txt.split (Str.ofString "lead float point float float") (Str.ofString " ") = (rolesGo (floatS (tx9.map Sym.str)) tx9).map Role.str := by decide +kernel
theorem table_row {w : World} {h₀ : Heap} (X : (hd.heap_1 w.params).In h₀) : ∀ (i : Nat) (v : Value), tableW[i]? = some v → ∃ t tx tr xs o' ro, v = .ref t ∧ IsTup h₀ t #[.str (joinS xs) tx, .str ro tr] ∧ ro.length ≤ 200 ∧ RowGood xs o' ∧ Txt.split ro (Str.ofString " ") = (rolesGo (floatS (xs.map Sym.str)) xs).map Role.str
  | 0, v, h => by
    obtain ⟨o', hg⟩ := rowOk_good tx0_good
    exact ⟨331, 641, 642, tx0, o', Str.ofString "lead float insert float float figure point figure figure fixed", (Option.some.inj h).symm, tab_at X (by k_dflt (exact rfl)) tx0_text, by decide +kernel, hg, tx0_split⟩
  | 1, v, h => by
    obtain ⟨o', hg⟩ := rowOk_good tx1_good
    exact ⟨332, 643, 644, tx1, o', Str.ofString "zero zero figure mark figure fixed", (Option.some.inj h).symm, tab_at X (by k_dflt (exact rfl)) tx1_text, by decide +kernel, hg, tx1_split⟩
  | 2, v, h => by
    obtain ⟨o', hg⟩ := rowOk_good tx2_good
    exact ⟨333, 645, 646, tx2, o', Str.ofString "fixed fixed zero zero figure", (Option.some.inj h).symm, tab_at X (by k_dflt (exact rfl)) tx2_text, by decide +kernel, hg, tx2_split⟩
  | 3, v, h => by
    obtain ⟨o', hg⟩ := rowOk_good tx3_good
    exact ⟨334, 647, 648, tx3, o', Str.ofString "lead float float", (Option.some.inj h).symm, tab_at X (by k_dflt (exact rfl)) tx3_text, by decide +kernel, hg, tx3_split⟩
  | 4, v, h => by
    obtain ⟨o', hg⟩ := rowOk_good tx4_good
    exact ⟨335, 649, 650, tx4, o', Str.ofString "fixed figure", (Option.some.inj h).symm, tab_at X (by k_dflt (exact rfl)) tx4_text, by decide +kernel, hg, tx4_split⟩
  | 5, v, h => by
    obtain ⟨o', hg⟩ := rowOk_good tx5_good
    exact ⟨336, 651, 652, tx5, o', Str.ofString "star star figure none none", (Option.some.inj h).symm, tab_at X (by k_dflt (exact rfl)) tx5_text, by decide +kernel, hg, tx5_split⟩
  | 6, v, h => by
    obtain ⟨o', hg⟩ := rowOk_good tx6_good
    exact ⟨337, 653, 654, tx6, o', Str.ofString "figure insert figure insert figure", (Option.some.inj h).symm, tab_at X (by k_dflt (exact rfl)) tx6_text, by decide +kernel, hg, tx6_split⟩
  | 7, v, h => by
    obtain ⟨o', hg⟩ := rowOk_good tx7_good
    exact ⟨338, 655, 656, tx7, o', Str.ofString "fixed lead float figure", (Option.some.inj h).symm, tab_at X (by k_dflt (exact rfl)) tx7_text, by decide +kernel, hg, tx7_split⟩
  | 8, v, h => by
    obtain ⟨o', hg⟩ := rowOk_good tx8_good
    exact ⟨339, 657, 658, tx8, o', Str.ofString "zero insert zero insert figure fixed", (Option.some.inj h).symm, tab_at X (by k_dflt (exact rfl)) tx8_text, by decide +kernel, hg, tx8_split⟩
  | 9, v, h => by
    obtain ⟨o', hg⟩ := rowOk_good tx9_good
    exact ⟨340, 659, 660, tx9, o', Str.ofString "lead float point float float", (Option.some.inj h).symm, tab_at X (by k_dflt (exact rfl)) tx9_text, by decide +kernel, hg, tx9_split⟩
  | i + 10, v, h => by
    have : tableW.size = 10 := rfl
    rw [Array.getElem?_eq_none (by omega)] at h
    cases h
end
theorem reset_P5 : True := by
  (w_top off)
  k_with_none
  first | walk1 | trivial
section
open PySem PySem.W PyProof.Rows PySem.Spec PySem.Calls
-- p lies in a written list, a tail's membership at hand (hp9)
-- a map is the old one off the named names
def gLead (p : Sym × Role) : Option Str := if p.2 = .lead then some p.1.str else none
def isFig (r : Role) : Bool := r == .figure || r == .zero || r == .star || r == .float
def isSup (r : Role) : Bool := r == .zero || r == .star || r == .float
def lays (r : Role) : Bool := !(r == .mark || r == .none)
def gFig (p : Sym × Role) : Option Str := if isFig p.2 = true then some p.2.str else none
def gSup (p : Sym × Role) : Option Str := if isSup p.2 = true then some p.2.str else none
def gLay (p : Sym × Role) : Option Int := if lays p.2 = true then some p.1.len else none
def frontsF (o : Bool) : List (List (Sym × Role)) := [] :: if o then [[(.plus, .fixed)], [(.minus, .fixed)]] else []
def moneysF (o : Bool) (way : Nat) : List (List (Sym × Role)) := [] :: if o && way != 2 then [[(.dollar, .fixed)]] else []
def tailsF (way nines : Nat) : List (List (Sym × Role)) :=
  [] :: [(.pee, .none)] :: [(.pee, .none), (.pee, .none)] :: ([(Sym.dot, Role.point), (.vee, .mark)].flatMap fun p => [1, 2, 3].flatMap fun n => (p :: List.replicate n (.nine, .figure)) :: (if nines == 0 && decide (way < 5) then [p :: List.replicate n (menuW way)] else []))
def lastsF (o : Bool) (front : List (Sym × Role)) : List (List (Sym × Role)) := [] :: if o && front.isEmpty then [[(.cr, .fixed)], [(.db, .fixed)], [(.plus, .fixed)], [(.minus, .fixed)]] else []
/-- each sign has its role -/
def goodR (fl : Str) : Bool → List (Sym × Role) → Bool
  | _, [] => true
  | b, (x, r) :: rest => decide ((if x.str = fl then (if b then Role.float else .lead) else x.plain) = r) && goodR fl (b || r == .lead) rest
def symsOf (rows : List (Sym × Role)) : List Str := (rows.map (·.1)).map Sym.str
def rowChk (fr mo mi ta la : List (Sym × Role)) : Bool :=
  let rows := fr ++ mo ++ mi ++ ta ++ la
  (match takesF ord0 (rows.map (·.1)) with
   | none => false
   | some o => decide (0 < o.nines + o.zeros + o.floats) && !([Str.ofString ",", Str.ofString "."].any fun x => x == o.last) && decide (o.nines + o.zeros + o.floats + o.trail ≤ 18) && decide ((((rows.filterMap gFig).length : Nat) : Int) = o.nines + o.zeros + o.floats)) &&
  goodR (floatS (symsOf rows)) false rows && decide (floatS (symsOf rows) = (rows.filterMap gLead).headD (Str.ofString "")) &&
  decide (offS ((fr ++ mo).map (·.1)) + 2 * offS (mi.map (·.1)) + offS ((ta ++ la).map (·.1)) ≤ 30) &&
  (rows.all fun p => lays p.2 == !nowhere p.1) && !((fr ++ mo ++ mi).any fun p => p.1 == .pee) &&
  (match mi with | [] => false | a :: r => a.1 == .dollar || !((r ++ ta ++ la).any fun p => p.1 == .dollar))
def baseOk (way many nines : Nat) : Bool :=
  (frontsF (openW way)).all fun fr => (moneysF (openW way) way).all fun mo => (tailsF way nines).all fun ta => (lastsF (openW way) fr).all fun la => rowChk fr mo (looseW (menuW way) many ++ List.replicate nines (.nine, .figure)) ta la
theorem base010 : baseOk 0 1 0 = true := by decide +kernel
theorem base011 : baseOk 0 1 1 = true := by decide +kernel
theorem base012 : baseOk 0 1 2 = true := by decide +kernel
theorem base020 : baseOk 0 2 0 = true := by decide +kernel
theorem base021 : baseOk 0 2 1 = true := by decide +kernel
theorem base022 : baseOk 0 2 2 = true := by decide +kernel
theorem base030 : baseOk 0 3 0 = true := by decide +kernel
theorem base031 : baseOk 0 3 1 = true := by decide +kernel
theorem base032 : baseOk 0 3 2 = true := by decide +kernel
theorem base040 : baseOk 0 4 0 = true := by decide +kernel
theorem base041 : baseOk 0 4 1 = true := by decide +kernel
theorem base042 : baseOk 0 4 2 = true := by decide +kernel
theorem base110 : baseOk 1 1 0 = true := by decide +kernel
theorem base111 : baseOk 1 1 1 = true := by decide +kernel
theorem base112 : baseOk 1 1 2 = true := by decide +kernel
theorem base120 : baseOk 1 2 0 = true := by decide +kernel
theorem base121 : baseOk 1 2 1 = true := by decide +kernel
theorem base122 : baseOk 1 2 2 = true := by decide +kernel
theorem base130 : baseOk 1 3 0 = true := by decide +kernel
theorem base131 : baseOk 1 3 1 = true := by decide +kernel
theorem base132 : baseOk 1 3 2 = true := by decide +kernel
theorem base140 : baseOk 1 4 0 = true := by decide +kernel
theorem base141 : baseOk 1 4 1 = true := by decide +kernel
theorem base142 : baseOk 1 4 2 = true := by decide +kernel
theorem base210 : baseOk 2 1 0 = true := by decide +kernel
theorem base211 : baseOk 2 1 1 = true := by decide +kernel
theorem base212 : baseOk 2 1 2 = true := by decide +kernel
theorem base220 : baseOk 2 2 0 = true := by decide +kernel
theorem base221 : baseOk 2 2 1 = true := by decide +kernel
theorem base222 : baseOk 2 2 2 = true := by decide +kernel
theorem base230 : baseOk 2 3 0 = true := by decide +kernel
theorem base231 : baseOk 2 3 1 = true := by decide +kernel
theorem base232 : baseOk 2 3 2 = true := by decide +kernel
theorem base240 : baseOk 2 4 0 = true := by decide +kernel
theorem base241 : baseOk 2 4 1 = true := by decide +kernel
theorem base242 : baseOk 2 4 2 = true := by decide +kernel
theorem base310 : baseOk 3 1 0 = true := by decide +kernel
theorem base311 : baseOk 3 1 1 = true := by decide +kernel
theorem base312 : baseOk 3 1 2 = true := by decide +kernel
theorem base320 : baseOk 3 2 0 = true := by decide +kernel
theorem base321 : baseOk 3 2 1 = true := by decide +kernel
theorem base322 : baseOk 3 2 2 = true := by decide +kernel
theorem base330 : baseOk 3 3 0 = true := by decide +kernel
theorem base331 : baseOk 3 3 1 = true := by decide +kernel
theorem base332 : baseOk 3 3 2 = true := by decide +kernel
theorem base340 : baseOk 3 4 0 = true := by decide +kernel
theorem base341 : baseOk 3 4 1 = true := by decide +kernel
theorem base342 : baseOk 3 4 2 = true := by decide +kernel
theorem base410 : baseOk 4 1 0 = true := by decide +kernel
theorem base411 : baseOk 4 1 1 = true := by decide +kernel
theorem base412 : baseOk 4 1 2 = true := by decide +kernel
theorem base420 : baseOk 4 2 0 = true := by decide +kernel
theorem base421 : baseOk 4 2 1 = true := by decide +kernel
theorem base422 : baseOk 4 2 2 = true := by decide +kernel
theorem base430 : baseOk 4 3 0 = true := by decide +kernel
theorem base431 : baseOk 4 3 1 = true := by decide +kernel
theorem base432 : baseOk 4 3 2 = true := by decide +kernel
theorem base440 : baseOk 4 4 0 = true := by decide +kernel
theorem base441 : baseOk 4 4 1 = true := by decide +kernel
theorem base442 : baseOk 4 4 2 = true := by decide +kernel
theorem base510 : baseOk 5 1 0 = true := by decide +kernel
theorem base511 : baseOk 5 1 1 = true := by decide +kernel
theorem base512 : baseOk 5 1 2 = true := by decide +kernel
theorem base520 : baseOk 5 2 0 = true := by decide +kernel
theorem base521 : baseOk 5 2 1 = true := by decide +kernel
theorem base522 : baseOk 5 2 2 = true := by decide +kernel
theorem base530 : baseOk 5 3 0 = true := by decide +kernel
theorem base531 : baseOk 5 3 1 = true := by decide +kernel
theorem base532 : baseOk 5 3 2 = true := by decide +kernel
theorem base540 : baseOk 5 4 0 = true := by decide +kernel
theorem base541 : baseOk 5 4 1 = true := by decide +kernel
theorem base542 : baseOk 5 4 2 = true := by decide +kernel
theorem base_ok : ∀ {way many nines : Nat}, way < 6 → 1 ≤ many → many ≤ 4 → nines ≤ 2 → baseOk way many nines = true := by
  intro way many nines h1 h2 h3 h4
  obtain rfl | rfl | rfl | rfl | rfl | rfl : way = 0 ∨ way = 1 ∨ way = 2 ∨ way = 3 ∨ way = 4 ∨ way = 5 := by omega
  · obtain rfl | rfl | rfl | rfl : many = 1 ∨ many = 2 ∨ many = 3 ∨ many = 4 := by omega
    · obtain rfl | rfl | rfl : nines = 0 ∨ nines = 1 ∨ nines = 2 := by omega
      · exact base010
      · exact base011
      · exact base012
    · obtain rfl | rfl | rfl : nines = 0 ∨ nines = 1 ∨ nines = 2 := by omega
      · exact base020
      · exact base021
      · exact base022
    · obtain rfl | rfl | rfl : nines = 0 ∨ nines = 1 ∨ nines = 2 := by omega
      · exact base030
      · exact base031
      · exact base032
    · obtain rfl | rfl | rfl : nines = 0 ∨ nines = 1 ∨ nines = 2 := by omega
      · exact base040
      · exact base041
      · exact base042
  · obtain rfl | rfl | rfl | rfl : many = 1 ∨ many = 2 ∨ many = 3 ∨ many = 4 := by omega
    · obtain rfl | rfl | rfl : nines = 0 ∨ nines = 1 ∨ nines = 2 := by omega
      · exact base110
      · exact base111
      · exact base112
    · obtain rfl | rfl | rfl : nines = 0 ∨ nines = 1 ∨ nines = 2 := by omega
      · exact base120
      · exact base121
      · exact base122
    · obtain rfl | rfl | rfl : nines = 0 ∨ nines = 1 ∨ nines = 2 := by omega
      · exact base130
      · exact base131
      · exact base132
    · obtain rfl | rfl | rfl : nines = 0 ∨ nines = 1 ∨ nines = 2 := by omega
      · exact base140
      · exact base141
      · exact base142
  · obtain rfl | rfl | rfl | rfl : many = 1 ∨ many = 2 ∨ many = 3 ∨ many = 4 := by omega
    · obtain rfl | rfl | rfl : nines = 0 ∨ nines = 1 ∨ nines = 2 := by omega
      · exact base210
      · exact base211
      · exact base212
    · obtain rfl | rfl | rfl : nines = 0 ∨ nines = 1 ∨ nines = 2 := by omega
      · exact base220
      · exact base221
      · exact base222
    · obtain rfl | rfl | rfl : nines = 0 ∨ nines = 1 ∨ nines = 2 := by omega
      · exact base230
      · exact base231
      · exact base232
    · obtain rfl | rfl | rfl : nines = 0 ∨ nines = 1 ∨ nines = 2 := by omega
      · exact base240
      · exact base241
      · exact base242
  · obtain rfl | rfl | rfl | rfl : many = 1 ∨ many = 2 ∨ many = 3 ∨ many = 4 := by omega
    · obtain rfl | rfl | rfl : nines = 0 ∨ nines = 1 ∨ nines = 2 := by omega
      · exact base310
      · exact base311
      · exact base312
    · obtain rfl | rfl | rfl : nines = 0 ∨ nines = 1 ∨ nines = 2 := by omega
      · exact base320
      · exact base321
      · exact base322
    · obtain rfl | rfl | rfl : nines = 0 ∨ nines = 1 ∨ nines = 2 := by omega
      · exact base330
      · exact base331
      · exact base332
    · obtain rfl | rfl | rfl : nines = 0 ∨ nines = 1 ∨ nines = 2 := by omega
      · exact base340
      · exact base341
      · exact base342
  · obtain rfl | rfl | rfl | rfl : many = 1 ∨ many = 2 ∨ many = 3 ∨ many = 4 := by omega
    · obtain rfl | rfl | rfl : nines = 0 ∨ nines = 1 ∨ nines = 2 := by omega
      · exact base410
      · exact base411
      · exact base412
    · obtain rfl | rfl | rfl : nines = 0 ∨ nines = 1 ∨ nines = 2 := by omega
      · exact base420
      · exact base421
      · exact base422
    · obtain rfl | rfl | rfl : nines = 0 ∨ nines = 1 ∨ nines = 2 := by omega
      · exact base430
      · exact base431
      · exact base432
    · obtain rfl | rfl | rfl : nines = 0 ∨ nines = 1 ∨ nines = 2 := by omega
      · exact base440
      · exact base441
      · exact base442
  · obtain rfl | rfl | rfl | rfl : many = 1 ∨ many = 2 ∨ many = 3 ∨ many = 4 := by omega
    · obtain rfl | rfl | rfl : nines = 0 ∨ nines = 1 ∨ nines = 2 := by omega
      · exact base510
      · exact base511
      · exact base512
    · obtain rfl | rfl | rfl : nines = 0 ∨ nines = 1 ∨ nines = 2 := by omega
      · exact base520
      · exact base521
      · exact base522
    · obtain rfl | rfl | rfl : nines = 0 ∨ nines = 1 ∨ nines = 2 := by omega
      · exact base530
      · exact base531
      · exact base532
    · obtain rfl | rfl | rfl : nines = 0 ∨ nines = 1 ∨ nines = 2 := by omega
      · exact base540
      · exact base541
      · exact base542
end
theorem reset_P6 : True := by
  (w_top off)
  k_with_none
  first | walk1 | trivial
section
open PySem PySem.W PyProof.Rows PySem.Spec PySem.Calls
-- p lies in a written list, a tail's membership at hand (hp9)
-- a map is the old one off the named names
theorem tk_seen {o o1 : Ord} {x : Sym} (h : Take o x o1) : o1.seen = o.seen + 1 := by cases h <;> rfl
theorem tk_last {o o1 : Ord} {x : Sym} (h : Take o x o1) : o1.last = x.str := by cases h <;> rfl
theorem tk_over {o o1 : Ord} {x : Sym} (h : Take o x o1) : o.over = false := by cases h <;> assumption
theorem tk_trail {o o1 : Ord} {x : Sym} (h : Take o x o1) (hx : x ≠ .pee) : o1.trail = o.trail := by
  cases h <;> first | rfl | exact absurd (by assumption) hx
theorem tk_money {o o1 : Ord} {x : Sym} (h : Take o x o1) (hm : (o.money == Str.ofString "") = false) : (o1.money == Str.ofString "") = false := by
  cases h <;> first | exact hm | (exfalso; rename (o.money == Str.ofString "") = true => h9; rw [hm] at h9; cases h9)
theorem tk_dollar {o o1 : Ord} (h : Take o .dollar o1) : (o1.money == Str.ofString "") = false := by
  cases h
  case nine0 hx hov htr hlt hpt => simp at hx
  case nine1 hx hov htr hlt hpt => simp at hx
  case zero0 hx hov htr hni hfl hze hpt => simp at hx
  case zero1 hx hov htr hni hfl hze hpt => simp at hx
  case point hx hov htr hpt => simp at hx
  case scale hx hov hdg hpt => simp at hx
  case insert hx hov htr => simp at hx
  case sign0 hx hov hse hpt => simp at hx
  case sign1 hx hov hse hsg hmo hn0 hz0 ht0 hpt => simp at hx
  case sign2 hx hov hse hsg hmo hn0 hz0 ht0 hpt => simp at hx
  case sign3 hx hov hse hsg hsi hdg => simp at hx
  case money0 hx hov hmo hse hpt => exact (by decide +kernel : (Sym.dollar.str == Str.ofString "") = false)
  case money3 hx hov hmo hse hsi hfl hpt => exact (by decide +kernel : (Sym.dollar.str == Str.ofString "") = false)
  case money1 hx hov hmo hn0 hz0 ht0 hpt => exact hmo
  case money2 hx hov hmo hn0 hz0 ht0 hpt => exact hmo
  case fin hx hov hdg hsi => simp at hx
structure Sim (o p : Ord) : Prop where
  point : p.point = o.point
  trail : p.trail = o.trail
  nines : p.nines = o.nines
  zero : p.zero = o.zero
  zeros : p.zeros = o.zeros
  floats : p.floats = o.floats
  behind : p.behind = o.behind
  late : p.late = o.late
  sign : p.sign = o.sign
  money : p.money = o.money
  over : p.over = o.over
  so : 0 < o.seen
  sp : 0 < p.seen
theorem sim_take {o p o1 : Ord} {x : Sym} (h : Take o x o1) (hs : Sim o p) (hd : x = .dollar → (o.money == Str.ofString "") = false) : ∃ p1, Take p x p1 ∧ Sim o1 p1 ∧ p1.last = o1.last := by
  rcases o with ⟨a1, a2, a3, a4, a5, a6, a7, a8, a9, a10, a11, a12, a13, a14⟩
  rcases p with ⟨b1, b2, b3, b4, b5, b6, b7, b8, b9, b10, b11, b12, b13, b14⟩
  obtain ⟨e1, e2, e3, e4, e5, e6, e7, e8, e9, e10, e11, s1, s2⟩ := hs
  dsimp only at e1 e2 e3 e4 e5 e6 e7 e8 e9 e10 e11 s1 s2 hd
  subst e1 e2 e3 e4 e5 e6 e7 e8 e9 e10 e11
  cases h
  case nine0 hx hov htr hlt hpt => exact ⟨_, .nine0 hx hov htr hlt hpt, ⟨rfl, rfl, rfl, rfl, rfl, rfl, rfl, rfl, rfl, rfl, rfl, (by dsimp only; omega), (by dsimp only; omega)⟩, rfl⟩
  case nine1 hx hov htr hlt hpt => exact ⟨_, .nine1 hx hov htr hlt hpt, ⟨rfl, rfl, rfl, rfl, rfl, rfl, rfl, rfl, rfl, rfl, rfl, (by dsimp only; omega), (by dsimp only; omega)⟩, rfl⟩
  case zero0 hx hov htr hni hfl hze hpt => exact ⟨_, .zero0 hx hov htr hni hfl hze hpt, ⟨rfl, rfl, rfl, rfl, rfl, rfl, rfl, rfl, rfl, rfl, rfl, (by dsimp only; omega), (by dsimp only; omega)⟩, rfl⟩
  case zero1 hx hov htr hni hfl hze hpt => exact ⟨_, .zero1 hx hov htr hni hfl hze hpt, ⟨rfl, rfl, rfl, rfl, rfl, rfl, rfl, rfl, rfl, rfl, rfl, (by dsimp only; omega), (by dsimp only; omega)⟩, rfl⟩
  case point hx hov htr hpt => exact ⟨_, .point hx hov htr hpt, ⟨rfl, rfl, rfl, rfl, rfl, rfl, rfl, rfl, rfl, rfl, rfl, (by dsimp only; omega), (by dsimp only; omega)⟩, rfl⟩
  case scale hx hov hdg hpt => exact ⟨_, .scale hx hov hdg hpt, ⟨rfl, rfl, rfl, rfl, rfl, rfl, rfl, rfl, rfl, rfl, rfl, (by dsimp only; omega), (by dsimp only; omega)⟩, rfl⟩
  case insert hx hov htr => exact ⟨_, .insert hx hov htr, ⟨rfl, rfl, rfl, rfl, rfl, rfl, rfl, rfl, rfl, rfl, rfl, (by dsimp only; omega), (by dsimp only; omega)⟩, rfl⟩
  case sign0 hx hov hse hpt => exact absurd hse (by dsimp only; omega)
  case sign1 hx hov hse hsg hmo hn0 hz0 ht0 hpt => exact ⟨_, .sign1 hx hov s2 hsg hmo hn0 hz0 ht0 hpt, ⟨rfl, rfl, rfl, rfl, rfl, rfl, rfl, rfl, rfl, rfl, rfl, (by dsimp only; omega), (by dsimp only; omega)⟩, rfl⟩
  case sign2 hx hov hse hsg hmo hn0 hz0 ht0 hpt => exact ⟨_, .sign2 hx hov s2 hsg hmo hn0 hz0 ht0 hpt, ⟨rfl, rfl, rfl, rfl, rfl, rfl, rfl, rfl, rfl, rfl, rfl, (by dsimp only; omega), (by dsimp only; omega)⟩, rfl⟩
  case sign3 hx hov hse hsg hsi hdg => exact ⟨_, .sign3 hx hov s2 hsg hsi hdg, ⟨rfl, rfl, rfl, rfl, rfl, rfl, rfl, rfl, rfl, rfl, rfl, (by dsimp only; omega), (by dsimp only; omega)⟩, rfl⟩
  case money0 hx hov hmo hse hpt => exact absurd (hd hx) (by rw [show _ = true from hmo]; decide)
  case money3 hx hov hmo hse hsi hfl hpt => exact absurd (hd hx) (by rw [show _ = true from hmo]; decide)
  case money1 hx hov hmo hn0 hz0 ht0 hpt => exact ⟨_, .money1 hx hov hmo hn0 hz0 ht0 hpt, ⟨rfl, rfl, rfl, rfl, rfl, rfl, rfl, rfl, rfl, rfl, rfl, (by dsimp only; omega), (by dsimp only; omega)⟩, rfl⟩
  case money2 hx hov hmo hn0 hz0 ht0 hpt => exact ⟨_, .money2 hx hov hmo hn0 hz0 ht0 hpt, ⟨rfl, rfl, rfl, rfl, rfl, rfl, rfl, rfl, rfl, rfl, rfl, (by dsimp only; omega), (by dsimp only; omega)⟩, rfl⟩
  case fin hx hov hdg hsi => exact ⟨_, .fin hx hov hdg hsi, ⟨rfl, rfl, rfl, rfl, rfl, rfl, rfl, rfl, rfl, rfl, rfl, (by dsimp only; omega), (by dsimp only; omega)⟩, rfl⟩
theorem sim_ins {o p : Ord} (hs : Sim o p) (hov : o.over = false) (htr : o.trail = 0) (j : Nat) : ∃ p1, Take p (insSym j) p1 ∧ Sim o p1 := by
  have h1 : p.over = false := hs.over.trans hov
  have h2 : p.trail ≤ 0 := by rw [hs.trail, htr]; exact Int.le_refl 0
  have hx : insSym j = .bee ∨ insSym j = .nought ∨ insSym j = .slash ∨ insSym j = .comma := by
    match j with
    | 0 => exact .inl rfl
    | 1 => exact .inr (.inl rfl)
    | 2 => exact .inr (.inr (.inl rfl))
    | j + 3 => exact .inr (.inr (.inr rfl))
  exact ⟨_, .insert hx h1 h2, ⟨hs.point, hs.trail, hs.nines, hs.zero, hs.zeros, hs.floats, hs.behind, hs.late, hs.sign, hs.money, hs.over, hs.so, (by have := hs.sp; dsimp only; omega)⟩⟩
theorem takes_app : ∀ {a b : List Sym} {o o1 o2 : Ord}, Takes o a o1 → Takes o1 b o2 → Takes o (a ++ b) o2
  | _, _, _, _, _, .nil, h => h
  | _, _, _, _, _, .cons h h', h2 => .cons h (takes_app h' h2)
theorem takes_split : ∀ {a b : List Sym} {o o2 : Ord}, Takes o (a ++ b) o2 → ∃ o1, Takes o a o1 ∧ Takes o1 b o2
  | [], _, o, _, h => ⟨o, .nil, h⟩
  | _ :: _, _, _, _, .cons h h' => let ⟨o1, h1, h2⟩ := takes_split h'; ⟨o1, .cons h h1, h2⟩
theorem takes_seen : ∀ {a : List Sym} {o o1 : Ord}, Takes o a o1 → o1.seen = o.seen + a.length
  | _, _, _, .nil => by simp
  | _, _, _, .cons h h' => by rw [takes_seen h', tk_seen h, List.length_cons]; omega
theorem takes_trail : ∀ {a : List Sym} {o o1 : Ord}, Takes o a o1 → (∀ x ∈ a, x ≠ .pee) → o1.trail = o.trail
  | _, _, _, .nil, _ => rfl
  | _, _, _, .cons h h', hx => by rw [takes_trail h' fun x hm => hx x (List.mem_cons_of_mem _ hm), tk_trail h (hx _ List.mem_cons_self)]
theorem takes_money : ∀ {a : List Sym} {o o1 : Ord}, Takes o a o1 → (o.money == Str.ofString "") = false → (o1.money == Str.ofString "") = false
  | _, _, _, .nil, h => h
  | _, _, _, .cons h h', hm => takes_money h' (tk_money h hm)
theorem sim_takes : ∀ {a : List Sym} {o o1 p : Ord}, Takes o a o1 → Sim o p → p.last = o.last → ((o.money == Str.ofString "") = false ∨ ∀ x ∈ a, x ≠ .dollar) → ∃ p1, Takes p a p1 ∧ Sim o1 p1 ∧ p1.last = o1.last
  | _, _, _, p, .nil, hs, hl, _ => ⟨p, .nil, hs, hl⟩
  | _, _, _, p, .cons h h', hs, hl, hd => by
    obtain ⟨p1, t1, s1, l1⟩ := sim_take h hs (fun e => hd.elim id fun hn => absurd e (hn _ List.mem_cons_self))
    obtain ⟨p2, t2, s2, l2⟩ := sim_takes h' s1 l1 (hd.elim (fun hm => .inl (tk_money h hm)) fun hn => .inr fun x hx => hn x (List.mem_cons_of_mem _ hx))
    exact ⟨p2, .cons t1 t2, s2, l2⟩
/-- inserted signs ahead of any -/
inductive WithT : List (Sym × Role) → List (Sym × Role) → Prop
  | nil : WithT [] []
  | keep {a r f} : WithT r f → WithT (a :: r) (a :: f)
  | ins {a r f j} : WithT r f → WithT (a :: r) ((insSym j, .insert) :: a :: f)
theorem WithT.snoc {r f : List (Sym × Role)} {a : Sym × Role} (h : WithT r f) : WithT (r ++ [a]) (f ++ [a]) := by
  induction h with
  | nil => exact .keep .nil
  | keep _ ih => exact .keep ih
  | ins _ ih => exact .ins ih
theorem WithT.snocI {r f : List (Sym × Role)} {a : Sym × Role} {j : Nat} (h : WithT r f) : WithT (r ++ [a]) (f ++ [(insSym j, .insert), a]) := by
  induction h with
  | nil => exact .ins .nil
  | keep _ ih => exact .keep ih
  | ins _ ih => exact .ins ih
theorem WithR.head {r f : List (Sym × Role)} (h : WithR r f) : (r = [] ∧ f = []) ∨ ∃ a r' f', r = a :: r' ∧ f = a :: f' ∧ WithT r' f' := by
  induction h with
  | nil => exact .inl ⟨rfl, rfl⟩
  | keep _ ih =>
    rename_i a r f _
    rcases ih with ⟨rfl, rfl⟩ | ⟨b, r', f', rfl, rfl, hw⟩
    · exact .inr ⟨a, [], [], rfl, rfl, .nil⟩
    · exact .inr ⟨b, r' ++ [a], f' ++ [a], rfl, rfl, hw.snoc⟩
  | ins _ hne ih =>
    rename_i a r f j _
    rcases ih with ⟨rfl, rfl⟩ | ⟨b, r', f', rfl, rfl, hw⟩
    · exact absurd rfl hne
    · exact .inr ⟨b, r' ++ [a], f' ++ [(insSym j, .insert), a], rfl, rfl, hw.snocI⟩
theorem sim_mid : ∀ {r f : List (Sym × Role)} {o o1 p : Ord}, WithT r f → Takes o (r.map (·.1)) o1 → Sim o p → p.last = o.last → o.trail = 0 → (∀ x ∈ r.map (·.1), x ≠ .pee) → ((o.money == Str.ofString "") = false ∨ ∀ x ∈ r.map (·.1), x ≠ .dollar) → ∃ p1, Takes p (f.map (·.1)) p1 ∧ Sim o1 p1 ∧ p1.last = o1.last := by
  intro r f o o1 p hw
  induction hw generalizing o o1 p with
  | nil =>
    intro ht hs hl _ _ _
    cases ht
    exact ⟨p, .nil, hs, hl⟩
  | keep _ ih =>
    intro ht hs hl h0 hp hd
    cases ht with
    | cons h h' =>
    obtain ⟨p1, t1, s1, l1⟩ := sim_take h hs (fun e => hd.elim id fun hn => absurd e (hn _ List.mem_cons_self))
    obtain ⟨p2, t2, s2, l2⟩ := ih h' s1 l1 ((tk_trail h (hp _ List.mem_cons_self)).trans h0) (fun x hx => hp x (List.mem_cons_of_mem _ hx)) (hd.elim (fun hm => .inl (tk_money h hm)) fun hn => .inr fun x hx => hn x (List.mem_cons_of_mem _ hx))
    exact ⟨p2, .cons t1 t2, s2, l2⟩
  | ins _ ih =>
    rename_i j _
    intro ht hs hl h0 hp hd
    cases ht with
    | cons h h' =>
    obtain ⟨p0, t0, s0⟩ := sim_ins hs (tk_over h) h0 j
    obtain ⟨p1, t1, s1, l1⟩ := sim_take h s0 (fun e => hd.elim id fun hn => absurd e (hn _ List.mem_cons_self))
    obtain ⟨p2, t2, s2, l2⟩ := ih h' s1 l1 ((tk_trail h (hp _ List.mem_cons_self)).trans h0) (fun x hx => hp x (List.mem_cons_of_mem _ hx)) (hd.elim (fun hm => .inl (tk_money h hm)) fun hn => .inr fun x hx => hn x (List.mem_cons_of_mem _ hx))
    exact ⟨p2, .cons t0 (.cons t1 t2), s2, l2⟩
end
theorem reset_P7 : True := by
  (w_top off)
  k_with_none
  first | walk1 | trivial
section
open PySem PySem.W PyProof.Rows PySem.Spec PySem.Calls
-- p lies in a written list, a tail's membership at hand (hp9)
-- a map is the old one off the named names
theorem goodR_app (fl : Str) : ∀ (a c : List (Sym × Role)) (b : Bool), goodR fl b (a ++ c) = (goodR fl b a && goodR fl (b || a.any fun p => p.2 == .lead) c)
  | [], c, b => by simp [goodR]
  | (x, r) :: a, c, b => by
    simp only [List.cons_append, goodR, List.any_cons, goodR_app fl a c, Bool.and_assoc, Bool.or_assoc]
theorem goodR_fold (fl : Str) : ∀ (rows : List (Sym × Role)) (acc : List Role), goodR fl (decide (Role.lead ∈ acc)) rows = true → (rows.map (·.1)).foldl (roleStep fl) acc = acc ++ rows.map (·.2)
  | [], acc, _ => by simp
  | (x, r) :: rest, acc, h => by
    simp only [goodR, Bool.and_eq_true, decide_eq_true_eq] at h
    obtain ⟨h1, h2⟩ := h
    have hst : roleStep fl acc x = acc ++ [r] := by
      unfold roleStep
      congr 2
    rw [List.map_cons, List.foldl_cons]
    show List.foldl (roleStep fl) (roleStep fl acc x) _ = _
    rw [hst, goodR_fold fl rest (acc ++ [r]) ?_, List.map_cons, List.append_assoc]; rfl
    have e : decide (Role.lead ∈ acc ++ [r]) = (decide (Role.lead ∈ acc) || r == .lead) := by
      by_cases h3 : Role.lead ∈ acc
      · simp only [List.mem_append, h3, true_or, decide_true, Bool.true_or]
      · cases r <;> simp only [List.mem_append, h3, false_or, List.mem_singleton, decide_false, Bool.false_or] <;> rfl
    rw [e]; exact h2
theorem ins_plain (j : Nat) : (insSym j).plain = .insert := by
  match j with
  | 0 => rfl
  | 1 => rfl
  | 2 => rfl
  | j + 3 => rfl
theorem goodR_with {fl : Str} {r f : List (Sym × Role)} (hw : WithT r f) (hfl : ∀ j, (insSym j).str ≠ fl) : ∀ b, goodR fl b r = true → goodR fl b f = true := by
  induction hw with
  | nil => intro b h; exact h
  | keep _ ih =>
    intro b h
    simp only [goodR, Bool.and_eq_true] at h ⊢
    exact ⟨h.1, ih _ h.2⟩
  | ins _ ih =>
    intro b h
    simp only [goodR, Bool.and_eq_true] at h ⊢
    refine ⟨?_, ?_⟩
    · rw [if_neg (hfl _), ins_plain]; rfl
    · have e : (b || Role.insert == Role.lead) = b := by cases b <;> rfl
      rw [e]
      exact ⟨h.1, ih _ h.2⟩
theorem lead_with {r f : List (Sym × Role)} (hw : WithT r f) : (f.any fun p => p.2 == .lead) = (r.any fun p => p.2 == .lead) := by
  induction hw with
  | nil => rfl
  | keep _ ih => simp only [List.any_cons, ih]
  | ins _ ih =>
    simp only [List.any_cons, ih]
    rfl
theorem cnt_app (k : Str) : ∀ a b : List Str, cnt k (a ++ b) = cnt k a + cnt k b
  | [], b => by simp [cnt, PySem.Spec.countIn]
  | s :: a, b => by
    have h1 : cnt k (s :: a ++ b) = (if PySem.Spec.same (.str s) (.str k) = true then 1 else 0) + cnt k (a ++ b) := rfl
    have h2 : cnt k (s :: a) = (if PySem.Spec.same (.str s) (.str k) = true then 1 else 0) + cnt k a := rfl
    rw [h1, h2, cnt_app k a b]; omega
def FlK (k : Str) : Prop := k = Str.ofString "$" ∨ k = Str.ofString "+" ∨ k = Str.ofString "-"
theorem ins_same (j : Nat) {k : Str} (h : FlK k) : PySem.Spec.same (.str (insSym j).str) (.str k) = false := by
  rcases h with rfl | rfl | rfl
  all_goals
    match j with
    | 0 => decide +kernel
    | 1 => decide +kernel
    | 2 => decide +kernel
    | j + 3 =>
      show PySem.Spec.same (.str Sym.comma.str) _ = false
      decide +kernel
theorem cnt_with {r f : List (Sym × Role)} (hw : WithT r f) {k : Str} (h : FlK k) : cnt k (symsOf f) = cnt k (symsOf r) := by
  induction hw with
  | nil => rfl
  | keep _ ih =>
    rename_i a r f _
    have h1 : cnt k (symsOf (a :: f)) = (if PySem.Spec.same (.str a.1.str) (.str k) = true then 1 else 0) + cnt k (symsOf f) := rfl
    have h2 : cnt k (symsOf (a :: r)) = (if PySem.Spec.same (.str a.1.str) (.str k) = true then 1 else 0) + cnt k (symsOf r) := rfl
    rw [h1, h2, ih]
  | ins _ ih =>
    rename_i a r f j _
    have h1 : cnt k (symsOf ((insSym j, Role.insert) :: a :: f)) = (if PySem.Spec.same (.str (insSym j).str) (.str k) = true then 1 else 0) + ((if PySem.Spec.same (.str a.1.str) (.str k) = true then 1 else 0) + cnt k (symsOf f)) := rfl
    have h2 : cnt k (symsOf (a :: r)) = (if PySem.Spec.same (.str a.1.str) (.str k) = true then 1 else 0) + cnt k (symsOf r) := rfl
    rw [h1, h2, ih, ins_same j h]
    simp
theorem symsOf_app (a b : List (Sym × Role)) : symsOf (a ++ b) = symsOf a ++ symsOf b := by simp [symsOf]
theorem floatS_eq {a b : List Str} (h : ∀ k, FlK k → cnt k a = cnt k b) : floatS a = floatS b := by
  unfold floatS
  rw [h _ (.inl rfl), h _ (.inr (.inl rfl)), h _ (.inr (.inr rfl))]
theorem floatS_ins (ss : List Str) (j : Nat) : (insSym j).str ≠ floatS ss := by
  have h : ∀ s, s = Str.ofString "$" ∨ s = Str.ofString "+" ∨ s = Str.ofString "-" ∨ s = Str.ofString "" → (insSym j).str ≠ s := by
    rintro s (rfl | rfl | rfl | rfl)
    all_goals
      match j with
      | 0 => decide +kernel
      | 1 => decide +kernel
      | 2 => decide +kernel
      | j + 3 =>
        show Sym.comma.str ≠ _
        decide +kernel
  apply h
  unfold floatS
  split
  · exact .inl rfl
  · split
    · exact .inr (.inl rfl)
    · split
      · exact .inr (.inr (.inl rfl))
      · exact .inr (.inr (.inr rfl))
theorem lead_fm {r f : List (Sym × Role)} (hw : WithT r f) : f.filterMap gLead = r.filterMap gLead := by
  induction hw with
  | nil => rfl
  | keep _ ih => simp only [List.filterMap_cons, ih]
  | ins _ ih => simp only [List.filterMap_cons, ih]; rfl
theorem fig_fm {r f : List (Sym × Role)} (hw : WithT r f) : f.filterMap gFig = r.filterMap gFig := by
  induction hw with
  | nil => rfl
  | keep _ ih => simp only [List.filterMap_cons, ih]
  | ins _ ih => simp only [List.filterMap_cons, ih]; rfl
theorem ins_now (j : Nat) : nowhere (insSym j) = false ∧ (insSym j).len = 1 := by
  match j with
  | 0 => exact ⟨rfl, rfl⟩
  | 1 => exact ⟨rfl, rfl⟩
  | 2 => exact ⟨rfl, rfl⟩
  | j + 3 => exact ⟨rfl, rfl⟩
theorem lays_with {r f : List (Sym × Role)} (hw : WithT r f) (h : (r.all fun p => lays p.2 == !nowhere p.1) = true) : (f.all fun p => lays p.2 == !nowhere p.1) = true := by
  induction hw with
  | nil => rfl
  | keep _ ih =>
    simp only [List.all_cons, Bool.and_eq_true] at h ⊢
    exact ⟨h.1, ih h.2⟩
  | ins _ ih =>
    simp only [List.all_cons, Bool.and_eq_true] at h ⊢
    refine ⟨?_, h.1, ih h.2⟩
    rw [(ins_now _).1]; rfl
theorem off_cons (x : Sym) (r : List Sym) : offS (x :: r) = x.len + offS r := by simp [offS]
theorem off_app (a b : List Sym) : offS (a ++ b) = offS a + offS b := by unfold offS; rw [List.map_append, List.sum_append]
theorem off_with {r f : List (Sym × Role)} (hw : WithT r f) : offS (f.map (·.1)) ≤ 2 * offS (r.map (·.1)) := by
  induction hw with
  | nil => decide
  | keep _ ih =>
    rename_i a r f _
    rw [List.map_cons, List.map_cons, off_cons, off_cons]
    have := len_pos a.1
    omega
  | ins _ ih =>
    rename_i a r f j _
    rw [List.map_cons, List.map_cons, List.map_cons, off_cons, off_cons, off_cons]
    have h1 := len_pos a.1
    have h2 : (insSym j).len = 1 := (ins_now j).2
    have h3 : ((insSym j, Role.insert) : Sym × Role).1.len = 1 := h2
    rw [h3]
    omega
def layS (x : Sym) : Int := if nowhere x then 0 else x.len
theorem size_step (acc : List (Sym × Int)) (x : Sym) : (sizeL (symStep acc x)).sum = (sizeL acc).sum + layS x := by
  rcases List.eq_nil_or_concat acc with rfl | ⟨i, ⟨y, c⟩, rfl⟩
  · show (sizeL ([] ++ [(x, 1)])).sum = (sizeL []).sum + layS x
    rw [sizeL_snoc]
    unfold layS
    split <;> simp [sizeL]
  · rw [List.concat_eq_append]
    by_cases e : y = x
    · subst e
      rw [symStep_same, sizeL_snoc, sizeL_snoc]
      unfold layS
      dsimp only
      split
      · simp
      · rw [List.sum_append, List.sum_append]
        simp [Int.add_mul]
        omega
    · rw [symStep_other _ _ _ _ e, sizeL_snoc]
      unfold layS
      dsimp only
      split
      · simp
      · rw [List.sum_append]; simp
theorem size_fold : ∀ (xs : List Sym) (acc : List (Sym × Int)), (sizeL (xs.foldl symStep acc)).sum = (sizeL acc).sum + (xs.map layS).sum
  | [], acc => by simp
  | x :: r, acc => by rw [List.foldl_cons, size_fold r, size_step, List.map_cons, List.sum_cons]; omega
theorem size_rle (xs : List Sym) : (sizeL (rleS xs)).sum = (xs.map layS).sum := by
  have := size_fold xs []
  simpa [rleS, sizeL] using this
theorem lay_le : ∀ xs : List Sym, (xs.map layS).sum ≤ offS xs
  | [] => by decide
  | x :: r => by
    have h1 := lay_le r
    have h2 := len_pos x
    rw [List.map_cons, List.sum_cons, off_cons]
    unfold layS at h1 ⊢
    split <;> omega
theorem lay_fm : ∀ {rows : List (Sym × Role)}, (rows.all fun p => lays p.2 == !nowhere p.1) = true → (rows.filterMap gLay).sum = ((rows.map (·.1)).map layS).sum
  | [], _ => rfl
  | (x, r) :: rest, h => by
    simp only [List.all_cons, Bool.and_eq_true, beq_iff_eq] at h
    have ih := lay_fm (rows := rest) h.2
    rw [List.map_cons, List.map_cons, List.sum_cons, ← ih, List.filterMap_cons]
    unfold gLay layS
    dsimp only
    rw [h.1]
    cases nowhere x <;> simp
end
theorem reset_P8 : True := by
  (w_top off)
  k_with_none
  first | walk1 | trivial
section
open PySem PySem.W PyProof.Rows PySem.Spec PySem.Calls
-- p lies in a written list, a tail's membership at hand (hp9)
-- a map is the old one off the named names
structure RowLaw (rows : List (Sym × Role)) (o' : Ord) : Prop where
  good : RowGood (rows.map (·.1)) o'
  roles : rolesGo (floatS ((rows.map (·.1)).map Sym.str)) (rows.map (·.1)) = rows.map (·.2)
  float : floatS ((rows.map (·.1)).map Sym.str) = (rows.filterMap gLead).headD (Str.ofString "")
  digits : (((rows.filterMap gFig).length : Nat) : Int) = o'.nines + o'.zeros + o'.floats
  octets : (rows.filterMap gLay).sum = (sizeL (rleS (rows.map (·.1)))).sum
theorem front_mem {o : Bool} {l : List (Sym × Role)} (h : FrontR o l) : l ∈ frontsF o := by
  cases h with
  | nil => exact List.mem_cons_self
  | plus h => subst h; exact List.mem_cons_of_mem _ List.mem_cons_self
  | minus h => subst h; exact List.mem_cons_of_mem _ (List.mem_cons_of_mem _ List.mem_cons_self)
theorem money_mem {o : Bool} {w : Nat} {l : List (Sym × Role)} (h : MoneyR o w l) : l ∈ moneysF o w := by
  cases h with
  | nil => exact List.mem_cons_self
  | one h hw =>
    subst h
    unfold moneysF
    have : (true && w != 2) = true := by simpa using hw
    rw [if_pos this]
    exact List.mem_cons_of_mem _ List.mem_cons_self
theorem last_mem {o : Bool} {f l : List (Sym × Role)} (h : LastR o f l) : l ∈ lastsF o f := by
  cases h with
  | nil => exact List.mem_cons_self
  | one h hf hx =>
    subst h
    subst hf
    unfold lastsF
    rw [if_pos (show (true && ([] : List (Sym × Role)).isEmpty) = true from rfl)]
    rcases hx with rfl | rfl | rfl | rfl <;> simp
theorem tail_mem {w n : Nat} {l : List (Sym × Role)} (h : TailR w n l) : l ∈ tailsF w n := by
  unfold tailsF
  cases h with
  | nil => exact List.mem_cons_self
  | scale h1 h2 =>
    rename_i k
    obtain rfl | rfl : k = 1 ∨ k = 2 := by omega
    · exact List.mem_cons_of_mem _ List.mem_cons_self
    · exact List.mem_cons_of_mem _ (List.mem_cons_of_mem _ List.mem_cons_self)
  | nines hp h1 h2 =>
    rename_i p k
    refine List.mem_cons_of_mem _ (List.mem_cons_of_mem _ (List.mem_cons_of_mem _ ?_))
    refine List.mem_flatMap.mpr ⟨p, by cases hp <;> simp, List.mem_flatMap.mpr ⟨k, ?_, List.mem_cons_self⟩⟩
    obtain rfl | rfl | rfl : k = 1 ∨ k = 2 ∨ k = 3 := by omega
    all_goals simp
  | loose hp h1 h2 h3 h4 =>
    rename_i p k
    refine List.mem_cons_of_mem _ (List.mem_cons_of_mem _ (List.mem_cons_of_mem _ ?_))
    refine List.mem_flatMap.mpr ⟨p, by cases hp <;> simp, List.mem_flatMap.mpr ⟨k, ?_, List.mem_cons_of_mem _ ?_⟩⟩
    · obtain rfl | rfl | rfl : k = 1 ∨ k = 2 ∨ k = 3 := by omega
      all_goals simp
    · rw [if_pos (by simp [h3, h4])]
      exact List.mem_cons_self
structure Chk (X : List (Sym × Role)) (a : Sym × Role) (r Z : List (Sym × Role)) (o : Ord) : Prop where
  takes : Takes ord0 ((X ++ (a :: r) ++ Z).map (·.1)) o
  pos : 0 < o.nines + o.zeros + o.floats
  last : ([Str.ofString ",", Str.ofString "."].any fun x => x == o.last) = false
  most : o.nines + o.zeros + o.floats + o.trail ≤ 18
  digits : ((((X ++ (a :: r) ++ Z).filterMap gFig).length : Nat) : Int) = o.nines + o.zeros + o.floats
  good : goodR (floatS (symsOf (X ++ (a :: r) ++ Z))) false (X ++ (a :: r) ++ Z) = true
  float : floatS (symsOf (X ++ (a :: r) ++ Z)) = ((X ++ (a :: r) ++ Z).filterMap gLead).headD (Str.ofString "")
  off : offS (X.map (·.1)) + 2 * offS ((a :: r).map (·.1)) + offS (Z.map (·.1)) ≤ 30
  lays : ((X ++ (a :: r) ++ Z).all fun p => lays p.2 == !nowhere p.1) = true
  pee : ((X ++ (a :: r)).any fun p => p.1 == .pee) = false
  dollar : a.1 = .dollar ∨ ((r ++ Z).any fun p => p.1 == .dollar) = false
theorem chk_of {fr mo ta la r : List (Sym × Role)} {a : Sym × Role} (h : rowChk fr mo (a :: r) ta la = true) : ∃ o, Chk (fr ++ mo) a r (ta ++ la) o := by
  unfold rowChk at h
  dsimp only at h
  have e : fr ++ mo ++ (a :: r) ++ ta ++ la = fr ++ mo ++ (a :: r) ++ (ta ++ la) := by rw [List.append_assoc]
  have e2 : r ++ ta ++ la = r ++ (ta ++ la) := by rw [List.append_assoc]
  rw [e, e2] at h
  simp only [Bool.and_eq_true] at h
  obtain ⟨⟨⟨⟨⟨⟨c1, c2⟩, c3⟩, c4⟩, c5⟩, c6⟩, c7⟩ := h
  split at c1
  · cases c1
  · next o ho =>
    simp only [Bool.and_eq_true, decide_eq_true_eq, Bool.not_eq_true'] at c1
    refine ⟨o, takesF_ok ho, c1.1.1.1, c1.1.1.2, c1.1.2, c1.2, c2, of_decide_eq_true c3, of_decide_eq_true c4, c5, by simpa using c6, ?_⟩
    rcases Bool.or_eq_true _ _ ▸ c7 with h | h
    · exact .inl (eq_of_beq h)
    · exact .inr (by simpa using h)
theorem law_of {X r f Z : List (Sym × Role)} {a : Sym × Role} {o : Ord} (c : Chk X a r Z o) (hw : WithT r f) : ∃ o', RowLaw (X ++ (a :: f) ++ Z) o' := by
  have hwa : WithT (a :: r) (a :: f) := .keep hw
  -- the order
  have t0 := c.takes
  have eB : (X ++ (a :: r) ++ Z).map (·.1) = (X.map (·.1) ++ [a.1]) ++ (r.map (·.1) ++ Z.map (·.1)) := by simp
  rw [eB] at t0
  obtain ⟨o1, ta, tb⟩ := takes_split t0
  obtain ⟨o2, tc, td⟩ := takes_split tb
  have hpe : ∀ x ∈ X.map (·.1) ++ [a.1] ++ r.map (·.1), x ≠ .pee := by
    have hp := c.pee
    intro x hx e
    subst e
    have : ((X ++ (a :: r)).any fun p => p.1 == .pee) = true := by
      rw [List.any_eq_true]
      have hx' : Sym.pee ∈ (X ++ (a :: r)).map (·.1) := by simpa using hx
      obtain ⟨p, hp1, hp2⟩ := List.mem_map.mp hx'
      exact ⟨p, hp1, by rw [hp2]; rfl⟩
    rw [hp] at this
    cases this
  have hs1 : o1.seen = 0 + ((X.map (·.1) ++ [a.1]).length : Int) := takes_seen ta
  have hs1' : 0 < o1.seen := by
    rw [hs1, List.length_append, List.length_singleton]; omega
  have htr1 : o1.trail = 0 := takes_trail ta fun x hx => hpe x (List.mem_append_left _ hx)
  have hdol : (o1.money == Str.ofString "") = false ∨ ∀ x ∈ r.map (·.1) ++ Z.map (·.1), x ≠ .dollar := by
    rcases c.dollar with hd | hd
    · left
      obtain ⟨o0, _, t2⟩ := takes_split ta
      cases t2 with
      | cons h h' =>
        cases h'
        rw [hd] at h
        exact tk_dollar h
    · right
      intro x hx e
      subst e
      have : ((r ++ Z).any fun p => p.1 == .dollar) = true := by
        rw [List.any_eq_true]
        have hx' : Sym.dollar ∈ (r ++ Z).map (·.1) := by simpa using hx
        obtain ⟨p, hp1, hp2⟩ := List.mem_map.mp hx'
        exact ⟨p, hp1, by rw [hp2]; rfl⟩
      rw [hd] at this
      cases this
  obtain ⟨p2, u2, s2, l2⟩ := sim_mid hw tc (⟨rfl, rfl, rfl, rfl, rfl, rfl, rfl, rfl, rfl, rfl, rfl, hs1', hs1'⟩ : Sim o1 o1) rfl htr1 (fun x hx => hpe x (List.mem_append_right _ hx)) (hdol.imp id fun h x hx => h x (List.mem_append_left _ hx))
  obtain ⟨p3, u3, s3, l3⟩ := sim_takes td s2 l2 (hdol.imp (fun h => takes_money tc h) fun h x hx => h x (List.mem_append_right _ hx))
  have eF : (X ++ (a :: f) ++ Z).map (·.1) = (X.map (·.1) ++ [a.1]) ++ (f.map (·.1) ++ Z.map (·.1)) := by simp
  have tF : Takes ord0 ((X ++ (a :: f) ++ Z).map (·.1)) p3 := by
    rw [eF]; exact takes_app ta (takes_app u2 u3)
  -- the sizes
  have hoff : offS ((X ++ (a :: f) ++ Z).map (·.1)) ≤ 30 := by
    have h1 := off_with hwa
    have h2 := c.off
    rw [List.map_append, List.map_append, off_app, off_app]
    omega
  have hlays : ((X ++ (a :: f) ++ Z).all fun p => lays p.2 == !nowhere p.1) = true := by
    have h := c.lays
    simp only [List.all_append, Bool.and_eq_true] at h ⊢
    exact ⟨⟨h.1.1, lays_with hwa h.1.2⟩, h.2⟩
  -- the float
  have hfl : floatS (symsOf (X ++ (a :: f) ++ Z)) = floatS (symsOf (X ++ (a :: r) ++ Z)) := floatS_eq fun k hk => by
    simp only [symsOf_app, cnt_app, cnt_with hwa hk]
  have hlead : (X ++ (a :: f) ++ Z).filterMap gLead = (X ++ (a :: r) ++ Z).filterMap gLead := by
    simp only [List.filterMap_append, lead_fm hwa]
  have hfig : (X ++ (a :: f) ++ Z).filterMap gFig = (X ++ (a :: r) ++ Z).filterMap gFig := by
    simp only [List.filterMap_append, fig_fm hwa]
  have hgood : goodR (floatS (symsOf (X ++ (a :: f) ++ Z))) false (X ++ (a :: f) ++ Z) = true := by
    have h := c.good
    rw [← hfl] at h
    have hins := floatS_ins (symsOf (X ++ (a :: f) ++ Z))
    generalize floatS (symsOf (X ++ (a :: f) ++ Z)) = fl at h hins ⊢
    rw [goodR_app, goodR_app] at h ⊢
    simp only [Bool.and_eq_true, List.any_append] at h ⊢
    rw [lead_with hwa]
    exact ⟨⟨h.1.1, goodR_with hwa hins _ h.1.2⟩, h.2⟩
  refine ⟨p3, ⟨tF, ?_, ?_, ?_, ?_, hoff⟩, ?_, ?_, ?_, ?_⟩
  · rw [s3.nines, s3.zeros, s3.floats]; exact c.pos
  · rw [l3]; exact c.last
  · rw [s3.nines, s3.zeros, s3.floats, s3.trail]; exact c.most
  · rw [size_rle]
    have := lay_le ((X ++ (a :: f) ++ Z).map (·.1))
    omega
  · have h := goodR_fold (floatS (symsOf (X ++ (a :: f) ++ Z))) (X ++ (a :: f) ++ Z) [] hgood
    exact h
  · show floatS (symsOf (X ++ (a :: f) ++ Z)) = _
    rw [hfl, hlead]; exact c.float
  · rw [hfig, s3.nines, s3.zeros, s3.floats]; exact c.digits
  · rw [lay_fm hlays, size_rle]
theorem row_law {rows : List (Sym × Role)} (h : IsRow rows) : ∃ o', RowLaw rows o' := by
  obtain ⟨way, many, nines, front, money, mid, tail, last, hw, hm1, hm4, hn, hfr, hmn, hmid, htl, hls, rfl⟩ := h.ex
  have hb := base_ok hw hm1 hm4 hn
  unfold baseOk at hb
  have h1 := List.all_eq_true.mp hb front (front_mem hfr)
  have h2 := List.all_eq_true.mp h1 money (money_mem hmn)
  have h3 := List.all_eq_true.mp h2 tail (tail_mem htl)
  have h4 := List.all_eq_true.mp h3 last (last_mem hls)
  rcases hmid.head with ⟨e1, e2⟩ | ⟨a, r, f, e1, rfl, hwt⟩
  · rw [e1] at h4
    unfold rowChk at h4
    simp at h4
  · rw [e1] at h4
    obtain ⟨o, hc⟩ := chk_of h4
    obtain ⟨o', hl⟩ := law_of hc hwt
    refine ⟨o', ?_⟩
    have e : front ++ money ++ (a :: f) ++ tail ++ last = front ++ money ++ (a :: f) ++ (tail ++ last) := by rw [List.append_assoc]
    rw [e]
    exact hl
end
theorem reset_P9 : True := by
  (w_top off)
  k_with_none
  first | walk1 | trivial
section
open PySem PySem.W PyProof.Rows PySem.Spec PySem.Calls
-- p lies in a written list, a tail's membership at hand (hp9)
-- a map is the old one off the named names
theorem lead_str (r : Role) : (r.str == Str.ofString "lead") = decide (r = .lead) := by cases r <;> decide +kernel
theorem fig_str (r : Role) : (r.str == Str.ofString "figure") = (r == .figure) := by cases r <;> decide +kernel
theorem sup_str (r : Role) : ([Str.ofString "zero", Str.ofString "star", Str.ofString "float"].any fun y => y == r.str) = isSup r := by cases r <;> decide +kernel
theorem lay_str (r : Role) : ([Str.ofString "mark", Str.ofString "none"].any fun y => y == r.str) = !lays r := by cases r <;> decide +kernel
end
theorem reset_V1 : True := by
  (w_top off)
  k_with_none
  first | walk1 | trivial
section
open PySem PySem.W PyProof.Rows PySem.Spec PySem.Calls
theorem rows_V1_1 : True := by
  k_with "MyPost" => (with_unfolding_all first | refine MyPost.next ?_ | refine MyPost.cont ?_ | refine MyPost.brk ?_ | refine MyPost.ret ?_)
  k_with "MyPostT" => (with_unfolding_all refine MyPostT.next ?_)
  k_with "exec For Name Name cons nil" => ((k_here; (rename Fr _ _ _ _ => lFq_rw); (with_unfolding_all refine' For_invVF lFq_rw (by exact rfl) (by exact rfl) ?_; k_whole)))
  k_with "pyIter str" => ((k_here; refine Halt.out ?_))
  k_with "pyIter ref" => ((k_here; refine Halt.out ?_))
  k_with "m_in" => (first | assumption | exact List.mem_append_left _ (by assumption) | exact List.mem_append_right _ (by assumption) | (refine List.mem_cons_of_mem _ ?_; walk_at "m_in"))
  k_with "m_sub" => (first | exact (fun _ h => h) | exact List.forall_mem_nil _ | (refine List.forall_mem_cons.mpr ⟨by k_mem, ?_⟩; walk_at "m_sub") | (intro p9_rw hp9_rw; walk_at "m_in"))
  k_with "m_map" => (first | exact off_sto (by walk_at "m_sub") | (refine off_step (by k_mem) ?_; walk_at "m_map"))
  k_with "getMethod ref" => ((k_here; (with_reducible show wpAny _ _ (getMethod (Value.ref _) (PySem.Str.ofString "count") _) _ _ _); k_dflt (refine' kf_method (by k_asm) (by k_mem) PySem.F.slot_list_count PySem.F.type_list_count ?_)))
  k_with "call builtin:list.append" => ((k_here; (with_reducible show wpAny _ _ (call (Value.builtin _) [Value.ref _, _]) _ _ _); k_dflt (refine' append_L (by k_asm) (by k_asm) (by k_upd) (by first | assumption | (simp only [List.length_append, List.length_cons, List.length_nil]; omega)) ?_; k_whole); intro hq_rw Fq_rw Nq_rw; (try k_sweep)))
  k_with "compareOp In str ref" => ((k_here; (with_reducible show wpAny _ _ (compareOp CmpOp.In (Value.str _ _) (Value.ref _)) _ _ _); k_dflt (refine' in_list_strs (by exact News.isList (by k_asm) (by k_mem)) (by k_asm) ?_; k_whole)))
  k_with "ite" => ((k_here; (with_reducible show (if ((_ : Int) == _) = true then _ else _)); first | (refine ite_pos (by (simp only [beq_iff_eq]); omega) ?_) | (refine ite_neg (by (simp only [beq_iff_eq]); omega) ?_)))
  k_with "WPost" => (with_unfolding_all refine WPost.next ?_)
  k_with "m_map" => (with_reducible exact fun _ _ => rfl)
  k_with "callWith" => ((k_here; (with_reducible show wpAny _ _ (callWith _ (Prod.fst _) (Prod.snd _) _ _) _ _ _); dsimp only; (with_reducible refine' callWith_method1 ?_ (by exact rfl) (by exact rfl))))
  k_with "t_at" => ((k_here; (with_reducible show wpAny _ _ (subscriptTail _ _ (Value.ref _) (Value.int _ _)) _ _ _); k_dflt (refine' tup_at (by k_asm) (by k_mem) (by omega) (by (simp only [List.length_cons, List.length_nil]; omega)) (by (simp only [List.length_cons, List.length_nil]; omega)) ?_); intro vq_rw hvq_rw))
  k_with "subscriptTail Tuple cons Call ref int" => (walk_at "t_at")
  k_with "subscriptTail Tuple cons BinOp ref int" => (walk_at "t_at")
  k_with "subscriptTail Tuple cons Name ref int" => (walk_at "t_at")
  k_with "execs cons" => ((k_here; (try dsimp only); (try (with_reducible refine gen_toks ?_; intro tkg_rw)); (with_reducible refine wpAny_execs_cons ?_); (try dsimp only); k_fold))
  trivial
local macro_rules | `(tactic| k_qdec) => `(tactic| decide +kernel)
theorem rows_V1_2 : True := by
  k_with "exec For Tuple Name cons nil" => ((k_here; (rename Fr _ _ _ _ => lFq_rw); (with_unfolding_all refine' For_invTF lFq_rw ?_ (by (intro _; with_unfolding_all rfl)); k_whole)))
  k_with "call ref" => ((k_here; (first | (with_reducible show wpAny _ _ (call (Value.ref 323) _) _ _ _) | (with_reducible show wpAny _ _ (call (Value.ref 330) _) _ _ _) | (with_reducible show wpAny _ _ (call (Value.ref 35) _) _ _ _) | (with_reducible show wpAny _ _ (call (Value.ref 362) _) _ _ _) | (with_reducible show wpAny _ _ (call (Value.ref 28) _) _ _ _)); refine Halt.out ?_))
  trivial
theorem ne_same {prog : Program} {w : World} {A : Around} {E : Value → Shared → Prop} {s : Shared} {h₀ : Heap} {L D b : Addr} {news : Led} {n n2 : Nat} {vs ws : List Value} {ss : List Str} {Q : Value → Shared → Prop} (N : News h₀ L s.heap news) (ma : (D, listOf vs.toArray n) ∈ news) (mb : (b, listOf ws.toArray n2) ∈ news) (Da : StrsAre vs ss) (Db : StrsAre ws ss) (hk : ∀ x ∈ ss, PyData.strOk x = true) (hu : A.units + 64 < cLine) (h : Q (.bool false) s) :
    wpAny (model prog w) A (compareOp .NotEq (.ref D) (.ref b)) Q E s := by
  refine ne_dat N ma mb (strs_dat Da) (strs_dat Db) ?_ ?_ hu ?_
  · intro d hd
    obtain ⟨x, hx, rfl⟩ := List.mem_map.mp hd
    exact hk x hx
  · intro d hd
    obtain ⟨x, hx, rfl⟩ := List.mem_map.mp hd
    exact hk x hx
  · simpa using h
theorem strVals (l : List (Str × Tok)) : StrsAre (strValues l) (l.map (·.1)) := by
  induction l with
  | nil => exact .nil
  | cons a r ih => exact .cons _ _ ih
theorem ok_roles (l : List Role) : ∀ x ∈ l.map Role.str, PyData.strOk x = true := fun x hx => by
  obtain ⟨r, _, rfl⟩ := List.mem_map.mp hx
  exact strOk_role r
theorem ok_syms (l : List Sym) : ∀ x ∈ l.map Sym.str, PyData.strOk x = true := fun x hx => by
  obtain ⟨r, _, rfl⟩ := List.mem_map.mp hx
  exact strOk_sym r
theorem rows_V1_3 : True := by
  k_with "call builtin:str.split" => ((k_here; (with_reducible show wpAny _ _ (call (Value.builtin "str.split") [Value.str _ _, Value.str _ _]) _ _ _); refine Halt.out ?_))
  k_with "compareOp NotEq ref ref" => ((k_here; (with_reducible show wpAny _ _ (compareOp CmpOp.NotEq (Value.ref _) (Value.ref _)) _ _ _); k_dflt (first | (refine ne_same (by k_asm) (by k_mem) (by k_mem) (by assumption) (by assumption) (by assumption) (by units_room) ?_) | (refine ne_nil_nil (by k_asm) (by k_mem) (by k_mem) (by units_room) ?_) | (refine ne_nil_strs (by k_asm) (by k_mem) (by k_mem) (by assumption) (by assumption) (by units_room) ?_))))
  k_with "ite" => ((k_here; (with_reducible show (if ((_ : Str) != _) = true then _ else _)); refine ite_neg (by simp) ?_))
  k_with "exec If" => ((k_here; (have stp9_rw := (by assumption : Stop3)); clear stp9_rw; refine Halt.out ?_))
  k_with "subscriptTail Name Constant ref int" => ((k_here; (with_reducible show wpAny _ _ (subscriptTail _ _ (Value.ref _) (Value.int 0 _)) _ _ _); k_dflt (refine head_get (by k_asm) (by k_mem) ?_)))
  k_with "eval ListComp" => ((k_here; (have stp9_rw := (by assumption : Stop)); clear stp9_rw; k_dflt (refine ListComp_at (by k_asm) (by with_unfolding_all rfl) (by decide) (by rfl) (by decide) ?_)))
  k_with "exec Assign cons ListComp" => ((k_here; (have stp9_rw := (by assumption : Stop)); clear stp9_rw; k_dflt (refine Assign_ListComp_at (by k_asm) rfl (by with_unfolding_all rfl) (by with_unfolding_all rfl) (by decide) (by rfl) (by decide) (by rfl) (by rfl) ?_)))
  k_with "call builtin:str.join" => ((k_here; (with_reducible show wpAny _ _ (call (Value.builtin "str.join") [Value.str _ _, Value.ref _]) _ _ _); refine Halt.out ?_))
  trivial
theorem sum_syms (l : List Sym) : ((((l.map Sym.str).map (·.length)).sum : Nat) : Int) = offS l := by
  induction l with
  | nil => rfl
  | cons x r ih =>
    have e : offS (x :: r) = x.len + offS r := by simp [offS]
    rw [e, List.map_cons, List.map_cons, List.sum_cons, Int.natCast_add, ih, sym_len]
theorem fm_all {α β : Type} (g : α → β) (l : List α) : (l.filterMap fun p => some (g p)) = l.map g := by
  induction l with
  | nil => rfl
  | cons a r ih => simp
theorem ok_leads (l : List (Sym × Role)) : ∀ x ∈ l.filterMap gLead, PyData.strOk x = true := fun x hx => by
  obtain ⟨p, _, hp⟩ := List.mem_filterMap.mp hx
  unfold gLead at hp
  split at hp
  · cases hp; exact strOk_sym _
  · cases hp
theorem fig_yes1 {q : Sym × Role} (h : (q.2.str == Str.ofString "figure") = true) : gFig q = some q.2.str := by
  rw [fig_str] at h
  exact if_pos (by simp [isFig, h])
theorem fig_yes2 {q : Sym × Role} (h : ([Str.ofString "zero", Str.ofString "star", Str.ofString "float"].any fun y => y == q.2.str) = true) : gFig q = some q.2.str := by
  rw [sup_str] at h
  refine if_pos ?_
  unfold isSup at h
  unfold isFig
  revert h
  cases q.2 <;> decide
theorem fig_no {q : Sym × Role} (h0 : (q.2.str == Str.ofString "figure") = false) (h : ([Str.ofString "zero", Str.ofString "star", Str.ofString "float"].any fun y => y == q.2.str) = false) : gFig q = none := by
  rw [sup_str] at h
  rw [fig_str] at h0
  refine if_neg ?_
  unfold isSup at h
  unfold isFig
  revert h h0
  cases q.2 <;> decide
theorem sup_yes {q : Sym × Role} (h : ([Str.ofString "zero", Str.ofString "star", Str.ofString "float"].any fun y => y == q.2.str) = true) : gSup q = some q.2.str := by
  rw [sup_str] at h
  exact if_pos h
theorem sup_no {q : Sym × Role} (h : ([Str.ofString "zero", Str.ofString "star", Str.ofString "float"].any fun y => y == q.2.str) = false) : gSup q = none := by
  rw [sup_str] at h
  exact if_neg (by rw [h]; decide)
theorem lay_no {q : Sym × Role} (h : ([Str.ofString "mark", Str.ofString "none"].any fun y => y == q.2.str) = true) : gLay q = none := by
  rw [lay_str] at h
  exact if_neg (by intro e; rw [e] at h; cases h)
theorem lay_yes {q : Sym × Role} (h : ([Str.ofString "mark", Str.ofString "none"].any fun y => y == q.2.str) = false) : gLay q = some q.1.len := by
  rw [lay_str] at h
  exact if_pos (by cases e : lays q.2 with | true => rfl | false => rw [e] at h; cases h)
theorem ok_sups (l : List (Sym × Role)) : ∀ x ∈ l.filterMap gSup, PyData.strOk x = true := fun x hx => by
  obtain ⟨p, _, hp⟩ := List.mem_filterMap.mp hx
  unfold gSup at hp
  split at hp
  · cases hp; exact strOk_role _
  · cases hp
theorem rows_V1_4 : True := by
  k_with "call builtin:len" => ((k_here; (with_reducible show wpAny _ _ (call (Value.builtin "len") [Value.str (Sym.str _) _]) _ _ _); k_dflt (refine len_sym ?_)))
  k_with "call builtin:len" => ((k_here; (with_reducible show wpAny _ _ (call (Value.builtin "len") [Value.ref _]) _ _ _); k_dflt (refine len_own (by k_asm) (by k_mem) (by assumption) (by assumption) ?_); intro _ _))
  k_with "call builtin:sum" => ((k_here; (with_reducible show wpAny _ _ (call (Value.builtin "sum") [Value.ref _]) _ _ _); (with_unfolding_all refine' sumK (by with_unfolding_all rfl) (by k_asm) (by k_asm) (by exact ⟨_, (News.get (by k_asm) (by k_mem)), rfl, _, rfl⟩) (by k_asm) ?_; k_whole); intro hq_rw tkq_rw tq_rw Fq_rw Nq_rw))
  trivial
theorem law_holds : PySem.Challenge.rw_pb0256_01.Holds := hd (by
  w_strict (
    k_go0
    (all_goals try k_fold)
    k_steps
    unfold Halt
    rename Frag.In _ _ => X0
    rename Fr _ _ _ _ => F9
    rename News _ _ _ _ => N9
    refine iter_tupleY [Str.ofString "text", Str.ofString "roles"] (fun i nw => nw = []) rfl F9 N9 (table_is X0) (fun _ h => h) rfl ?_ ?_
    · rintro i v us news₁ s₁ I it hv rfl F8 N8 off
      clear F9 N9
      obtain ⟨t, tx, tr, xs, o', ro, rfl, ht, hrl, hg, hsp⟩ := table_row X0 i v hv
      simp only [stoL] at F8
      refine asg_pairB rfl F8 N8 ht rfl rfl rfl fun h' tk' F7 N7 => ?_
      clear F8 N8
      have hoff := offS_len xs
      have hshort := hg.short
      have hlen := (text_is xs).len
      have hL : xs.length ≤ 63 := by omega
      have hz : (joinS xs).length ≤ 30 := by omega
      k_steps
      unfold Halt
      rename News _ _ _ _ => N5
      try k_fold
      k_dflt (refine' tel_use (read_tel _ (joinS xs) tx xs _ o' (text_is xs) hL hz (join_low xs) hg.takes hg.pos hg.last hg.most hg.size) ?B ?F ?X ?Nw ?T ?hk ?hd ?hu ?_)
      case Nw => exact (N5)
      case B => k_asm
      case F => k_asm
      case X => k_asm
      case T => k_asm
      case hk => first | exact rfl | assumption
      case hd => ktr_room
      case hu => ktr_units
      rintro r9 news9 h9 tk9 ⟨t9, pa, pd, ya, yvs, n9, own, ob, v2, v4, v5, t8, t7, hr9, hpic, hpr, hn9⟩ F7 N7
      subst hr9
      subst hn9
      obtain ⟨k9, eob⟩ := hpic
      subst eob
      clear N5
      k_steps
      unfold Halt
      rename News _ _ _ _ => N5
      have hspr := spread_rle xs
      try k_fold
      k_dflt (refine' tel_use (places_tel _ pa pd ya k9 _ v2 _ v4 v5 _ yvs (rleS xs) n9 _ ?hs (rle_counts hL) ?hq) ?B ?F ?X ?Nw ?T ?hk ?hd ?hu ?_)
      case Nw => exact (N5)
      case B => k_asm
      case F => k_asm
      case X => k_asm
      case T => k_asm
      case hk => first | exact rfl | assumption
      case hd => ktr_room
      case hu => ktr_units
      case hs => exact hpr.mono (by walk_at "m_sub")
      case hq => rw [hspr]; exact hL
      rintro r6 news6 h6 tk6 ⟨fa, fvs, n6, hr6, hfv, hn6, hlt6⟩ F7 N7
      subst hr6
      subst hn6
      rw [hspr] at hfv
      clear N5
      k_steps
      unfold Halt
      rename News _ _ _ _ => N5
      try k_fold
      k_dflt (refine' tel_use (roles_tel _ fa fvs xs n6 _ hfv hL) ?B ?F ?X ?Nw ?T ?hk ?hd ?hu ?_)
      case Nw => exact (N5)
      case B => k_asm
      case F => k_asm
      case X => k_asm
      case T => k_asm
      case hk => first | exact rfl | assumption
      case hd => ktr_room
      case hu => ktr_units
      rintro r3 news3 h3 tk3 ⟨ga, gvs, n3, hr3, hgv, hn3, hlt3⟩ F7 N7
      subst hr3
      subst hn3
      clear N5
      k_steps
      unfold Halt
      refine splitN1 (by k_asm) (by k_asm) (by decide +kernel) ?_ (by have := sizeLine_eq; omega)
      intro l9 h9 k9 he9 F7 N7
      have hl9 := strVals l9
      rw [he9, hsp] at hl9
      have hok := ok_roles (rolesGo (floatS (xs.map Sym.str)) xs)
      k_steps
      unfold Halt
      exact MyEnd.ofY [] (by k_asm) (by k_asm) (by walk_at "m_sub") (fun _ h => nomatch h) (fun _ h => nomatch h) (by walk_at "m_map") rfl
    · rintro us news₁ h tk rfl F8 N8
      clear F9 N9
      simp only [stoL] at F8
      k_steps
      unfold Halt
      rename News _ _ _ _ => N5
      rename IntsAre _ (List.map _ (List.take 60 _)) => hI9
      refine news_open N5 fun wa ewa' => ?_
      replace ewa' := ewa'.symm
      subst ewa'
      refine news_open (news_tl N5) fun la ela' => ?_
      replace ela' := ela'.symm
      subst ela'
      have hlw : @LT.lt Nat _ la wa := by (refine ltN ?_; omega)
      try k_fold
      k_dflt (refine' tel_use (parts_tel _ la wa _ _ _ _ _ _ hI9 (by rw [List.length_map, List.length_take]; omega) hlw ?hr1) ?B ?F ?X ?Nw ?T ?hk ?hd ?hu ?_)
      case Nw => exact (N5)
      case B => k_asm
      case F => k_asm
      case X => k_asm
      case T => k_asm
      case hk => first | exact rfl | assumption
      case hd => ktr_room
      case hu => ktr_units
      case hr1 => exact List.forall_mem_cons.mpr ⟨by k_ne, List.forall_mem_nil _⟩
      rintro r9 news9 h9 tk9 ⟨ra, rvs, rn, T, rows, hr9, hrow, hcells, hn9⟩ F7 N7
      subst hr9
      subst hn9
      clear N5
      obtain ⟨o', hlaw⟩ := row_law hrow
      have hg := hlaw.good
      have hoff := offS_len (rows.map (·.1))
      have hshort := hg.short
      have hlen := (text_is (rows.map (·.1))).len
      have hL : (rows.map (·.1)).length ≤ 63 := by omega
      have hL' : rows.length ≤ 63 := by simpa using hL
      have hz : (joinS (rows.map (·.1))).length ≤ 30 := by omega
      have hss : (rows.filterMap fun p => some p.1.str) = (rows.map (·.1)).map Sym.str := by rw [fm_all, List.map_map]; rfl
      have hrr : (rows.filterMap fun p => some p.2.str) = (rows.map (·.2)).map Role.str := by rw [fm_all, List.map_map]; rfl
      have stp : Stop := .mk
      k_steps
      unfold Halt
      rename Fr _ _ _ _ => F9
      rename News _ _ _ _ => N9
      refine comp_rowsS (fun p => some p.1.str) rfl rfl rfl rfl (by decide) F9 N9 (by k_mem) (hcells.mono (by walk_at "m_sub")) hL' ?_ ?_
      · intro i q tx tr ys I oI C oC D m₂ h tk E' hq hys hN hB F8 N8 hne
        obtain ⟨b1, b2⟩ := hB
        clear F9 N9
        refine wpAny_tests_nil ?_
        k_steps
        unfold Halt
        exact cend_yes hq hys (by k_asm) (by k_asm) (by walk_at "m_sub") rfl
      · intro g ys hys
        unfold FinC
        intro D h tk F8 N8 offD
        clear F9 N9
        rw [hss] at hys
        k_steps
        unfold Halt
        refine join_own (by k_asm) (by k_mem) hys (by decide +kernel) ?_ (join_strs _) ?_
        · have := sum_syms (rows.map (·.1))
          rw [List.length_map]
          omega
        intro t9 k9
        clear hys
        k_steps
        unfold Halt
        rename News _ _ _ _ => N5
        try k_fold
        k_dflt (refine' tel_use (read_tel _ (joinS (rows.map (·.1))) t9 (rows.map (·.1)) _ o' (text_is _) hL hz (join_low _) hg.takes hg.pos hg.last hg.most hg.size) ?B ?F ?X ?Nw ?T ?hk ?hd ?hu ?_)
        case Nw => exact (N5)
        case B => k_asm
        case F => k_asm
        case X => k_asm
        case T => k_asm
        case hk => first | exact rfl | assumption
        case hd => ktr_room
        case hu => ktr_units
        rintro r9 news9 h9 tk9 ⟨t8, pa, pd, ya, yvs, n9, own, ob, v2, v4, v5, t7, t6, hr9, hpic, hpr, hn9⟩ F7 N7
        subst hr9
        subst hn9
        obtain ⟨k9, eob⟩ := hpic
        subst eob
        clear N5
        k_steps
        unfold Halt
        rename News _ _ _ _ => N5
        have hspr := spread_rle (rows.map (·.1))
        try k_fold
        k_dflt (refine' tel_use (places_tel _ pa pd ya k9 _ v2 _ v4 v5 _ yvs (rleS (rows.map (·.1))) n9 _ ?hs (rle_counts hL) ?hq) ?B ?F ?X ?Nw ?T ?hk ?hd ?hu ?_)
        case Nw => exact (N5)
        case B => k_asm
        case F => k_asm
        case X => k_asm
        case T => k_asm
        case hk => first | exact rfl | assumption
        case hd => ktr_room
        case hu => ktr_units
        case hs => exact hpr.mono (by walk_at "m_sub")
        case hq => rw [hspr]; exact hL
        rintro r6 news6 h6 tk6 ⟨sa, svs, n6, hr6, hsv, hn6, hlt6⟩ F7 N7
        subst hr6
        subst hn6
        rw [hspr] at hsv
        clear N5
        replace N7 : News _ _ _ ((sa, listOf svs.toArray n6) :: (pa, instObj 112 pd) :: (pd, picDict _ k9 (Value.str (joinS (rows.map (·.1))) t8) (Value.ref ya) v2 (Value.int (o'.nines + o'.zeros + o'.floats) t7) v4 v5 (Value.int (sizeL (rleS (rows.map (·.1)))).sum t6)) :: (ra, listOf rvs.toArray rn) :: T) := news_sub N7 (by
          refine List.forall_mem_cons.mpr ⟨by k_mem, ?_⟩
          refine List.forall_mem_cons.mpr ⟨by k_mem, ?_⟩
          refine List.forall_mem_cons.mpr ⟨by k_mem, ?_⟩
          intro p9 hp9
          exact List.mem_cons_of_mem _ (List.mem_cons_of_mem _ (List.mem_cons_of_mem _ (List.mem_cons_of_mem _ (List.mem_append_right _ (List.mem_cons_of_mem _ (List.mem_cons_of_mem _ hp9)))))))
        have hoks := ok_syms (rows.map (·.1))
        have hokr := ok_roles (rows.map (·.2))
        k_steps
        unfold Halt
        rename Fr _ _ _ _ => F9
        rename News _ _ _ _ => N9
        refine comp_rowsS (fun p => some p.1.str) rfl rfl rfl rfl (by decide) F9 N9 (by k_mem) (hcells.mono (by walk_at "m_sub")) hL' ?_ ?_
        · intro i q tx tr ys I oI C oC D m₂ h tk E' hq hys hN hB F8 N8 hne
          obtain ⟨b1, b2⟩ := hB
          clear F9 N9
          refine wpAny_tests_nil ?_
          k_steps
          unfold Halt
          exact cend_yes hq hys (by k_asm) (by k_asm) (by walk_at "m_sub") rfl
        · intro g ys hys
          unfold FinC
          intro D h tk F8 N8 offD
          clear F9 N9
          rw [hss] at hys
          k_steps
          unfold Halt
          rename News _ _ _ _ => N5
          try k_fold
          k_dflt (refine' tel_use (roles_tel _ sa svs (rows.map (·.1)) n6 _ hsv hL) ?B ?F ?X ((news_dup N5 ?hm2)) ?T ?hk ?hd ?hu ?_)
          case B => k_asm
          case F => k_asm
          case X => k_asm
          case T => k_asm
          case hk => first | exact rfl | assumption
          case hd => ktr_room
          case hu => ktr_units
          case hm2 => k_mem
          rintro r3 news3 h3 tk3 ⟨ga, gvs, n3, hr3, hgv, hn3, hlt3⟩ F7 N7
          subst hr3
          subst hn3
          rw [hlaw.roles] at hgv
          clear N5 hys offD
          k_steps
          unfold Halt
          rename Fr _ _ _ _ => F9
          rename News _ _ _ _ => N9
          refine comp_rowsS (fun p => some p.2.str) rfl rfl rfl rfl (by decide) F9 N9 (by k_mem) (hcells.mono (by walk_at "m_sub")) hL' ?_ ?_
          · intro i q tx tr ys I oI C oC D m₂ h tk E' hq hys hN hB F8 N8 hne
            obtain ⟨b1, b2⟩ := hB
            clear F9 N9
            refine wpAny_tests_nil ?_
            k_steps
            unfold Halt
            exact cend_yes hq hys (by k_asm) (by k_asm) (by walk_at "m_sub") rfl
          · intro g ys hys
            unfold FinC
            intro D h tk F8 N8 offD
            clear F9 N9
            rw [hrr] at hys
            k_steps
            unfold Halt
            rename Fr _ _ _ _ => F9
            rename News _ _ _ _ => N9
            clear hys offD hgv
            refine comp_rowsS gLead rfl rfl rfl rfl (by decide) F9 N9 (by k_mem) (hcells.mono (by walk_at "m_sub")) hL' ?_ ?_
            · intro i q tx tr ys I oI C oC D m₂ h tk E' hq hys hN hB F8 N8 hne
              obtain ⟨b1, b2⟩ := hB
              clear F9 N9
              refine wpAny_tests_one ?_
              k_steps
              · rename (_ == _) = true => hb9
                rw [lead_str] at hb9
                unfold Halt
                exact cend_yes hq hys (by k_asm) (by k_asm) (by walk_at "m_sub") (if_pos (of_decide_eq_true hb9))
              · rename (_ == _) = false => hb9
                rw [lead_str] at hb9
                unfold Halt
                exact cend_no hq hys (by k_asm) (by k_asm) (by walk_at "m_sub") (if_neg (of_decide_eq_false hb9))
            · intro g ys hys
              unfold FinN
              intro D h tk F8 N8 offD
              clear F9 N9
              have stp3 : Stop3 := .mk
              k_steps
              unfold Halt
              rename Fr _ _ _ _ => F9
              rename News _ _ _ _ => N9
              clear offD
              generalize hT9 : exec _ _ = tt9
              refine cut_0 F9 N9 ?_ ?_
              · subst hT9
                clear stp3
                have hfl := hlaw.float
                have hokl := ok_leads rows
                have hL9 : ((rows.map (·.1)).map Sym.str).length ≤ 63 := by rw [List.length_map]; exact hL
                generalize rows.filterMap gLead = lf at hfl hys hokl
                cases hys with
                | nil =>
                  k_steps
                  unfold Halt
                  rename News _ _ _ _ => N5
                  try k_fold
                  k_dflt (refine' tel_use (floating_tel _ sa svs ((rows.map (·.1)).map Sym.str) n6 _ hsv hL9) ?B ?F ?X ((news_dup N5 ?hm3)) ?T ?hk ?hd ?hu ?_)
                  case B => k_asm
                  case F => k_asm
                  case X => k_asm
                  case T => k_asm
                  case hk => first | exact rfl | assumption
                  case hd => ktr_room
                  case hu => ktr_units
                  case hm3 => k_mem
                  rintro r4 news4 h4 tk4 ⟨⟨t4, hr4⟩, hn4⟩ F7 N7
                  rw [hfl] at hr4
                  subst hr4
                  subst hn4
                  simp only [List.headD_nil]
                  clear N5
                  k_steps
                  unfold Halt
                  exact WEnd.of0 (by k_asm) (by k_asm) (by walk_at "m_sub") (fun _ => rfl)
                | cons y ty hyr =>
                  k_steps
                  unfold Halt
                  rename News _ _ _ _ => N5
                  try k_fold
                  k_dflt (refine' tel_use (floating_tel _ sa svs ((rows.map (·.1)).map Sym.str) n6 _ hsv hL9) ?B ?F ?X ((news_dup N5 ?hm3)) ?T ?hk ?hd ?hu ?_)
                  case B => k_asm
                  case F => k_asm
                  case X => k_asm
                  case T => k_asm
                  case hk => first | exact rfl | assumption
                  case hd => ktr_room
                  case hu => ktr_units
                  case hm3 => k_mem
                  rintro r4 news4 h4 tk4 ⟨⟨t4, hr4⟩, hn4⟩ F7 N7
                  rw [hfl] at hr4
                  subst hr4
                  subst hn4
                  simp only [List.headD_cons]
                  clear N5
                  k_steps
                  unfold Halt
                  exact WEnd.of0 (by k_asm) (by k_asm) (by walk_at "m_sub") (fun _ => rfl)
              intro h tk F8 N8
              clear F9 N9 hT9 hys
              k_steps
              unfold Halt
              rename Fr _ _ _ _ => F9
              rename News _ _ _ _ => N9
              refine comp_rowsS gFig rfl rfl rfl rfl (by decide) F9 N9 (by k_mem) (hcells.mono (by walk_at "m_sub")) hL' ?_ ?_
              · intro i q tx tr ys I oI C oC D m₂ h tk E' hq hys hN hB F8 N8 hne
                obtain ⟨b1, b2⟩ := hB
                clear F9 N9 stp3
                refine wpAny_tests_one ?_
                k_steps
                · unfold Halt
                  exact cend_yes hq hys (by k_asm) (by k_asm) (by walk_at "m_sub") (fig_yes1 (by assumption))
                · unfold Halt
                  exact cend_yes hq hys (by k_asm) (by k_asm) (by walk_at "m_sub") (fig_yes2 (by assumption))
                · unfold Halt
                  exact cend_no hq hys (by k_asm) (by k_asm) (by walk_at "m_sub") (fig_no (by assumption) (by assumption))
              · intro g ys hfig
                unfold FinN
                intro D h tk F8 N8 offD
                clear F9 N9 offD
                k_steps
                unfold Halt
                rename Fr _ _ _ _ => F9
                rename News _ _ _ _ => N9
                generalize hT9 : exec _ _ = tt9
                refine cut_0 F9 N9 ?_ ?_
                · subst hT9
                  clear stp3
                  have hoku := ok_sups rows
                  k_steps
                  unfold Halt
                  rename Fr _ _ _ _ => F9
                  rename News _ _ _ _ => N9
                  refine comp_rowsS gSup rfl rfl rfl rfl (by decide) F9 N9 (by k_mem) (hcells.mono (by walk_at "m_sub")) hL' ?_ ?_
                  · intro i q tx tr ys I oI C oC D m₂ h tk E' hq hys hN hB F8 N8 hne
                    obtain ⟨b1, b2⟩ := hB
                    clear F9 N9
                    refine wpAny_tests_one ?_
                    k_steps
                    · unfold Halt
                      exact cend_yes hq hys (by k_asm) (by k_asm) (by walk_at "m_sub") (sup_yes (by assumption))
                    · unfold Halt
                      exact cend_no hq hys (by k_asm) (by k_asm) (by walk_at "m_sub") (sup_no (by assumption))
                  · intro g ys hys1
                    unfold FinC
                    intro D h tk F8 N8 offD
                    clear F9 N9
                    k_steps
                    unfold Halt
                    rename Fr _ _ _ _ => F9
                    rename News _ _ _ _ => N9
                    refine comp_rowsS gSup rfl rfl rfl rfl (by decide) F9 N9 (by k_mem) (hcells.mono (by walk_at "m_sub")) hL' ?_ ?_
                    · intro i q tx tr ys I oI C oC D m₂ h tk E' hq hys hN hB F8 N8 hne
                      obtain ⟨b1, b2⟩ := hB
                      clear F9 N9
                      refine wpAny_tests_one ?_
                      k_steps
                      · unfold Halt
                        exact cend_yes hq hys (by k_asm) (by k_asm) (by walk_at "m_sub") (sup_yes (by assumption))
                      · unfold Halt
                        exact cend_no hq hys (by k_asm) (by k_asm) (by walk_at "m_sub") (sup_no (by assumption))
                    · intro g ys hys2
                      unfold FinC
                      intro D h tk F8 N8 offD
                      clear F9 N9
                      k_steps
                      unfold Halt
                      exact WEnd.of0 (by k_asm) (by k_asm) (by walk_at "m_sub") (fun _ => rfl)
                intro h tk F8 N8
                clear F9 N9 hT9
                k_steps
                unfold Halt
                rename Fr _ _ _ _ => F9
                rename News _ _ _ _ => N9
                refine comp_rowsI gLay rfl rfl rfl rfl (by decide) F9 N9 (by k_mem) (hcells.mono (by walk_at "m_sub")) hL' ?_ ?_
                · intro i q tx tr ys I oI C oC D m₂ h tk E' hq hys hN hB F8 N8 hne
                  obtain ⟨b1, b2⟩ := hB
                  clear F9 N9
                  refine wpAny_tests_one ?_
                  k_steps
                  · unfold Halt
                    exact cend_noI hq hys (by k_asm) (by k_asm) (by walk_at "m_sub") (lay_no (by assumption))
                  · unfold Halt
                    exact cend_yesI hq hys (by k_asm) (by k_asm) (by walk_at "m_sub") (lay_yes (by assumption))
                · intro g ys hoct
                  unfold FinC
                  intro D h tk F8 N8 offD
                  clear F9 N9
                  rename StrsAre _ (List.filterMap gFig _) => hfg
                  have hfl := StrsAre.length hfg
                  have hfl2 := filterMap_len gFig rows rows.length
                  rw [List.take_length, ← hfl] at hfl2
                  have hfz := Nat.le_trans hfl2 (Nat.le_trans hL' (by decide : 63 ≤ 1000))
                  have hfd := hlaw.digits
                  rw [← hfl] at hfd
                  have hfo := hlaw.octets
                  clear hfl hfl2 hfg
                  unfold picDict at N8
                  k_steps))
end
end Mine
theorem PySem.Challenge.cw_pb0256_01_holds : PySem.Challenge.rw_pb0256_01.Holds :=
  Mine.law_holds
