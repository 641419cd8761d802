import PyProof.Rows.All
import Wide.All
import OpenK.AllK
import Wide.FinOn
import PySem.Challenge.RW_pq0120_01
set_option Elab.async false
set_option maxRecDepth 1000000
-- Hd2
section
namespace Mine
open PySem PySem.W PyProof.Rows
set_option maxHeartbeats 8000000
theorem said : OpenLaw.wellSaid PySem.Challenge.rw_pq0120_01 = true := by
  rw [PySem.W.Fast.te9446332074065402090]
  kernel_rfl
theorem fwd {P P' Q : Prop} (hl : P) (hc : P') (main : Q) : Q := main
noncomputable def top : (T : Prop × Prop) ×' (T.1 → T.2 → PySem.Challenge.rw_pq0120_01.Holds) := by
  refine' ⟨(_, _), fun left walk => ?body⟩
  case body =>
    w_on
    refine holds_law said fun _ => ?_
    apply fwd
    case main =>
      k_head
      case hw => w_witness2
    case hl => exact left
    case hc => exact walk
end Mine
end
-- Hd3
section
namespace Mine
open PySem PySem.W PyProof.Rows
set_option maxHeartbeats 0
noncomputable abbrev pr : Program := PySem.Challenge.rw_pq0120_01.row.toRowW.1
theorem ends_run {p : Program} {w : World} {s₀ s₁ : Shared} {M k : Nat} (e : fencedOpening treeTable p w (M + k) = some s₀) (fresh : (s₀.heap.isNs mainGlobals && s₀.gens.size == 0) = true)
    (r : topRun treeTable p w s₀.heap.objs.size (s₀.heap.nsMap mainGlobals "__annotations__") M s₀ (topStub p) = some s₁)
    (fine : (staticsOk (importedModules p.main.body) s₀.heap s₁.heap && namesBound p s₁.heap && gensDone s₁ && laidKept s₀.heap s₁.heap) = true) : openEnds treeTable p w (M + k) = some s₁ := by
  have far : topFrom treeTable p w (M + k) s₀ = some s₁ := by simp only [topFrom, fresh, topRun_mono k _ _ _ _ r, Option.bind_some, fine]
  exact (congrArg (fun o => o.bind (topFrom treeTable p w (M + k))) e).trans far
theorem left_run {p q : Program} {loose : List Str} {Xt : Shared → Bool} {α : Type} {Yf : Shared → α} {Ya : World → α} {M N : Nat} {g0 : Bool} {H : Params → Heap} {gs : Array GenState} {dr : Drawn} {tk n : Nat} {ann : Option Value}
    (boot : ∀ w : World, (fencedOpening treeTable p w N).map (fun s => (s.heap, s.gens, s.drawn, s.toks)) = some (H w.params, gs, dr, tk))
    (fresh : ∀ w : World, ((H w.params).isNs mainGlobals && gs.size == 0, (H w.params).objs.size, (H w.params).nsMap mainGlobals "__annotations__") = (true, n, ann)) (room : Nat.ble M N = true)
    (run : ∀ (w : World) (os : OsState), (topRun treeTable p w n ann M ⟨H w.params, gs, dr, tk, os⟩ (topStub p)).map (fun s => ((staticsOk (importedModules p.main.body) (H w.params) s.heap && namesBound p s.heap && gensDone s && laidKept (H w.params) s.heap),
        openSeen q loose (importedModules p.main.body) Xt g0 s, Yf s)) = some (true, openGood q loose, Ya w)) : LeftO p q loose Xt Yf Ya N g0 := by
  intro w
  obtain ⟨k, rfl⟩ := Nat.exists_eq_add_of_le (Nat.le_of_ble_eq_true room)
  have hb := boot w
  have hf := fresh w
  have hr := run w
  clear boot fresh run
  generalize H w.params = h0 at hb hf hr
  cases e0 : fencedOpening treeTable p w (M + k) with
  | none => rw [e0] at hb; cases hb
  | some s₀ =>
    rw [e0] at hb
    obtain ⟨h, g, d, t, os⟩ := s₀
    cases hb
    have hn : h.objs.size = n := congrArg (fun x => x.2.1) hf
    have hm : h.nsMap mainGlobals "__annotations__" = ann := congrArg (fun x => x.2.2) hf
    subst hn hm
    replace hr := hr os
    cases e1 : topRun treeTable p w h.objs.size (h.nsMap mainGlobals "__annotations__") M ⟨h, g, d, t, os⟩ (topStub p) with
    | none => rw [e1] at hr; cases hr
    | some s₁ =>
      rw [e1] at hr
      have ha := congrArg Prod.fst (Option.some.inj hr)
      have hz := congrArg Prod.snd (Option.some.inj hr)
      have e2 := ends_run (p := p) e0 (congrArg Prod.fst hf) (s₁ := s₁) e1 ha
      exact (congrArg (fun o => o.map fun s => (openSeen q loose (importedModules p.main.body) Xt g0 s, Yf s)) e2).trans (congrArg some hz)
theorem left : top.1.1 := by
  refine left_run (M := 2238) (boot_open (p := pr) rfl (by decide) fun s => rfl) (n := 11) (ann := some (.ref 6)) ?_ (by decide) ?_
  · intro w
    kernel_rfl
  · intro w os
    rw [PySem.W.Fast.te14082659384304107361, PySem.W.Fast.te14364793385576792824, PySem.W.Fast.te4187177175401517315]
    kernel_rfl
theorem hd (walk : top.1.2) : PySem.Challenge.rw_pq0120_01.Holds := top.2 left walk
end Mine
end
-- Base1
namespace Mine
open PySem PySem.W PySem.Calls PyProof.Rows
theorem quiet : True := by
  w_top off
  trivial
structure Cx (w : World) (mean : ExcName → Option Value) (mg mb : Str → Option Value) (base : Heap) (outer : List Env) (A : Around) (h : Heap) : Prop where
  X : (top.heap_1 w.params).In base
  T : Top top.view_1 (looseW top.view_1 []) mean mg mb base
  B : Below A base outer h
noncomputable abbrev PR : Program := PySem.Challenge.rw_pq0120_01.row.prog
noncomputable def Upto (M : List Addr) (h h' : Heap) : Prop := ∀ b o, h.get? b = some o → b ∉ M → h'.get? b = some o
structure MutAt (base : Heap) (outer : List Env) (h : Heap) (p : Addr × Obj) : Prop where
  at_ : h.get? p.1 = some p.2
  new : base.get? p.1 = none
  off : p.1 ∉ outer.filterMap (·.frame)
theorem enter_def {w : World} {mean : ExcName → Option Value} {mg mb : Str → Option Value} {base : Heap} {outer : List Env} {A : Around} {s : Shared} {R : Result → Shared → Prop}
    {name qual : Str} {params : Arguments} {body : List Stmt} {scope : Scope} {dV kV doc pm cdv ct oc : Value} {an od : Option Addr} {osl : Array (Option Value)} {f : Addr} {args : Args} {binds : List (Str × Value)}
    (C : Cx w mean mg mb base outer A s.heap) (mu : List (Addr × Obj)) (hm : ∀ p ∈ mu, MutAt base outer s.heap p)
    (ho : (top.heap_1 w.params).lookup f = some ⟨oc, od, .func (fnOf name qual params body scope dV kV doc pm an cdv ct), osl⟩) (hcd : codeIn (top.heap_1 w.params) cdv qual = true) (hroom : A.depth < recursionLimit)
    (hbind : BindsTo s (fnOf name qual params body scope dV kV doc pm an cdv ct) args binds) (hloc : ∀ y ∈ binds, scope.names.lookup y.1 = some .local)
    (h : ∀ g L' h₁, Fr g L' h₁ (fun y => binds.reverse.lookup y) → News g L' h₁ mu → Below A base outer g → (top.heap_1 w.params).In g → Top top.view_1 (looseW top.view_1 []) mean mg mb g →
      (∀ b o, s.heap.get? b = some o → b ∉ mu.map (·.1) → g.get? b = some o) → (∀ b o, g.get? b = some o → s.heap.get? b = some o) → g.objs.size = s.heap.objs.size →
      wpAny (model PR w) (A.deeper (envOf qual scope L' f cdv)) (execs body (envOf qual scope L' f cdv))
        (fun fl s' => R (.ok (.ret (match fl with | .ret v => v | _ => .none))) s')
        (fun e s' => wpAny (model PR w) (A.deeper (envOf qual scope L' f cdv)) (leaving (envOf qual scope L' f cdv) e) (fun _ s'' => R (.error e) s'') (fun e' s'' => R (.error e') s'') s')
        { s with heap := h₁, toks := s.toks + binds.length })
    (hco : scope.isCoroutine = false := by rfl) (hgen : scope.isGenerator = false := by rfl) (hk : scope.kind = .function := by rfl)
    (hcell : ∀ x ∈ scope.names, x.2 ≠ .cell := by decide) : codeAny (model PR w) A (.call (.ref f) args) R s := by
  have X := C.X.keeps C.B.stays
  have T := C.T.keeps C.B.stays
  refine codeAny_call_def (fd := fnOf name qual params body scope dV kV doc pm an cdv ct) (body := body) (binds := binds) hroom (X _ _ ho) rfl T.nolimit (codeRec_of X hcd) rfl hbind hcell hloc (fun h₁ hns hk₁ => ?_) hco hgen hk
  have nb : ∀ b o, base.get? b = some o → b ∉ mu.map (·.1) := fun b o e q => by
    obtain ⟨p, hp, rfl⟩ := List.mem_map.mp q
    rw [(hm p hp).new] at e; cases e
  have st : base.StaysIn (hideAll s.heap (mu.map (·.1))) := fun b o e => hideAll_get _ (C.B.stays b o e) (nb b o e)
  have X2 : (top.heap_1 w.params).In (hideAll s.heap (mu.map (·.1))) := C.X.keeps st
  have T2 : Top top.view_1 (looseW top.view_1 []) mean mg mb (hideAll s.heap (mu.map (·.1))) := C.T.keeps st
  exact h (hideAll s.heap (mu.map (·.1))) s.heap.objs.size h₁ ⟨hns, fun b o e => hk₁ b o (of_hideAll _ e), Nat.le_of_eq (hideAll_size _ _)⟩
    (fun p hp => ⟨hk₁ _ _ (hm p hp).at_, Nat.ne_of_lt (Heap.lt_size (hm p hp).at_), hideAll_none _ (List.mem_map_of_mem hp)⟩)
    ⟨C.B.stack, st, funFrames_hideAll C.B.frames fun env he a ha hf => by
      obtain ⟨p, hp, rfl⟩ := List.mem_map.mp ha
      exact (hm p hp).off (List.mem_filterMap.mpr ⟨env, he, hf⟩)⟩ X2 T2
    (fun b o e n => hideAll_get _ e n) (fun b o e => of_hideAll _ e) (hideAll_size _ _)
theorem fr_upto {M : List Addr} {g h h' : Heap} {L : Addr} {m : Str → Option Value} (F : Fr g L h m) (k : Upto M h h') (hm : ∀ a ∈ M, a ≠ L ∧ g.get? a = none) : Fr g L h' m := by
  obtain ⟨oL, es, ep, hL, hr⟩ := F.ns
  exact ⟨⟨oL, es, ep, k _ _ hL fun q => (hm _ q).1 rfl, hr⟩, fun b o e => k b o (F.keep b o e) fun q => (by rw [(hm _ q).2] at e; cases e), F.above⟩
theorem news_at {g h : Heap} {L : Addr} {p : Addr × Obj} {news : List (Addr × Obj)} (N : News g L h news) (hp : p ∈ news) : p.1 ≠ L ∧ g.get? p.1 = none := (N p hp).2
theorem news_nil {g h : Heap} {L : Addr} : News g L h [] := fun _ hp => nomatch hp
theorem news_cons {g h : Heap} {L a : Addr} {o : Obj} {news : List (Addr × Obj)} (e : h.get? a = some o) (q : a ≠ L ∧ g.get? a = none) (N : News g L h news) : News g L h ((a, o) :: news) := fun p hp => by
  rcases List.mem_cons.mp hp with rfl | hp
  · exact ⟨e, q⟩
  · exact N p hp
theorem fr_new {g h : Heap} {L : Addr} {m : Str → Option Value} (F : Fr g L h m) {a : Addr} (ha : h.get? a = none) : a ≠ L ∧ g.get? a = none := by
  obtain ⟨oL, es, ep, hL, hr⟩ := F.ns
  refine ⟨fun q => (by rw [q, hL] at ha; cases ha), ?_⟩
  cases q : g.get? a with
  | none => rfl
  | some o => rw [F.keep _ _ q] at ha; cases ha
theorem at_size (h : Heap) : h.get? h.objs.size = none := Heap.get?_none_of_le (Nat.le_refl _)
theorem Upto.trans {M : List Addr} {h₁ h₂ h₃ : Heap} (x : Upto M h₁ h₂) (y : Upto M h₂ h₃) : Upto M h₁ h₃ := fun b o e n => y b o (x b o e n) n
theorem upto_of {M : List Addr} {h g h' : Heap} {L : Addr} {m : Str → Option Value} (hin : ∀ b o, h.get? b = some o → b ∉ M → g.get? b = some o) (F : Fr g L h' m) : Upto M h h' := fun b o e n => F.keep b o (hin b o e n)
theorem Upto.fresh {M : List Addr} {h h' : Heap} (x : Upto M h h') {a : Addr} (e : h'.get? a = none) (hm : a ∈ M → h.get? a = none) : h.get? a = none := by
  cases q : h.get? a with
  | none => rfl
  | some o =>
    by_cases z : a ∈ M
    · rw [hm z] at q; cases q
    · rw [x a o q z] at e; cases e
theorem frames_cons {A : Around} {env : Env} {outer : List Env} (h : A.frames = some outer) : (A.deeper env).frames = some (env :: outer) := Around.frames_deeper h
theorem cx_in {w : World} {mean : ExcName → Option Value} {mg mb : Str → Option Value} {base g h : Heap} {outer : List Env} {A A' : Around} {env : Env} {L : Addr} {m : Str → Option Value}
    (hX : (top.heap_1 w.params).In base) (hT : Top top.view_1 (looseW top.view_1 []) mean mg mb base) (B : Below A base outer g) (F : Fr g L h m) (hf : env.frame = some L) (hk : env.scope.kind = .function)
    (hA : A'.frames = some (env :: outer)) : Cx w mean mg mb base (env :: outer) A' h := by
  have hnew : base.get? L = none := by
    cases hq : base.get? L with
    | none => rfl
    | some o => exact absurd (Nat.lt_of_lt_of_le (Heap.lt_size (B.stays L o hq)) F.above) (Nat.lt_irrefl _)
  refine ⟨hX, hT, hA, fun b o e => F.keep b o (B.stays b o e), ?_⟩
  exact .cons (by rw [hk]; decide) hf F.ns hnew (B.frames.of_keeps fun b o e _ => ⟨o, F.keep b o e, rfl⟩)
theorem mut_in {base g h : Heap} {outer : List Env} {A : Around} {env : Env} {L : Addr} {p : Addr × Obj} {news : List (Addr × Obj)} (B : Below A base outer g) (hf : env.frame = some L) (N : News g L h news) (hp : p ∈ news) : MutAt base (env :: outer) h p := by
  obtain ⟨h1, h2, h3⟩ := N p hp
  refine ⟨h1, ?_, fun q => ?_⟩
  · cases z : base.get? p.1 with
    | none => rfl
    | some o => rw [B.stays _ _ z] at h3; cases h3
  · rw [List.filterMap_cons, hf] at q
    rcases List.mem_cons.mp q with q | q
    · exact h2 q
    · obtain ⟨o, ho, _⟩ := (B.frames.mem q).2
      rw [h3] at ho; cases ho
theorem enter_fn {w : World} {mean : ExcName → Option Value} {mg mb : Str → Option Value} {base : Heap} {outer : List Env} {A : Around} {s : Shared} {R : Result → Shared → Prop}
    {name qual : Str} {params : Arguments} {body : List Stmt} {scope : Scope} {dV kV doc pm cdv ct oc : Value} {an od : Option Addr} {osl : Array (Option Value)} {f : Addr} {vs : List Value} (binds : List (Str × Value))
    (C : Cx w mean mg mb base outer A s.heap) (mu : List (Addr × Obj)) (hm : ∀ p ∈ mu, MutAt base outer s.heap p)
    (ho : (top.heap_1 w.params).lookup f = some ⟨oc, od, .func (fnOf name qual params body scope dV kV doc pm an cdv ct), osl⟩) (hcd : codeIn (top.heap_1 w.params) cdv qual = true) (hroom : A.depth < recursionLimit)
    (hbind : BindsTo s (fnOf name qual params body scope dV kV doc pm an cdv ct) ⟨vs, []⟩ binds) (hloc : ∀ y ∈ binds, scope.names.lookup y.1 = some .local)
    (h : ∀ g L' h₁ tk, Fr g L' h₁ (fun y => binds.reverse.lookup y) → News g L' h₁ mu → Below A base outer g → (top.heap_1 w.params).In g → Top top.view_1 (looseW top.view_1 []) mean mg mb g →
      (∀ b o, s.heap.get? b = some o → b ∉ mu.map (·.1) → g.get? b = some o) → (∀ b o, g.get? b = some o → s.heap.get? b = some o) → g.objs.size = s.heap.objs.size →
      wpAny (model PR w) (A.deeper (envOf qual scope L' f cdv)) (execs body (envOf qual scope L' f cdv))
        (fun fl s' => R (.ok (.ret (match fl with | .ret v => v | _ => .none))) s')
        (fun e s' => wpAny (model PR w) (A.deeper (envOf qual scope L' f cdv)) (leaving (envOf qual scope L' f cdv) e) (fun _ s'' => R (.error e) s'') (fun e' s'' => R (.error e') s'') s')
        { s with heap := h₁, toks := tk })
    (hco : scope.isCoroutine = false := by rfl) (hgen : scope.isGenerator = false := by rfl) (hk : scope.kind = .function := by rfl)
    (hcell : ∀ x ∈ scope.names, x.2 ≠ .cell := by decide) : codeAny (model PR w) A (.call (.ref f) ⟨vs, []⟩) R s :=
  enter_def C mu hm ho hcd hroom hbind hloc (fun g L' h₁ F N B X T h1 h2 h3 => h g L' h₁ _ F N B X T h1 h2 h3) hco hgen hk hcell
end Mine
-- Cut
namespace Mine
open PySem PySem.W PySem.Calls PyProof.Rows
theorem execs_app {env : Env} : ∀ (l l' : List Stmt), execs (l ++ l') env = (execs l env).bind fun f => match f with | .next => execs l' env | f => pure f
  | [], _ => rfl
  | a :: l, l' => by
    rw [List.cons_append, execs_cons, execs_cons]
    show (exec a env).bind _ = ((exec a env).bind _).bind _
    rw [Sem.bind_assoc]
    congr 1
    funext f
    cases f <;> first | exact execs_app l l' | rfl
section
variable {prog : Program} {w : World} {A : Around} {env : Env} {l : List Stmt} {Q : Flow → Shared → Prop} {E : Value → Shared → Prop} {s : Shared}
theorem execs_cut (k : Nat) (Mid : Shared → Prop) (h1 : wpAny (model prog w) A (execs (l.take k) env) (fun fl s' => fl = .next ∧ Mid s') E s) (h2 : ∀ s', Mid s' → wpAny (model prog w) A (execs (l.drop k) env) Q E s') :
    wpAny (model prog w) A (execs l env) Q E s := by
  rw [← List.take_append_drop k l, execs_app]
  refine wpAny_bind (wpAny_mono h1 (fun fl s' x => ?_) fun _ _ x => x)
  obtain ⟨rfl, x⟩ := x
  exact h2 s' x
theorem abs_post0 (h : ∀ (Q' : Flow → Shared → Prop) (E' : Value → Shared → Prop), (∀ a s', Q a s' → Q' a s') → (∀ e s', E e s' → E' e s') → wpAny (model prog w) A (execs l env) Q' E' s) : wpAny (model prog w) A (execs l env) Q E s := h Q E (fun _ _ x => x) fun _ _ x => x
theorem abs_post (h : ∀ (Q' : Flow → Shared → Prop) (E' : Value → Shared → Prop), (∀ a s', Q a s' → Q' a s') → (∀ e s', E e s' → E' e s') → PassesOwn (model prog w) A env E' → wpAny (model prog w) A (execs l env) Q' E' s)
    (hp : PassesOwn (model prog w) A env E := by passes_own) : wpAny (model prog w) A (execs l env) Q E s := h Q E (fun _ _ x => x) (fun _ _ x => x) hp
end
theorem lim {n k j L : Nat} (h : n + k < L) (e : Nat.ble j k = true := by rfl) : n + j < L := Nat.lt_of_le_of_lt (Nat.add_le_add_left (Nat.le_of_ble_eq_true e) n) h
theorem lim0 {n k L : Nat} (h : n + k < L) : n < L := Nat.lt_of_le_of_lt (Nat.le_add_right n k) h
theorem lim2 {n k a b L : Nat} (h : n + k < L) (e : Nat.ble (a + b) k = true := by rfl) : n + a + b < L := Nat.add_assoc n a b ▸ lim h e
theorem lim3 {n k a b c L : Nat} (h : n + k < L) (e : Nat.ble (a + b + c) k = true := by rfl) : n + a + b + c < L := Nat.add_assoc n a b ▸ lim2 h e
theorem lme {n k j : Nat} (h : n ≤ k) (e : Nat.ble k j = true := by rfl) : n ≤ j := Nat.le_trans h (Nat.le_of_ble_eq_true e)
theorem lml {n k j : Nat} (h : n ≤ k) (e : Nat.ble (k + 1) j = true := by rfl) : n < j := Nat.lt_of_le_of_lt h (Nat.le_of_ble_eq_true e)
theorem lll {n k j : Nat} (h : n < k) (e : Nat.ble k j = true := by rfl) : n < j := Nat.lt_of_lt_of_le h (Nat.le_of_ble_eq_true e)
end Mine
namespace Mine
open PySem PySem.W PySem.Calls PyProof.Rows
theorem zz1 {v1 v2 v3 v4 v5 v6 v7 v8} : wpAny v1 v2 (call (Value.ref v3) v4 v5) v6 v7 v8 → wpAny v1 v2 (call (Value.ref v3) v4 v5) v6 v7 v8 := fun h => h
theorem zz2 {v1 v2 v3 v4 v5 v6 v7 v8 v9} : wpAny v1 v2 (subscriptTail v3 v4 (Value.ref v5) v6) v7 v8 v9 → wpAny v1 v2 (subscriptTail v3 v4 (Value.ref v5) v6) v7 v8 v9 := fun h => h
theorem zz3 {v1 v2 v3 v4 v5 v6 v7 v8 v9 v10} : wpAny v1 v2 (exec (Stmt.While v3 v4 v5 v6) v7) v8 v9 v10 → wpAny v1 v2 (exec (Stmt.While v3 v4 v5 v6) v7) v8 v9 v10 := fun h => h
theorem zz4 {v1 v2 v3 v4 v5 v6 v7 v8 v9 v10 v11} : wpAny v1 v2 (exec (Stmt.For v3 v4 v5 v6 v7) v8) v9 v10 v11 → wpAny v1 v2 (exec (Stmt.For v3 v4 v5 v6 v7) v8) v9 v10 v11 := fun h => h
theorem zz5 {v1 v2 v3 v4 v5 v6 v7 v8 v9 v10 v11} : wpAny v1 v2 (exec (Stmt.Try v3 v4 v5 v6 v7) v8) v9 v10 v11 → wpAny v1 v2 (exec (Stmt.Try v3 v4 v5 v6 v7) v8) v9 v10 v11 := fun h => h
theorem zz6 {v1 v2 v3 v4 v5 v6} : wpAny v1 v2 (pyIter v3) v4 v5 v6 → wpAny v1 v2 (pyIter v3) v4 v5 v6 := fun h => h
theorem zz7 {v1 v2 v3 v4 v5 v6 v7 v8 v9} : wpAny v1 v2 (exec (Stmt.Raise v3 v4 v5) v6) v7 v8 v9 → wpAny v1 v2 (exec (Stmt.Raise v3 v4 v5) v6) v7 v8 v9 := fun h => h
theorem zz8 {v1 v2 v3 v4 v5 v6 v7} : wpAny v1 v2 (binaryOp Operator.Add (Value.ref v3) (Value.ref v4)) v5 v6 v7 → wpAny v1 v2 (binaryOp Operator.Add (Value.ref v3) (Value.ref v4)) v5 v6 v7 := fun h => h
theorem zz9 {T : Sort _} {v1 : T → Prop} : Exists v1 → Exists v1 := fun h => h
theorem zz10 {v1 v2 v3 v4 v5 v6 v7 v8 v9 v10} : wpAny v1 v2 (eval (Expr.ListComp v3 v4 v5 v6) v7) v8 v9 v10 → wpAny v1 v2 (eval (Expr.ListComp v3 v4 v5 v6) v7) v8 v9 v10 := fun h => h
theorem zz11 {v1 v2 v3 v4 v5 v6 v7 v8 v9 v10 v11 v12} : wpAny v1 v2 (exec (Stmt.Assign v3 (Expr.ListComp v4 v5 v6 v7) v8) v9) v10 v11 v12 → wpAny v1 v2 (exec (Stmt.Assign v3 (Expr.ListComp v4 v5 v6 v7) v8) v9) v10 v11 v12 := fun h => h
theorem zz12 {v1 v2 v3 v4 v5 v6} : wpAny v1 v2 (call (Value.type "list") [Value.ref v3]) v4 v5 v6 → wpAny v1 v2 (call (Value.type "list") [Value.ref v3]) v4 v5 v6 := fun h => h
theorem zz13 {v1 v2 v3 v4 v5 v6 v7 v8 v9 v10} : wpAny v1 v2 (eval (PySem.Expr.IfExp v3 v4 v5 v6) v7) v8 v9 v10 → wpAny v1 v2 (eval (PySem.Expr.IfExp v3 v4 v5 v6) v7) v8 v9 v10 := fun h => h
theorem zz14 {v1 v2 v3 v4 v5 v6 v7 v8 v9 v10} : wpAny v1 v2 (execs (Stmt.Assign [PySem.Expr.Name "lots" v3] v4 v5 :: v6) v7) v8 v9 v10 → wpAny v1 v2 (execs (Stmt.Assign [PySem.Expr.Name "lots" v3] v4 v5 :: v6) v7) v8 v9 v10 := fun h => h
theorem zz15 {v1 v2 v3 v4 v5 v6 v7 v8 v9 v10 v11 v12 v13} : wpAny v1 v2 (execs (Stmt.Assign [Expr.Tuple [Expr.Name "kids" v3, v4] v5 v6] v7 v8 :: v9) v10) v11 v12 v13 → wpAny v1 v2 (execs (Stmt.Assign [Expr.Tuple [Expr.Name "kids" v3, v4] v5 v6] v7 v8 :: v9) v10) v11 v12 v13 := fun h => h
theorem zz16 {v1 v2 v3 v4 v5 v6 v7 v8 v9 v10} : wpAny v1 v2 (exec (Stmt.If v3 v4 v5 v6) v7) v8 v9 v10 → wpAny v1 v2 (exec (Stmt.If v3 v4 v5 v6) v7) v8 v9 v10 := fun h => h
theorem zz17 {v1 v2 v3 v4 v5 v6 v7 v8 v9 v10 v11} : wpAny v1 v2 (execs (Stmt.If v3 v4 v5 v6 :: v7) v8) v9 v10 v11 → wpAny v1 v2 (execs (Stmt.If v3 v4 v5 v6 :: v7) v8) v9 v10 v11 := fun h => h
theorem zz18 {v1 v2 v3 v4 v5 v6 v7 v8 v9 v10 v11} : wpAny v1 v2 (eval (PySem.Expr.Subscript (PySem.Expr.Subscript v3 v4 v5) v6 v7) v8) v9 v10 v11 → wpAny v1 v2 (eval (PySem.Expr.Subscript (PySem.Expr.Subscript v3 v4 v5) v6 v7) v8) v9 v10 v11 := fun h => h
theorem zz19 {v1 v2 v3 v4 v5 v6 v7 v8 v9 v10 v11 v12 v13} : wpAny v1 v2 (execs (Stmt.Assign [Expr.Tuple [Expr.Name "due" v3, v4] v5 v6] v7 v8 :: v9) v10) v11 v12 v13 → wpAny v1 v2 (execs (Stmt.Assign [Expr.Tuple [Expr.Name "due" v3, v4] v5 v6] v7 v8 :: v9) v10) v11 v12 v13 := fun h => h
theorem zz20 {v1 v2 v3 v4 v5 v6 v7 v8 v9 v10} : wpAny v1 v2 (execs (Stmt.Assign [Expr.Name "ahead" v3] v4 v5 :: v6) v7) v8 v9 v10 → wpAny v1 v2 (execs (Stmt.Assign [Expr.Name "ahead" v3] v4 v5 :: v6) v7) v8 v9 v10 := fun h => h
theorem zz21 {v1 v2 v3 v4 v5 v6} : wpAny v1 v2 (call (Value.builtin "len") [Value.ref v3]) v4 v5 v6 → wpAny v1 v2 (call (Value.builtin "len") [Value.ref v3]) v4 v5 v6 := fun h => h
theorem zz22 {v1 v2 v3 v4 v5 v6 v7} : wpAny v1 v2 (binaryOp Operator.Mult (Value.ref v3) v4) v5 v6 v7 → wpAny v1 v2 (binaryOp Operator.Mult (Value.ref v3) v4) v5 v6 v7 := fun h => h
end Mine
-- X1
section
namespace Mine
open PySem PySem.W PySem.Calls PyProof.Rows Builtin Builtin.ObjectAttr
set_option maxHeartbeats 8000000
theorem fill : PySem.Challenge.rw_pq0120_01.writes = PySem.Challenge.rw_pq0120_01.writes ∧ top.heap_1 = top.heap_1 := by k_fill; exact ⟨rfl, rfl⟩
section
variable {w : World} {h : Heap}
theorem lk_of {α : Type} {t : Sem α} {r : α} (X : (top.heap_1 w.params).In h) (e : peek (top.heap_1 w.params) ⟨PR, w.params⟩ t = some r) : Looks (model PR w) h t r := Looks.of_peek X e
theorem tf_made (X : (top.heap_1 w.params).In h) : Looks (model PR w) h (Bind.madeBy (.ref 76)) (some "Exception.__new__") := lk_of X (by kernel_rfl)
theorem tf_mro (X : (top.heap_1 w.params).In h) : Looks (model PR w) h (mroOf (.ref 76)) [.ref 76, .ref 47, .type "Exception", .type "BaseException", .type "object"] := lk_of X (by kernel_rfl)
theorem tf_subE (X : (top.heap_1 w.params).In h) : Looks (model PR w) h (isSubtype (.ref 76) (.type "Exception")) true := lk_of X (by kernel_rfl)
theorem tf_self (X : (top.heap_1 w.params).In h) : Looks (model PR w) h (isSubtype (.ref 76) (.ref 76)) true := lk_of X (by kernel_rfl)
theorem tf_subA (X : (top.heap_1 w.params).In h) : Looks (model PR w) h (isSubtype (.ref 76) (.type "AttributeError")) false := lk_of X (by kernel_rfl)
theorem tf_subN (X : (top.heap_1 w.params).In h) : Looks (model PR w) h (isSubtype (.ref 76) (.type "NameError")) false := lk_of X (by kernel_rfl)
theorem tf_call (X : (top.heap_1 w.params).In h) : Looks (model PR w) h (specialOf (.ref 76) "__call__") (some (.builtin "type.__call__")) := lk_of X (by kernel_rfl)
theorem tf_isT (X : (top.heap_1 w.params).In h) : Looks (model PR w) h (isType (.ref 76)) true := lk_of X (by kernel_rfl)
theorem tf_del (X : (top.heap_1 w.params).In h) : Looks (model PR w) h (classHasDel 76) false := lk_of X (by kernel_rfl)
theorem tf_init (X : (top.heap_1 w.params).In h) : Looks (model PR w) h (typeLookup (.ref 76) "__init__") (some (.ref 66)) := lk_of X (by kernel_rfl)
theorem tf_bind (X : (top.heap_1 w.params).In h) (self : Value) : Looks (model PR w) h (bindSpecial (.ref 66) self) (.ref 66, [self]) := bind_fn X self (by k_is)
theorem tf_here (X : (top.heap_1 w.params).In h) : Looks (model PR w) h (Bind.madeHere "BaseException.__new__" (.ref 76)) () := lk_of X (by kernel_rfl)
theorem tf_chk (X : (top.heap_1 w.params).In h) (a b : Value) : Looks (model PR w) h (checkBuiltinCall "Exception.__new__" ⟨[.ref 76, a, b], []⟩) () := lk_of X (by kernel_rfl)
theorem tf_chk2 (X : (top.heap_1 w.params).In h) (a b : Value) : Looks (model PR w) h (checkBuiltinCall "type.__call__" ⟨[.ref 76, a, b], []⟩) () := lk_of X (by kernel_rfl)
end
theorem tf_core {w : World} {A : Around} {h : Heap} {g : Array GenState} {d : Drawn} {t : Nat} {os : OsState} {R : Result → Shared → Prop} {a b : Value} (X : (top.heap_1 w.params).In h)
    (hq : codeAny (model PR w) (A.under (.builtin "type.__call__" ⟨[.ref 76, a, b], []⟩)) (.call (.ref 66) ⟨[.ref (h.objs.size + 1), a, b], []⟩) (InitBack (h.objs.size + 1) R)
      ⟨(h.push { cls := .type "tuple", data := .seq #[a, b] }).push { cls := .ref 76, data := .fields #[.ref h.objs.size, .none, .none, .none, .bool false, .none] }, g, d, t, os⟩) :
    codeAny (model PR w) A (.call (.ref 76) ⟨[a, b], []⟩) R ⟨h, g, d, t, os⟩ := by
  have L1 := tf_call X
  have hC := X 76 _ (by k_is)
  refine codeAny_of_tree ?_
  show wpAny _ _ (callAny (.ref 76) _) _ _ _
  refine nd_load hC ?_
  show wpAny _ _ (callAny.viaDunder (.ref 76) _) _ _ _
  unfold callAny.viaDunder
  refine wpAny_bind (L1.at ?_)
  dsimp only
  rw [tc_bind]
  refine wpAny_bind (wpAny_pure (wpAny_bind (wpAny_pure ?_)))
  refine wpAny_pure (a := Fin.again (.call (.builtin "type.__call__") ⟨[.ref 76, a, b], []⟩)) (And.intro rfl ?_)
  refine codeAny_call_builtin_at (Code.quiet_builtin _ (by decide +kernel)) entry_typeCall ((tf_chk2 X a b).here ?_)
  unfold Builtin.«type.__call__»
  have hm := tf_mro X
  have made := tf_made X
  repeat (first | with_reducible refine wpAny_call ?_ | lk)
  have F := PySem.F.excBase_Exception
  refine codeAny_call_builtin_code (Code.quiet_builtin _ F.quiet) ((tf_chk X a b).here ?_)
  have hends := F.ends
  refine codeAny_builtinAt F.entry ?_
  unfold Builtin.«BaseException.__new__»
  refine _root_.PySem.wpAt_bind ?_
  show _root_.PySem.wpAt _ _ _ (stack >>= _) _ _ _
  refine _root_.PySem.wpAt_bind (_root_.PySem.wpAt_stack fun p below => _root_.PySem.wpAt_of_wpAny ?_)
  wp_walk
  refine _root_.PySem.wpAt_of_wpAny ?_
  rw [F.owner]
  have q1 := tf_isT X
  have q2 := tf_subE X
  have q3 := tf_here X
  have q4 := tf_subA X
  have q5 := tf_subN X
  have q6 := tf_del X
  repeat lk
  refine nd_load (Heap.get?_push_of_some _ (Heap.get?_push_of_some _ hC)) ?_
  repeat lk
  rw [Heap.size_push]
  have k : ∀ b' o, h.get? b' = some o → ((h.push { cls := .type "tuple", data := .seq #[a, b] }).push { cls := .ref 76, data := .fields #[.ref h.objs.size, .none, .none, .none, .bool false, .none] }).get? b' = some o := fun b' o e => Heap.get?_push_of_some _ (Heap.get?_push_of_some _ e)
  have hx : ((h.push { cls := .type "tuple", data := .seq #[a, b] }).push { cls := .ref 76, data := .fields #[.ref h.objs.size, .none, .none, .none, .bool false, .none] }).get? (h.objs.size + 1) = some { cls := .ref 76, data := .fields #[.ref h.objs.size, .none, .none, .none, .bool false, .none] } := by heap_get
  have X' := X.keeps k
  have s1 := tf_self X'
  have i1 := tf_init X'
  have b1 := tf_bind X' (.ref (h.objs.size + 1))
  show wpAny _ _ (Sem.load (h.objs.size + 1) (some headPart) Sem.pure) _ _ ⟨(h.push { cls := .type "tuple", data := .seq #[a, b] }).push { cls := .ref 76, data := .fields #[.ref h.objs.size, .none, .none, .none, .bool false, .none] }, g, d, t, os⟩
  refine nd_load hx ?_
  have t1 : Looks (model PR w) ((h.push { cls := .type "tuple", data := .seq #[a, b] }).push { cls := .ref 76, data := .fields #[.ref h.objs.size, .none, .none, .none, .bool false, .none] }) (typeOf (.ref (h.objs.size + 1))) (.ref 76) := (Looks.ld hx).andThen .now
  unfold callSpecial? specialOf
  repeat (first | with_reducible refine wpAny_call ?_ | lk)
  refine codeAny_mono hq fun r s' z => ?_
  rcases r with e | (v | _ | _ | _) <;> first | exact z | exact z.elim | skip
  obtain ⟨rfl, z⟩ := z
  exact wpAny_pure (wpAny_pure z)
end Mine
end
-- X2
section
namespace Mine
open PySem PySem.W PySem.Calls PyProof.Rows Builtin Builtin.ObjectAttr
set_option maxHeartbeats 8000000
theorem enter_super {w : World} {mean : ExcName → Option Value} {mg mb : Str → Option Value} {base : Heap} {outer : List Env} {A : Around} {s : Shared} {R : Result → Shared → Prop}
    {name qual : Str} {params : Arguments} {body : List Stmt} {scope : Scope} {dV kV doc pm cdv ct oc : Value} {an od : Option Addr} {osl : Array (Option Value)} {f cc : Addr} {vs : List Value} (binds : List (Str × Value))
    (C : Cx w mean mg mb base outer A s.heap) (mu : List (Addr × Obj)) (hm : ∀ p ∈ mu, MutAt base outer s.heap p)
    (ho : (top.heap_1 w.params).lookup f = some ⟨oc, od, .func (ksFn name qual params body scope dV kV doc pm an cdv ct cc), osl⟩) (hcd : codeIn (top.heap_1 w.params) cdv qual = true) (hroom : A.depth < recursionLimit)
    (hbind : BindsTo s (ksFn name qual params body scope dV kV doc pm an cdv ct cc) ⟨vs, []⟩ binds) (hloc : ∀ y ∈ binds, scope.names.lookup y.1 = some .local)
    (h : ∀ g L' h₁ tk, Fr g L' h₁ (fun y => binds.reverse.lookup y) → News g L' h₁ mu → Below A base outer g → (top.heap_1 w.params).In g → Top top.view_1 (looseW top.view_1 []) mean mg mb g →
      (∀ b o, s.heap.get? b = some o → b ∉ mu.map (·.1) → g.get? b = some o) → (∀ b o, g.get? b = some o → s.heap.get? b = some o) → g.objs.size = s.heap.objs.size →
      _root_.PySem.wpAt (model PR w) (A.deeper (ksEnv qual scope L' f cdv cc)) (.func body (ksEnv qual scope L' f cdv cc)) (execs body (ksEnv qual scope L' f cdv cc))
        (fun fl s' => R (.ok (.ret (match fl with | .ret v => v | _ => .none))) s')
        (fun e s' => wpAny (model PR w) (A.deeper (ksEnv qual scope L' f cdv cc)) (leaving (ksEnv qual scope L' f cdv cc) e) (fun _ s'' => R (.error e) s'') (fun e' s'' => R (.error e') s'') s')
        { s with heap := h₁, toks := tk })
    (hco : scope.isCoroutine = false := by rfl) (hgen : scope.isGenerator = false := by rfl) (hk : scope.kind = .function := by rfl)
    (hcell : ∀ x ∈ scope.names, x.2 ≠ .cell := by decide) : codeAny (model PR w) A (.call (.ref f) ⟨vs, []⟩) R s := by
  have X := C.X.keeps C.B.stays
  have T := C.T.keeps C.B.stays
  refine (ks_codeAny_call_defAt (fd := ksFn name qual params body scope dV kV doc pm an cdv ct cc) (body := body) (binds := binds) hroom (X _ _ ho) rfl T.nolimit (codeRec_of X hcd) rfl hbind hcell hloc (fun h₁ hns hk₁ => ?_) hco hgen hk)
  have nb : ∀ b o, base.get? b = some o → b ∉ mu.map (·.1) := fun b o e q => by
    obtain ⟨p, hp, rfl⟩ := List.mem_map.mp q
    rw [(hm p hp).new] at e; cases e
  have st : base.StaysIn (hideAll s.heap (mu.map (·.1))) := fun b o e => hideAll_get _ (C.B.stays b o e) (nb b o e)
  have X2 : (top.heap_1 w.params).In (hideAll s.heap (mu.map (·.1))) := C.X.keeps st
  have T2 : Top top.view_1 (looseW top.view_1 []) mean mg mb (hideAll s.heap (mu.map (·.1))) := C.T.keeps st
  exact h (hideAll s.heap (mu.map (·.1))) s.heap.objs.size h₁ _ ⟨hns, fun b o e => hk₁ b o (of_hideAll _ e), Nat.le_of_eq (hideAll_size _ _)⟩
    (fun p hp => ⟨hk₁ _ _ (hm p hp).at_, Nat.ne_of_lt (Heap.lt_size (hm p hp).at_), hideAll_none _ (List.mem_map_of_mem hp)⟩)
    ⟨C.B.stack, st, funFrames_hideAll C.B.frames fun env he a ha hf => by
      obtain ⟨p, hp, rfl⟩ := List.mem_map.mp ha
      exact (hm p hp).off (List.mem_filterMap.mpr ⟨env, he, hf⟩)⟩ X2 T2
    (fun b o e n => hideAll_get _ e n) (fun b o e => of_hideAll _ e) (hideAll_size _ _)
theorem inst_exc {h₀ h : Heap} {L x C : Addr} {news : List (Addr × Obj)} {fs : Array Value} {sl : Array (Option Value)} (N : News h₀ L h news) (h1 : (x, (⟨.ref C, none, .fields fs, sl⟩ : Obj)) ∈ news) :
    InstAt h x ⟨.ref C, none, .fields fs, sl⟩ C none := ⟨(N _ h1).1, rfl, rfl, trivial⟩
local macro_rules | `(tactic| k_inst) => `(tactic| exact inst_exc (by k_asm) (by k_mem))
end Mine
end
-- X3
section
namespace Mine
open PySem
open PySem.W PySem.Calls PyProof.Rows
set_option maxHeartbeats 400000
theorem mine_slot_wd_get : Slot "wrapper_descriptor" "__get__" "wrapper_descriptor.__get__" := .of (owner := "wrapper_descriptor") (n := "__get__") (by rw [typeLookup_type, builtinLookup_eq_fast]; kernel_rfl) (by decide +kernel) (by decide +kernel) (by decide +kernel)
  (by first | exact .inl (by decide +kernel) | exact .inr (by decide +kernel)) (by rw [isSubtype_type]; kernel_rfl)
theorem mine_entry_wd_get : entryFor table "wrapper_descriptor.__get__" = some Builtin.«wrapper_descriptor.__get__» := entryFor_of_tree (by kernel_rfl)
theorem mine_wd_args (a b c : Value) : argsOk "wrapper_descriptor.__get__" ⟨[a, b, c], []⟩ := by unfold argsOk; kernel_rfl
theorem mine_ga {prog : Program} {w : World} {A : Around} {E : Value → Shared → Prop} {h : Heap} {g : Array GenState} {d : Drawn} {t : Nat} {os : OsState} {so D x C : Addr} {i : String} {l₀ l : List Value} {K : Frag} {name : Str} {tk : Tok} {Q : Fin → Shared → Prop}
    (hso : h.get? so = some { cls := .type "super", dict := none, data := .fields #[.ref D, .ref x, .ref C], slots := #[] }) (hno : Looks (model prog w) h (opaqueClassAbove (.ref C)) none)
    (hC : Looks (model prog w) h (mroOf (.ref C)) l₀) (hl : (l₀.dropWhile (· != .ref D)).drop 1 = l) (X : K.In h)
    (hf : alongIn K name l = some (some (.builtin i))) (hT : ∀ hh : Heap, (⟨hh, g, d, t, os⟩ : Shared).TypeIs (.builtin i) "wrapper_descriptor") (hxC : x ≠ C) (hn : (name == ("__class__" : Str)) = false)
    {o : String} {ox : Obj} (how : ".".intercalate (i.cutAt '.').dropLast = o) (hsub : Looks (model prog w) h (isSubtype (.ref C) (.type o)) true) (hx : h.get? x = some ox) (hxc : ox.cls = .ref C)
    (hq : Q (.done (.ret (.ref h.objs.size))) ⟨h.push { cls := .type "method-wrapper", data := .fields #[.builtin i, .ref x] }, g, d, t, os⟩) :
    wpAny (model prog w) A (Builtin.«super.__getattribute__» ⟨[.ref so, .str name tk], []⟩) Q E ⟨h, g, d, t, os⟩ := by
  have hlk := mine_slot_wd_get.lookup
  have hne : (Value.ref x == Value.ref C) = false := by simp [hxC]
  have hTf := hT h
  have hdt : ({ cls := .type "super", dict := none, data := .fields #[.ref D, .ref x, .ref C], slots := #[] } : Obj).data = .fields #[.ref D, .ref x, .ref C] := rfl
  have f0 : (#[.ref D, .ref x, .ref C] : Array Value)[0]? = some (.ref D) := rfl
  have f1 : (#[.ref D, .ref x, .ref C] : Array Value)[1]? = some (.ref x) := rfl
  have f2 : (#[.ref D, .ref x, .ref C] : Array Value)[2]? = some (.ref C) := rfl
  unfold Builtin.«super.__getattribute__»
  repeat (first
    | (with_reducible refine wpAny_field hso hdt f0 ?_) | (with_reducible refine wpAny_field hso hdt f1 ?_) | (with_reducible refine wpAny_field hso hdt f2 ?_)
    | (with_reducible refine ks_wpAny_notOpaque hno ?_)
    | (with_reducible refine Looks.at hC ?_; rw [hl])
    | (refine ks_forIn_along X (fun _ _ => rfl) rfl ?_ hf)
    | (with_reducible refine wpAny_typeOf hTf ?_)
    | (with_reducible refine wpAny_call_entry mine_slot_wd_get hTf mine_entry_wd_get ?_ (mine_wd_args _ _ _))
    | (with_reducible refine ⟨_, rfl, ?_⟩)
    | (simp only [hn, hne, Bool.or_false, Bool.false_eq_true, if_false])
    | (with_reducible refine wpAny_loadPart_at hx ?_; rw [hxc, how])
    | (with_reducible refine Looks.at hsub ?_)
    | wp_step
    | dsimp only)
  all_goals exact hq
theorem mine_getMethod {prog : Program} {w : World} {A : Around} {E : Value → Shared → Prop} {h : Heap} {g : Array GenState} {d : Drawn} {t : Nat} {os : OsState} {so D x C : Addr} {i : String} {l₀ l : List Value} {K : Frag} {name : Str} {pl : Sem Bool} {Q : Value × List Value → Shared → Prop}
    (hso : h.get? so = some { cls := .type "super", dict := none, data := .fields #[.ref D, .ref x, .ref C], slots := #[] }) (hno : Looks (model prog w) h (opaqueClassAbove (.ref C)) none)
    (hC : Looks (model prog w) h (mroOf (.ref C)) l₀) (hl : (l₀.dropWhile (· != .ref D)).drop 1 = l) (X : K.In h)
    (hf : alongIn K name l = some (some (.builtin i))) (hTi : typeOf (.builtin i) = pure (.type "wrapper_descriptor")) (hxC : x ≠ C) (hn : (name == ("__class__" : Str)) = false)
    {o : String} {ox : Obj} (how : ".".intercalate (i.cutAt '.').dropLast = o) (hsub : Looks (model prog w) h (isSubtype (.ref C) (.type o)) true) (hx : h.get? x = some ox) (hxc : ox.cls = .ref C)
    (hq : Q (.ref h.objs.size, []) ⟨h.push { cls := .type "method-wrapper", data := .fields #[.builtin i, .ref x] }, g, d, t + 1, os⟩) :
    wpAny (model prog w) A (getMethod (.ref so) name pl) Q E ⟨h, g, d, t, os⟩ := by
  have hlk := F.ks_slot_super_ga.lookup
  have hcan := F.ks_canon_super_ga
  have hT : ∀ t', (⟨h, g, d, t', os⟩ : Shared).TypeIs (.ref so) "super" := fun _ => ⟨_, hso, rfl⟩
  unfold getMethod
  refine wpAny_bind (wpAny_specialOf (hT _) hlk ?_)
  show wpAny _ _ (if (Manifest.canonical "super.__getattribute__" != "object.__getattribute__") = true then _ else _) _ _ _
  rw [if_pos hcan]
  unfold getAttr getAttrBy
  refine wpAny_bind (wpAny_bind (wpAny_mkText (wpAny_holding (wpAny_bind (wpAny_typeOf (hT _) (wpAny_bind (wpAny_of_eq hlk ?_)))))))
  show wpAny _ _ (getAttrByItsOwn (.ref so) (.str name t) (.type "super") (.builtin "super.__getattribute__") true false) _ _ _
  unfold getAttrByItsOwn hookBefore callGetattribute boundAndCalled
  refine wpAny_bind (wpAny_of_eq (show (if onTheHeap (.type "super") then typeLookup (.type "super") "__getattr__" else pure none) = pure none from rfl) ?_)
  refine wpAny_bind (wpAny_attempt (wpAny_holding ?_))
  show wpAny _ _ (bindSpecial (.builtin "super.__getattribute__") (.ref so) >>= _) _ _ _
  refine wpAny_bind (wpAny_of_eq (F.ks_slot_super_ga.bind _) ?_)
  refine wpAny_mono (Q := fun v s' => v = .ref h.objs.size ∧ s' = ⟨h.push { cls := .type "method-wrapper", data := .fields #[.builtin i, .ref x] }, g, d, t + 1, os⟩) (E := fun _ _ => False)
    (wpAny_call_entry F.ks_slot_super_ga (hT _) F.ks_entry_super_ga (mine_ga hso hno hC hl X hf (fun _ => hTi) hxC hn how hsub hx hxc ⟨_, rfl, rfl, rfl⟩) (F.ks_gaArgs_super _ _)) (fun v s' hv => ?_) fun _ _ z => z.elim
  obtain ⟨rfl, rfl⟩ := hv
  exact wpAny_pure (wpAny_pure hq)
end Mine
end
-- X4
section
namespace Mine
open PySem PySem.W PySem.Calls PyProof.Rows Builtin Builtin.ObjectAttr
set_option maxHeartbeats 400000
noncomputable abbrev mwObj (x : Addr) : Obj := { cls := .type "method-wrapper", data := .fields #[.builtin "Exception.__init__", .ref x] }
theorem mw_chk {w : World} {A : Around} {E : Value → Shared → Prop} {h : Heap} {g : Array GenState} {d : Drawn} {t : Nat} {os : OsState} {x : Addr} {v : Value} {ox : Obj} {Q : Unit → Shared → Prop}
    (X : (top.heap_1 w.params).In h) (hx : h.get? x = some ox) (hc : ox.cls = .ref 76) (hq : Q () ⟨h, g, d, t, os⟩) : wpAny (model PR w) A (checkBoundCall "Exception.__init__" ⟨[.ref x, v], []⟩) Q E ⟨h, g, d, t, os⟩ := by
  have F := PySem.F.excBase_Exception
  unfold checkBoundCall
  simp only [F.initRow, F.initKind]
  have hC := X 76 _ (by k_is)
  obtain ⟨c, d0, dt, sl⟩ := ox
  cases hc
  repeat lk
  exact hq
theorem mw_call {w : World} {A : Around} {E : Value → Shared → Prop} {h : Heap} {g : Array GenState} {d : Drawn} {t : Nat} {os : OsState} {q x t0 : Addr} {a1 a2 a3 a4 a5 : Value} {v : Value} {Q : Value → Shared → Prop}
    (X : (top.heap_1 w.params).In h) (hq : h.get? q = some (mwObj x)) (hx : h.get? x = some ⟨.ref 76, none, .fields #[.ref t0, a1, a2, a3, a4, a5], #[]⟩)
    (hk : ∀ h', (∀ b o, b ≠ x → h.get? b = some o → h'.get? b = some o) → h'.get? x = some ⟨.ref 76, none, .fields #[.ref h.objs.size, a1, a2, a3, a4, a5], #[]⟩ → h'.get? h.objs.size = some { cls := .type "tuple", data := .seq #[v] } → Q .none ⟨h', g, d, t, os⟩) :
    wpAny (model PR w) A (call (.ref q) [v]) Q E ⟨h, g, d, t, os⟩ := by
  have F := PySem.F.excBase_Exception
  refine wpAny_call (codeAny_of_tree ?_)
  show wpAny _ _ (callAny (.ref q) _) _ _ _
  refine nd_load hq ?_
  show wpAny _ _ (checkBoundCall "Exception.__init__" ⟨[.ref x, v], []⟩ >>= fun _ => again (.builtin "Exception.__init__" ⟨[.ref x, v], []⟩)) _ _ _
  refine wpAny_bind (mw_chk X hx rfl (wpAny_pure ?_))
  refine ⟨Code.quiet_builtin _ (by decide +kernel), codeAny_builtin F.initEntry ?_⟩
  unfold Builtin.«BaseException.__init__»
  repeat (first | with_reducible refine wpAny_newObj_type ?_ (by size_fits) | lk)
  have hx' := Heap.get?_push_of_some ({ cls := .type "tuple", data := .seq #[v] } : Obj) hx
  dsimp only
  refine nd_load hx' ?_
  refine wpAny_pure (wpAny_pure (wpAny_pure ?_))
  refine wpAny_bind (wpAny_setField_rec (s := ⟨_, g, d, t, os⟩) hx' (k := 0) (by simp) fun h1 e1 s1 => ?_)
  refine wpAny_letGo (wpAny_pure ?_)
  refine hk h1 (fun b o hb e => (s1.2 b hb).trans (Heap.get?_push_of_some _ e)) e1 ?_
  have hne : h.objs.size ≠ x := Nat.ne_of_gt (Heap.lt_size hx)
  exact (s1.2 _ hne).trans (Heap.get?_push_size _ rfl)
end Mine
end
-- X5
section
namespace Mine
open PySem PySem.W PySem.Calls PyProof.Rows Builtin Builtin.ObjectAttr
set_option maxHeartbeats 400000
theorem exc_passes (self : Value) : refuseLoop self "__setattr__" [.ref 76, .ref 47, .type "Exception", .type "BaseException", .type "object"] = pure () := by
  rw [refuseLoop_ref, refuseLoop_ref]
  unfold refuseLoop
  kernel_rfl
theorem store_in {w : World} {A : Around} {E : Value → Shared → Prop} {h : Heap} {g : Array GenState} {d : Drawn} {t : Nat} {os : OsState} {dx : Addr} {es es' : List DictEntry} {n n' : Nat} {name : Str} {tk : Tok} {v : Value} {Q : Fin → Shared → Prop}
    (D : h.get? dx = some (dictOf es n)) (hl : (getL name es).isSome = true) (e : (putL name (PyData.keyHash w.params name) (.str name t) v es, putN name es n) = (es', n')) (hz : es'.length ≤ 1000)
    (hk : ∀ h', (∀ b o, b ≠ dx → h.get? b = some o → h'.get? b = some o) → h'.get? dx = some (dictOf es' n') → Q (.done (.ret .none)) ⟨h', g, d, t + 1, os⟩) :
    wpAny (model PR w) A (storeInDict dx (.str name tk) name v) Q E ⟨h, g, d, t, os⟩ := by
  have e1 : Obj.putName name (PyData.keyHash w.params name) (.str name t) v (dictOf es n) = dictOf es' n' := by
    rw [putName_dict]
    have q1 := congrArg Prod.fst e
    have q2 := congrArg Prod.snd e
    dsimp only at q1 q2
    rw [q1, q2]
  have D' : (h.update dx (Obj.putName name (PyData.keyHash w.params name) (.str name t) v)).get? dx = some (dictOf es' n') := by
    rw [← e1]; exact Heap.get?_update_self _ D (by rw [e1]; rfl)
  refine wpAny_bind (wpAny_pure (wpAny_bind ?_))
  unfold nsSet
  refine wpAny_bind (wpAny_bind (wpAny_askSetting (wpAny_pure (wpAny_bind (wpAny_mkText (wpAny_bind (wpAny_loadPart D ?_)))))))
  dsimp only
  have c : (!es.toArray.any (·.key.isStr name) && es.toArray.any (·.refKey)) = false := by
    rw [← Array.any_toList, ← Array.any_toList]
    unfold getL at hl
    split at hl
    · rename_i en he
      rw [List.any_eq_true.mpr ⟨en, List.mem_of_find?_eq_some he, List.find?_some he⟩]; rfl
    · split at hl
      · cases hl
      · rename_i z; rw [Bool.not_eq_true] at z; rw [z, Bool.and_false]
  rw [aRefKeyMayBeTheName_at, c]
  refine wpAny_updatePart D ?_
  refine wpAny_bind (wpAny_lookBehind D' (pastItsLine_dict (by rw [List.size_toArray, sizeLine_eq]; ((first | with_reducible assumption | exact Mine.lim (by assumption) | exact Mine.lim0 (by assumption) | exact Mine.lim2 (by assumption) | exact Mine.lim3 (by assumption) | exact Mine.lme (by assumption) | exact Mine.lml (by assumption) | exact Mine.lll (by assumption) | decide | lia)))) ?_)
  exact wpAny_pure (hk _ (fun b o hb q => (Heap.get?_update_ne _ _ _ _ hb).trans q) D')
theorem exc_set0 {w : World} {A : Around} {E : Value → Shared → Prop} {h : Heap} {g : Array GenState} {d : Drawn} {t : Nat} {os : OsState} {x : Addr} {fs : Array Value} {sl : Array (Option Value)} {v : Value} {Q : Unit → Shared → Prop}
    (X : (top.heap_1 w.params).In h) (hx : h.get? x = some ⟨.ref 76, none, .fields fs, sl⟩)
    (hk : ∀ h' dx k tk, h.get? dx = none → (∀ b o, b ≠ x → h.get? b = some o → h'.get? b = some o) → h'.get? x = some ⟨.ref 76, some dx, .fields fs, sl⟩ → h'.get? dx = some (dictOf [⟨PyData.keyHash w.params "what", .str "what" k, v⟩] 1) → Q () ⟨h', g, d, tk, os⟩) :
    wpAny (model PR w) A (setAttr (.ref x) "what" v) Q E ⟨h, g, d, t, os⟩ := by
  have SF := PySem.F.store_object
  have hC := X 76 _ (by k_is)
  have L1 : Looks (model PR w) h (typeOf (.ref x)) (.ref 76) := (Looks.ld hx).andThen .now
  have L2 := looks_findIn (M := model PR w) X (t := .ref 76) (name := "__setattr__") (r := some (.builtin "object.__setattr__")) (by k_is)
  have L3 := looks_findIn (M := model PR w) X (t := .ref 76) (name := "what") (r := none) (by k_is)
  have L4 := tf_mro X
  have sub : Looks (model PR w) h (isInstance (.ref x) (.type "object")) true := L1.andThen (looks_subIn X (by k_is))
  refine wpAny_bind (wpAny_mkText (wpAny_bind (wpAny_bind (wpAny_bind (L1.at (L2.at (wpAny_holding ?_)))))))
  rw [SF.slot.bind]
  refine wpAny_bind (wpAny_pure (wpAny_bind (wpAny_call ?_)))
  refine codeAny_call_builtin SF.slot.plain SF.entry (@check_slot (model PR w) _ _ _ "object.__setattr__" "object" "__setattr__" (.ref x) [.str "what" t, v] [] _ SF.kind SF.split sub (SF.args (.ref x) (.str "what" t) v) ?_)
  show wpAny _ _ (Builtin.«object.__setattr__» ⟨[.ref x, .str "what" t, v], []⟩) _ _ ⟨h, g, d, t + 1, os⟩
  rw [osa_eq, refuse_eq]
  refine wpAny_bind (wpAny_bind (L1.at (wpAny_bind (L4.at ?_))))
  rw [exc_passes]
  refine wpAny_pure (wpAny_bind (L1.at (wpAny_bind (L3.at ?_))))
  refine wpAny_bind (wpAny_pure ?_)
  repeat lk
  have hx1 := Heap.get?_push_of_some ({ cls := .type "dict", data := .dict #[] } : Obj) hx
  have hd1 : (h.push ({ cls := .type "dict", data := .dict #[] } : Obj)).get? h.objs.size = some (dictOf [] 0) := Heap.get?_push_size _ rfl
  have hne : h.objs.size ≠ x := Nat.ne_of_gt (Heap.lt_size hx)
  refine wpAny_update hx1 ?_
  refine wpAny_pure ?_
  dsimp only
  refine store_in (es := []) (n := 0) ((Heap.get?_update_ne _ _ _ _ hne).trans hd1) rfl rfl (Nat.le_of_ble_eq_true rfl) fun h' k1 k2 => ?_
  refine wpAny_pure (wpAny_pure ?_)
  refine hk h' h.objs.size _ _ ?_ (fun b o hb e => ?_) ?_ k2
  · exact Heap.get?_none_of_le (Nat.le_refl _)
  · exact k1 b o (Nat.ne_of_lt (Heap.lt_size e)) ((Heap.get?_update_ne _ _ _ _ hb).trans (Heap.get?_push_of_some _ e))
  · exact k1 _ _ (Ne.symm hne) (Heap.get?_update_self _ hx1 rfl)
theorem exc_set1 {w : World} {A : Around} {E : Value → Shared → Prop} {h : Heap} {g : Array GenState} {d : Drawn} {t : Nat} {os : OsState} {x dx : Addr} {fs : Array Value} {sl : Array (Option Value)} {v : Value} {es : List DictEntry} {n : Nat} {Q : Unit → Shared → Prop}
    (X : (top.heap_1 w.params).In h) (hx : h.get? x = some ⟨.ref 76, some dx, .fields fs, sl⟩) (hdx : h.get? dx = some (dictOf es n)) (hl : (getL "spot" es).isSome = true) (hz : es.length ≤ 900)
    (hk : ∀ h' k tk, (∀ b o, b ≠ dx → h.get? b = some o → h'.get? b = some o) → h'.get? dx = some (dictOf (putL "spot" (PyData.keyHash w.params "spot") (.str "spot" k) v es) (putN "spot" es n)) → Q () ⟨h', g, d, tk, os⟩) :
    wpAny (model PR w) A (setAttr (.ref x) "spot" v) Q E ⟨h, g, d, t, os⟩ := by
  have SF := PySem.F.store_object
  have hC := X 76 _ (by k_is)
  have L1 : Looks (model PR w) h (typeOf (.ref x)) (.ref 76) := (Looks.ld hx).andThen .now
  have L2 := looks_findIn (M := model PR w) X (t := .ref 76) (name := "__setattr__") (r := some (.builtin "object.__setattr__")) (by k_is)
  have L3 := looks_findIn (M := model PR w) X (t := .ref 76) (name := "spot") (r := none) (by k_is)
  have L4 := tf_mro X
  have sub : Looks (model PR w) h (isInstance (.ref x) (.type "object")) true := L1.andThen (looks_subIn X (by k_is))
  refine wpAny_bind (wpAny_mkText (wpAny_bind (wpAny_bind (wpAny_bind (L1.at (L2.at (wpAny_holding ?_)))))))
  rw [SF.slot.bind]
  refine wpAny_bind (wpAny_pure (wpAny_bind (wpAny_call ?_)))
  refine codeAny_call_builtin SF.slot.plain SF.entry (@check_slot (model PR w) _ _ _ "object.__setattr__" "object" "__setattr__" (.ref x) [.str "spot" t, v] [] _ SF.kind SF.split sub (SF.args (.ref x) (.str "spot" t) v) ?_)
  show wpAny _ _ (Builtin.«object.__setattr__» ⟨[.ref x, .str "spot" t, v], []⟩) _ _ ⟨h, g, d, t + 1, os⟩
  rw [osa_eq, refuse_eq]
  refine wpAny_bind (wpAny_bind (L1.at (wpAny_bind (L4.at ?_))))
  rw [exc_passes]
  refine wpAny_pure (wpAny_bind (L1.at (wpAny_bind (L3.at ?_))))
  obtain ⟨cd, hcd, hdict⟩ : ∃ cd, clsIn (top.heap_1 w.params) 76 = some cd ∧ cd.hasDict = true := ⟨_, by k_is, rfl⟩
  refine wpAny_bind (wpAny_pure (wpAny_bind (wpAny_pure (wpAny_bind (wpAny_bind (wpAny_loadPart hx (wpAny_bind ((looks_clsIn X hcd).at ?_))))))))
  rw [hdict]
  refine wpAny_pure (a := some dx) ?_
  have hlen : ∀ (hs : Int) (k v : Value) (l : List DictEntry), (putL "spot" hs k v l).length ≤ l.length + 1 := by
    intro hs k v l
    induction l with
    | nil => exact Nat.le_refl _
    | cons a r ih =>
      unfold putL
      split
      · simp
      · simp only [List.length_cons]; ((first | with_reducible assumption | exact Mine.lim (by assumption) | exact Mine.lim0 (by assumption) | exact Mine.lim2 (by assumption) | exact Mine.lim3 (by assumption) | exact Mine.lme (by assumption) | exact Mine.lml (by assumption) | exact Mine.lll (by assumption) | decide | lia))
  have hz' := Nat.le_trans (hlen (PyData.keyHash w.params "spot") (.str "spot" (t + 1)) v es) (Nat.le_trans (Nat.succ_le_succ hz) (show 900 + 1 ≤ 1000 by decide))
  generalize hes : putL "spot" (PyData.keyHash w.params "spot") (.str "spot" (t + 1)) v es = es' at hz'
  refine store_in hdx hl (es' := es') (n' := putN "spot" es n) (by rw [hes]) hz' fun h' k1 k2 => ?_
  exact wpAny_pure (wpAny_pure (hk h' (t + 1) _ k1 (by rw [hes]; exact k2)))
end Mine
end
-- X6
section
namespace Mine
open PySem PySem.W PySem.Calls PyProof.Rows Builtin Builtin.ObjectAttr
set_option maxHeartbeats 1000000
local macro_rules | `(tactic| k_inst) => `(tactic| exact inst_exc (by k_asm) (by k_mem))
theorem keeps_mw {M : Model} {q x : Addr} (h : Heap) (e : h.get? q = some (mwObj x)) : ∃ k, (k = Keeper.frame ∨ k = Keeper.machine ∨ k = Keeper.boundFrame) ∧ Looks M h (keeperOf (.ref q)) k :=
  ⟨.machine, .inr (.inl rfl), (Looks.ld (part := none) e).andThen .now⟩
theorem callWith_mw {M : Model} {A : Around} {E : Value → Shared → Prop} {s : Shared} {env : Env} {pos : Pos} {q x : Addr} {Q : Value → Shared → Prop} {e : Expr} {rest : List Expr}
    (h : wpAny M A (spliced (backTo pos (starEach (e :: rest) env))) (fun vs s₁ => s₁.heap.get? q = some (mwObj x) ∧ wpAny M A (call (.ref q) ([] ++ vs)) Q E s₁) E s)
    (he : starEach (e :: rest) env = (false, eval e env) :: starEach rest env := by rfl) (hplain : (backTo pos (starEach rest env)).any (·.1) = false := by rfl) :
    wpAny M A (callWith pos (.ref q) [] (backTo pos (starEach (e :: rest) env)) []) Q E s := by
  rw [he] at h ⊢
  exact callWith_of (P := fun h => h.get? q = some (mwObj x)) (by show ((false || (backTo pos (starEach rest env)).any (·.1)) || false) = false; rw [hplain]; rfl) (fun h e => keeps_mw h e) (evalArgs_plain h)
theorem he_init {w : World} {mean : ExcName → Option Value} {mg mb : Str → Option Value} {base : Heap} {outer : List Env} {A : Around} {s : Shared} {R : Result → Shared → Prop}
    {x t0 : Addr} {a1 a2 a3 a4 a5 : Value} {mt : Str} {t : Tok}
    (C : Cx w mean mg mb base outer A s.heap) (hdep : A.depth + 3 < recursionLimit)
    (hx : MutAt base outer s.heap (x, ⟨.ref 76, none, .fields #[.ref t0, a1, a2, a3, a4, a5], #[]⟩))
    (hk : ∀ h' dx k tk tp, Upto [x] s.heap h' → h'.get? x = some ⟨.ref 76, some dx, .fields #[.ref tp, a1, a2, a3, a4, a5], #[]⟩ → s.heap.get? dx = none → h'.get? dx = some (dictOf [⟨PyData.keyHash w.params "what", .str "what" k, .str mt t⟩] 1) → R (.ok (.ret .none)) { s with heap := h', toks := tk }) :
    codeAny (model PR w) A (.call (.ref 37) ⟨[.ref x, .str mt t], []⟩) R s := by
  refine' enter_super [("self", .ref x), ("what", .str mt t)] C [(x, ⟨.ref 76, none, .fields #[.ref t0, a1, a2, a3, a4, a5], #[]⟩)] ?m ?k1 ?k2 ?k3 ?k4 ?k5 ?_ ?c2 ?c3 ?c4 ?c5
  case m => exact List.forall_mem_cons.mpr ⟨hx, List.forall_mem_nil _⟩
  case k1 => k_is
  case k2 => k_is
  case k3 => ((first | with_reducible assumption | exact Mine.lim (by assumption) | exact Mine.lim0 (by assumption) | exact Mine.lim2 (by assumption) | exact Mine.lim3 (by assumption) | exact Mine.lme (by assumption) | exact Mine.lml (by assumption) | exact Mine.lll (by assumption) | decide | lia))
  case k4 => exact BindsTo.of_eq rfl
  case k5 => exact locs rfl
  case c2 => exact rfl
  case c3 => exact rfl
  case c4 => exact rfl
  case c5 => decide
  intro g L' h₁ tk F N B X T hin hout hsz
  refine ks_wpAt_execs_cons ?_
  refine ks_wpAt_Expr_any ?_
  refine ks_wpAt_MethodCall ?_
  walk1
  rename_i so h2 F2 N2 lso
  have X2 := X.keeps F2.keep
  have hso := N2.get (.head _)
  have hx2 := N2.get (.tail _ (.head _))
  have hx76 : x ≠ 76 := by
    rintro rfl
    have := C.X 76 _ (by k_is)
    rw [hx.new] at this; cases this
  refine mine_getMethod (l := [.type "Exception", .type "BaseException", .type "object"]) (i := "Exception.__init__") (o := "Exception") hso (looks_opaque X2 (by k_is)) (tf_mro X2) rfl X2 (by kernel_rfl) (by show builtinType "Exception.__init__" = _; rw [builtinType_eq_fast]; kernel_rfl) hx76 (by decide) (by decide) (tf_subE X2) hx2 rfl ?_
  refine callWith_mw (x := x) ?_
  have F3 := F2.push (mwObj x)
  have N3 := N2.push F2 (mwObj x)
  clear F N F2 N2 hso hx2
  iterate 3 walk1
  refine ⟨N3.get (.head _), ?_⟩
  have X3 : (top.heap_1 w.params).In (h2.push (mwObj x)) := X.keeps F3.keep
  refine mw_call X3 (N3.get (.head _)) (N3.get (.tail _ (.tail _ (.head _)))) fun h3 k1 k2 k3 => ?_
  have qx := news_at N3 (.tail _ (.tail _ (.head _)))
  have u3 : Upto [x] (h2.push (mwObj x)) h3 := fun b o e n => k1 b o (fun q => n (by rw [q]; exact .head _)) e
  have F4 := fr_upto F3 u3 (fun a ha => by rw [List.mem_singleton.mp ha]; exact qx)
  have htp := fr_new F3 (at_size _)
  generalize hsp : (h2.push (mwObj x)).objs.size = tp at k2 k3 htp
  have N4 := news_cons k2 qx (news_nil (g := g) (L := L'))
  clear F3 N3 X3 k1 k3
  iterate 5 walk1
  have X4 : (top.heap_1 w.params).In h3 := X.keeps F4.keep
  have hmu : ∀ b o, s.heap.get? b = some o → b ∉ [x] → g.get? b = some o := fun b o e n => hin b o e (by simpa using n)
  have u4 := upto_of hmu F4
  refine exc_set0 X4 k2 fun h5 dx k' tk' q1 q2 q3 q4 => ?_
  have hdx : s.heap.get? dx = none := u4.fresh q1 fun q => by rw [List.mem_singleton.mp q, k2] at q1; cases q1
  have u5 : Upto [x] h3 h5 := fun b o e n => q2 b o (fun q => n (by rw [q]; exact .head _)) e
  dsimp only
  iterate 2 walk1
  exact hk h5 dx k' tk' tp (u4.trans u5) q3 hdx q4
theorem tf_init_spec {w : World} {mean : ExcName → Option Value} {mg mb : Str → Option Value} {base : Heap} {outer : List Env} {A : Around} {s : Shared} {R : Result → Shared → Prop}
    {x t0 : Addr} {a1 a2 a3 a4 a5 : Value} {mt : Str} {t t' : Tok} {sp : Int}
    (C : Cx w mean mg mb base outer A s.heap) (hdep : A.depth + 5 < recursionLimit)
    (hx : MutAt base outer s.heap (x, ⟨.ref 76, none, .fields #[.ref t0, a1, a2, a3, a4, a5], #[]⟩))
    (hk : ∀ h' dx k k' tk tp, Upto [x] s.heap h' → h'.get? x = some ⟨.ref 76, some dx, .fields #[.ref tp, a1, a2, a3, a4, a5], #[]⟩ → s.heap.get? dx = none → h'.get? dx = some (dictOf [⟨PyData.keyHash w.params "what", .str "what" k, .str mt t⟩, ⟨PyData.keyHash w.params "spot", .str "spot" k', .int sp t'⟩] 2) → R (.ok (.ret .none)) { s with heap := h', toks := tk }) :
    codeAny (model PR w) A (.call (.ref 66) ⟨[.ref x, .str mt t, .int sp t'], []⟩) R s := by
  refine' enter_super [("self", .ref x), ("what", .str mt t), ("spot", .int sp t')] C [(x, ⟨.ref 76, none, .fields #[.ref t0, a1, a2, a3, a4, a5], #[]⟩)] ?m ?k1 ?k2 ?k3 ?k4 ?k5 ?_ ?c2 ?c3 ?c4 ?c5
  case m => exact List.forall_mem_cons.mpr ⟨hx, List.forall_mem_nil _⟩
  case k1 => k_is
  case k2 => k_is
  case k3 => ((first | with_reducible assumption | exact Mine.lim (by assumption) | exact Mine.lim0 (by assumption) | exact Mine.lim2 (by assumption) | exact Mine.lim3 (by assumption) | exact Mine.lme (by assumption) | exact Mine.lml (by assumption) | exact Mine.lll (by assumption) | decide | lia))
  case k4 => exact BindsTo.of_eq rfl
  case k5 => exact locs rfl
  case c2 => exact rfl
  case c3 => exact rfl
  case c4 => exact rfl
  case c5 => decide
  intro g L' h₁ tk F N B X T hin hout hsz
  refine ks_wpAt_execs_cons ?_
  refine ks_wpAt_Expr_any ?_
  refine ks_wpAt_MethodCall ?_
  iterate 6 walk1
  rename_i so h2 F2 N2 lso q h3 F3 N3 lq
  refine ⟨methP N3 (.head _) (X.keeps F3.keep), ?_⟩
  have qx := news_at N3 (.tail _ (.tail _ (.head _)))
  refine call_meth N3 (.head _) (he_init (s := ⟨h3, _, _, _, _⟩) (cx_in C.X C.T B F3 rfl rfl (frames_cons B.stack)) ?_ (mut_in B rfl N3 (.tail _ (.tail _ (.head _)))) fun h4 dx k tk4 tp u4 e4 fdx edx => ?_)
  · show A.depth + 1 + 3 < _; ((first | with_reducible assumption | exact Mine.lim (by assumption) | exact Mine.lim0 (by assumption) | exact Mine.lim2 (by assumption) | exact Mine.lim3 (by assumption) | exact Mine.lme (by assumption) | exact Mine.lml (by assumption) | exact Mine.lll (by assumption) | decide | lia))
  have F4 := fr_upto F3 u4 (fun a ha => by rw [List.mem_singleton.mp ha]; exact qx)
  have gdx := (fr_new F3 fdx).2
  have N4 := news_cons e4 qx (news_cons edx (fr_new F3 fdx) (news_nil (g := g) (L := L')))
  clear F N F2 N2 F3 N3
  refine ks_wpAt_execs_cons ?_
  refine ks_wpAt_Assign_Attr ?_
  refine _root_.PySem.wpAt_of_wpAny ?_
  iterate 2 walk1
  have X4 : (top.heap_1 w.params).In h4 := X.keeps F4.keep
  have hmu : ∀ b o, s.heap.get? b = some o → b ∉ [x] → g.get? b = some o := fun b o e n => hin b o e (by simpa using n)
  have u5 := upto_of hmu F4
  have hne : dx ≠ x := by
    rintro rfl
    rw [e4] at edx
    cases edx
  have hdx0 : s.heap.get? dx = none := by
    cases z : s.heap.get? dx with
    | none => rfl
    | some o => rw [hmu dx o z (by simpa using hne)] at gdx; cases gdx
  refine exc_set1 X4 e4 edx rfl (Nat.le_of_ble_eq_true rfl) fun h6 k' tk' q2 q3 => ?_
  dsimp only
  refine _root_.PySem.wpAt_of_wpAny ?_
  walk1
  exact hk h6 dx k k' tk' tp (fun b o e n => q2 b o (fun q => by rw [q, hdx0] at e; cases e) (u5 b o e n)) (q2 _ _ (Ne.symm hne) e4) hdx0 q3
theorem tf_new {w : World} {mean : ExcName → Option Value} {mg mb : Str → Option Value} {base : Heap} {outer : List Env} {A : Around} {s : Shared} {R : Result → Shared → Prop}
    {mt : Str} {t t' : Tok} {sp : Int}
    (C : Cx w mean mg mb base outer A s.heap) (hdep : A.depth + 8 < recursionLimit)
    (hk : ∀ h' e dx k k' tk tp, Upto [] s.heap h' → s.heap.get? e = none → h'.get? e = some ⟨.ref 76, some dx, .fields #[.ref tp, .none, .none, .none, .bool false, .none], #[]⟩ → s.heap.get? dx = none → h'.get? dx = some (dictOf [⟨PyData.keyHash w.params "what", .str "what" k, .str mt t⟩, ⟨PyData.keyHash w.params "spot", .str "spot" k', .int sp t'⟩] 2) → R (.ok (.ret (.ref e))) { s with heap := h', toks := tk }) :
    codeAny (model PR w) A (.call (.ref 76) ⟨[.str mt t, .int sp t'], []⟩) R s := by
  obtain ⟨h, g, d, tk, os⟩ := s
  have X : (top.heap_1 w.params).In h := C.X.keeps C.B.stays
  refine tf_core X ?_
  have k : ∀ b o, h.get? b = some o → ((h.push { cls := .type "tuple", data := .seq #[.str mt t, .int sp t'] }).push { cls := .ref 76, data := .fields #[.ref h.objs.size, .none, .none, .none, .bool false, .none] }).get? b = some o := fun b o e => Heap.get?_push_of_some _ (Heap.get?_push_of_some _ e)
  have hx : ((h.push { cls := .type "tuple", data := .seq #[.str mt t, .int sp t'] }).push { cls := .ref 76, data := .fields #[.ref h.objs.size, .none, .none, .none, .bool false, .none] }).get? (h.objs.size + 1) = some { cls := .ref 76, data := .fields #[.ref h.objs.size, .none, .none, .none, .bool false, .none] } := by heap_get
  have hn : h.get? (h.objs.size + 1) = none := Heap.get?_none_of_le (Nat.le_succ _)
  refine tf_init_spec (base := base) (outer := outer) (t0 := h.objs.size) ⟨C.X, C.T, ?_⟩ ?_ ⟨hx, ?_, ?_⟩ fun h' dx k1 k2 tk' tp u e1 e2 e3 => ?_
  · exact ⟨C.B.stack, fun b o e => k b o (C.B.stays b o e), C.B.frames.of_keeps fun b o e _ => ⟨o, k b o e, rfl⟩⟩
  · show (A.under _).depth + 5 < _
    rw [depth_under_make]; ((first | with_reducible assumption | exact Mine.lim (by assumption) | exact Mine.lim0 (by assumption) | exact Mine.lim2 (by assumption) | exact Mine.lim3 (by assumption) | exact Mine.lme (by assumption) | exact Mine.lml (by assumption) | exact Mine.lll (by assumption) | decide | lia))
  · cases z : base.get? (h.objs.size + 1) with
    | none => rfl
    | some o => have := C.B.stays _ _ z; dsimp only at this; rw [hn] at this; cases this
  · intro q
    obtain ⟨o, ho, _⟩ := (C.B.frames.mem q).2
    dsimp only at ho
    rw [hn] at ho; cases ho
  · refine ⟨rfl, hk h' _ dx k1 k2 tk' tp (fun b o e n => u b o (k b o e) fun q => ?_) hn e1 ?_ e3⟩
    · rw [List.mem_singleton.mp q] at e
      dsimp only at e
      rw [hn] at e; cases e
    · cases z : h.get? dx with
      | none => rfl
      | some o => rw [k _ _ z] at e2; cases e2
end Mine
end
-- X7
section
namespace Mine
open PySem PySem.W PySem.Calls PyProof.Rows Builtin Builtin.ObjectAttr
set_option maxHeartbeats 1000000
noncomputable abbrev tfObj (dx tp : Addr) : Obj := ⟨.ref 76, some dx, .fields #[.ref tp, .none, .none, .none, .bool false, .none], #[]⟩
theorem tf_subB {w : World} {h : Heap} (X : (top.heap_1 w.params).In h) : Looks (model PR w) h (isSubtype (.ref 76) (.type "BaseException")) true := lk_of X (by kernel_rfl)
theorem raise_core {w : World} {A : Around} {E : Value → Shared → Prop} {env : Env} {Q : Flow → Shared → Prop} {x : Sem Value} {s : Shared} (hh : A.handled = none)
    (hx : wpAny (model PR w) A x (fun v s₁ => ∃ e dx tp, v = .ref e ∧ (top.heap_1 w.params).In s₁.heap ∧ s₁.heap.get? e = some (tfObj dx tp) ∧ E (.ref e) s₁) E s) :
    wpAny (model PR w) A (raiseStmt env (some x) none) Q E s := by
  unfold raiseStmt
  refine wpAny_bind (wpAny_mono hx (fun v s₁ h₁ => ?_) fun _ _ x => x)
  obtain ⟨e, dx, tp, rfl, X, he, hE⟩ := h₁
  obtain ⟨hp, g, d, tk, os⟩ := s₁
  dsimp only at X he
  have L1 : Looks (model PR w) hp (typeOf (.ref e)) (.ref 76) := (Looks.ld he).andThen .now
  have L2 := tf_subB X
  have hC := X 76 _ (by k_is)
  repeat (first | exact wpAny_raiseNew_none hh hE | lk)
end Mine
end
-- Y1
section
namespace Mine
open PySem PySem.W PySem.Calls PyProof.Rows
set_option maxHeartbeats 1000000
structure FlyC (c : Value) (stay : Heap) (l : List Env) (e de : Addr) (fl : Value) (h : Heap) : Prop where
  keep : stay.StaysIn h
  new : stay.get? e = none
  frames : h.FunFrames stay l
  tr : ∃ vs T oT ts sl, h.get? e = some ⟨.ref 76, some de, .fields vs, sl⟩ ∧ vs[1]? = some (.ref T) ∧ vs[2]? = some c ∧ stay.get? T = none ∧ T ≠ e ∧ h.get? T = some oT ∧ oT.data = .fields ts ∧ ts[3]? = some fl
noncomputable abbrev Fly (stay : Heap) (l : List Env) (e de : Addr) (fl : Value) (h : Heap) : Prop := FlyC .none stay l e de fl h
section
variable {M : Model} {A : Around} {E : Value → Shared → Prop} {s : Shared} {stay : Heap} {env : Env} {outer : List Env} {L e de : Addr} {Q : Unit → Shared → Prop} {c : Value}
theorem tf_entry {vs : Array Value} {sl : Array (Option Value)} {head : Value} {hadNext : Bool}
    (hfr : A.frames = some (env :: outer)) (hl : s.heap.FunFrames stay (env :: outer)) (hf : env.frame = some L)
    (he : s.heap.get? e = some ⟨.ref 76, some de, .fields vs, sl⟩) (hkb : stay.StaysIn s.heap) (hen : stay.get? e = none) (hsz : 1 < vs.size) (h2 : vs[2]? = some c)
    (h : ∀ h', FlyC c stay (env :: outer) e de (rawInt L) h' → s.heap.UpToSlots h' → Q () { s with heap := h' }) :
    wpAny M A (do let a ← frameOf env; let pl ← entryPlaceOf L hadNext; let b ← EntryCells.newEntry head a .none (rawInt L) .none pl; setField (.ref e) 1 b) Q E s := by
  have off : e ∉ (env :: outer).filterMap (·.frame) := fun hm => by
    obtain ⟨_, o, ho, hn⟩ := hl.mem hm
    rw [he] at ho
    exact hn vs (Option.some.inj ho ▸ rfl)
  refine wpAny_bind (wpAny_frameOf_fun hfr hl hf fun h₁ x₁ => ?_)
  refine wpAny_bind (wpAny_entryPlaceOf fun pl hpl => ?_)
  unfold EntryCells.newEntry newFields
  refine wpAny_bind (wpAny_newObj_type ?_ (hpl.sizeOk5 _ _ _ _ _))
  have he₁ : h₁.get? e = some ⟨.ref 76, some de, .fields vs, sl⟩ := (x₁.2.1 e off).trans he
  have k₁ : stay.StaysIn h₁ := fun b o hb => (x₁.2.1 b fun hm => by rw [(hl.mem hm).1] at hb; cases hb).trans (hkb b o hb)
  generalize htb : ({ cls := .type "traceback", dict := none, data := .fields ([head, .ref L, .none, rawInt L, .none] ++ (if pl.isEmpty then List.replicate 6 Value.none else pl)).toArray } : Obj) = tb
  have hfree : tb.isFreed = false := by rw [← htb]; rfl
  have he₂ := Heap.get?_push_of_some tb he₁
  refine wpAny_setField he₂ rfl hsz (h _ ?_ ?_)
  all_goals
    have hTe : h₁.objs.size ≠ e := Nat.ne_of_gt (Heap.lt_size he₁)
    have keep : ∀ b o, b ≠ e → h₁.get? b = some o → ((h₁.push tb).update e (Obj.mapFields (·.setIfInBounds 1 (.ref h₁.objs.size)))).get? b = some o := fun b o hb q =>
      (Heap.get?_update_other _ _ (Ne.symm hb)).trans (Heap.get?_push_of_some _ q)
    have nf : ∀ b o, s.heap.get? b = some o → (∀ vs, o.data ≠ .fields vs) → b ≠ e := fun b o q hn z => by
      rw [z, he] at q; exact hn vs (Option.some.inj q ▸ rfl)
  · refine ⟨fun b o hb => keep b o (fun q => by rw [q, hen] at hb; cases hb) (k₁ b o hb), hen, hl.of_keeps fun b o q hn => ?_, ?_⟩
    · obtain ⟨sl', q'⟩ := x₁.2.2 b o q
      exact ⟨_, keep b _ (nf b o q hn) q', rfl⟩
    · refine ⟨vs.setIfInBounds 1 (.ref h₁.objs.size), h₁.objs.size, tb, ([head, .ref L, .none, rawInt L, .none] ++ (if pl.isEmpty then List.replicate 6 Value.none else pl)).toArray, sl, ?_, by simp [hsz], ?_, k₁.fresh, hTe, ?_, by rw [← htb], ?_⟩
      · exact Heap.get?_update_self _ he₂ rfl
      · rw [Array.getElem?_setIfInBounds_ne (by decide)]; exact h2
      · exact (Heap.get?_update_other _ _ (Ne.symm hTe)).trans (Heap.get?_push_size h₁ hfree)
      · rcases hpl with rfl | ⟨_, _, _, _, _, _, _, rfl⟩ <;> simp
  · intro b o q hn
    obtain ⟨sl', q'⟩ := x₁.2.2 b o q
    exact ⟨sl', keep b _ (nf b o q hn) q'⟩
theorem tf_note0 {vs : Array Value} {sl : Array (Option Value)}
    (hfr : A.frames = some (env :: outer)) (hl : s.heap.FunFrames stay (env :: outer)) (hf : env.frame = some L)
    (he : s.heap.get? e = some ⟨.ref 76, some de, .fields vs, sl⟩) (hkb : stay.StaysIn s.heap) (hen : stay.get? e = none) (h1 : vs[1]? = some .none) (h2 : vs[2]? = some c)
    (h : ∀ h', FlyC c stay (env :: outer) e de (rawInt L) h' → s.heap.UpToSlots h' → Q () { s with heap := h' }) :
    wpAny M A (noteFrame (.ref e) env) Q E s := by
  unfold noteFrame
  simp only [hf]
  refine wpAny_bind (wpAny_field he rfl h1 ?_)
  rw [if_neg (by decide)]
  exact tf_entry hfr hl hf he hkb hen (Array.getElem?_eq_some_iff.mp h1).1 h2 h
theorem tf_note (hfr : A.frames = some (env :: outer)) (hf : env.frame = some L) (hy : FlyC c stay (env :: outer) e de .none s.heap)
    (h : ∀ h', FlyC c stay (env :: outer) e de (rawInt L) h' → s.heap.UpToSlots h' → Q () { s with heap := h' }) :
    wpAny M A (noteFrame (.ref e) env) Q E s := by
  obtain ⟨hkb, hen, hl, vs, T, oT, ts, sl, he, h1, h2, hnT, hTe, hT, hdT, h3⟩ := hy
  unfold noteFrame
  simp only [hf]
  refine wpAny_bind (wpAny_field he rfl h1 ?_)
  rw [if_pos (show (Value.ref T != Value.none) = true from by simp)]
  refine wpAny_bind (wpAny_field hT hdT h3 ?_)
  rw [if_neg (show ¬ ((Value.none == rawInt L) = true) from by simp [rawInt])]
  refine wpAny_bind (wpAny_setField hT hdT (Array.getElem?_eq_some_iff.mp h3).1 ?_)
  have other : ∀ b, b ≠ T → (s.heap.update T (Obj.mapFields (·.setIfInBounds 3 Value.none))).get? b = s.heap.get? b := fun b hb => Heap.get?_update_other _ _ (Ne.symm hb)
  have nf : ∀ b o, s.heap.get? b = some o → (∀ vs, o.data ≠ .fields vs) → b ≠ T := fun b o q hn z => by
    rw [z, hT] at q; exact hn ts (Option.some.inj q ▸ hdT)
  refine tf_entry hfr (hl.of_keeps fun b o q hn => ⟨o, (other b (nf b o q hn)).trans q, rfl⟩) hf ((other e (Ne.symm hTe)).trans he)
    (fun b o q => (other b fun z => by rw [z, hnT] at q; cases q).trans (hkb b o q)) hen (Array.getElem?_eq_some_iff.mp h1).1 h2
    fun h' y u => h h' y fun b o q hn => u b o ((other b (nf b o q hn)).trans q) hn
theorem tf_noteAgain (hf : env.frame = some L) (hy : FlyC c stay (env :: outer) e de (rawInt L) s.heap) (h : Q () s) : wpAny M A (noteFrame (.ref e) env) Q E s := by
  obtain ⟨hkb, hen, hl, vs, T, oT, ts, sl, he, h1, h2, hnT, hTe, hT, hdT, h3⟩ := hy
  unfold noteFrame
  simp only [hf]
  refine wpAny_bind (wpAny_field he rfl h1 ?_)
  rw [if_pos (show (Value.ref T != Value.none) = true from by simp)]
  refine wpAny_bind (wpAny_field hT hdT h3 ?_)
  rw [if_pos (show (rawInt L == rawInt L) = true from by simp)]
  exact wpAny_pure h
theorem tf_land {l : List Env} {fl : Value} (hy : FlyC c stay l e de fl s.heap) (h : ∀ h', FlyC c stay l e de .none h' → s.heap.UpToSlots h' → Q () { s with heap := h' }) : wpAny M A (setFlight (.ref e) none) Q E s := by
  obtain ⟨hkb, hen, hl, vs, T, oT, ts, sl, he, h1, h2, hnT, hTe, hT, hdT, h3⟩ := hy
  have other : ∀ b, b ≠ T → (s.heap.update T (Obj.mapFields (·.setIfInBounds 3 Value.none))).get? b = s.heap.get? b := fun b hb => Heap.get?_update_other _ _ (Ne.symm hb)
  have nf : ∀ b o, s.heap.get? b = some o → (∀ vs, o.data ≠ .fields vs) → b ≠ T := fun b o q hn z => by
    rw [z, hT] at q; exact hn ts (Option.some.inj q ▸ hdT)
  unfold setFlight
  refine wpAny_bind (wpAny_field he rfl h1 ?_)
  rw [if_pos (show (Value.ref T != Value.none) = true from by simp)]
  have hd := Obj.data_mapFields hdT (·.setIfInBounds 3 Value.none)
  refine wpAny_setField hT hdT (Array.getElem?_eq_some_iff.mp h3).1 (h _ ⟨fun b o q => (other b fun z => by rw [z, hnT] at q; cases q).trans (hkb b o q), hen, hl.of_keeps fun b o q hn => ⟨o, (other b (nf b o q hn)).trans q, rfl⟩,
    vs, T, _, _, sl, (other e (Ne.symm hTe)).trans he, h1, h2, hnT, hTe, Heap.get?_update_self _ hT (Obj.isFreed_of_fields hd), hd, ?_⟩ fun b o q hn => ⟨o.slots, (other b (nf b o q hn)).trans q⟩)
  simp [(Array.getElem?_eq_some_iff.mp h3).1]
theorem tf_leave (hfr : A.frames = some (env :: outer)) (hf : env.frame = some L) (hy : FlyC c stay (env :: outer) e de .none s.heap)
    (h : ∀ h', FlyC c stay outer e de .none h' → s.heap.UpToSlots h' → Q () { s with heap := h' }) : wpAny M A (leaving env (.ref e)) Q E s := by
  unfold leaving
  refine wpAny_bind (tf_note hfr hf hy fun h₁ y₁ u₁ => ?_)
  refine tf_land y₁ fun h₂ y₂ u₂ => h h₂ ?_ (u₁.trans u₂)
  obtain ⟨a1, a2, ⟨_, _, a3⟩, a4⟩ := y₂
  exact ⟨a1, a2, a3, a4⟩
theorem tf_leaveHeld (hf : env.frame = some L) (hy : FlyC c stay (env :: outer) e de (rawInt L) s.heap)
    (h : ∀ h', FlyC c stay outer e de .none h' → s.heap.UpToSlots h' → Q () { s with heap := h' }) : wpAny M A (leaving env (.ref e)) Q E s := by
  unfold leaving
  refine wpAny_bind (tf_noteAgain hf hy ?_)
  refine tf_land hy fun h₂ y₂ u₂ => h h₂ ?_ u₂
  obtain ⟨a1, a2, ⟨_, _, a3⟩, a4⟩ := y₂
  exact ⟨a1, a2, a3, a4⟩
theorem tf_leave0 {vs : Array Value} {sl : Array (Option Value)}
    (hfr : A.frames = some (env :: outer)) (hl : s.heap.FunFrames stay (env :: outer)) (hf : env.frame = some L)
    (he : s.heap.get? e = some ⟨.ref 76, some de, .fields vs, sl⟩) (hkb : stay.StaysIn s.heap) (hen : stay.get? e = none) (h1 : vs[1]? = some .none) (h2 : vs[2]? = some c)
    (h : ∀ h', FlyC c stay outer e de .none h' → s.heap.UpToSlots h' → Q () { s with heap := h' }) : wpAny M A (leaving env (.ref e)) Q E s := by
  unfold leaving
  refine wpAny_bind (tf_note0 hfr hl hf he hkb hen h1 h2 fun h₁ y₁ u₁ => ?_)
  refine tf_land y₁ fun h₂ y₂ u₂ => h h₂ ?_ (u₁.trans u₂)
  obtain ⟨a1, a2, ⟨_, _, a3⟩, a4⟩ := y₂
  exact ⟨a1, a2, a3, a4⟩
theorem tf_hold {l : List Env} {fl : Value} (hf : env.frame = some L) (hy : FlyC c stay l e de fl s.heap) (h : ∀ h', FlyC c stay l e de (rawInt L) h' → s.heap.UpToSlots h' → Q () { s with heap := h' }) : wpAny M A (setFlight (.ref e) env.frame) Q E s := by
  obtain ⟨hkb, hen, hl, vs, T, oT, ts, sl, he, h1, h2, hnT, hTe, hT, hdT, h3⟩ := hy
  have other : ∀ b, b ≠ T → (s.heap.update T (Obj.mapFields (·.setIfInBounds 3 (rawInt L)))).get? b = s.heap.get? b := fun b hb => Heap.get?_update_other _ _ (Ne.symm hb)
  have nf : ∀ b o, s.heap.get? b = some o → (∀ vs, o.data ≠ .fields vs) → b ≠ T := fun b o q hn z => by
    rw [z, hT] at q; exact hn ts (Option.some.inj q ▸ hdT)
  unfold setFlight
  rw [hf]
  refine wpAny_bind (wpAny_field he rfl h1 ?_)
  rw [if_pos (show (Value.ref T != Value.none) = true from by simp)]
  have hd := Obj.data_mapFields hdT (·.setIfInBounds 3 (rawInt L))
  refine wpAny_setField hT hdT (Array.getElem?_eq_some_iff.mp h3).1 (h _ ⟨fun b o q => (other b fun z => by rw [z, hnT] at q; cases q).trans (hkb b o q), hen, hl.of_keeps fun b o q hn => ⟨o, (other b (nf b o q hn)).trans q, rfl⟩,
    vs, T, _, _, sl, (other e (Ne.symm hTe)).trans he, h1, h2, hnT, hTe, Heap.get?_update_self _ hT (Obj.isFreed_of_fields hd), hd, ?_⟩ fun b o q hn => ⟨o.slots, (other b (nf b o q hn)).trans q⟩)
  simp [(Array.getElem?_eq_some_iff.mp h3).1]
theorem tf_passOn {l : List Env} {fl : Value} {what : String} {α : Type} {Q : α → Shared → Prop} (hf : env.frame = some L) (hy : FlyC c stay l e de fl s.heap) (h : ∀ h', FlyC c stay l e de (rawInt L) h' → s.heap.UpToSlots h' → E (.ref e) { s with heap := h' }) : wpAny M A (PySem.passOn what (.ref e) env : Sem α) Q E s := by
  obtain ⟨hkb, hen, hl, vs, T, oT, ts, sl, he, h1, h2, hnT, hTe, hT, hdT, h3⟩ := id hy
  unfold PySem.passOn
  refine wpAny_bind (wpAny_field he rfl h1 ?_)
  rw [if_neg (show ¬ (Value.ref T == Value.none) = true from by simp)]
  exact wpAny_bind (tf_hold hf hy fun h' y u => wpAny_throw (h h' y u))
theorem tf_cameBack {l : List Env} {fl : Value} (hf : env.frame = some L) (hy : FlyC c stay l e de fl s.heap) (h : ∀ h', FlyC c stay l e de (rawInt L) h' → s.heap.UpToSlots h' → E (.ref e) { s with heap := h' }) : cameBackBy M A env E (.ref e) s := by
  obtain ⟨hkb, hen, hl, vs, T, oT, ts, sl, he, h1, h2, hnT, hTe, hT, hdT, h3⟩ := id hy
  unfold cameBackBy
  refine wpAny_bind (wpAny_field he rfl h1 ?_)
  rw [if_neg (show ¬ (Value.ref T == Value.none) = true from by simp)]
  exact tf_hold hf hy fun h' y u => h h' y u
end
end Mine
end
-- R1
section
namespace Mine
open PySem PySem.W PySem.Calls PyProof.Rows
set_option maxHeartbeats 1000000
theorem news_upto {g h h' : Heap} {L : Addr} {news : List (Addr × Obj)} (N : News g L h news) (u : Upto [] h h') : News g L h' news := fun p hp => ⟨u _ _ (N p hp).1 (List.not_mem_nil), (N p hp).2⟩
theorem news_swap {g h h' : Heap} {L d : Addr} {o o' : Obj} {pre post : List (Addr × Obj)} (N : News g L h (pre ++ (d, o) :: post)) (u : Upto [d] h h') (e : h'.get? d = some o') (h1 : ∀ p ∈ pre, p.1 ≠ d) (h2 : ∀ p ∈ post, p.1 ≠ d) : News g L h' (pre ++ (d, o') :: post) := fun p hp => by
  rcases List.mem_append.mp hp with q | q
  · have := N p (List.mem_append_left _ q)
    exact ⟨u _ _ this.1 (by simpa using h1 p q), this.2⟩
  · rcases List.mem_cons.mp q with rfl | q
    · exact ⟨e, (N (d, o) (by simp)).2⟩
    · have := N p (List.mem_append_right _ (.tail _ q))
      exact ⟨u _ _ this.1 (by simpa using h2 p q), this.2⟩
theorem ne_obj {h : Heap} {a b : Addr} {o o' : Obj} (x : h.get? a = some o) (y : h.get? b = some o') (n : o.cls ≠ o'.cls) : a ≠ b := by
  rintro rfl
  rw [x] at y
  exact n (congrArg Obj.cls (Option.some.inj y))
structure RdK where
  (k1 k2 k3 k4 t2 t3 t4 : Tok)
noncomputable abbrev rdL (P : Params) (k1 k2 k3 k4 t2 t3 t4 : Tok) (wl : Addr) (pl dp : Nat) : List DictEntry :=
  [⟨PyData.keyHash P "words", .str "words" k1, .ref wl⟩, ⟨PyData.keyHash P "place", .str "place" k2, .int pl t2⟩, ⟨PyData.keyHash P "deep", .str "deep" k3, .int dp t3⟩, ⟨PyData.keyHash P "most", .str "most" k4, .int 40 t4⟩]
noncomputable abbrev rdEs (P : Params) (K : RdK) (wl : Addr) (pl dp : Nat) : List DictEntry := rdL P K.k1 K.k2 K.k3 K.k4 K.t2 K.t3 K.t4 wl pl dp
structure Words (h : Heap) (wl : Addr) (ws : List (Str × Nat)) : Prop where
  its : ∃ vs : List Value, h.IsList wl vs.toArray ∧ vs.length = ws.length ∧ ∀ (i : Nat) (u : Str) (p : Nat), ws[i]? = some (u, p) → ∃ tp t t', vs[i]? = some (.ref tp) ∧ IsTup h tp [Value.str u t, Value.int p t'].toArray
noncomputable def KeepLT (h h' : Heap) : Prop := ∀ b o, h.get? b = some o → (o.cls = .type "list" ∨ o.cls = .type "tuple") → h'.get? b = some o
theorem KeepLT.of {h h' : Heap} (k : ∀ b o, h.get? b = some o → h'.get? b = some o) : KeepLT h h' := fun b o e _ => k b o e
theorem Words.keeps {h h' : Heap} {wl : Addr} {ws : List (Str × Nat)} (W : Words h wl ws) (k : KeepLT h h') : Words h' wl ws := by
  obtain ⟨vs, ⟨o, ho, hc, r⟩, hl, hi⟩ := W.its
  refine ⟨vs, ⟨o, k _ _ ho (.inl hc), hc, r⟩, hl, fun i u p e => ?_⟩
  obtain ⟨tp, t, t', e1, ⟨o2, ho2, hc2, r2⟩⟩ := hi i u p e
  exact ⟨tp, t, t', e1, o2, k _ _ ho2 (.inr hc2), hc2, r2⟩
theorem in_g {base g h : Heap} {outer : List Env} {mu : List (Addr × Obj)} (hm : ∀ p ∈ mu, MutAt base outer h p) (hin : ∀ b o, h.get? b = some o → b ∉ mu.map (·.1) → g.get? b = some o)
    (hc : ∀ p ∈ mu, p.2.cls ≠ .type "list" ∧ p.2.cls ≠ .type "tuple") : KeepLT h g := fun b o e c => hin b o e fun q => by
  obtain ⟨p, hp, rfl⟩ := List.mem_map.mp q
  have := (hm p hp).at_
  rw [e] at this
  cases this
  exact c.elim (hc p hp).1 (hc p hp).2
theorem item_list {prog : Program} {w : World} {A : Around} {E : Value → Shared → Prop} {s : Shared} {value slice : PySem.Expr} {l : Addr} {vs : List Value} {k : Int} {u : Tok} {v : Value} {Q : Value → Shared → Prop}
    (hl : s.heap.IsList l vs.toArray) (h0 : 0 ≤ k) (hhi : k < 2 ^ 63) (hx : vs[k.toNat]? = some v) (h : Q v s)
    (hs : subscripted slice false (.ref l) (.int k u) = operate [.ref l, .int k u] (getItem (.ref l) (.int k u)) := by with_unfolding_all rfl) :
    wpAny (model prog w) A (subscriptTail value slice (.ref l) (.int k u)) Q E s :=
  tail_any hl.typeIs slot_list_getitem.lookup (wpAny_getItem_list hl h0 hhi (by simpa using hx) h) hs
structure RdAt (P : Params) (base : Heap) (outer : List Env) (h : Heap) (x dx wl : Addr) (pl dp : Nat) : Prop where
  inst : MutAt base outer h (x, instObj 258 dx)
  dict : ∃ K, MutAt base outer h (dx, dictOf (rdEs P K wl pl dp) 4)
theorem upto_end {base g h h' : Heap} {outer : List Env} {L : Addr} {m : Str → Option Value} {mu news : List (Addr × Obj)} (hm : ∀ p ∈ mu, MutAt base outer h p) (hin : ∀ b o, h.get? b = some o → b ∉ mu.map (·.1) → g.get? b = some o)
    (F : Fr g L h' m) (N : News g L h' news) (M : List Addr) (hs : ∀ p ∈ mu, p.1 ∈ M ∨ p ∈ news) : Upto M h h' := fun b o e n => by
  by_cases q : b ∈ mu.map (·.1)
  · obtain ⟨p, hp, rfl⟩ := List.mem_map.mp q
    have := (hm p hp).at_
    rw [e] at this
    cases this
    rcases hs p hp with z | z
    · exact absurd z n
    · exact (N p z).1
  · exact F.keep b o (hin b o e q)
theorem RdAt.mu {P : Params} {base : Heap} {outer : List Env} {h : Heap} {x dx wl : Addr} {pl dp : Nat} (r : RdAt P base outer h x dx wl pl dp) :
    ∃ K, (∀ p ∈ [(x, instObj 258 dx), (dx, dictOf (rdEs P K wl pl dp) 4)], MutAt base outer h p) ∧ x ≠ dx := by
  obtain ⟨hx, K, hdx⟩ := r
  exact ⟨K, List.forall_mem_cons.mpr ⟨hx, List.forall_mem_cons.mpr ⟨hdx, List.forall_mem_nil _⟩⟩, ne_obj hx.at_ hdx.at_ (by simp)⟩
theorem rd_cls {P : Params} {K : RdK} {x dx wl : Addr} {pl dp : Nat} : ∀ p ∈ [(x, instObj 258 dx), (dx, dictOf (rdEs P K wl pl dp) 4)], p.2.cls ≠ .type "list" ∧ p.2.cls ≠ .type "tuple" :=
  List.forall_mem_cons.mpr ⟨⟨nofun, nofun⟩, List.forall_mem_cons.mpr ⟨⟨by simp, by simp⟩, List.forall_mem_nil _⟩⟩
section
variable {w : World} {mean : ExcName → Option Value} {mg mb : Str → Option Value} {base : Heap} {outer : List Env} {A : Around} {s : Shared} {R : Result → Shared → Prop}
    {x dx wl : Addr} {pl dp : Nat} {ws : List (Str × Nat)} {u : Str} {p : Nat}
theorem word_spec (C : Cx w mean mg mb base outer A s.heap) (hdep : A.depth + 1 < recursionLimit)
    (hr : RdAt w.params base outer s.heap x dx wl pl dp) (W : Words s.heap wl ws) (hw : ws[pl]? = some (u, p)) (hb : pl < 2 ^ 60)
    (hk : ∀ h' t tk, Upto [] s.heap h' → R (.ok (.ret (.str u t))) { s with heap := h', toks := tk }) :
    codeAny (model PR w) A (.call (.ref 166) ⟨[.ref x], []⟩) R s := by
  obtain ⟨K, hm, hne⟩ := hr.mu
  refine' enter_fn [("self", .ref x)] C [(x, instObj 258 dx), (dx, (dictOf (rdEs w.params K wl pl dp) 4))] hm ?k1 ?k2 ?k3 ?k4 ?k5 ?_ ?c2 ?c3 ?c4 ?c5
  ((case k1 => k_is); (case k2 => k_is); (case k3 => ((first | with_reducible assumption | exact Mine.lim (by assumption) | exact Mine.lim0 (by assumption) | exact Mine.lim2 (by assumption) | exact Mine.lim3 (by assumption) | exact Mine.lme (by assumption) | exact Mine.lml (by assumption) | exact Mine.lll (by assumption) | decide | lia))); (case k4 => exact BindsTo.of_eq rfl); (case k5 => exact locs rfl); (case c2 => exact rfl); (case c3 => exact rfl); (case c4 => exact rfl); (case c5 => decide))
  intro g L' h₁ tk F N B X T hin hout hsz
  obtain ⟨vs, hl, hlen, hi⟩ := (W.keeps (in_g hm hin rd_cls)).its
  obtain ⟨tp, t, t', e1, e2⟩ := hi pl u p hw
  k_fold
  (repeat' ((fail_if_success with_reducible first|refine zz1 ?_|refine zz2 ?_); first | (k_unfold; (try dsimp only)) | (walk1; (all_goals (try dsimp only))) | (dsimp only; walk1; (all_goals (try dsimp only)))))
  refine item_list (stays_list F.keep hl) (by ((first | with_reducible assumption | exact Mine.lim (by assumption) | exact Mine.lim0 (by assumption) | exact Mine.lim2 (by assumption) | exact Mine.lim3 (by assumption) | exact Mine.lme (by assumption) | exact Mine.lml (by assumption) | exact Mine.lll (by assumption) | decide | lia))) (by ((first | with_reducible assumption | exact Mine.lim (by assumption) | exact Mine.lim0 (by assumption) | exact Mine.lim2 (by assumption) | exact Mine.lim3 (by assumption) | exact Mine.lme (by assumption) | exact Mine.lml (by assumption) | exact Mine.lll (by assumption) | decide | lia))) (by simpa using e1) ?_
  (repeat' ((fail_if_success with_reducible first|refine zz1 ?_|refine zz2 ?_); first | (k_unfold; (try dsimp only)) | (walk1; (all_goals (try dsimp only))) | (dsimp only; walk1; (all_goals (try dsimp only)))))
  refine item_tupleT (IsTup.keeps e2 F.keep) (by decide) (by decide) rfl rfl ?_
  (repeat' ((fail_if_success with_reducible first|refine zz1 ?_|refine zz2 ?_); first | (k_unfold; (try dsimp only)) | (walk1; (all_goals (try dsimp only))) | (dsimp only; walk1; (all_goals (try dsimp only)))))
  exact hk _ _ _ (upto_end hm hin F N [] (List.forall_mem_cons.mpr ⟨.inr (.head _), List.forall_mem_cons.mpr ⟨.inr (.tail _ (.head _)), List.forall_mem_nil _⟩⟩))
theorem spot_spec (C : Cx w mean mg mb base outer A s.heap) (hdep : A.depth + 1 < recursionLimit)
    (hr : RdAt w.params base outer s.heap x dx wl pl dp) (W : Words s.heap wl ws) (hw : ws[pl]? = some (u, p)) (hb : pl < 2 ^ 60)
    (hk : ∀ h' t tk, Upto [] s.heap h' → R (.ok (.ret (.int p t))) { s with heap := h', toks := tk }) :
    codeAny (model PR w) A (.call (.ref 173) ⟨[.ref x], []⟩) R s := by
  obtain ⟨K, hm, hne⟩ := hr.mu
  refine' enter_fn [("self", .ref x)] C [(x, instObj 258 dx), (dx, (dictOf (rdEs w.params K wl pl dp) 4))] hm ?k1 ?k2 ?k3 ?k4 ?k5 ?_ ?c2 ?c3 ?c4 ?c5
  ((case k1 => k_is); (case k2 => k_is); (case k3 => ((first | with_reducible assumption | exact Mine.lim (by assumption) | exact Mine.lim0 (by assumption) | exact Mine.lim2 (by assumption) | exact Mine.lim3 (by assumption) | exact Mine.lme (by assumption) | exact Mine.lml (by assumption) | exact Mine.lll (by assumption) | decide | lia))); (case k4 => exact BindsTo.of_eq rfl); (case k5 => exact locs rfl); (case c2 => exact rfl); (case c3 => exact rfl); (case c4 => exact rfl); (case c5 => decide))
  intro g L' h₁ tk F N B X T hin hout hsz
  obtain ⟨vs, hl, hlen, hi⟩ := (W.keeps (in_g hm hin rd_cls)).its
  obtain ⟨tp, t, t', e1, e2⟩ := hi pl u p hw
  k_fold
  (repeat' ((fail_if_success with_reducible first|refine zz1 ?_|refine zz2 ?_); first | (k_unfold; (try dsimp only)) | (walk1; (all_goals (try dsimp only))) | (dsimp only; walk1; (all_goals (try dsimp only)))))
  refine item_list (stays_list F.keep hl) (by ((first | with_reducible assumption | exact Mine.lim (by assumption) | exact Mine.lim0 (by assumption) | exact Mine.lim2 (by assumption) | exact Mine.lim3 (by assumption) | exact Mine.lme (by assumption) | exact Mine.lml (by assumption) | exact Mine.lll (by assumption) | decide | lia))) (by ((first | with_reducible assumption | exact Mine.lim (by assumption) | exact Mine.lim0 (by assumption) | exact Mine.lim2 (by assumption) | exact Mine.lim3 (by assumption) | exact Mine.lme (by assumption) | exact Mine.lml (by assumption) | exact Mine.lll (by assumption) | decide | lia))) (by simpa using e1) ?_
  (repeat' ((fail_if_success with_reducible first|refine zz1 ?_|refine zz2 ?_); first | (k_unfold; (try dsimp only)) | (walk1; (all_goals (try dsimp only))) | (dsimp only; walk1; (all_goals (try dsimp only)))))
  refine item_tupleT (IsTup.keeps e2 F.keep) (by decide) (by decide) rfl rfl ?_
  (repeat' ((fail_if_success with_reducible first|refine zz1 ?_|refine zz2 ?_); first | (k_unfold; (try dsimp only)) | (walk1; (all_goals (try dsimp only))) | (dsimp only; walk1; (all_goals (try dsimp only)))))
  exact hk _ _ _ (upto_end hm hin F N [] (List.forall_mem_cons.mpr ⟨.inr (.head _), List.forall_mem_cons.mpr ⟨.inr (.tail _ (.head _)), List.forall_mem_nil _⟩⟩))
theorem rd_moved {h h' : Heap} {k1 k2 k3 k4 t2 t3 t4 : Tok} {pl' dp' : Nat} (hr : RdAt w.params base outer h x dx wl pl dp) (u : Upto [dx] h h')
    (e : h'.get? dx = some (dictOf (rdL w.params k1 k2 k3 k4 t2 t3 t4 wl pl' dp') 4)) : RdAt w.params base outer h' x dx wl pl' dp' := by
  obtain ⟨_, hm, hne⟩ := hr.mu
  obtain ⟨a, b, c⟩ := hr.inst
  obtain ⟨_, d, e', f⟩ := hr.dict
  exact ⟨⟨u _ _ a (by simpa using hne), b, c⟩, ⟨k1, k2, k3, k4, t2, t3, t4⟩, ⟨e, e', f⟩⟩
theorem take_spec (C : Cx w mean mg mb base outer A s.heap) (hdep : A.depth + 1 < recursionLimit)
    (hr : RdAt w.params base outer s.heap x dx wl pl dp) (W : Words s.heap wl ws) (hw : ws[pl]? = some (u, p)) (hb : pl < 2 ^ 60)
    (hk : ∀ h' t tk, Upto [dx] s.heap h' → RdAt w.params base outer h' x dx wl (pl + 1) dp → R (.ok (.ret (.str u t))) { s with heap := h', toks := tk }) :
    codeAny (model PR w) A (.call (.ref 180) ⟨[.ref x], []⟩) R s := by
  obtain ⟨K, hm, hne⟩ := hr.mu
  refine' enter_fn [("self", .ref x)] C [(x, instObj 258 dx), (dx, (dictOf (rdEs w.params K wl pl dp) 4))] hm ?k1 ?k2 ?k3 ?k4 ?k5 ?_ ?c2 ?c3 ?c4 ?c5
  ((case k1 => k_is); (case k2 => k_is); (case k3 => ((first | with_reducible assumption | exact Mine.lim (by assumption) | exact Mine.lim0 (by assumption) | exact Mine.lim2 (by assumption) | exact Mine.lim3 (by assumption) | exact Mine.lme (by assumption) | exact Mine.lml (by assumption) | exact Mine.lll (by assumption) | decide | lia))); (case k4 => exact BindsTo.of_eq rfl); (case k5 => exact locs rfl); (case c2 => exact rfl); (case c3 => exact rfl); (case c4 => exact rfl); (case c5 => decide))
  intro g L' h₁ tk F N B X T hin hout hsz
  obtain ⟨vs, hl, hlen, hi⟩ := (W.keeps (in_g hm hin rd_cls)).its
  obtain ⟨tp, t, t', e1, e2⟩ := hi pl u p hw
  k_fold
  (repeat' ((fail_if_success with_reducible first|refine zz1 ?_|refine zz2 ?_); first | (k_unfold; (try dsimp only)) | (walk1; (all_goals (try dsimp only))) | (dsimp only; walk1; (all_goals (try dsimp only)))))
  rename_i h2 F2 N2
  have e3 : vs[((pl : Int) + 1 - 1).toNat]? = some (.ref tp) := by rw [show ((pl : Int) + 1 - 1).toNat = pl by ((first | with_reducible assumption | exact Mine.lim (by assumption) | exact Mine.lim0 (by assumption) | exact Mine.lim2 (by assumption) | exact Mine.lim3 (by assumption) | exact Mine.lme (by assumption) | exact Mine.lml (by assumption) | exact Mine.lll (by assumption) | decide | lia))]; exact e1
  refine item_list (stays_list F2.keep hl) (by ((first | with_reducible assumption | exact Mine.lim (by assumption) | exact Mine.lim0 (by assumption) | exact Mine.lim2 (by assumption) | exact Mine.lim3 (by assumption) | exact Mine.lme (by assumption) | exact Mine.lml (by assumption) | exact Mine.lll (by assumption) | decide | lia))) (by ((first | with_reducible assumption | exact Mine.lim (by assumption) | exact Mine.lim0 (by assumption) | exact Mine.lim2 (by assumption) | exact Mine.lim3 (by assumption) | exact Mine.lme (by assumption) | exact Mine.lml (by assumption) | exact Mine.lll (by assumption) | decide | lia))) e3 ?_
  (repeat' ((fail_if_success with_reducible first|refine zz1 ?_|refine zz2 ?_); first | (k_unfold; (try dsimp only)) | (walk1; (all_goals (try dsimp only))) | (dsimp only; walk1; (all_goals (try dsimp only)))))
  refine item_tupleT (IsTup.keeps e2 F2.keep) (by decide) (by decide) rfl rfl ?_
  (repeat' ((fail_if_success with_reducible first|refine zz1 ?_|refine zz2 ?_); first | (k_unfold; (try dsimp only)) | (walk1; (all_goals (try dsimp only))) | (dsimp only; walk1; (all_goals (try dsimp only)))))
  have u := upto_end hm hin F2 N2 [dx] (List.forall_mem_cons.mpr ⟨.inr (.head _), List.forall_mem_cons.mpr ⟨.inl (.head _), List.forall_mem_nil _⟩⟩)
  exact hk _ _ _ u (rd_moved hr u (N2.get (.tail _ (.head _))))
end
end Mine
end
-- I1
section
namespace Mine
open PySem PySem.W PySem.Calls PyProof.Rows
set_option maxHeartbeats 1000000
section
variable {w : World} {mean : ExcName → Option Value} {mg mb : Str → Option Value} {base : Heap} {outer : List Env} {A : Around} {s : Shared} {R : Result → Shared → Prop}
noncomputable def opBad (c : Str) : Bool := Txt.isspace c || !(Builtin.Str.occurrences "()[]{},:" c 0 ("()[]{},:" : Str).length 1).isEmpty
noncomputable def isOp (x : Str) : Bool := x != "" && ((signs x).filter opBad).isEmpty
theorem lay_strs : ∀ {l : List Str}, (∀ c ∈ l, PyData.strOk c = true) → PyData.canLayAll0 (l.map fun x => .str x) = true ∧ PyData.depthAll (l.map fun x => PyData.str x) = 0
  | [], _ => ⟨rfl, rfl⟩
  | c :: l, h => by
    obtain ⟨a, b⟩ := lay_strs (l := l) fun d hd => h d (.tail _ hd)
    have := h c (.head _)
    refine ⟨?_, ?_⟩
    · simp only [List.map_cons, PyData.canLayAll0, PyData.canLay0, this, a, Bool.and_self]
    · simp only [List.map_cons, PyData.depthAll, PyData.depth, b]; rfl
theorem eqv_nil (l : List PyData) : PyData.eqv (.list l) (.list []) = l.isEmpty := by cases l <;> rfl
theorem upto0 {g h h' : Heap} {L : Addr} {m : Str → Option Value} (hin : ∀ b o, h.get? b = some o → b ∉ ([] : List (Addr × Obj)).map (·.1) → g.get? b = some o) (F : Fr g L h' m) : Upto [] h h' := fun b o e _ => F.keep b o (hin b o e List.not_mem_nil)
theorem keeps_tok {s : Shared} {n : Nat} : Keeps s (Shared.mk s.heap s.gens s.drawn n s.os) := ⟨s.heap, n, rfl, fun _ _ e => e⟩
theorem is_op_spec {x : Str} {t : Tok} (C : Cx w mean mg mb base outer A s.heap) (hh : A.handled = none) (hdep : A.depth + 1 < recursionLimit) (hu : A.units + 70 < cLine) (hx : x.length ≤ 1000) (hok : ∀ c ∈ (signs x), PyData.strOk c = true)
    (hk : ∀ h' tk, Upto [] s.heap h' → R (.ok (.ret (.bool (isOp x)))) { s with heap := h', toks := tk }) :
    codeAny (model PR w) A (.call (.ref 95) ⟨[.str x t], []⟩) R s := by
  refine' enter_fn [("text", .str x t)] C [] (List.forall_mem_nil _) ?k1 ?k2 ?k3 ?k4 ?k5 ?_ ?c2 ?c3 ?c4 ?c5
  ((case k1 => k_is); (case k2 => k_is); (case k3 => ((first | with_reducible assumption | exact Mine.lim (by assumption) | exact Mine.lim0 (by assumption) | exact Mine.lim2 (by assumption) | exact Mine.lim3 (by assumption) | exact Mine.lme (by assumption) | exact Mine.lml (by assumption) | exact Mine.lll (by assumption) | decide | lia))); (case k4 => exact BindsTo.of_eq rfl); (case k5 => exact locs rfl); (case c2 => exact rfl); (case c3 => exact rfl); (case c4 => exact rfl); (case c5 => decide))
  intro g L' h₁ tk F N B X T hin hout hsz
  k_fold
  (repeat' ((fail_if_success with_reducible first|refine zz1 ?_|refine zz2 ?_); first | (k_unfold; (try dsimp only)) | (walk1; (all_goals (try dsimp only))) | (dsimp only; walk1; (all_goals (try dsimp only)))))
  · rename_i hne
    refine srcC_signsD (pz := opBad) (d := fun x => .str x) (show (A.deeper _).handled = none from hh) F N ?g1 ?g2 ?g3 (Nat.le_trans hx (by decide))
    case g1 =>
      intro C' a v s₂ m₂ E' ha hn hm htk
      obtain ⟨_, rfl⟩ := ItemKind.str_is ha
      refine wpAny_leafK ?_
      (repeat' ((fail_if_success with_reducible first|refine zz1 ?_|refine zz2 ?_); first | (k_unfold; (try dsimp only)) | (walk1; (all_goals (try dsimp only))) | (dsimp only; walk1; (all_goals (try dsimp only)))))
      · rename_i h1
        exact SeqLeaf.intro ⟨by simp [opBad, h1], keeps_tok⟩
      · rename_i h1 h2
        exact SeqLeaf.intro ⟨by simp only [opBad, h1, h2]; rfl, keeps_tok⟩
      · rename_i h1 h2
        exact SeqLeaf.intro ⟨by simp only [opBad, h1, h2]; rfl, keeps_tok⟩
    case g2 =>
      intro C' a v s₂ m₂ E' ha hp hn hm htk
      obtain ⟨_, rfl⟩ := ItemKind.str_is ha
      refine wpAny_leafK ?_
      (repeat' ((fail_if_success with_reducible first|refine zz1 ?_|refine zz2 ?_); first | (k_unfold; (try dsimp only)) | (walk1; (all_goals (try dsimp only))) | (dsimp only; walk1; (all_goals (try dsimp only)))))
    case g3 =>
      intro D ys h' tk' F' N' hD hl hpl hc
      (repeat' ((fail_if_success with_reducible first|refine zz1 ?_|refine zz2 ?_); first | (k_unfold; (try dsimp only)) | (walk1; (all_goals (try dsimp only))) | (dsimp only; walk1; (all_goals (try dsimp only)))))
      rename_i l' h2 F2 N2 ll
      have lays := lay_strs (l := (signs x).filter opBad) fun c hc => hok c ((List.mem_filter.mp hc).1)
      refine eq_dataH (da := .list (((signs x).filter opBad).map fun x => .str x)) (db := .list []) (as := [D]) (bs := [l']) (reads_list_at (N2.get (.tail _ (.head _))) rfl rfl (hc.reads _)) (reads_list_at (N2.get (.head _)) rfl rfl .nil) ?_ rfl ?_ ?_
      · simp only [SeqAt.shaped, PyData.canLay0, PyData.depth, lays.1, lays.2]; rfl
      · show A.units + 3 + 64 < _; ((first | with_reducible assumption | exact Mine.lim (by assumption) | exact Mine.lim0 (by assumption) | exact Mine.lim2 (by assumption) | exact Mine.lim3 (by assumption) | exact Mine.lme (by assumption) | exact Mine.lml (by assumption) | exact Mine.lll (by assumption) | decide | lia))
      · rw [eqv_nil]
        (repeat' ((fail_if_success with_reducible first|refine zz1 ?_|refine zz2 ?_); first | (k_unfold; (try dsimp only)) | (walk1; (all_goals (try dsimp only))) | (dsimp only; walk1; (all_goals (try dsimp only)))))
        refine cast ?_ (hk h2 tk' ?_)
        · congr 4
          simp [isOp, hne]
        · exact upto0 hin F2
  · rename_i hne
    refine cast ?_ (hk h₁ (tk + 1) (upto0 hin F))
    congr 4
    simp [isOp, hne]
end
end Mine
end
-- Wd2
section
namespace Mine
open PySem PySem.W PySem.Calls PyProof.Rows
set_option maxHeartbeats 1000000
noncomputable abbrev Ar (dp un : Nat) (gd : Option (List Code)) (outer : List Env) : Around := { handled := none, depth := dp, frames := some outer, guards := gd, units := un }
theorem fr_map {g h : Heap} {L : Addr} {m m' : Str → Option Value} (F : Fr g L h m) (e : ∀ y, m y = m' y) : Fr g L h m' := by rw [← funext e]; exact F
noncomputable def opChar (c : Nat) : Bool := isOp ⟨#[c]⟩
noncomputable def runLen (l : List Nat) : Nat := (l.takeWhile opChar).length
theorem runLen_cons {c : Nat} {l : List Nat} (h : opChar c = true) : runLen (c :: l) = runLen l + 1 := by simp [runLen, List.takeWhile_cons, h]
theorem runLen_stop {c : Nat} {l : List Nat} (h : opChar c = false) : runLen (c :: l) = 0 := by simp [runLen, List.takeWhile_cons, h]
noncomputable abbrev wmap (D : Addr) (x : Str) (t : Tok) (bv : Option Value) (i : Nat) (ti : Tok) : Str → Option Value := fun y => if y = "spot" then some (.int i ti) else if y = "begin" then bv else if y = "found" then some (.ref D) else if y = "text" then some (.str x t) else none
noncomputable abbrev wScope : Scope := ⟨.function, [("text", .local), ("found", .local), ("spot", .local), ("begin", .local), ("len", .globalImplicit), ("MOST_SIGNS", .globalImplicit), ("TextFault", .globalImplicit), ("is_op", .globalImplicit)], false, false, []⟩
theorem item_drop {x : Str} {j : Nat} (h : j < x.length) : ∃ c, Txt.item x (j : Int) = ⟨#[c]⟩ ∧ x.cps.toList.drop j = c :: x.cps.toList.drop (j + 1) := by
  have hs : j < x.cps.size := h
  refine ⟨x.cps[j], ?_, ?_⟩
  · have e : seqIndex? (j : Int) x.length = some j := by
      unfold seqIndex?
      have h1 : ¬ ((j : Int) < 0) := by ((first | with_reducible assumption | exact Mine.lim (by assumption) | exact Mine.lim0 (by assumption) | exact Mine.lim2 (by assumption) | exact Mine.lim3 (by assumption) | exact Mine.lme (by assumption) | exact Mine.lml (by assumption) | exact Mine.lll (by assumption) | decide | lia))
      have h2 : (j : Int) < (x.length : Int) := by exact_mod_cast h
      simp [h1, h2]
    unfold Txt.item Txt.charAt
    rw [e]
    simp [hs]
  · rw [List.drop_eq_getElem_cons (by simpa using hs)]
    simp
section
variable {w : World} {mean : ExcName → Option Value} {mg mb : Str → Option Value} {base g : Heap} {outer : List Env} {dp un : Nat} {gd : Option (List Code)} {s : Shared} {L : Addr}
theorem inner_loop {x : Str} {t ti : Tok} {i : Nat} {bv : Option Value} {D : Addr} {news : List (Addr × Obj)} {p1 p2 p3 p4 p5 p6 p7 p8 p9 q1 q2 q3 q4 q5 q6 q7 q8 : Pos} {E : Value → Shared → Prop} {Q : Flow → Shared → Prop}
    (hX : (top.heap_1 w.params).In base) (hT : Top top.view_1 (looseW top.view_1 []) mean mg mb base)
    (B : Below (Ar dp un gd outer) base outer g) (X : (top.heap_1 w.params).In g) (T : Top top.view_1 (looseW top.view_1 []) mean mg mb g) (hdep : dp + 5 < recursionLimit) (hu : un + 100 < cLine)
    (hx : x.length ≤ 1000000) (hok : ∀ c ∈ x.cps.toList, c < 128)
    (F : Fr g L s.heap (wmap D x t bv i ti)) (N : News g L s.heap news) (hi : i ≤ x.length)
    (done : ∀ h' tk t', Fr g L h' (wmap D x t bv (i + runLen (x.cps.toList.drop i)) t') → News g L h' news → Q .next { s with heap := h', toks := tk }) :
    wpAny (model PR w) ((Ar dp un gd outer).deeper (envOf "words_of" wScope L 145 (.ref 144)))
      (exec (Stmt.While (.BoolOp .And [.Compare (.Name "spot" p1) [.Lt] [.Call (.Name "len" p2) [.Name "text" p3] [] p4] p5, .Call (.Name "is_op" p6) [.Subscript (.Name "text" p7) (.Name "spot" p8) p9] [] q1] q2)
        [Stmt.Assign [.Name "spot" q3] (.BinOp (.Name "spot" q4) .Add (.Constant (.int 1) 0 q5) q6) q7] [] q8) (envOf "words_of" wScope L 145 (.ref 144))) Q E s := by
  refine wpAny_mono (E := fun _ _ => False) (While_inv (n₀ := runLen (x.cps.toList.drop i)) (fun n m nx => ∃ (j : Nat) (tj : Tok), m = wmap D x t bv j tj ∧ nx = news ∧ j ≤ x.length ∧ j + runLen (x.cps.toList.drop j) = i + runLen (x.cps.toList.drop i) ∧ n = runLen (x.cps.toList.drop j)) F N ⟨i, ti, rfl, rfl, hi, rfl, rfl⟩ ?_) (fun _ _ z => z) fun _ _ z => z.elim
  rintro n m₁ nx h₁ tk₁ F₁ N₁ ⟨j, tj, rfl, rfl, hj, hrun, rfl⟩
  clear F N
  (repeat' ((fail_if_success with_reducible first|refine zz1 ?_|refine zz2 ?_|refine zz3 ?_|refine zz4 ?_|refine zz5 ?_|refine zz6 ?_); first | (k_unfold; (try dsimp only)) | (walk1; (all_goals (try dsimp only))) | (dsimp only; walk1; (all_goals (try dsimp only)))))
  · rename_i hlt hlen
    obtain ⟨c, hc, hd⟩ : ∃ c, Txt.item x (j : Int) = ⟨#[c]⟩ ∧ x.cps.toList.drop j = c :: x.cps.toList.drop (j + 1) := item_drop (by ((first | with_reducible assumption | exact Mine.lim (by assumption) | exact Mine.lim0 (by assumption) | exact Mine.lim2 (by assumption) | exact Mine.lim3 (by assumption) | exact Mine.lme (by assumption) | exact Mine.lml (by assumption) | exact Mine.lll (by assumption) | decide | lia)))
    have hcm : c < 128 := hok c (List.mem_of_mem_drop (by rw [hd]; exact .head _))
    rw [hc]
    refine wpAny_call (is_op_spec (cx_in hX hT B F₁ rfl rfl rfl) rfl ?_ ?_ (show (1 : Nat) ≤ 1000 by decide) (fun d hd => ?_) fun h2 tk2 u2 => ?_)
    · show dp + 1 + 1 < _; ((first | with_reducible assumption | exact Mine.lim (by assumption) | exact Mine.lim0 (by assumption) | exact Mine.lim2 (by assumption) | exact Mine.lim3 (by assumption) | exact Mine.lme (by assumption) | exact Mine.lml (by assumption) | exact Mine.lll (by assumption) | decide | lia))
    · show un + 3 + 70 < _; ((first | with_reducible assumption | exact Mine.lim (by assumption) | exact Mine.lim0 (by assumption) | exact Mine.lim2 (by assumption) | exact Mine.lim3 (by assumption) | exact Mine.lme (by assumption) | exact Mine.lml (by assumption) | exact Mine.lll (by assumption) | decide | lia))
    · obtain rfl : d = ⟨#[c]⟩ := by simpa [signs] using hd
      simp only [PyData.strOk, List.all_toArray, List.all_cons, List.all_nil, Bool.and_true]
      exact decide_eq_true (by ((first | with_reducible assumption | exact Mine.lim (by assumption) | exact Mine.lim0 (by assumption) | exact Mine.lim2 (by assumption) | exact Mine.lim3 (by assumption) | exact Mine.lme (by assumption) | exact Mine.lml (by assumption) | exact Mine.lll (by assumption) | decide | lia)))
    have F2 := fr_upto F₁ u2 (fun a ha => nomatch ha)
    have N2 := news_upto N₁ u2
    clear F₁ N₁
    try dsimp only
    (repeat' ((fail_if_success with_reducible first|refine zz1 ?_|refine zz2 ?_|refine zz3 ?_|refine zz4 ?_|refine zz5 ?_|refine zz6 ?_); first | (k_unfold; (try dsimp only)) | (walk1; (all_goals (try dsimp only))) | (dsimp only; walk1; (all_goals (try dsimp only)))))
    · rename_i hop h3 F3 N3
      have e1 : runLen (x.cps.toList.drop j) = runLen (x.cps.toList.drop (j + 1)) + 1 := by rw [hd, runLen_cons hop]
      try dsimp only at F3 ⊢
      refine WhileStep.intro (fr_map F3 (m' := wmap D x t bv (j + 1) (tk2 + 1)) fun y => ?_) N3 (n' := runLen (x.cps.toList.drop (j + 1))) (by ((first | with_reducible assumption | exact Mine.lim (by assumption) | exact Mine.lim0 (by assumption) | exact Mine.lim2 (by assumption) | exact Mine.lim3 (by assumption) | exact Mine.lme (by assumption) | exact Mine.lml (by assumption) | exact Mine.lll (by assumption) | decide | lia))) ⟨j + 1, tk2 + 1, rfl, rfl, by ((first | with_reducible assumption | exact Mine.lim (by assumption) | exact Mine.lim0 (by assumption) | exact Mine.lim2 (by assumption) | exact Mine.lim3 (by assumption) | exact Mine.lme (by assumption) | exact Mine.lml (by assumption) | exact Mine.lll (by assumption) | decide | lia)), by ((first | with_reducible assumption | exact Mine.lim (by assumption) | exact Mine.lim0 (by assumption) | exact Mine.lim2 (by assumption) | exact Mine.lim3 (by assumption) | exact Mine.lme (by assumption) | exact Mine.lml (by assumption) | exact Mine.lll (by assumption) | decide | lia)), rfl⟩
      by_cases hy : y = "spot"
      · simp only [wmap, hy, if_true]; rfl
      · simp only [wmap, hy, if_false]
    · rename_i hop
      have e1 : runLen (x.cps.toList.drop j) = 0 := by rw [hd, runLen_stop hop]
      refine done h2 tk2 tj ?_ N2
      rw [← hrun, e1]; exact F2
  · rename_i hge
    have e1 : runLen (x.cps.toList.drop j) = 0 := by
      rw [List.drop_eq_nil_of_le (by have : x.cps.toList.length = x.length := by simp [Str.length]
                                     ((first | with_reducible assumption | exact Mine.lim (by assumption) | exact Mine.lim0 (by assumption) | exact Mine.lim2 (by assumption) | exact Mine.lim3 (by assumption) | exact Mine.lme (by assumption) | exact Mine.lml (by assumption) | exact Mine.lll (by assumption) | decide | lia)))]; rfl
    refine done h₁ _ tj ?_ N₁
    rw [← hrun, e1]; exact F₁
end
noncomputable def sepChar (c : Nat) : Bool := !(Builtin.Str.occurrences "(),:" ⟨#[c]⟩ 0 ("(),:" : Str).length 1).isEmpty
noncomputable def lexL (off : Nat) (l : List Nat) : List (Str × Nat) := match l with
  | [] => []
  | c :: cs => if opChar c = true then (⟨((c :: cs).takeWhile opChar).toArray⟩, off) :: lexL (off + runLen (c :: cs)) ((c :: cs).drop (runLen (c :: cs)))
    else if sepChar c then (⟨#[c]⟩, off) :: lexL (off + 1) cs else lexL (off + 1) cs
termination_by l.length
decreasing_by
  · rename_i h
    rw [runLen_cons h, List.drop_succ_cons, List.length_drop, List.length_cons]; ((first | with_reducible assumption | exact Mine.lim (by assumption) | exact Mine.lim0 (by assumption) | exact Mine.lim2 (by assumption) | exact Mine.lim3 (by assumption) | exact Mine.lme (by assumption) | exact Mine.lml (by assumption) | exact Mine.lll (by assumption) | decide | lia))
  · simp
  · simp
theorem lexL_nil (off : Nat) : lexL off [] = [] := by rw [lexL]
theorem lexL_op {off c : Nat} {cs : List Nat} (h : opChar c = true) : lexL off (c :: cs) = (⟨((c :: cs).takeWhile opChar).toArray⟩, off) :: lexL (off + runLen (c :: cs)) ((c :: cs).drop (runLen (c :: cs))) := by rw [lexL, if_pos h]
theorem lexL_sep {off c : Nat} {cs : List Nat} (h : opChar c = false) (h' : sepChar c = true) : lexL off (c :: cs) = (⟨#[c]⟩, off) :: lexL (off + 1) cs := by rw [lexL, if_neg (by rw [h]; decide), if_pos h']
theorem lexL_gap {off c : Nat} {cs : List Nat} (h : opChar c = false) (h' : sepChar c = false) : lexL off (c :: cs) = lexL (off + 1) cs := by rw [lexL, if_neg (by rw [h]; decide), if_neg (by rw [h']; decide)]
noncomputable abbrev tupObj (vs : List Value) : Obj := { cls := .type "tuple", data := .seq vs.toArray }
structure WordsIn (tl : List (Addr × Obj)) (vs : List Value) (ws : List (Str × Nat)) : Prop where
  len : vs.length = ws.length
  at_ : ∀ (i : Nat) (u : Str) (p : Nat), ws[i]? = some (u, p) → ∃ tp t t', vs[i]? = some (.ref tp) ∧ (tp, tupObj [.str u t, .int p t']) ∈ tl
theorem WordsIn.snoc {tl tl' : List (Addr × Obj)} {vs : List Value} {ws : List (Str × Nat)} {tp : Addr} {u : Str} {p : Nat} {t t' : Tok} (W : WordsIn tl vs ws) (hs : ∀ q ∈ tl, q ∈ tl') (hn : (tp, tupObj [.str u t, .int p t']) ∈ tl') : WordsIn tl' (vs ++ [.ref tp]) (ws ++ [(u, p)]) := by
  refine ⟨by simp [W.len], fun i v q e => ?_⟩
  by_cases hi : i < ws.length
  · rw [List.getElem?_append_left hi] at e
    obtain ⟨a, b, c, e1, e2⟩ := W.at_ i v q e
    exact ⟨a, b, c, by rw [List.getElem?_append_left (by rw [W.len]; exact hi)]; exact e1, hs _ e2⟩
  · rw [List.getElem?_append_right (by ((first | with_reducible assumption | exact Mine.lim (by assumption) | exact Mine.lim0 (by assumption) | exact Mine.lim2 (by assumption) | exact Mine.lim3 (by assumption) | exact Mine.lme (by assumption) | exact Mine.lml (by assumption) | exact Mine.lll (by assumption) | decide | lia)))] at e
    have hi0 : i - ws.length = 0 := by
      cases z : i - ws.length with
      | zero => rfl
      | succ n => rw [z] at e; cases e
    rw [hi0] at e
    cases e
    have : i = vs.length := by rw [W.len]; ((first | with_reducible assumption | exact Mine.lim (by assumption) | exact Mine.lim0 (by assumption) | exact Mine.lim2 (by assumption) | exact Mine.lim3 (by assumption) | exact Mine.lme (by assumption) | exact Mine.lml (by assumption) | exact Mine.lll (by assumption) | decide | lia))
    exact ⟨tp, t, t', by rw [this]; simp, hn⟩
end Mine
end
-- Wd3
section
local macro_rules | `(tactic| k_all) => `(tactic| assumption)
section
namespace Mine
open PySem PySem.W PySem.Calls PyProof.Rows
set_option maxHeartbeats 3000000
section
variable {w : World} {mean : ExcName → Option Value} {mg mb : Str → Option Value} {base g : Heap} {outer : List Env} {dp un : Nat} {gd : Option (List Code)} {s : Shared} {L : Addr}
inductive OuterJ (x : Str) (t : Tok) (D : Addr) (n : Nat) (m : Str → Option Value) (nx : List (Addr × Obj)) : Prop
  | mk (i : Nat) (ti : Tok) (bv : Option Value) (vs : List Value) (e : Nat) (tl : List (Addr × Obj)) (ws : List (Str × Nat)) (h1_ : m = wmap D x t bv i ti) (h2_ : nx = (D, listOf vs.toArray e) :: tl) (h3_ : (∀ p ∈ tl, p.2.cls = .type "tuple")) (h4_ : WordsIn tl vs ws) (h5_ : i ≤ x.length) (h6_ : ws.length ≤ i) (h7_ : ws ++ lexL i (x.cps.toList.drop i) = lexL 0 x.cps.toList) (h8_ : n = x.length - i) : OuterJ x t D n m nx
theorem lex_step_op {L : List Nat} {i c : Nat} (hd : L.drop i = c :: L.drop (i + 1)) (h : opChar c = true) : lexL i (L.drop i) = (⟨((L.drop i).takeWhile opChar).toArray⟩, i) :: lexL (i + runLen (L.drop i)) (L.drop (i + runLen (L.drop i))) := by
  rw [← List.drop_drop, hd, lexL_op h]
theorem run_take (l : List Nat) : l.take (runLen l) = l.takeWhile opChar := by
  induction l with
  | nil => rfl
  | cons c l ih =>
    cases h : opChar c with
    | true => rw [runLen_cons h, List.take_succ_cons, ih, List.takeWhile_cons, if_pos h]
    | false => rw [runLen_stop h, List.takeWhile_cons, if_neg (by rw [h]; decide)]; rfl
theorem slice_run {x : Str} {i : Nat} (h : i + runLen (x.cps.toList.drop i) ≤ x.length) : Txt.slice x (some (i : Int)) (some ((i + runLen (x.cps.toList.drop i) : Nat) : Int)) = ⟨((x.cps.toList.drop i).takeWhile opChar).toArray⟩ := by
  have hxl : x.cps.toList.length = x.length := by simp [Str.length]
  have := eq_of_beq (slice_closes (x := x) (i := (i : Int)) (j := ((i + runLen (x.cps.toList.drop i) : Nat) : Int)) ⟨by ((first | with_reducible assumption | exact Mine.lim (by assumption) | exact Mine.lim0 (by assumption) | exact Mine.lim2 (by assumption) | exact Mine.lim3 (by assumption) | exact Mine.lme (by assumption) | exact Mine.lml (by assumption) | exact Mine.lll (by assumption) | decide | lia)), by ((first | with_reducible assumption | exact Mine.lim (by assumption) | exact Mine.lim0 (by assumption) | exact Mine.lim2 (by assumption) | exact Mine.lim3 (by assumption) | exact Mine.lme (by assumption) | exact Mine.lml (by assumption) | exact Mine.lll (by assumption) | decide | lia)), by rw [hxl]; exact_mod_cast h⟩)
  rw [this, ← run_take]
  congr 4
  ((first | with_reducible assumption | exact Mine.lim (by assumption) | exact Mine.lim0 (by assumption) | exact Mine.lim2 (by assumption) | exact Mine.lim3 (by assumption) | exact Mine.lme (by assumption) | exact Mine.lml (by assumption) | exact Mine.lll (by assumption) | decide | lia))
theorem WordsIn.wordsAt {h : Heap} {D : Addr} {tl : List (Addr × Obj)} {vs : List Value} {ws : List (Str × Nat)} (W : WordsIn tl vs ws) (hl : h.IsList D vs.toArray) (N : ∀ p ∈ tl, h.get? p.1 = some p.2) : Words h D ws :=
  ⟨vs, hl, W.len, fun i u p q => let ⟨tp, t, t', e1, e2⟩ := W.at_ i u p q; ⟨tp, t, t', e1, _, N _ e2, rfl, 0, rfl⟩⟩
theorem wmap_next {g h' : Heap} {L D : Addr} {x : Str} {t t3 T : Tok} {i : Nat} {bv : Option Value} (F : Fr g L h' (fun y => if y = "spot" then some (.int ((i : Int) + 1) T) else wmap D x t bv i t3 y)) : Fr g L h' (wmap D x t bv (i + 1) T) :=
  fr_map F fun y => by
    by_cases hy : y = "spot"
    · simp only [wmap, hy, if_true]; rfl
    · simp only [wmap, hy, if_false]
theorem news_word {g h : Heap} {L D D' : Addr} {vs : List Value} {e : Nat} {tl : List (Addr × Obj)} {a b : Value} (N : News g L h ((D', tupObj [a, b]) :: (D, listOf (vs.toArray.push (.ref D')) (e + 1)) :: tl)) :
    News g L h ((D, listOf (vs ++ [Value.ref D']).toArray (e + 1)) :: (D', tupObj [a, b]) :: tl) := fun p hp => by
  rcases List.mem_cons.mp hp with rfl | hp
  · have := N _ (.tail _ (.head _))
    simpa [List.push_toArray] using this
  · rcases List.mem_cons.mp hp with rfl | hp
    · exact N _ (.head _)
    · exact N _ (.tail _ (.tail _ hp))
theorem raise_tf {A : Around} {E : Value → Shared → Prop} {Q : Flow → Shared → Prop} {env : Env} {e : PySem.Expr} {pos : Pos} (hh : A.handled = none)
    (h : wpAny (model PR w) A (eval e env) (fun v s₁ => ∃ e dx tp, v = .ref e ∧ (top.heap_1 w.params).In s₁.heap ∧ s₁.heap.get? e = some (tfObj dx tp) ∧ E (.ref e) s₁) E s) :
    wpAny (model PR w) A (exec (.Raise (some e) none pos) env) Q E s := by
  rw [arm_exec_Raise]
  refine wpAny_bind (wpAny_standAt (raise_core hh ?_))
  simp only [evalOpt]
  exact wpAny_bind (wpAny_mono h (fun v s' h' => wpAny_bind (wpAny_standAt (wpAny_pure h'))) fun _ _ x => x)
theorem words_spec {base : Heap} {R : Result → Shared → Prop} {x : Str} {t : Tok} (C : Cx w mean mg mb base outer (Ar dp un gd outer) s.heap) (hdep : dp + 10 < recursionLimit) (hu : un + 200 < cLine)
    (hx : x.length ≤ 100000) (hok : ∀ c ∈ x.cps.toList, c < 128 ∧ (opChar c = true ∨ sepChar c = true ∨ Txt.isspace ⟨#[c]⟩ = true))
    (hk : ∀ h' wl tk, Upto [] s.heap h' → s.heap.get? wl = none → Words h' wl (lexL 0 x.cps.toList ++ [(("" : Str), x.length)]) → R (.ok (.ret (.ref wl))) { s with heap := h', toks := tk }) :
    codeAny (model PR w) (Ar dp un gd outer) (.call (.ref 145) ⟨[.str x t], []⟩) R s := by
  refine' enter_fn (A := Ar dp un gd outer) [("text", .str x t)] C [] (List.forall_mem_nil _) ?k1 ?k2 ?k3 ?k4 ?k5 ?_ ?c2 ?c3 ?c4 ?c5
  ((case k1 => k_is); (case k2 => k_is); (case k3 => (show _ < _; first | ((first | with_reducible assumption | exact Mine.lim (by assumption) | exact Mine.lim0 (by assumption) | exact Mine.lim2 (by assumption) | exact Mine.lim3 (by assumption) | exact Mine.lme (by assumption) | exact Mine.lml (by assumption) | exact Mine.lll (by assumption) | decide | lia)) | (dsimp only; ((first | with_reducible assumption | exact Mine.lim (by assumption) | exact Mine.lim0 (by assumption) | exact Mine.lim2 (by assumption) | exact Mine.lim3 (by assumption) | exact Mine.lme (by assumption) | exact Mine.lml (by assumption) | exact Mine.lll (by assumption) | decide | lia))))); (case k4 => exact BindsTo.of_eq rfl); (case k5 => exact locs rfl); (case c2 => exact rfl); (case c3 => exact rfl); (case c4 => exact rfl); (case c5 => decide))
  intro g L h₁ tk F N B X T hin hout hsz
  k_fold
  have hX := C.X
  have hT := C.T
  (repeat' ((fail_if_success with_reducible first|refine zz1 ?_|refine zz2 ?_|refine zz3 ?_|refine zz4 ?_|refine zz7 ?_|refine zz5 ?_|refine zz8 ?_|refine zz6 ?_); first | (k_unfold; (try dsimp only)) | walk1 | (dsimp only; walk1)))
  · rename_i tk' D0 h2 _ D1 h3 _ h4 h5 h6 F6 N6
    have F5 := fr_map F6 (m' := wmap D0 x t none 0 tk') fun y => by
      by_cases h1 : y = "spot"
      · subst h1; rfl
      · by_cases h2 : y = "begin"
        · subst h2; rfl
        · by_cases h3 : y = "found"
          · subst h3; rfl
          · by_cases h4 : y = "text"
            · subst h4; rfl
            · have : ((y : Str) == "text") = false := by simpa using h4
              simp only [wmap, h1, h2, h3, h4, if_false, List.reverse_singleton, List.lookup, this]
    obtain ⟨tl0, htl0, N5⟩ : ∃ tl0, (∀ p ∈ tl0, p.2.cls = .type "tuple") ∧ News g L h6 ((D0, listOf [].toArray 0) :: tl0) := ⟨[], List.forall_mem_nil _, fun p hp => N6 p (.tail _ hp)⟩
    clear F6 N6
    generalize D0 = D at F5 N5
    refine wpAny_mono (E := fun _ _ => False) (While_inv (n₀ := x.length - 0) (OuterJ x t D) F5 N5 ⟨0, tk', none, [], 0, tl0, [], rfl, rfl, htl0, ⟨rfl, fun _ _ _ q => by cases q⟩, Nat.zero_le _, Nat.le_refl _, rfl, rfl⟩ ?_) (fun _ _ z => z) fun _ _ z => z.elim
    rintro n m₁ nx h₁ tk₁ F₁ N₁ ⟨i, ti, bv, vs, e, tl, ws, rfl, rfl, htl, W, hi, hwi, hlex, rfl⟩
    clear F5 N5
    have htlD : ∀ p ∈ tl, p.1 ≠ D := fun p hp => ne_obj (N₁.get (.tail _ hp)) (N₁.get (.head _)) (by rw [htl p hp]; simp)
    have hvl : vs.length ≤ 1000000 := by rw [W.len]; ((first | with_reducible assumption | exact Mine.lim (by assumption) | exact Mine.lim0 (by assumption) | exact Mine.lim2 (by assumption) | exact Mine.lim3 (by assumption) | exact Mine.lme (by assumption) | exact Mine.lml (by assumption) | exact Mine.lll (by assumption) | decide | lia))
    (repeat' ((fail_if_success with_reducible first|refine zz1 ?_|refine zz2 ?_|refine zz3 ?_|refine zz4 ?_|refine zz7 ?_|refine zz5 ?_|refine zz8 ?_|refine zz6 ?_); first | (k_unfold; (try dsimp only)) | walk1 | (dsimp only; walk1)))
    · rename_i hlt tk2 h2 F2 N2
      have F3 := fr_map F2 (m' := wmap D x t (some (.int i ti)) i ti) fun y => by
        by_cases h1 : y = "begin"
        · subst h1; rfl
        · simp only [wmap, h1, if_false]
      clear F2
      obtain ⟨c, hc, hd⟩ : ∃ c, Txt.item x (i : Int) = ⟨#[c]⟩ ∧ x.cps.toList.drop i = c :: x.cps.toList.drop (i + 1) := item_drop (by ((first | with_reducible assumption | exact Mine.lim (by assumption) | exact Mine.lim0 (by assumption) | exact Mine.lim2 (by assumption) | exact Mine.lim3 (by assumption) | exact Mine.lme (by assumption) | exact Mine.lml (by assumption) | exact Mine.lll (by assumption) | decide | lia)))
      have hcm := hok c (List.mem_of_mem_drop (by rw [hd]; exact .head _))
      have hxl : x.cps.toList.length = x.length := by simp [Str.length]
      have hrl : i + runLen (x.cps.toList.drop i) ≤ x.length := by
        have h1 : runLen (x.cps.toList.drop i) ≤ (x.cps.toList.drop i).length := (List.takeWhile_sublist _).length_le
        rw [List.length_drop] at h1
        ((first | with_reducible assumption | exact Mine.lim (by assumption) | exact Mine.lim0 (by assumption) | exact Mine.lim2 (by assumption) | exact Mine.lim3 (by assumption) | exact Mine.lme (by assumption) | exact Mine.lml (by assumption) | exact Mine.lll (by assumption) | decide | lia))
      refine inner_loop (s := Shared.mk h2 _ _ _ _) hX hT B X T (by ((first | with_reducible assumption | exact Mine.lim (by assumption) | exact Mine.lim0 (by assumption) | exact Mine.lim2 (by assumption) | exact Mine.lim3 (by assumption) | exact Mine.lme (by assumption) | exact Mine.lml (by assumption) | exact Mine.lll (by assumption) | decide | lia))) (by ((first | with_reducible assumption | exact Mine.lim (by assumption) | exact Mine.lim0 (by assumption) | exact Mine.lim2 (by assumption) | exact Mine.lim3 (by assumption) | exact Mine.lme (by assumption) | exact Mine.lml (by assumption) | exact Mine.lll (by assumption) | decide | lia))) (by ((first | with_reducible assumption | exact Mine.lim (by assumption) | exact Mine.lim0 (by assumption) | exact Mine.lim2 (by assumption) | exact Mine.lim3 (by assumption) | exact Mine.lme (by assumption) | exact Mine.lml (by assumption) | exact Mine.lll (by assumption) | decide | lia))) (fun c hc => (hok c hc).1) F3 N2 hi fun h3 tk3 t3 F4 N4 => ?_
      clear F3 N2
      generalize hj : i + runLen (x.cps.toList.drop i) = j at F4 hrl
      have hij : i ≤ j := by ((first | with_reducible assumption | exact Mine.lim (by assumption) | exact Mine.lim0 (by assumption) | exact Mine.lim2 (by assumption) | exact Mine.lim3 (by assumption) | exact Mine.lme (by assumption) | exact Mine.lml (by assumption) | exact Mine.lll (by assumption) | decide | lia))
      try dsimp only
      iterate 8 ((fail_if_success with_reducible first|refine zz1 ?_|refine zz2 ?_|refine zz3 ?_|refine zz4 ?_|refine zz7 ?_|refine zz5 ?_|refine zz8 ?_|refine zz6 ?_); first | (k_unfold; (try dsimp only)) | walk1 | (dsimp only; walk1))
      · (repeat' ((fail_if_success with_reducible first|refine zz1 ?_|refine zz2 ?_|refine zz3 ?_|refine zz4 ?_|refine zz7 ?_|refine zz5 ?_|refine zz8 ?_|refine zz6 ?_); first | (k_unfold; (try dsimp only)) | walk1 | (dsimp only; walk1)))
        rename_i hlt2 t' k1 a1 D' h1 l1 h' F' N'
        have hop : opChar c = true := by
          cases q : opChar c with
          | true => rfl
          | false => rw [hd, runLen_stop q] at hj; ((first | with_reducible assumption | exact Mine.lim (by assumption) | exact Mine.lim0 (by assumption) | exact Mine.lim2 (by assumption) | exact Mine.lim3 (by assumption) | exact Mine.lme (by assumption) | exact Mine.lml (by assumption) | exact Mine.lll (by assumption) | decide | lia))
        subst hj
        rw [slice_run hrl] at N'
        have N2 := news_word (vs := vs) N'
        refine WhileStep.intro F' N2 (n' := x.length - (i + runLen (x.cps.toList.drop i))) (by ((first | with_reducible assumption | exact Mine.lim (by assumption) | exact Mine.lim0 (by assumption) | exact Mine.lim2 (by assumption) | exact Mine.lim3 (by assumption) | exact Mine.lme (by assumption) | exact Mine.lml (by assumption) | exact Mine.lll (by assumption) | decide | lia)))
          ⟨_, t3, some (.int i ti), vs ++ [Value.ref D'], e + 1, _, ws ++ [(⟨((x.cps.toList.drop i).takeWhile opChar).toArray⟩, i)], rfl, rfl, ?_, W.snoc (fun q hq => .tail _ hq) (.head _), hrl, ?_, ?_, rfl⟩
        · exact List.forall_mem_cons.mpr ⟨rfl, htl⟩
        · simp only [List.length_append, List.length_cons, List.length_nil]; ((first | with_reducible assumption | exact Mine.lim (by assumption) | exact Mine.lim0 (by assumption) | exact Mine.lim2 (by assumption) | exact Mine.lim3 (by assumption) | exact Mine.lme (by assumption) | exact Mine.lml (by assumption) | exact Mine.lll (by assumption) | decide | lia))
        · rw [← hlex, lex_step_op hd hop, List.append_assoc]; rfl
      · have hop : opChar c = false := by
          cases q : opChar c with
          | false => rfl
          | true => rw [hd, runLen_cons q] at hj; ((first | with_reducible assumption | exact Mine.lim (by assumption) | exact Mine.lim0 (by assumption) | exact Mine.lim2 (by assumption) | exact Mine.lim3 (by assumption) | exact Mine.lme (by assumption) | exact Mine.lml (by assumption) | exact Mine.lll (by assumption) | decide | lia))
        obtain rfl : i = j := by rw [hd, runLen_stop hop] at hj; ((first | with_reducible assumption | exact Mine.lim (by assumption) | exact Mine.lim0 (by assumption) | exact Mine.lim2 (by assumption) | exact Mine.lim3 (by assumption) | exact Mine.lme (by assumption) | exact Mine.lml (by assumption) | exact Mine.lll (by assumption) | decide | lia))
        iterate 8 ((fail_if_success with_reducible first|refine zz1 ?_|refine zz2 ?_|refine zz3 ?_|refine zz4 ?_|refine zz7 ?_|refine zz5 ?_|refine zz8 ?_|refine zz6 ?_); first | (k_unfold; (try dsimp only)) | walk1 | (dsimp only; walk1))
        rw [hc]
        (repeat' ((fail_if_success with_reducible first|refine zz1 ?_|refine zz2 ?_|refine zz3 ?_|refine zz4 ?_|refine zz7 ?_|refine zz5 ?_|refine zz8 ?_|refine zz6 ?_); first | (k_unfold; (try dsimp only)) | walk1 | (dsimp only; walk1)))
        · rename_i _ hns tk5 _ _ h' F' N'
          have hsp : sepChar c = false := by simp only [sepChar, hns]; rfl
          refine WhileStep.intro (wmap_next F') N' (n' := x.length - (i + 1)) (by ((first | with_reducible assumption | exact Mine.lim (by assumption) | exact Mine.lim0 (by assumption) | exact Mine.lim2 (by assumption) | exact Mine.lim3 (by assumption) | exact Mine.lme (by assumption) | exact Mine.lml (by assumption) | exact Mine.lll (by assumption) | decide | lia))) ⟨i + 1, _, some (.int i ti), vs, e, tl, ws, rfl, rfl, htl, W, by ((first | with_reducible assumption | exact Mine.lim (by assumption) | exact Mine.lim0 (by assumption) | exact Mine.lim2 (by assumption) | exact Mine.lim3 (by assumption) | exact Mine.lme (by assumption) | exact Mine.lml (by assumption) | exact Mine.lll (by assumption) | decide | lia)), by ((first | with_reducible assumption | exact Mine.lim (by assumption) | exact Mine.lim0 (by assumption) | exact Mine.lim2 (by assumption) | exact Mine.lim3 (by assumption) | exact Mine.lme (by assumption) | exact Mine.lml (by assumption) | exact Mine.lll (by assumption) | decide | lia)), ?_, rfl⟩
          rw [← hlex, hd, lexL_gap hop hsp]
        · rename_i _ hns _ _ hsp
          rcases hcm.2 with q | q | q
          · rw [hop] at q; cases q
          · simp only [sepChar, hns] at q; cases q
          · rw [hc] at hsp; rw [hsp] at q; cases q
        · rename_i hns t' a1 D' h0 l0 h1 h' F' N'
          rw [hc] at N'
          have hsp : sepChar c = true := by simp only [sepChar, hns]; rfl
          have N2 := news_word (vs := vs) N'
          refine WhileStep.intro (wmap_next F') N2 (n' := x.length - (i + 1)) (by ((first | with_reducible assumption | exact Mine.lim (by assumption) | exact Mine.lim0 (by assumption) | exact Mine.lim2 (by assumption) | exact Mine.lim3 (by assumption) | exact Mine.lme (by assumption) | exact Mine.lml (by assumption) | exact Mine.lll (by assumption) | decide | lia))) ⟨i + 1, _, some (.int i ti), vs ++ [Value.ref D'], e + 1, _, ws ++ [(⟨#[c]⟩, i)], rfl, rfl, ?_, W.snoc (fun q hq => .tail _ hq) (.head _), by ((first | with_reducible assumption | exact Mine.lim (by assumption) | exact Mine.lim0 (by assumption) | exact Mine.lim2 (by assumption) | exact Mine.lim3 (by assumption) | exact Mine.lme (by assumption) | exact Mine.lml (by assumption) | exact Mine.lll (by assumption) | decide | lia)), ?_, ?_, rfl⟩
          · exact List.forall_mem_cons.mpr ⟨rfl, htl⟩
          · simp only [List.length_append, List.length_cons, List.length_nil]; ((first | with_reducible assumption | exact Mine.lim (by assumption) | exact Mine.lim0 (by assumption) | exact Mine.lim2 (by assumption) | exact Mine.lim3 (by assumption) | exact Mine.lme (by assumption) | exact Mine.lml (by assumption) | exact Mine.lll (by assumption) | decide | lia))
          · rw [← hlex, hd, lexL_sep hop hsp, List.append_assoc]; rfl
    · rename_i hge
      have e1 : i = x.length := by ((first | with_reducible assumption | exact Mine.lim (by assumption) | exact Mine.lim0 (by assumption) | exact Mine.lim2 (by assumption) | exact Mine.lim3 (by assumption) | exact Mine.lme (by assumption) | exact Mine.lml (by assumption) | exact Mine.lll (by assumption) | decide | lia))
      subst e1
      rw [List.drop_eq_nil_of_le (by simp [Str.length]), lexL_nil, List.append_nil] at hlex
      subst hlex
      clear hge
      (repeat' ((fail_if_success with_reducible first|refine zz1 ?_|refine zz2 ?_|refine zz3 ?_|refine zz4 ?_|refine zz7 ?_|refine zz5 ?_|refine zz8 ?_|refine zz6 ?_); first | (k_unfold; (try dsimp only)) | walk1 | (dsimp only; walk1)))
      have hlen : (lexL 0 x.cps.toList).length ≤ x.length := hwi
      rename_i D' h1 l1 l' h3 N' a1 F'
      have W2 := W.snoc (tl' := (D', tupObj [.str "" tk, .int x.length (tk + 1 + 1)]) :: tl) (u := "") (p := x.length) (fun q hq => .tail _ hq) (.head _)
      refine add_lists (vs := vs) (ws := [Value.ref D']) F' N' ⟨_, N'.get (.tail _ (.tail _ (.head _))), rfl, _, rfl⟩ ⟨_, N'.get (.head _), rfl, _, rfl⟩ (fun h' F2 N2 => ?_) (by rw [W.len]; simp only [List.length_cons, List.length_nil, sizeLine]; ((first | with_reducible assumption | exact Mine.lim (by assumption) | exact Mine.lim0 (by assumption) | exact Mine.lim2 (by assumption) | exact Mine.lim3 (by assumption) | exact Mine.lme (by assumption) | exact Mine.lml (by assumption) | exact Mine.lll (by assumption) | decide | lia)))
      (repeat' ((fail_if_success with_reducible first|refine zz1 ?_|refine zz2 ?_|refine zz3 ?_|refine zz4 ?_|refine zz7 ?_|refine zz5 ?_|refine zz8 ?_|refine zz6 ?_); first | (k_unfold; (try dsimp only)) | walk1 | (dsimp only; walk1)))
      refine hk _ _ _ (upto0 hin F2) ((upto0 hin F').fresh (at_size _) fun q => nomatch q) (W2.wordsAt ⟨_, N2.get (.head _), rfl, _, rfl⟩ ?_)
      refine List.forall_mem_cons.mpr ⟨N2.get (.tail _ (.tail _ (.head _))), fun p hp => N2.get (.tail _ (.tail _ (.tail _ (.tail _ hp))))⟩
end
end Mine
end
-- Z1
section
namespace Mine
open PySem PySem.W PySem.Calls PyProof.Rows
set_option maxHeartbeats 1000000
noncomputable abbrev tfDict (P : Params) (k k' : Tok) (mt : Str) (t t' : Tok) (sp : Int) : Obj := dictOf [⟨PyData.keyHash P "what", .str "what" k, .str mt t⟩, ⟨PyData.keyHash P "spot", .str "spot" k', .int sp t'⟩] 2
structure Thrown (P : Params) (outer : List Env) (M : List Addr) (h : Heap) (sp : Int) (e : Addr) (h' : Heap) : Prop where
  fl : ∃ stay de k k' mt t t', Fly stay outer e de .none h' ∧ stay.get? de = some (tfDict P k k' mt t t' sp) ∧ (∀ b o, h.get? b = some o → b ∉ M → b ∉ outer.filterMap (·.frame) → stay.get? b = some o) ∧ (h.get? de = none ∨ de ∈ M)
  frames : ∀ a ∈ outer.filterMap (·.frame), ∀ o, h.get? a = some o → ∃ sl, h'.get? a = some { o with slots := sl }
theorem funFrames_base {base stay h : Heap} : ∀ {l : List Env}, h.FunFrames base l → (∀ a ∈ l.filterMap (·.frame), stay.get? a = none) → h.FunFrames stay l
  | [], _, _ => trivial
  | _ :: _, ⟨hk, ⟨L, o, hf, _, ho, hd⟩, hr⟩, hz => ⟨hk, ⟨L, o, hf, hz L (by rw [List.filterMap_cons, hf]; exact .head _), ho, hd⟩, funFrames_base hr fun a ha => hz a (by rw [List.filterMap_cons, hf]; exact .tail _ ha)⟩
section
variable {Mo : Model} {A : Around} {E : Value → Shared → Prop} {s : Shared} {env : Env} {outer : List Env} {L e dx tp : Addr} {Q : Unit → Shared → Prop} {P : Params} {M M' : List Addr} {h hc base : Heap} {sp : Int}
theorem mem_frames {a : Addr} (hf : env.frame = some L) : a ∈ (env :: outer).filterMap (·.frame) ↔ a = L ∨ a ∈ outer.filterMap (·.frame) := by
  rw [List.filterMap_cons, hf]; exact List.mem_cons
theorem thrown_leave (U : Upto M h hc) (hL : h.get? L = none) (hoff : ∀ a ∈ M, a ∉ outer.filterMap (·.frame)) (hfr : A.frames = some (env :: outer)) (hf : env.frame = some L)
    (y : Thrown P (env :: outer) M' hc sp e s.heap) (hM : ∀ a ∈ M', a ∈ M ∨ h.get? a = none)
    (hq : ∀ h'', Thrown P outer M h sp e h'' → Q () { s with heap := h'' }) : wpAny Mo A (leaving env (.ref e)) Q E s := by
  obtain ⟨⟨stay, de, k, k', mt, t, t', fly, hd, hs, hfr'⟩, hfs⟩ := y
  refine tf_leave hfr hf fly fun h' fly' u => hq h' ⟨⟨stay, de, k, k', mt, t, t', fly', hd, fun b o hb nM nf => ?_, ?_⟩, fun a ha o hb => ?_⟩
  · refine hs b o (U b o hb nM) (fun q => ?_) fun q => ?_
    · rcases hM b q with z | z
      · exact nM z
      · rw [z] at hb; cases hb
    · rcases (mem_frames hf).mp q with rfl | q
      · rw [hL] at hb; cases hb
      · exact nf q
  · cases q : h.get? de with
    | none => exact .inl rfl
    | some o =>
      refine .inr (Classical.byContradiction fun nM => ?_)
      rcases hfr' with z | z
      · rw [U de o q nM] at z; cases z
      · rcases hM de z with z | z
        · exact nM z
        · rw [q] at z; cases z
  · have ha' := (mem_frames (outer := outer) hf).mpr (Or.inr ha)
    obtain ⟨sl, e1⟩ := hfs a ha' o (U a o hb fun q => hoff a q ha)
    obtain ⟨_, o2, e2, nd⟩ := fly.frames.mem ha'
    rw [e1] at e2
    cases e2
    obtain ⟨sl', e3⟩ := u a _ e1 nd
    exact ⟨sl', e3⟩
theorem thrown_new {k k' t t' : Tok} {mt : Str} (U : Upto M h hc) (hL : h.get? L = none) (hoff : ∀ a ∈ M, a ∉ outer.filterMap (·.frame)) (hfr : A.frames = some (env :: outer)) (hf : env.frame = some L)
    (hl : hc.FunFrames base (env :: outer)) (u : Upto [] hc s.heap) (e0 : hc.get? e = none) (e1 : s.heap.get? e = some (tfObj dx tp)) (e2 : hc.get? dx = none) (e3 : s.heap.get? dx = some (tfDict P k k' mt t t' sp))
    (hq : ∀ h'', Thrown P outer M h sp e h'' → Q () { s with heap := h'' }) : wpAny Mo A (leaving env (.ref e)) Q E s := by
  have K : ∀ b o, hc.get? b = some o → s.heap.get? b = some o := fun b o q => u b o q List.not_mem_nil
  have nfr : ∀ a ∈ (env :: outer).filterMap (·.frame), hc.get? a ≠ none := fun a ha q => by
    obtain ⟨_, o, ho, _⟩ := hl.mem ha
    rw [q] at ho; cases ho
  have nxe : dx ≠ e := fun q => by rw [q, e1] at e3; cases e3
  refine tf_leave0 (stay := hideAll s.heap (e :: (env :: outer).filterMap (·.frame))) hfr
    (funFrames_base (hl.of_keeps fun b o q _ => ⟨o, K b o q, rfl⟩) fun a ha => hideAll_none _ (.tail _ ha)) hf e1 (fun b o q => of_hideAll _ q) (hideAll_none _ (.head _)) rfl rfl
    fun h' fly us => hq h' ⟨⟨_, dx, k, k', mt, t, t', fly, ?_, fun b o hb nM nf => ?_, ?_⟩, fun a ha o hb => ?_⟩
  · refine hideAll_get _ e3 fun q => ?_
    rcases List.mem_cons.mp q with q | q
    · exact nxe q
    · exact nfr _ q e2
  · refine hideAll_get _ (K b o (U b o hb nM)) fun q => ?_
    rcases List.mem_cons.mp q with rfl | q
    · rw [U b o hb nM] at e0; cases e0
    · rcases (mem_frames hf).mp q with rfl | q
      · rw [hL] at hb; cases hb
      · exact nf q
  · cases q : h.get? dx with
    | none => exact .inl rfl
    | some o =>
      refine .inr (Classical.byContradiction fun nM => ?_)
      rw [U dx o q nM] at e2; cases e2
  · have ha' := (mem_frames (outer := outer) hf).mpr (Or.inr ha)
    have q1 := U a o hb fun q => hoff a q ha
    obtain ⟨_, o2, e4, nd⟩ := hl.mem ha'
    rw [q1] at e4
    cases e4
    obtain ⟨sl', e5⟩ := us a _ (K a o q1) nd
    exact ⟨sl', e5⟩
end
end Mine
end
-- P1
section
namespace Mine
open PySem PySem.W PySem.Calls PyProof.Rows
set_option maxHeartbeats 1000000
section
variable {w : World} {mean : ExcName → Option Value} {mg mb : Str → Option Value} {base : Heap} {outer : List Env} {A : Around} {s : Shared} {R : Result → Shared → Prop}
    {x dx wl : Addr} {pl dp : Nat} {ws : List (Str × Nat)} {u : Str} {p : Nat}
theorem rd_in {P : Params} {g h : Heap} {L : Addr} {env : Env} {tl : List (Addr × Obj)} {k1 k2 k3 k4 t2 t3 t4 : Tok} (B : Below A base outer g) (hf : env.frame = some L)
    (N : News g L h ((x, instObj 258 dx) :: (dx, dictOf (rdL P k1 k2 k3 k4 t2 t3 t4 wl pl dp) 4) :: tl)) : RdAt P base (env :: outer) h x dx wl pl dp :=
  ⟨mut_in B hf N (.head _), ⟨k1, k2, k3, k4, t2, t3, t4⟩, mut_in B hf N (.tail _ (.head _))⟩
theorem rd_step {P : Params} {g h h' : Heap} {L : Addr} {m : Str → Option Value} {o : Obj} {outer' : List Env} {tl : List (Addr × Obj)} {pl' dp' : Nat} (F : Fr g L h m)
    (N : News g L h ((x, instObj 258 dx) :: (dx, o) :: tl)) (hne : x ≠ dx) (htl : ∀ p ∈ tl, p.1 ≠ dx) (u : Upto [dx] h h') (r : RdAt P base outer' h' x dx wl pl' dp') :
    Fr g L h' m ∧ ∃ K, News g L h' ((x, instObj 258 dx) :: (dx, dictOf (rdEs P K wl pl' dp') 4) :: tl) := by
  obtain ⟨K, e⟩ := r.dict
  refine ⟨fr_upto F u fun a ha => by rw [List.mem_singleton.mp ha]; exact news_at N (.tail _ (.head _)), K, ?_⟩
  exact news_swap (pre := [(x, instObj 258 dx)]) N u e.at_ (fun p hp => by rw [List.mem_singleton.mp hp]; exact hne) htl
theorem rd_end {P : Params} {g h h' : Heap} {L : Addr} {m : Str → Option Value} {tl : List (Addr × Obj)} {pl' dp' : Nat} {K : RdK} {c1 c2 c3 c4 d2 d3 d4 : Tok} (hr : RdAt P base outer h x dx wl pl dp)
    (hm : ∀ p ∈ [(x, instObj 258 dx), (dx, dictOf (rdEs P K wl pl dp) 4)], MutAt base outer h p) (hin : ∀ b o, h.get? b = some o → b ∉ [(x, instObj 258 dx), (dx, dictOf (rdEs P K wl pl dp) 4)].map (·.1) → g.get? b = some o)
    (F : Fr g L h' m) (N : News g L h' ((x, instObj 258 dx) :: (dx, dictOf (rdL P c1 c2 c3 c4 d2 d3 d4 wl pl' dp') 4) :: tl)) : Upto [dx] h h' ∧ RdAt P base outer h' x dx wl pl' dp' := by
  have u := upto_end hm hin F N [dx] (List.forall_mem_cons.mpr ⟨.inr (.head _), List.forall_mem_cons.mpr ⟨.inl (.head _), List.forall_mem_nil _⟩⟩)
  obtain ⟨a, b, c⟩ := hr.inst
  obtain ⟨_, d, e', f⟩ := hr.dict
  exact ⟨u, ⟨N.get (.head _), b, c⟩, ⟨c1, c2, c3, c4, d2, d3, d4⟩, ⟨N.get (.tail _ (.head _)), e', f⟩⟩
theorem want_spec {t : Tok} (C : Cx w mean mg mb base outer A s.heap) (hdep : A.depth + 3 < recursionLimit)
    (hr : RdAt w.params base outer s.heap x dx wl pl dp) (W : Words s.heap wl ws) (hw : ws[pl]? = some (u, p)) (hb : pl < 2 ^ 60) (hne : u ≠ "")
    (hk : ∀ h' tk, Upto [dx] s.heap h' → RdAt w.params base outer h' x dx wl (pl + 1) dp → R (.ok (.ret .none)) { s with heap := h', toks := tk }) :
    codeAny (model PR w) A (.call (.ref 187) ⟨[.ref x, .str u t], []⟩) R s := by
  obtain ⟨K, hm, hxd⟩ := hr.mu
  refine' enter_fn [("self", .ref x), ("word", .str u t)] C [(x, instObj 258 dx), (dx, (dictOf (rdEs w.params K wl pl dp) 4))] hm ?k1 ?k2 ?k3 ?k4 ?k5 ?_ ?c2 ?c3 ?c4 ?c5
  ((case k1 => k_is); (case k2 => k_is); (case k3 => (show _ < _; first | ((first | with_reducible assumption | exact Mine.lim (by assumption) | exact Mine.lim0 (by assumption) | exact Mine.lim2 (by assumption) | exact Mine.lim3 (by assumption) | exact Mine.lme (by assumption) | exact Mine.lml (by assumption) | exact Mine.lll (by assumption) | decide | lia)) | (dsimp only; ((first | with_reducible assumption | exact Mine.lim (by assumption) | exact Mine.lim0 (by assumption) | exact Mine.lim2 (by assumption) | exact Mine.lim3 (by assumption) | exact Mine.lme (by assumption) | exact Mine.lml (by assumption) | exact Mine.lll (by assumption) | decide | lia))))); (case k4 => exact BindsTo.of_eq rfl); (case k5 => exact locs rfl); (case c2 => exact rfl); (case c3 => exact rfl); (case c4 => exact rfl); (case c5 => decide))
  intro g L' h₁ tk F N B X T hin hout hsz
  have W1 := W.keeps (in_g hm hin rd_cls)
  try k_fold
  (repeat' ((fail_if_success with_reducible first|refine zz1 ?_|refine zz2 ?_|refine zz3 ?_|refine zz4 ?_|refine zz7 ?_|refine zz5 ?_|refine zz6 ?_); first | (k_unfold; (try dsimp only)) | (walk1; (all_goals (try dsimp only))) | (dsimp only; walk1; (all_goals (try dsimp only)))))
  refine wpAny_call (word_spec (cx_in C.X C.T B F rfl rfl (frames_cons B.stack)) (show A.depth + 1 + 1 < _ by ((first | with_reducible assumption | exact Mine.lim (by assumption) | exact Mine.lim0 (by assumption) | exact Mine.lim2 (by assumption) | exact Mine.lim3 (by assumption) | exact Mine.lme (by assumption) | exact Mine.lml (by assumption) | exact Mine.lll (by assumption) | decide | lia))) (rd_in B rfl N) (W1.keeps (.of F.keep)) hw hb fun h2 t2 tk2 u2 => ?_)
  have F2 := fr_upto F u2 (fun a ha => nomatch ha)
  have N2 := news_upto N u2
  clear F N
  try dsimp only
  (repeat' ((fail_if_success with_reducible first|refine zz1 ?_|refine zz2 ?_|refine zz3 ?_|refine zz4 ?_|refine zz7 ?_|refine zz5 ?_|refine zz6 ?_); first | (k_unfold; (try dsimp only)) | (walk1; (all_goals (try dsimp only))) | (dsimp only; walk1; (all_goals (try dsimp only)))))
  · rename_i q
    simp at q
  · refine wpAny_call (take_spec (s := ⟨h2, _, _, _, _⟩) (cx_in C.X C.T B F2 rfl rfl (frames_cons B.stack)) (show A.depth + 1 + 1 < _ by ((first | with_reducible assumption | exact Mine.lim (by assumption) | exact Mine.lim0 (by assumption) | exact Mine.lim2 (by assumption) | exact Mine.lim3 (by assumption) | exact Mine.lme (by assumption) | exact Mine.lml (by assumption) | exact Mine.lll (by assumption) | decide | lia))) (rd_in B rfl N2) (W1.keeps (.of F2.keep)) hw hb fun h3 t3 tk3 u3 r3 => ?_)
    obtain ⟨F3, _, N3⟩ := rd_step F2 N2 hxd (List.forall_mem_nil _) u3 r3
    clear F2 N2
    try dsimp only
    (repeat' ((fail_if_success with_reducible first|refine zz1 ?_|refine zz2 ?_|refine zz3 ?_|refine zz4 ?_|refine zz7 ?_|refine zz5 ?_|refine zz6 ?_); first | (k_unfold; (try dsimp only)) | (walk1; (all_goals (try dsimp only))) | (dsimp only; walk1; (all_goals (try dsimp only)))))
    obtain ⟨a, b⟩ := rd_end hr hm hin F3 N3
    exact hk _ _ a b
  · first | exact absurd (by assumption : u = "") hne | (exfalso; simp_all; done) | trace_state
end
end Mine
end
-- P2
section
namespace Mine
open PySem PySem.W PySem.Calls PyProof.Rows
set_option maxHeartbeats 1000000
section
variable {w : World} {mean : ExcName → Option Value} {mg mb : Str → Option Value} {base : Heap} {outer : List Env} {dep un : Nat} {gd : Option (List Code)} {s : Shared} {R : Result → Shared → Prop}
    {x dx wl : Addr} {pl dp : Nat} {ws : List (Str × Nat)} {u : Str} {p : Nat}
structure OpWord (u : Str) : Prop where
  op : isOp u = true
  len : u.length ≤ 1000
  ok : ∀ c ∈ signs u, PyData.strOk c = true
theorem op_spec (C : Cx w mean mg mb base outer (Ar dep un gd outer) s.heap) (hdep : dep + 3 < recursionLimit) (hu : un + 100 < cLine)
    (hr : RdAt w.params base outer s.heap x dx wl pl dp) (W : Words s.heap wl ws) (hw : ws[pl]? = some (u, p)) (hb : pl < 2 ^ 60) (ho : OpWord u)
    (hk : ∀ h' tk t, Upto [dx] s.heap h' → RdAt w.params base outer h' x dx wl (pl + 1) dp → R (.ok (.ret (.str u t))) { s with heap := h', toks := tk }) :
    codeAny (model PR w) (Ar dep un gd outer) (.call (.ref 194) ⟨[.ref x], []⟩) R s := by
  obtain ⟨K, hm, hxd⟩ := hr.mu
  refine' enter_fn (A := Ar dep un gd outer) [("self", .ref x)] C [(x, instObj 258 dx), (dx, (dictOf (rdEs w.params K wl pl dp) 4))] hm ?k1 ?k2 ?k3 ?k4 ?k5 ?_ ?c2 ?c3 ?c4 ?c5
  ((case k1 => k_is); (case k2 => k_is); (case k3 => (show _ < _; first | ((first | with_reducible assumption | exact Mine.lim (by assumption) | exact Mine.lim0 (by assumption) | exact Mine.lim2 (by assumption) | exact Mine.lim3 (by assumption) | exact Mine.lme (by assumption) | exact Mine.lml (by assumption) | exact Mine.lll (by assumption) | decide | lia)) | (dsimp only; ((first | with_reducible assumption | exact Mine.lim (by assumption) | exact Mine.lim0 (by assumption) | exact Mine.lim2 (by assumption) | exact Mine.lim3 (by assumption) | exact Mine.lme (by assumption) | exact Mine.lml (by assumption) | exact Mine.lll (by assumption) | decide | lia))))); (case k4 => exact BindsTo.of_eq rfl); (case k5 => exact locs rfl); (case c2 => exact rfl); (case c3 => exact rfl); (case c4 => exact rfl); (case c5 => decide))
  intro g L' h₁ tk F N B X T hin hout hsz
  have W1 := W.keeps (in_g hm hin rd_cls)
  try k_fold
  (repeat' ((fail_if_success with_reducible first|refine zz1 ?_|refine zz2 ?_|refine zz3 ?_|refine zz4 ?_|refine zz7 ?_|refine zz5 ?_|refine zz6 ?_); first | (k_unfold; (try dsimp only)) | walk1 | (dsimp only; walk1)))
  refine wpAny_call (word_spec (cx_in C.X C.T B F rfl rfl rfl) (show dep + 1 + 1 < _ by ((first | with_reducible assumption | exact Mine.lim (by assumption) | exact Mine.lim0 (by assumption) | exact Mine.lim2 (by assumption) | exact Mine.lim3 (by assumption) | exact Mine.lme (by assumption) | exact Mine.lml (by assumption) | exact Mine.lll (by assumption) | decide | lia))) (rd_in B rfl N) (W1.keeps (.of F.keep)) hw hb fun h2 t2 tk2 u2 => ?_)
  have F2 := fr_upto F u2 (fun a ha => nomatch ha)
  have N2 := news_upto N u2
  clear F N
  try dsimp only
  (repeat' ((fail_if_success with_reducible first|refine zz1 ?_|refine zz2 ?_|refine zz3 ?_|refine zz4 ?_|refine zz7 ?_|refine zz5 ?_|refine zz6 ?_); first | (k_unfold; (try dsimp only)) | walk1 | (dsimp only; walk1)))
  refine wpAny_call (is_op_spec (s := ⟨h2, _, _, _, _⟩) (cx_in C.X C.T B F2 rfl rfl rfl) rfl (show dep + 1 + 1 < _ by ((first | with_reducible assumption | exact Mine.lim (by assumption) | exact Mine.lim0 (by assumption) | exact Mine.lim2 (by assumption) | exact Mine.lim3 (by assumption) | exact Mine.lme (by assumption) | exact Mine.lml (by assumption) | exact Mine.lll (by assumption) | decide | lia))) (show un + 3 + 70 < _ by ((first | with_reducible assumption | exact Mine.lim (by assumption) | exact Mine.lim0 (by assumption) | exact Mine.lim2 (by assumption) | exact Mine.lim3 (by assumption) | exact Mine.lme (by assumption) | exact Mine.lml (by assumption) | exact Mine.lll (by assumption) | decide | lia))) ho.len ho.ok fun h3 tk3 u3 => ?_)
  rw [ho.op]
  have F3 := fr_upto F2 u3 (fun a ha => nomatch ha)
  have N3 := news_upto N2 u3
  clear F2 N2
  try dsimp only
  (repeat' ((fail_if_success with_reducible first|refine zz1 ?_|refine zz2 ?_|refine zz3 ?_|refine zz4 ?_|refine zz7 ?_|refine zz5 ?_|refine zz6 ?_); first | (k_unfold; (try dsimp only)) | walk1 | (dsimp only; walk1)))
  refine wpAny_call (take_spec (s := ⟨h3, _, _, _, _⟩) (cx_in C.X C.T B F3 rfl rfl rfl) (show dep + 1 + 1 < _ by ((first | with_reducible assumption | exact Mine.lim (by assumption) | exact Mine.lim0 (by assumption) | exact Mine.lim2 (by assumption) | exact Mine.lim3 (by assumption) | exact Mine.lme (by assumption) | exact Mine.lml (by assumption) | exact Mine.lll (by assumption) | decide | lia))) (rd_in B rfl N3) (W1.keeps (.of F3.keep)) hw hb fun h4 t4 tk4 u4 r4 => ?_)
  obtain ⟨F4, _, N4⟩ := rd_step F3 N3 hxd (List.forall_mem_nil _) u4 r4
  clear F3 N3
  try dsimp only
  (repeat' ((fail_if_success with_reducible first|refine zz1 ?_|refine zz2 ?_|refine zz3 ?_|refine zz4 ?_|refine zz7 ?_|refine zz5 ?_|refine zz6 ?_); first | (k_unfold; (try dsimp only)) | walk1 | (dsimp only; walk1)))
  obtain ⟨a, b⟩ := rd_end hr hm hin F4 N4
  exact hk _ _ _ a b
theorem close_spec (C : Cx w mean mg mb base outer (Ar dep un gd outer) s.heap) (hdep : dep + 4 < recursionLimit)
    (hr : RdAt w.params base outer s.heap x dx wl pl (dp + 1)) (W : Words s.heap wl ws) (hw : ws[pl]? = some ((")" : Str), p)) (hb : pl < 2 ^ 60)
    (hk : ∀ h' tk, Upto [dx] s.heap h' → RdAt w.params base outer h' x dx wl (pl + 1) dp → R (.ok (.ret .none)) { s with heap := h', toks := tk }) :
    codeAny (model PR w) (Ar dep un gd outer) (.call (.ref 208) ⟨[.ref x], []⟩) R s := by
  obtain ⟨K, hm, hxd⟩ := hr.mu
  refine' enter_fn (A := Ar dep un gd outer) [("self", .ref x)] C [(x, instObj 258 dx), (dx, (dictOf (rdEs w.params K wl pl (dp + 1)) 4))] hm ?k1 ?k2 ?k3 ?k4 ?k5 ?_ ?c2 ?c3 ?c4 ?c5
  ((case k1 => k_is); (case k2 => k_is); (case k3 => (show _ < _; first | ((first | with_reducible assumption | exact Mine.lim (by assumption) | exact Mine.lim0 (by assumption) | exact Mine.lim2 (by assumption) | exact Mine.lim3 (by assumption) | exact Mine.lme (by assumption) | exact Mine.lml (by assumption) | exact Mine.lll (by assumption) | decide | lia)) | (dsimp only; ((first | with_reducible assumption | exact Mine.lim (by assumption) | exact Mine.lim0 (by assumption) | exact Mine.lim2 (by assumption) | exact Mine.lim3 (by assumption) | exact Mine.lme (by assumption) | exact Mine.lml (by assumption) | exact Mine.lll (by assumption) | decide | lia))))); (case k4 => exact BindsTo.of_eq rfl); (case k5 => exact locs rfl); (case c2 => exact rfl); (case c3 => exact rfl); (case c4 => exact rfl); (case c5 => decide))
  intro g L' h₁ tk F N B X T hin hout hsz
  have W1 := W.keeps (in_g hm hin rd_cls)
  try k_fold
  (repeat' ((fail_if_success with_reducible first|refine zz1 ?_|refine zz2 ?_|refine zz3 ?_|refine zz4 ?_|refine zz7 ?_|refine zz5 ?_|refine zz6 ?_); first | (k_unfold; (try dsimp only)) | walk1 | (dsimp only; walk1)))
  refine wpAny_call (want_spec (cx_in C.X C.T B F rfl rfl rfl) (show dep + 1 + 3 < _ by ((first | with_reducible assumption | exact Mine.lim (by assumption) | exact Mine.lim0 (by assumption) | exact Mine.lim2 (by assumption) | exact Mine.lim3 (by assumption) | exact Mine.lme (by assumption) | exact Mine.lml (by assumption) | exact Mine.lll (by assumption) | decide | lia))) (rd_in B rfl N) (W1.keeps (.of F.keep)) hw hb (by decide) fun h2 tk2 u2 r2 => ?_)
  obtain ⟨F2, _, N2⟩ := rd_step F N hxd (List.forall_mem_nil _) u2 r2
  clear F N
  try dsimp only
  (repeat' ((fail_if_success with_reducible first|refine zz1 ?_|refine zz2 ?_|refine zz3 ?_|refine zz4 ?_|refine zz7 ?_|refine zz5 ?_|refine zz6 ?_); first | (k_unfold; (try dsimp only)) | walk1 | (dsimp only; walk1)))
  rename_i h3 F3 N3
  rw [show ((dp + 1 : Nat) : Int) - 1 = (dp : Int) by ((first | with_reducible assumption | exact Mine.lim (by assumption) | exact Mine.lim0 (by assumption) | exact Mine.lim2 (by assumption) | exact Mine.lim3 (by assumption) | exact Mine.lme (by assumption) | exact Mine.lml (by assumption) | exact Mine.lll (by assumption) | decide | lia))] at N3
  obtain ⟨a, b⟩ := rd_end hr hm hin F3 N3
  exact hk _ _ a b
theorem begin_spec (C : Cx w mean mg mb base outer (Ar dep un gd outer) s.heap) (hdep : dep + 4 < recursionLimit)
    (hr : RdAt w.params base outer s.heap x dx wl pl dp) (W : Words s.heap wl ws) (hw : ws[pl]? = some (("(" : Str), p)) (hb : pl < 2 ^ 60) (hlt : dp < 40)
    (hk : ∀ h' tk, Upto [dx] s.heap h' → RdAt w.params base outer h' x dx wl (pl + 1) (dp + 1) → R (.ok (.ret .none)) { s with heap := h', toks := tk }) :
    codeAny (model PR w) (Ar dep un gd outer) (.call (.ref 201) ⟨[.ref x], []⟩) R s := by
  obtain ⟨K, hm, hxd⟩ := hr.mu
  refine' enter_fn (A := Ar dep un gd outer) [("self", .ref x)] C [(x, instObj 258 dx), (dx, (dictOf (rdEs w.params K wl pl dp) 4))] hm ?k1 ?k2 ?k3 ?k4 ?k5 ?_ ?c2 ?c3 ?c4 ?c5
  ((case k1 => k_is); (case k2 => k_is); (case k3 => (show _ < _; first | ((first | with_reducible assumption | exact Mine.lim (by assumption) | exact Mine.lim0 (by assumption) | exact Mine.lim2 (by assumption) | exact Mine.lim3 (by assumption) | exact Mine.lme (by assumption) | exact Mine.lml (by assumption) | exact Mine.lll (by assumption) | decide | lia)) | (dsimp only; ((first | with_reducible assumption | exact Mine.lim (by assumption) | exact Mine.lim0 (by assumption) | exact Mine.lim2 (by assumption) | exact Mine.lim3 (by assumption) | exact Mine.lme (by assumption) | exact Mine.lml (by assumption) | exact Mine.lll (by assumption) | decide | lia))))); (case k4 => exact BindsTo.of_eq rfl); (case k5 => exact locs rfl); (case c2 => exact rfl); (case c3 => exact rfl); (case c4 => exact rfl); (case c5 => decide))
  intro g L' h₁ tk F N B X T hin hout hsz
  have W1 := W.keeps (in_g hm hin rd_cls)
  try k_fold
  (repeat' ((fail_if_success with_reducible first|refine zz1 ?_|refine zz2 ?_|refine zz3 ?_|refine zz4 ?_|refine zz7 ?_|refine zz5 ?_|refine zz6 ?_); first | (k_unfold; (try dsimp only)) | walk1 | (dsimp only; walk1)))
  refine wpAny_call (want_spec (cx_in C.X C.T B F rfl rfl rfl) (show dep + 1 + 3 < _ by ((first | with_reducible assumption | exact Mine.lim (by assumption) | exact Mine.lim0 (by assumption) | exact Mine.lim2 (by assumption) | exact Mine.lim3 (by assumption) | exact Mine.lme (by assumption) | exact Mine.lml (by assumption) | exact Mine.lll (by assumption) | decide | lia))) (rd_in B rfl N) (W1.keeps (.of F.keep)) hw hb (by decide) fun h2 tk2 u2 r2 => ?_)
  obtain ⟨F2, _, N2⟩ := rd_step F N hxd (List.forall_mem_nil _) u2 r2
  clear F N
  try dsimp only
  (repeat' ((fail_if_success with_reducible first|refine zz1 ?_|refine zz2 ?_|refine zz3 ?_|refine zz4 ?_|refine zz7 ?_|refine zz5 ?_|refine zz6 ?_); first | (k_unfold; (try dsimp only)) | walk1 | (dsimp only; walk1)))
  obtain ⟨a, b⟩ := rd_end hr hm hin (by assumption) (by assumption)
  exact hk _ _ a b
theorem begin_fault {p2 : Nat} {u2 : Str} (C : Cx w mean mg mb base outer (Ar dep un gd outer) s.heap) (hdep : dep + 20 < recursionLimit)
    (hr : RdAt w.params base outer s.heap x dx wl pl dp) (W : Words s.heap wl ws) (hw : ws[pl]? = some (("(" : Str), p)) (hw2 : ws[pl + 1]? = some (u2, p2)) (hb : pl < 2 ^ 59) (hlt : 40 ≤ dp) (hdb : dp < 1000)
    (hk : ∀ h' tk e, Thrown w.params outer [dx] s.heap p2 e h' → R (.error (.ref e)) { s with heap := h', toks := tk }) :
    codeAny (model PR w) (Ar dep un gd outer) (.call (.ref 201) ⟨[.ref x], []⟩) R s := by
  obtain ⟨K, hm, hxd⟩ := hr.mu
  refine' enter_fn (A := Ar dep un gd outer) [("self", .ref x)] C [(x, instObj 258 dx), (dx, (dictOf (rdEs w.params K wl pl dp) 4))] hm ?k1 ?k2 ?k3 ?k4 ?k5 ?_ ?c2 ?c3 ?c4 ?c5
  ((case k1 => k_is); (case k2 => k_is); (case k3 => (show _ < _; first | ((first | with_reducible assumption | exact Mine.lim (by assumption) | exact Mine.lim0 (by assumption) | exact Mine.lim2 (by assumption) | exact Mine.lim3 (by assumption) | exact Mine.lme (by assumption) | exact Mine.lml (by assumption) | exact Mine.lll (by assumption) | decide | lia)) | (dsimp only; ((first | with_reducible assumption | exact Mine.lim (by assumption) | exact Mine.lim0 (by assumption) | exact Mine.lim2 (by assumption) | exact Mine.lim3 (by assumption) | exact Mine.lme (by assumption) | exact Mine.lml (by assumption) | exact Mine.lll (by assumption) | decide | lia))))); (case k4 => exact BindsTo.of_eq rfl); (case k5 => exact locs rfl); (case c2 => exact rfl); (case c3 => exact rfl); (case c4 => exact rfl); (case c5 => decide))
  intro g L' h₁ tk F N B X T hin hout hsz
  have W1 := W.keeps (in_g hm hin rd_cls)
  try k_fold
  (repeat' ((fail_if_success with_reducible first|refine zz1 ?_|refine zz2 ?_|refine zz3 ?_|refine zz4 ?_|refine zz7 ?_|refine zz5 ?_|refine zz6 ?_); first | (k_unfold; (try dsimp only)) | walk1 | (dsimp only; walk1)))
  refine wpAny_call (want_spec (cx_in C.X C.T B F rfl rfl rfl) (show dep + 1 + 3 < _ by ((first | with_reducible assumption | exact Mine.lim (by assumption) | exact Mine.lim0 (by assumption) | exact Mine.lim2 (by assumption) | exact Mine.lim3 (by assumption) | exact Mine.lme (by assumption) | exact Mine.lml (by assumption) | exact Mine.lll (by assumption) | decide | lia))) (rd_in B rfl N) (W1.keeps (.of F.keep)) hw (by ((first | with_reducible assumption | exact Mine.lim (by assumption) | exact Mine.lim0 (by assumption) | exact Mine.lim2 (by assumption) | exact Mine.lim3 (by assumption) | exact Mine.lme (by assumption) | exact Mine.lml (by assumption) | exact Mine.lll (by assumption) | decide | lia))) (by decide) fun h2 tk2 u2 r2 => ?_)
  obtain ⟨F2, _, N2⟩ := rd_step F N hxd (List.forall_mem_nil _) u2 r2
  clear F N
  try dsimp only
  (repeat' ((fail_if_success with_reducible first|refine zz1 ?_|refine zz2 ?_|refine zz3 ?_|refine zz4 ?_|refine zz7 ?_|refine zz5 ?_|refine zz6 ?_); first | (k_unfold; (try dsimp only)) | walk1 | (dsimp only; walk1)))
  refine raise_tf rfl ?_
  (repeat' ((fail_if_success with_reducible first|refine zz1 ?_|refine zz2 ?_|refine zz3 ?_|refine zz4 ?_|refine zz7 ?_|refine zz5 ?_|refine zz6 ?_); first | (k_unfold; (try dsimp only)) | walk1 | (dsimp only; walk1)))
  rename_i h3 F3 N3
  refine wpAny_call (spot_spec (s := ⟨h3, _, _, _, _⟩) (cx_in C.X C.T B F3 rfl rfl rfl) (show dep + 1 + 1 < _ by ((first | with_reducible assumption | exact Mine.lim (by assumption) | exact Mine.lim0 (by assumption) | exact Mine.lim2 (by assumption) | exact Mine.lim3 (by assumption) | exact Mine.lme (by assumption) | exact Mine.lml (by assumption) | exact Mine.lll (by assumption) | decide | lia))) (rd_in (pl := pl + 1) (dp := dp + 1) B rfl N3) (W1.keeps (.of F3.keep)) hw2 (by ((first | with_reducible assumption | exact Mine.lim (by assumption) | exact Mine.lim0 (by assumption) | exact Mine.lim2 (by assumption) | exact Mine.lim3 (by assumption) | exact Mine.lme (by assumption) | exact Mine.lml (by assumption) | exact Mine.lll (by assumption) | decide | lia))) fun h4 t4 tk4 u4 => ?_)
  have F4 := fr_upto F3 u4 (fun a ha => nomatch ha)
  have N4 := news_upto N3 u4
  clear F3 N3
  try dsimp only
  (repeat' ((fail_if_success with_reducible first|refine zz1 ?_|refine zz2 ?_|refine zz3 ?_|refine zz4 ?_|refine zz7 ?_|refine zz5 ?_|refine zz6 ?_); first | (k_unfold; (try dsimp only)) | walk1 | (dsimp only; walk1)))
  have c4 := cx_in (A' := (Ar dep un gd outer).deeper (envOf "Reader.begin" ⟨.function, [("self", .local), ("TextFault", .globalImplicit)], false, false, []⟩ L' 201 (.ref 200))) C.X C.T B F4 rfl rfl rfl
  refine wpAny_call (tf_new (s := ⟨h4, _, _, _, _⟩) c4 (show dep + 1 + 8 < _ by ((first | with_reducible assumption | exact Mine.lim (by assumption) | exact Mine.lim0 (by assumption) | exact Mine.lim2 (by assumption) | exact Mine.lim3 (by assumption) | exact Mine.lme (by assumption) | exact Mine.lml (by assumption) | exact Mine.lll (by assumption) | decide | lia))) fun h5 e ex k k' tk5 tp u5 f1 e1 f2 e2 => ?_)
  have U := upto_end hm hin F4 N4 [dx] (List.forall_mem_cons.mpr ⟨.inr (.head _), List.forall_mem_cons.mpr ⟨.inl (.head _), List.forall_mem_nil _⟩⟩)
  refine ⟨e, ex, tp, rfl, X.keeps fun b o q => u5 b o (F4.keep b o q) List.not_mem_nil, e1, ?_⟩
  refine thrown_new U ?_ ?_ rfl rfl c4.B.frames u5 f1 e1 f2 e2 fun h6 y => hk _ _ _ y
  · exact Heap.get?_none_of_le (by rw [← hsz]; exact F4.above)
  · exact fun a ha => by rw [List.mem_singleton.mp ha]; exact (hm _ (.tail _ (.head _))).off
end
end Mine
end
-- T1
section
namespace Mine
open PySem PySem.W PySem.Calls PyProof.Rows
set_option maxHeartbeats 1000000
inductive Tm where
  | node (op : Str) (kids : List Tm)
mutual
noncomputable def Tm.words : Tm → List Str
  | .node op [] => [op]
  | .node op (k :: ks) => ("(" : Str) :: op :: (k.words ++ wordsL ks) ++ [(")" : Str)]
noncomputable def wordsL : List Tm → List Str
  | [] => []
  | k :: ks => k.words ++ wordsL ks
end
mutual
noncomputable def Tm.dat : Tm → PyData
  | .node op ks => .tuple (.str op :: datL ks)
noncomputable def datL : List Tm → List PyData
  | [] => []
  | k :: ks => k.dat :: datL ks
end
mutual
noncomputable def Tm.ops : Tm → List Str
  | .node op ks => op :: opsL ks
noncomputable def opsL : List Tm → List Str
  | [] => []
  | k :: ks => k.ops ++ opsL ks
end
mutual
noncomputable def Tm.nest : Tm → Nat
  | .node _ ks => nestL ks + 1
noncomputable def nestL : List Tm → Nat
  | [] => 0
  | k :: ks => max k.nest (nestL ks)
end
mutual
noncomputable def Tm.fault (dp : Nat) : Tm → Option Nat
  | .node _ [] => none
  | .node _ (k :: ks) => if 40 ≤ dp then some 1 else (match k.fault (dp + 1) with | some i => some i | none => (faultL (dp + 1) ks).map (· + k.words.length)).map (· + 2)
noncomputable def faultL (dp : Nat) : List Tm → Option Nat
  | [] => none
  | k :: ks => match k.fault dp with | some i => some i | none => (faultL dp ks).map (· + k.words.length)
end
theorem wordsL_cons (k : Tm) (ks : List Tm) : wordsL (k :: ks) = k.words ++ wordsL ks := rfl
theorem faultL_cons (dp : Nat) (k : Tm) (ks : List Tm) : faultL dp (k :: ks) = match k.fault dp with | some i => some i | none => (faultL dp ks).map (· + k.words.length) := rfl
theorem fault_node (dp : Nat) (op : Str) (k : Tm) (ks : List Tm) : (Tm.node op (k :: ks)).fault dp = if 40 ≤ dp then some 1 else (faultL (dp + 1) (k :: ks)).map (· + 2) := rfl
theorem words_node (op : Str) (k : Tm) (ks : List Tm) : (Tm.node op (k :: ks)).words = ("(" : Str) :: op :: (wordsL (k :: ks) ++ [(")" : Str)]) := rfl
theorem nest_kid {k : Tm} {ks : List Tm} (h : k ∈ ks) : k.nest ≤ nestL ks := by
  induction h with
  | head => exact Nat.le_max_left _ _
  | tail _ _ ih => exact Nat.le_trans ih (Nat.le_max_right _ _)
theorem ops_kid {k : Tm} {o : Str} (ho : o ∈ k.ops) {ks : List Tm} (h : k ∈ ks) : o ∈ opsL ks := by
  induction h with
  | head => exact List.mem_append_left _ ho
  | tail _ _ ih => exact List.mem_append_right _ ih
theorem words_pos (t : Tm) : ∃ u l, t.words = u :: l ∧ (u = ("(" : Str) ∨ u ∈ t.ops) := by
  cases t with
  | node op ks => cases ks with
    | nil => exact ⟨op, [], rfl, .inr (.head _)⟩
    | cons k ks => exact ⟨_, _, rfl, .inl rfl⟩
theorem isOp_close {o : Str} (h : OpWord o) : o ≠ (")" : Str) := by
  rintro rfl
  have := h.op
  revert this
  decide +kernel
theorem isOp_open {o : Str} (h : OpWord o) : o ≠ ("(" : Str) := by
  rintro rfl
  have := h.op
  revert this
  decide +kernel
noncomputable def Here (ws : List (Str × Nat)) (pl : Nat) (l : List Str) : Prop := ∃ rest, (ws.drop pl).map (·.1) = l ++ rest
theorem Here.cons {ws : List (Str × Nat)} {pl : Nat} {u : Str} {l : List Str} (h : Here ws pl (u :: l)) : (∃ p, ws[pl]? = some (u, p)) ∧ Here ws (pl + 1) l := by
  obtain ⟨rest, e⟩ := h
  cases q : ws.drop pl with
  | nil => rw [q] at e; cases e
  | cons a r =>
    rw [q, List.map_cons, List.cons_append] at e
    injection e with e1 e2
    refine ⟨⟨a.2, ?_⟩, rest, ?_⟩
    · have : ws[pl]? = (ws.drop pl)[0]? := by rw [List.getElem?_drop]; rfl
      rw [this, q, ← e1]; rfl
    · rw [← List.drop_drop, q]; exact e2
theorem Here.append {ws : List (Str × Nat)} {pl : Nat} {l l' : List Str} (h : Here ws pl (l ++ l')) : Here ws pl l ∧ Here ws (pl + l.length) l' := by
  obtain ⟨rest, e⟩ := h
  refine ⟨⟨l' ++ rest, by rw [e, List.append_assoc]⟩, rest, ?_⟩
  rw [← List.drop_drop, List.map_drop, e, List.append_assoc, List.drop_left]
noncomputable def IsT (o : Obj) : Prop := o.cls = .type "tuple" ∧ ∃ vs n, o.data = .seq vs n
noncomputable def KeepT (h h' : Heap) : Prop := ∀ b o, h.get? b = some o → IsT o → h'.get? b = some o
theorem KeepT.trans {a b c : Heap} (x : KeepT a b) (y : KeepT b c) : KeepT a c := fun p o e q => y p o (x p o e q) q
theorem KeepT.of {h h' : Heap} (k : ∀ b o, h.get? b = some o → h'.get? b = some o) : KeepT h h' := fun b o e _ => k b o e
theorem reads_keep {h h' : Heap} {Z : Prop} (kt : KeepT h h') (kl : Z → ∀ b o, h.get? b = some o → (∃ vs n, o.data = .seq vs n) → h'.get? b = some o) {v : Value} {d : PyData} {as : List Addr} (r : Reads h v d as) :
    (as = [] ∨ Z ∧ d.canLay0 = true) → Reads h' v d as :=
  Reads.rec (motive_1 := fun v d as _ => (as = [] ∨ Z ∧ d.canLay0 = true) → Reads h' v d as) (motive_2 := fun vs ds as _ => (as = [] ∨ Z ∧ PyData.canLayAll0 ds = true) → ReadsAll h' vs ds as)
    (fun _ => .none) (fun b _ => .bool b) (fun i t _ => .int i t) (fun x t _ => .str x t)
    (fun h1 h2 h3 _ ih c => c.elim (fun e => absurd e (List.cons_ne_nil _ _)) fun c => .list (kl c.1 _ _ h1 ⟨_, _, h3⟩) h2 h3 (ih (.inr c)))
    (fun h1 h2 h3 _ ih c => .tuple (kt _ _ h1 ⟨h2, _, _, h3⟩) h2 h3 (ih c))
    (fun _ _ _ _ _ _ _ c => c.elim (fun e => absurd e (List.cons_ne_nil _ _)) fun c => absurd c.2 Bool.false_ne_true)
    (fun _ => .nil)
    (fun _ _ i1 i2 c => .cons (i1 (c.imp (fun e => (List.append_eq_nil_iff.mp e).1) fun c => ⟨c.1, (Bool.and_eq_true_iff.mp c.2).1⟩)) (i2 (c.imp (fun e => (List.append_eq_nil_iff.mp e).2) fun c => ⟨c.1, (Bool.and_eq_true_iff.mp c.2).2⟩)))
    r
theorem reads_keepT {h h' : Heap} (k : KeepT h h') {v : Value} {d : PyData} (r : Reads h v d []) : Reads h' v d [] := reads_keep (Z := False) k (fun z => z.elim) r (.inl rfl)
theorem tm_keeps {h h' : Heap} (k : KeepT h h') (t : Tm) {v : Value} (r : Reads h v t.dat []) : Reads h' v t.dat [] := reads_keepT k r
theorem readsAll_ind {h : Heap} {p : List Value → List PyData → List Addr → Prop} (nil : p [] [] []) (cons : ∀ {v vs d ds as bs}, Reads h v d as → ReadsAll h vs ds bs → p vs ds bs → p (v :: vs) (d :: ds) (as ++ bs))
    {vs : List Value} {ds : List PyData} {as : List Addr} (r : ReadsAll h vs ds as) : p vs ds as :=
  ReadsAll.rec (motive_1 := fun _ _ _ _ => True) (motive_2 := fun vs ds as _ => p vs ds as) trivial (fun _ => trivial) (fun _ _ => trivial) (fun _ _ => trivial) (fun _ _ _ _ _ => trivial) (fun _ _ _ _ _ => trivial)
    (fun _ _ _ _ _ _ _ => trivial) nil (fun a b _ ih => cons a b ih) r
theorem all_ind {h : Heap} {p : List Value → List PyData → Prop} (nil : p [] []) (cons : ∀ {v vs d ds}, Reads h v d [] → ReadsAll h vs ds [] → p vs ds → p (v :: vs) (d :: ds)) {vs : List Value} {ds : List PyData} (r : ReadsAll h vs ds []) : p vs ds :=
  readsAll_ind (p := fun vs ds as => as = [] → p vs ds) (fun _ => nil) (fun a b ih e => by
    obtain ⟨rfl, rfl⟩ := List.append_eq_nil_iff.mp e
    exact cons a b (ih rfl)) r rfl
theorem all_inv {h : Heap} {vs : List Value} {d : PyData} {ds : List PyData} (r : ReadsAll h vs (d :: ds) []) : ∃ v ws, vs = v :: ws ∧ Reads h v d [] ∧ ReadsAll h ws ds [] :=
  all_ind (p := fun vs es => es = d :: ds → ∃ v ws, vs = v :: ws ∧ Reads h v d [] ∧ ReadsAll h ws ds []) (fun e => nomatch e) (fun a b _ e => by
    cases e
    exact ⟨_, _, rfl, a, b⟩) r rfl
theorem tms_keeps {h h' : Heap} (k : KeepT h h') (ts : List Tm) {vs : List Value} (r : ReadsAll h vs (datL ts) []) : ReadsAll h' vs (datL ts) [] := all_ind (p := fun vs ds => ReadsAll h' vs ds []) .nil (fun a _ ih => readsAll_cons_val (reads_keepT k a) ih) r
theorem reads_snoc {h : Heap} {v : Value} {d : PyData} (r : Reads h v d []) {vs : List Value} {ds : List PyData} (x : ReadsAll h vs ds []) : ReadsAll h (vs ++ [v]) (ds ++ [d]) [] :=
  all_ind (p := fun vs ds => ReadsAll h (vs ++ [v]) (ds ++ [d]) []) (readsAll_cons_val r .nil) (fun a _ ih => readsAll_cons_val a ih) x
theorem datL_snoc (t : Tm) : ∀ (ts : List Tm), datL (ts ++ [t]) = datL ts ++ [t.dat]
  | [] => rfl
  | _ :: ts => congrArg (List.cons _) (datL_snoc t ts)
noncomputable def snapOf (g h : Heap) : List (Addr × Obj) :=
  (List.range h.objs.size).filterMap fun a => match h.get? a with | some o => open Classical in if IsT o ∧ g.get? a = none then some (a, o) else none | none => none
theorem mem_snap {g h : Heap} {p : Addr × Obj} : p ∈ snapOf g h ↔ h.get? p.1 = some p.2 ∧ IsT p.2 ∧ g.get? p.1 = none := by
  unfold snapOf
  rw [List.mem_filterMap]
  constructor
  · rintro ⟨a, _, e⟩
    cases q : h.get? a with
    | none => rw [q] at e; cases e
    | some o =>
      rw [q] at e
      dsimp only at e
      split at e
      · rename_i hc
        cases e
        exact ⟨q, hc⟩
      · cases e
  · rintro ⟨e, hc⟩
    refine ⟨p.1, List.mem_range.mpr (Heap.lt_size e), ?_⟩
    rw [e]
    dsimp only
    rw [if_pos hc]
theorem snap {g h : Heap} {L : Addr} {m : Str → Option Value} {l : List (Addr × Obj)} (F : Fr g L h m) (N : News g L h l) : News g L h (l ++ snapOf g h) := fun p hp => by
  rcases List.mem_append.mp hp with q | q
  · exact N p q
  · obtain ⟨e, hc, hn⟩ := mem_snap.mp q
    refine ⟨e, fun z => ?_, hn⟩
    obtain ⟨oL, es, ep, hL, hd, hr⟩ := F.ns
    rw [z, hL] at e
    obtain ⟨_, _, _, hs⟩ := hc
    rw [← Option.some.inj e, hd] at hs
    cases hs
theorem snap_keep {g h h' : Heap} (k : ∀ b o, g.get? b = some o → h'.get? b = some o) (kg : ∀ b o, g.get? b = some o → h.get? b = some o) (N : ∀ p ∈ snapOf g h, h'.get? p.1 = some p.2) : KeepT h h' := fun b o e c => by
  cases q : g.get? b with
  | none => exact N (b, o) (mem_snap.mpr ⟨e, c, q⟩)
  | some o' =>
    have := kg b o' q
    rw [e] at this
    cases this
    exact k b o q
end Mine
end
-- T2
section
namespace Mine
open PySem PySem.W PySem.Calls PyProof.Rows
set_option maxHeartbeats 3000000
section
variable {w : World} {mean : ExcName → Option Value} {mg mb : Str → Option Value} {base : Heap}
theorem rd_in2 {P : Params} {g h : Heap} {L : Addr} {env : Env} {news : List (Addr × Obj)} {k1 k2 k3 k4 t2 t3 t4 : Tok} {outer : List Env} {A : Around} {x dx wl : Addr} {pl dp : Nat} (B : Below A base outer g) (hf : env.frame = some L)
    (N : News g L h news) (h1 : (x, instObj 258 dx) ∈ news) (h2 : (dx, dictOf (rdL P k1 k2 k3 k4 t2 t3 t4 wl pl dp) 4) ∈ news) : RdAt P base (env :: outer) h x dx wl pl dp :=
  ⟨mut_in B hf N h1, ⟨k1, k2, k3, k4, t2, t3, t4⟩, mut_in B hf N h2⟩
theorem rd_step2 {P : Params} {g h h' : Heap} {L D : Addr} {m : Str → Option Value} {o oD : Obj} {outer' : List Env} {tl : List (Addr × Obj)} {pl' dp' : Nat} {x dx wl : Addr} (F : Fr g L h m)
    (N : News g L h ((D, oD) :: (x, instObj 258 dx) :: (dx, o) :: tl)) (hne : x ≠ dx) (hD : D ≠ dx) (htl : ∀ p ∈ tl, p.1 ≠ dx) (u : Upto [dx] h h') (r : RdAt P base outer' h' x dx wl pl' dp') :
    Fr g L h' m ∧ ∃ K, News g L h' ((D, oD) :: (x, instObj 258 dx) :: (dx, dictOf (rdEs P K wl pl' dp') 4) :: tl) := by
  obtain ⟨K, e⟩ := r.dict
  refine ⟨fr_upto F u fun a ha => by rw [List.mem_singleton.mp ha]; exact news_at N (.tail _ (.tail _ (.head _))), K, ?_⟩
  exact news_swap (pre := [(D, oD), (x, instObj 258 dx)]) N u e.at_ (List.forall_mem_cons.mpr ⟨hD, List.forall_mem_cons.mpr ⟨hne, List.forall_mem_nil _⟩⟩) htl
theorem offD {g h : Heap} {L D x dx : Addr} {oD oX oE : Obj} {tl : List (Addr × Obj)} (_ : News g L h ((D, oD) :: (x, oX) :: (dx, oE) :: tl)) (h1 : x ≠ D) (h2 : dx ≠ D) (h3 : ∀ p ∈ tl, p.1 ≠ D) : ∀ p ∈ (x, oX) :: (dx, oE) :: tl, p.1 ≠ D :=
  List.forall_mem_cons.mpr ⟨h1, List.forall_mem_cons.mpr ⟨h2, h3⟩⟩
theorem faultL_none {dp : Nat} {t : Tm} (h2 : t.fault dp = none) : ∀ {ts : List Tm}, faultL dp ts = none → faultL dp (ts ++ [t]) = none
  | [], _ => by rw [List.nil_append, faultL_cons, h2]; rfl
  | k :: ts, h => by
    rw [List.cons_append]
    rw [faultL_cons] at h ⊢
    cases q : k.fault dp with
    | some i => rw [q] at h; cases h
    | none =>
      rw [q] at h
      try dsimp only at h ⊢
      rw [Option.map_eq_none_iff] at h ⊢
      exact faultL_none h2 h
theorem faultL_some {dp i : Nat} {t : Tm} (h2 : t.fault dp = some i) (rest : List Tm) : ∀ {ts : List Tm}, faultL dp ts = none → faultL dp (ts ++ t :: rest) = some (i + (wordsL ts).length)
  | [], _ => by rw [List.nil_append, faultL_cons, h2]; rfl
  | k :: ts, h => by
    rw [List.cons_append]
    rw [faultL_cons] at h ⊢
    cases q : k.fault dp with
    | some i => rw [q] at h; cases h
    | none =>
      rw [q] at h
      try dsimp only at h ⊢
      rw [Option.map_eq_none_iff] at h
      rw [faultL_some h2 rest h, Option.map_some, wordsL_cons, List.length_append]
      congr 1; ((first | with_reducible assumption | exact Mine.lim (by assumption) | exact Mine.lim0 (by assumption) | exact Mine.lim2 (by assumption) | exact Mine.lim3 (by assumption) | exact Mine.lme (by assumption) | exact Mine.lml (by assumption) | exact Mine.lll (by assumption) | decide | lia))
theorem wordsL_snoc (t : Tm) : ∀ (ts : List Tm), wordsL (ts ++ [t]) = wordsL ts ++ t.words
  | [] => by rw [List.nil_append, wordsL_cons]; simp [wordsL]
  | k :: ts => by rw [List.cons_append, wordsL_cons, wordsL_cons, wordsL_snoc t ts, List.append_assoc]
theorem wordsL_app (us : List Tm) : ∀ (ts : List Tm), wordsL (ts ++ us) = wordsL ts ++ wordsL us
  | [] => by rw [List.nil_append]; rfl
  | k :: ts => by rw [List.cons_append, wordsL_cons, wordsL_cons, wordsL_app us ts, List.append_assoc]
theorem len_words : ∀ (ts : List Tm), ts.length ≤ (wordsL ts).length
  | [] => Nat.le_refl _
  | k :: ts => by
    obtain ⟨u, l, e, _⟩ := words_pos k
    rw [wordsL_cons, List.length_append, e, List.length_cons, List.length_cons]
    have := len_words ts
    ((first | with_reducible assumption | exact Mine.lim (by assumption) | exact Mine.lim0 (by assumption) | exact Mine.lim2 (by assumption) | exact Mine.lim3 (by assumption) | exact Mine.lme (by assumption) | exact Mine.lml (by assumption) | exact Mine.lll (by assumption) | decide | lia))
noncomputable abbrev tmap (D x : Addr) : Str → Option Value := fun y => if y = "found" then some (.ref D) else List.lookup y [(("self" : Str), Value.ref x)].reverse
inductive TermJ (P : Params) (g : Heap) (ws : List (Str × Nat)) (op : Str) (x dx wl D : Addr) (pl dp : Nat) (all : List Tm) (n : Nat) (m : Str → Option Value) (nx : List (Addr × Obj)) : Prop
  | mk (done todo : List Tm) (t0 : Tok) (kv : List Value) (e : Nat) (tl : List (Addr × Obj)) (K : RdK) (h1_ : m = tmap D x) (h2_ : all = done ++ todo) (h3_ : n = todo.length) (h4_ : faultL (dp + 1) done = none) (h5_ : nx = (D, listOf (Value.str op t0 :: kv).toArray e) :: (x, instObj 258 dx) :: (dx, dictOf (rdEs P K wl (pl + 2 + (wordsL done).length) (dp + 1)) 4) :: tl) (h6_ : (∀ p ∈ tl, IsT p.2)) (h7_ : kv.length = done.length) (h8_ : (∀ h' : Heap, (∀ b o, g.get? b = some o → h'.get? b = some o) → (∀ p ∈ tl, h'.get? p.1 = some p.2) → ReadsAll h' kv (datL done) [])) (h9_ : Here ws (pl + 2 + (wordsL done).length) (wordsL todo ++ [(")" : Str)])) : TermJ P g ws op x dx wl D pl dp all n m nx
noncomputable def TermSpec (w : World) (mean : ExcName → Option Value) (mg mb : Str → Option Value) (base : Heap) (T : Tm) (n : Nat) : Prop :=
  ∀ (outer : List Env) (dep un : Nat) (gd : Option (List Code)) (s : Shared) (R : Result → Shared → Prop) (x dx wl : Addr) (pl dp : Nat) (ws : List (Str × Nat)),
    Cx w mean mg mb base outer (Ar dep un gd outer) s.heap → dep + n + 30 < recursionLimit → un + 10 * n + 200 < cLine →
    RdAt w.params base outer s.heap x dx wl pl dp → Words s.heap wl ws → Here ws pl T.words → pl + T.words.length < 2 ^ 58 → dp ≤ 40 → (∀ o ∈ T.ops, OpWord o) → T.words.length ≤ 1000000 →
    (T.fault dp = none → ∀ h' tk v, Upto [dx] s.heap h' → RdAt w.params base outer h' x dx wl (pl + T.words.length) dp → Reads h' v T.dat [] → R (.ok (.ret v)) { s with heap := h', toks := tk }) →
    (∀ i u p, T.fault dp = some i → ws[pl + i]? = some (u, p) → ∀ h' tk e, Thrown w.params outer [dx] s.heap p e h' → R (.error (.ref e)) { s with heap := h', toks := tk }) →
    codeAny (model PR w) (Ar dep un gd outer) (.call (.ref 222) ⟨[.ref x], []⟩) R s
theorem term_leaf (op : Str) (n : Nat) : TermSpec w mean mg mb base (.node op []) n := by
  intro outer dep un gd s R x dx wl pl dp ws C hdep hu hr W hw hb hlt hop hlen hk1 hk2
  obtain ⟨K, hm, hxd⟩ := hr.mu
  obtain ⟨⟨p, hp⟩, hw2⟩ := hw.cons
  have ho := hop op (.head _)
  have hno := isOp_open ho
  refine' enter_fn (A := Ar dep un gd outer) [("self", .ref x)] C [(x, instObj 258 dx), (dx, (dictOf (rdEs w.params K wl pl dp) 4))] hm ?k1 ?k2 ?k3 ?k4 ?k5 ?_ ?c2 ?c3 ?c4 ?c5
  ((case k1 => k_is); (case k2 => k_is); (case k3 => (show _ < _; first | ((first | with_reducible assumption | exact Mine.lim (by assumption) | exact Mine.lim0 (by assumption) | exact Mine.lim2 (by assumption) | exact Mine.lim3 (by assumption) | exact Mine.lme (by assumption) | exact Mine.lml (by assumption) | exact Mine.lll (by assumption) | decide | lia)) | (dsimp only; ((first | with_reducible assumption | exact Mine.lim (by assumption) | exact Mine.lim0 (by assumption) | exact Mine.lim2 (by assumption) | exact Mine.lim3 (by assumption) | exact Mine.lme (by assumption) | exact Mine.lml (by assumption) | exact Mine.lll (by assumption) | decide | lia))))); (case k4 => exact BindsTo.of_eq rfl); (case k5 => exact locs rfl); (case c2 => exact rfl); (case c3 => exact rfl); (case c4 => exact rfl); (case c5 => decide))
  intro g L' h₁ tk F N B X T hin hout hsz
  have W1 := W.keeps (in_g hm hin rd_cls)
  try k_fold
  refine abs_post fun Q' E' hQ hE hP => ?_
  (repeat' ((fail_if_success with_reducible first|refine zz1 ?_|refine zz2 ?_|refine zz3 ?_|refine zz4 ?_|refine zz7 ?_|refine zz5 ?_|refine zz6 ?_); first | (k_unfold; (try dsimp only)) | walk1 | (dsimp only; walk1)))
  refine wpAny_call (word_spec (cx_in C.X C.T B F rfl rfl rfl) (show dep + 1 + 1 < _ by ((first | with_reducible assumption | exact Mine.lim (by assumption) | exact Mine.lim0 (by assumption) | exact Mine.lim2 (by assumption) | exact Mine.lim3 (by assumption) | exact Mine.lme (by assumption) | exact Mine.lml (by assumption) | exact Mine.lll (by assumption) | decide | lia))) (rd_in B rfl N) (W1.keeps (.of F.keep)) hp (by ((first | with_reducible assumption | exact Mine.lim (by assumption) | exact Mine.lim0 (by assumption) | exact Mine.lim2 (by assumption) | exact Mine.lim3 (by assumption) | exact Mine.lme (by assumption) | exact Mine.lml (by assumption) | exact Mine.lll (by assumption) | decide | lia))) fun h2 t2 tk2 u2 => ?_)
  have F2 := fr_upto F u2 (fun a ha => nomatch ha)
  have N2 := news_upto N u2
  clear F N
  try dsimp only
  (repeat' ((fail_if_success with_reducible first|refine zz1 ?_|refine zz2 ?_|refine zz3 ?_|refine zz4 ?_|refine zz7 ?_|refine zz5 ?_|refine zz6 ?_); first | (k_unfold; (try dsimp only)) | walk1 | (dsimp only; walk1)))
  · refine wpAny_call (op_spec (s := ⟨h2, _, _, _, _⟩) (cx_in C.X C.T B F2 rfl rfl rfl) (show dep + 1 + 3 < _ by ((first | with_reducible assumption | exact Mine.lim (by assumption) | exact Mine.lim0 (by assumption) | exact Mine.lim2 (by assumption) | exact Mine.lim3 (by assumption) | exact Mine.lme (by assumption) | exact Mine.lml (by assumption) | exact Mine.lll (by assumption) | decide | lia))) (show un + 3 + 100 < _ by ((first | with_reducible assumption | exact Mine.lim (by assumption) | exact Mine.lim0 (by assumption) | exact Mine.lim2 (by assumption) | exact Mine.lim3 (by assumption) | exact Mine.lme (by assumption) | exact Mine.lml (by assumption) | exact Mine.lll (by assumption) | decide | lia))) (rd_in B rfl N2) (W1.keeps (.of F2.keep)) hp (by ((first | with_reducible assumption | exact Mine.lim (by assumption) | exact Mine.lim0 (by assumption) | exact Mine.lim2 (by assumption) | exact Mine.lim3 (by assumption) | exact Mine.lme (by assumption) | exact Mine.lml (by assumption) | exact Mine.lll (by assumption) | decide | lia))) ho fun h3 tk3 t3 u3 r3 => ?_)
    obtain ⟨F3, _, N3⟩ := rd_step F2 N2 hxd (List.forall_mem_nil _) u3 r3
    clear F2 N2
    try dsimp only
    (repeat' ((fail_if_success with_reducible first|refine zz1 ?_|refine zz2 ?_|refine zz3 ?_|refine zz4 ?_|refine zz7 ?_|refine zz5 ?_|refine zz6 ?_); first | (k_unfold; (try dsimp only)) | walk1 | (dsimp only; walk1)))
    rename_i D' h4 F4 N4 l4
    have N5 : News g L' h4 ((x, instObj 258 dx) :: (dx, dictOf (rdEs w.params _ wl (pl + 1) dp) 4) :: []) := fun q hq => N4 q (.tail _ hq)
    obtain ⟨a, b⟩ := rd_end hr hm hin F4 N5
    refine hQ _ _ (hk1 rfl _ _ _ a b ?_)
    exact reads_tuple_at (N4.get (.head _)) rfl rfl (readsAll_cons_val (.str _ _) .nil)
  · rename_i q
    simp at q
    exact absurd q hno
theorem term_node (op : Str) (k : Tm) (ks : List Tm) (n : Nat) (IH : ∀ t ∈ k :: ks, TermSpec w mean mg mb base t n) : TermSpec w mean mg mb base (.node op (k :: ks)) (n + 1) := by
  intro outer dep un gd s R x dx wl pl dp ws C hdep hu hr W hw hb hlt hop hlen hk1 hk2
  obtain ⟨K, hm, hxd⟩ := hr.mu
  rw [words_node] at hw
  obtain ⟨⟨p, hp⟩, hw1⟩ := hw.cons
  obtain ⟨⟨p2, hp2⟩, hw2⟩ := hw1.cons
  have ho := hop op (.head _)
  have hlen2 : (Tm.node op (k :: ks)).words.length = (wordsL (k :: ks)).length + 3 := by rw [words_node]; simp
  refine' enter_fn (A := Ar dep un gd outer) [("self", .ref x)] C [(x, instObj 258 dx), (dx, (dictOf (rdEs w.params K wl pl dp) 4))] hm ?k1 ?k2 ?k3 ?k4 ?k5 ?_ ?c2 ?c3 ?c4 ?c5
  ((case k1 => k_is); (case k2 => k_is); (case k3 => (show _ < _; first | ((first | with_reducible assumption | exact Mine.lim (by assumption) | exact Mine.lim0 (by assumption) | exact Mine.lim2 (by assumption) | exact Mine.lim3 (by assumption) | exact Mine.lme (by assumption) | exact Mine.lml (by assumption) | exact Mine.lll (by assumption) | decide | lia)) | (dsimp only; ((first | with_reducible assumption | exact Mine.lim (by assumption) | exact Mine.lim0 (by assumption) | exact Mine.lim2 (by assumption) | exact Mine.lim3 (by assumption) | exact Mine.lme (by assumption) | exact Mine.lml (by assumption) | exact Mine.lll (by assumption) | decide | lia))))); (case k4 => exact BindsTo.of_eq rfl); (case k5 => exact locs rfl); (case c2 => exact rfl); (case c3 => exact rfl); (case c4 => exact rfl); (case c5 => decide))
  intro g L' h₁ tk F N B X T hin hout hsz
  have W1 := W.keeps (in_g hm hin rd_cls)
  have hL : s.heap.get? L' = none := Heap.get?_none_of_le (by rw [← hsz]; exact F.above)
  have hoff : ∀ a ∈ [dx], a ∉ outer.filterMap (·.frame) := fun a ha => by rw [List.mem_singleton.mp ha]; exact (hm _ (.tail _ (.head _))).off
  try k_fold
  refine abs_post fun Q' E' hQ hE hP => ?_
  (repeat' ((fail_if_success with_reducible first|refine zz1 ?_|refine zz2 ?_|refine zz3 ?_|refine zz4 ?_|refine zz7 ?_|refine zz5 ?_|refine zz6 ?_); first | (k_unfold; (try dsimp only)) | walk1 | (dsimp only; walk1)))
  refine wpAny_call (word_spec (cx_in C.X C.T B F rfl rfl rfl) (show dep + 1 + 1 < _ by ((first | with_reducible assumption | exact Mine.lim (by assumption) | exact Mine.lim0 (by assumption) | exact Mine.lim2 (by assumption) | exact Mine.lim3 (by assumption) | exact Mine.lme (by assumption) | exact Mine.lml (by assumption) | exact Mine.lll (by assumption) | decide | lia))) (rd_in B rfl N) (W1.keeps (.of F.keep)) hp (by ((first | with_reducible assumption | exact Mine.lim (by assumption) | exact Mine.lim0 (by assumption) | exact Mine.lim2 (by assumption) | exact Mine.lim3 (by assumption) | exact Mine.lme (by assumption) | exact Mine.lml (by assumption) | exact Mine.lll (by assumption) | decide | lia))) fun h2 t2 tk2 u2 => ?_)
  have F2 := fr_upto F u2 (fun a ha => nomatch ha)
  have N2 := news_upto N u2
  clear F N
  try dsimp only
  (repeat' ((fail_if_success with_reducible first|refine zz1 ?_|refine zz2 ?_|refine zz3 ?_|refine zz4 ?_|refine zz7 ?_|refine zz5 ?_|refine zz6 ?_); first | (k_unfold; (try dsimp only)) | walk1 | (dsimp only; walk1)))
  by_cases hd40 : 40 ≤ dp
  · refine wpAny_call (begin_fault (s := ⟨h2, _, _, _, _⟩) (cx_in C.X C.T B F2 rfl rfl rfl) (show dep + 1 + 20 < _ by ((first | with_reducible assumption | exact Mine.lim (by assumption) | exact Mine.lim0 (by assumption) | exact Mine.lim2 (by assumption) | exact Mine.lim3 (by assumption) | exact Mine.lme (by assumption) | exact Mine.lml (by assumption) | exact Mine.lll (by assumption) | decide | lia))) (rd_in B rfl N2) (W1.keeps (.of F2.keep)) hp hp2 (by ((first | with_reducible assumption | exact Mine.lim (by assumption) | exact Mine.lim0 (by assumption) | exact Mine.lim2 (by assumption) | exact Mine.lim3 (by assumption) | exact Mine.lme (by assumption) | exact Mine.lml (by assumption) | exact Mine.lll (by assumption) | decide | lia))) hd40 (by ((first | with_reducible assumption | exact Mine.lim (by assumption) | exact Mine.lim0 (by assumption) | exact Mine.lim2 (by assumption) | exact Mine.lim3 (by assumption) | exact Mine.lme (by assumption) | exact Mine.lml (by assumption) | exact Mine.lll (by assumption) | decide | lia))) fun h3 tk3 e y => ?_)
    have U := upto_end hm hin F2 N2 [dx] (List.forall_mem_cons.mpr ⟨.inr (.head _), List.forall_mem_cons.mpr ⟨.inl (.head _), List.forall_mem_nil _⟩⟩)
    refine hE _ _ (thrown_leave U hL hoff rfl rfl y (fun a ha => .inl ha) fun h4 y4 => hk2 1 _ _ (by rw [fault_node, if_pos hd40]) hp2 _ _ _ y4)
  · refine wpAny_call (begin_spec (s := ⟨h2, _, _, _, _⟩) (cx_in C.X C.T B F2 rfl rfl rfl) (show dep + 1 + 4 < _ by ((first | with_reducible assumption | exact Mine.lim (by assumption) | exact Mine.lim0 (by assumption) | exact Mine.lim2 (by assumption) | exact Mine.lim3 (by assumption) | exact Mine.lme (by assumption) | exact Mine.lml (by assumption) | exact Mine.lll (by assumption) | decide | lia))) (rd_in B rfl N2) (W1.keeps (.of F2.keep)) hp (by ((first | with_reducible assumption | exact Mine.lim (by assumption) | exact Mine.lim0 (by assumption) | exact Mine.lim2 (by assumption) | exact Mine.lim3 (by assumption) | exact Mine.lme (by assumption) | exact Mine.lml (by assumption) | exact Mine.lll (by assumption) | decide | lia))) (by ((first | with_reducible assumption | exact Mine.lim (by assumption) | exact Mine.lim0 (by assumption) | exact Mine.lim2 (by assumption) | exact Mine.lim3 (by assumption) | exact Mine.lme (by assumption) | exact Mine.lml (by assumption) | exact Mine.lll (by assumption) | decide | lia))) fun h3 tk3 u3 r3 => ?_)
    obtain ⟨F3, _, N3⟩ := rd_step F2 N2 hxd (List.forall_mem_nil _) u3 r3
    clear F2 N2
    try dsimp only
    (repeat' ((fail_if_success with_reducible first|refine zz1 ?_|refine zz2 ?_|refine zz3 ?_|refine zz4 ?_|refine zz7 ?_|refine zz5 ?_|refine zz6 ?_); first | (k_unfold; (try dsimp only)) | walk1 | (dsimp only; walk1)))
    refine wpAny_call (op_spec (s := ⟨h3, _, _, _, _⟩) (cx_in C.X C.T B F3 rfl rfl rfl) (show dep + 1 + 3 < _ by ((first | with_reducible assumption | exact Mine.lim (by assumption) | exact Mine.lim0 (by assumption) | exact Mine.lim2 (by assumption) | exact Mine.lim3 (by assumption) | exact Mine.lme (by assumption) | exact Mine.lml (by assumption) | exact Mine.lll (by assumption) | decide | lia))) (show un + 3 + 100 < _ by ((first | with_reducible assumption | exact Mine.lim (by assumption) | exact Mine.lim0 (by assumption) | exact Mine.lim2 (by assumption) | exact Mine.lim3 (by assumption) | exact Mine.lme (by assumption) | exact Mine.lml (by assumption) | exact Mine.lll (by assumption) | decide | lia))) (rd_in B rfl N3) (W1.keeps (.of F3.keep)) hp2 (by ((first | with_reducible assumption | exact Mine.lim (by assumption) | exact Mine.lim0 (by assumption) | exact Mine.lim2 (by assumption) | exact Mine.lim3 (by assumption) | exact Mine.lme (by assumption) | exact Mine.lml (by assumption) | exact Mine.lll (by assumption) | decide | lia))) ho fun h4 tk4 t4 u4 r4 => ?_)
    obtain ⟨F4, _, N4⟩ := rd_step F3 N3 hxd (List.forall_mem_nil _) u4 r4
    clear F3 N3
    try dsimp only
    (repeat' ((fail_if_success with_reducible first|refine zz1 ?_|refine zz2 ?_|refine zz3 ?_|refine zz4 ?_|refine zz7 ?_|refine zz5 ?_|refine zz6 ?_); first | (k_unfold; (try dsimp only)) | walk1 | (dsimp only; walk1)))
    have hl1 : (wordsL (k :: ks)).length = k.words.length + (wordsL ks).length := by rw [wordsL_cons, List.length_append]
    have hw3 := hw2
    rw [wordsL_cons, List.append_assoc] at hw3
    refine wpAny_call (IH k (.head _) _ _ _ _ ⟨h4, _, _, _, _⟩ _ x dx wl (pl + 2) (dp + 1) ws (cx_in C.X C.T B F4 rfl rfl rfl) (show dep + 1 + n + 30 < _ by ((first | with_reducible assumption | exact Mine.lim (by assumption) | exact Mine.lim0 (by assumption) | exact Mine.lim2 (by assumption) | exact Mine.lim3 (by assumption) | exact Mine.lme (by assumption) | exact Mine.lml (by assumption) | exact Mine.lll (by assumption) | decide | lia))) (show un + 3 + 10 * n + 200 < _ by ((first | with_reducible assumption | exact Mine.lim (by assumption) | exact Mine.lim0 (by assumption) | exact Mine.lim2 (by assumption) | exact Mine.lim3 (by assumption) | exact Mine.lme (by assumption) | exact Mine.lml (by assumption) | exact Mine.lll (by assumption) | decide | lia))) (rd_in B rfl N4) (W1.keeps (.of F4.keep)) hw3.append.1 (by ((first | with_reducible assumption | exact Mine.lim (by assumption) | exact Mine.lim0 (by assumption) | exact Mine.lim2 (by assumption) | exact Mine.lim3 (by assumption) | exact Mine.lme (by assumption) | exact Mine.lml (by assumption) | exact Mine.lll (by assumption) | decide | lia))) (by ((first | with_reducible assumption | exact Mine.lim (by assumption) | exact Mine.lim0 (by assumption) | exact Mine.lim2 (by assumption) | exact Mine.lim3 (by assumption) | exact Mine.lme (by assumption) | exact Mine.lml (by assumption) | exact Mine.lll (by assumption) | decide | lia)))
      (fun o h => hop o (.tail _ (ops_kid h (.head _)))) (by ((first | with_reducible assumption | exact Mine.lim (by assumption) | exact Mine.lim0 (by assumption) | exact Mine.lim2 (by assumption) | exact Mine.lim3 (by assumption) | exact Mine.lme (by assumption) | exact Mine.lml (by assumption) | exact Mine.lll (by assumption) | decide | lia))) (fun hf h5 tk5 v5 u5 r5 e5 => ?_) fun i u p hf hp h5 tk5 e y => ?_)
    · obtain ⟨F5, _, N5⟩ := rd_step F4 N4 hxd (List.forall_mem_nil _) u5 r5
      clear F4 N4
      have N6 := snap F5 N5
      have ht0 : ∀ p ∈ snapOf g h5, IsT p.2 := fun p hp => (mem_snap.mp hp).2.1
      have hkp : ∀ h' : Heap, (∀ b o, g.get? b = some o → h'.get? b = some o) → (∀ p ∈ snapOf g h5, h'.get? p.1 = some p.2) → ReadsAll h' [v5] (datL [k]) [] :=
        fun h' kg kt => readsAll_cons_val (tm_keeps (snap_keep kg F5.keep kt) k e5) .nil
      generalize snapOf g h5 = tl at N6 ht0 hkp
      rw [List.cons_append, List.cons_append, List.nil_append] at N6
      clear N5
      try dsimp only
      (repeat' ((fail_if_success with_reducible first|refine zz1 ?_|refine zz2 ?_|refine zz3 ?_|refine zz4 ?_|refine zz7 ?_|refine zz5 ?_|refine zz6 ?_); first | (k_unfold; (try dsimp only)) | walk1 | (dsimp only; walk1)))
      rename_i D h6 lD h7 F7 N7
      have hxD := N7.get (.head _)
      have hD0 : D ≠ dx := ne_obj (N7.get (.head _)) (N7.get (.tail _ (.tail _ (.head _)))) (by simp)
      clear hxD
      rw [show k.words.length = (wordsL [k]).length by simp [wordsL]] at N7
      refine While_inv (n₀ := ks.length) (TermJ w.params g ws op x dx wl D pl dp (k :: ks)) F7 N7 ⟨[k], ks, _, [v5], 0, tl, _, rfl, rfl, rfl, by rw [faultL_cons, hf]; rfl, rfl, ht0, rfl, hkp, by
          rw [show pl + 2 + (wordsL [k]).length = pl + 1 + 1 + k.words.length by simp [wordsL]]; exact hw3.append.2⟩ ?_ hP
      clear F7 N7 hkp ht0 e5 r5 u5 lD
      rintro n1 m₁ nx h8 tk8 F8 N8 ⟨done, todo, t0, kv, e, tl, K, rfl, hall, rfl, hfd, rfl, ht, hkl, hkr, hh⟩
      have htd : ∀ p ∈ tl, p.1 ≠ dx := fun p hp => ne_obj (N8.get (.tail _ (.tail _ (.tail _ hp)))) (N8.get (.tail _ (.tail _ (.head _)))) (by rw [(ht p hp).1]; simp)
      have htD : ∀ p ∈ tl, p.1 ≠ D := fun p hp => ne_obj (N8.get (.tail _ (.tail _ (.tail _ hp)))) (N8.get (.head _)) (by rw [(ht p hp).1]; simp)
      have hwd : (wordsL (k :: ks)).length = (wordsL done).length + (wordsL todo).length := by rw [hall, wordsL_app, List.length_append]
      have hkv : kv.length ≤ 1000000 := by
        have := len_words done
        ((first | with_reducible assumption | exact Mine.lim (by assumption) | exact Mine.lim0 (by assumption) | exact Mine.lim2 (by assumption) | exact Mine.lim3 (by assumption) | exact Mine.lme (by assumption) | exact Mine.lml (by assumption) | exact Mine.lll (by assumption) | decide | lia))
      cases todo with
      | nil =>
        obtain ⟨⟨p3, hp3⟩, _⟩ := Here.cons (u := ")") hh
        (repeat' ((fail_if_success with_reducible first|refine zz1 ?_|refine zz2 ?_|refine zz3 ?_|refine zz4 ?_|refine zz7 ?_|refine zz5 ?_|refine zz6 ?_); first | (k_unfold; (try dsimp only)) | walk1 | (dsimp only; walk1)))
        refine wpAny_call (word_spec (s := ⟨h8, _, _, _, _⟩) (cx_in C.X C.T B F8 rfl rfl rfl) (show dep + 1 + 1 < _ by ((first | with_reducible assumption | exact Mine.lim (by assumption) | exact Mine.lim0 (by assumption) | exact Mine.lim2 (by assumption) | exact Mine.lim3 (by assumption) | exact Mine.lme (by assumption) | exact Mine.lml (by assumption) | exact Mine.lll (by assumption) | decide | lia))) (rd_in2 B rfl N8 (.tail _ (.head _)) (.tail _ (.tail _ (.head _)))) (W1.keeps (.of F8.keep)) hp3 (by ((first | with_reducible assumption | exact Mine.lim (by assumption) | exact Mine.lim0 (by assumption) | exact Mine.lim2 (by assumption) | exact Mine.lim3 (by assumption) | exact Mine.lme (by assumption) | exact Mine.lml (by assumption) | exact Mine.lll (by assumption) | decide | lia))) fun h9 t9 tk9 u9 => ?_)
        have F9 := fr_upto F8 u9 (fun a ha => nomatch ha)
        have N9 := news_upto N8 u9
        clear F8 N8
        try dsimp only
        (repeat' ((fail_if_success with_reducible first|refine zz1 ?_|refine zz2 ?_|refine zz3 ?_|refine zz4 ?_|refine zz7 ?_|refine zz5 ?_|refine zz6 ?_); first | (k_unfold; (try dsimp only)) | walk1 | (dsimp only; walk1)))
        have hdone : k :: ks = done := by rw [hall, List.append_nil]
        refine wpAny_call (close_spec (s := ⟨h9, _, _, _, _⟩) (cx_in C.X C.T B F9 rfl rfl rfl) (show dep + 1 + 4 < _ by ((first | with_reducible assumption | exact Mine.lim (by assumption) | exact Mine.lim0 (by assumption) | exact Mine.lim2 (by assumption) | exact Mine.lim3 (by assumption) | exact Mine.lme (by assumption) | exact Mine.lml (by assumption) | exact Mine.lll (by assumption) | decide | lia))) (rd_in2 B rfl N9 (.tail _ (.head _)) (.tail _ (.tail _ (.head _)))) (W1.keeps (.of F9.keep)) hp3 (by ((first | with_reducible assumption | exact Mine.lim (by assumption) | exact Mine.lim0 (by assumption) | exact Mine.lim2 (by assumption) | exact Mine.lim3 (by assumption) | exact Mine.lme (by assumption) | exact Mine.lml (by assumption) | exact Mine.lll (by assumption) | decide | lia))) fun h10 tk10 u10 r10 => ?_)
        obtain ⟨F10, _, N10⟩ := rd_step2 F9 N9 hxd hD0 htd u10 r10
        clear F9 N9
        try dsimp only
        (repeat' ((fail_if_success with_reducible first|refine zz1 ?_|refine zz2 ?_|refine zz3 ?_|refine zz4 ?_|refine zz7 ?_|refine zz5 ?_|refine zz6 ?_); first | (k_unfold; (try dsimp only)) | walk1 | (dsimp only; walk1)))
        rename_i F10 _ N10 v11 h11 F11 N11 _
        have N12 : News g L' h11 ((x, instObj 258 dx) :: (dx, dictOf (rdEs w.params _ wl (pl + 2 + (wordsL done).length + 1) dp) 4) :: tl) := fun q hq => N11 q (.tail _ (.tail _ hq))
        obtain ⟨a, b⟩ := rd_end hr hm hin F11 N12
        have hfl : faultL (dp + 1) (k :: ks) = none := by rw [hdone]; exact hfd
        refine hQ _ _ (hk1 (by rw [fault_node, if_neg hd40, hfl]; rfl) _ _ _ a ?_ ?_)
        · rw [hlen2, hdone, show pl + ((wordsL done).length + 3) = pl + 2 + (wordsL done).length + 1 by ((first | with_reducible assumption | exact Mine.lim (by assumption) | exact Mine.lim0 (by assumption) | exact Mine.lim2 (by assumption) | exact Mine.lim3 (by assumption) | exact Mine.lme (by assumption) | exact Mine.lml (by assumption) | exact Mine.lll (by assumption) | decide | lia))]; exact b
        · refine reads_tuple_at (N11.get (.head _)) rfl rfl ?_
          have hR := hkr h11 F11.keep fun p hp => N12.get (.tail _ (.tail _ hp))
          rw [← hdone] at hR
          exact readsAll_cons_val (.str _ _) hR
      | cons t ts =>
        obtain ⟨uw, lw, eqw, hin2⟩ := words_pos t
        rw [wordsL_cons, List.append_assoc] at hh
        have hh2 := hh
        rw [eqw, List.cons_append] at hh2
        obtain ⟨⟨p3, hp3⟩, _⟩ := hh2.cons
        have huc : uw ≠ (")" : Str) := by
          rcases hin2 with rfl | q
          · decide
          · exact isOp_close (hop _ (.tail _ (ops_kid q (by rw [hall]; simp))))
        (repeat' ((fail_if_success with_reducible first|refine zz1 ?_|refine zz2 ?_|refine zz3 ?_|refine zz4 ?_|refine zz7 ?_|refine zz5 ?_|refine zz6 ?_); first | (k_unfold; (try dsimp only)) | walk1 | (dsimp only; walk1)))
        refine wpAny_call (word_spec (s := ⟨h8, _, _, _, _⟩) (cx_in C.X C.T B F8 rfl rfl rfl) (show dep + 1 + 1 < _ by ((first | with_reducible assumption | exact Mine.lim (by assumption) | exact Mine.lim0 (by assumption) | exact Mine.lim2 (by assumption) | exact Mine.lim3 (by assumption) | exact Mine.lme (by assumption) | exact Mine.lml (by assumption) | exact Mine.lll (by assumption) | decide | lia))) (rd_in2 B rfl N8 (.tail _ (.head _)) (.tail _ (.tail _ (.head _)))) (W1.keeps (.of F8.keep)) hp3 (by ((first | with_reducible assumption | exact Mine.lim (by assumption) | exact Mine.lim0 (by assumption) | exact Mine.lim2 (by assumption) | exact Mine.lim3 (by assumption) | exact Mine.lme (by assumption) | exact Mine.lml (by assumption) | exact Mine.lll (by assumption) | decide | lia))) fun h9 t9 tk9 u9 => ?_)
        have F9 := fr_upto F8 u9 (fun a ha => nomatch ha)
        have N9 := news_upto N8 u9
        clear F8 N8
        try dsimp only
        (repeat' ((fail_if_success with_reducible first|refine zz1 ?_|refine zz2 ?_|refine zz3 ?_|refine zz4 ?_|refine zz7 ?_|refine zz5 ?_|refine zz6 ?_); first | (k_unfold; (try dsimp only)) | walk1 | (dsimp only; walk1)))
        · have hl2 : (wordsL (t :: ts)).length = t.words.length + (wordsL ts).length := by rw [wordsL_cons, List.length_append]
          have htm : t ∈ k :: ks := by rw [hall]; simp
          refine wpAny_call (IH t htm _ _ _ _ ⟨h9, _, _, _, _⟩ _ x dx wl (pl + 2 + (wordsL done).length) (dp + 1) ws (cx_in C.X C.T B F9 rfl rfl rfl) (show dep + 1 + n + 30 < _ by ((first | with_reducible assumption | exact Mine.lim (by assumption) | exact Mine.lim0 (by assumption) | exact Mine.lim2 (by assumption) | exact Mine.lim3 (by assumption) | exact Mine.lme (by assumption) | exact Mine.lml (by assumption) | exact Mine.lll (by assumption) | decide | lia))) (show un + 3 + 10 * n + 200 < _ by ((first | with_reducible assumption | exact Mine.lim (by assumption) | exact Mine.lim0 (by assumption) | exact Mine.lim2 (by assumption) | exact Mine.lim3 (by assumption) | exact Mine.lme (by assumption) | exact Mine.lml (by assumption) | exact Mine.lll (by assumption) | decide | lia)))
            (rd_in2 B rfl N9 (.tail _ (.head _)) (.tail _ (.tail _ (.head _)))) (W1.keeps (.of F9.keep)) hh.append.1 (by ((first | with_reducible assumption | exact Mine.lim (by assumption) | exact Mine.lim0 (by assumption) | exact Mine.lim2 (by assumption) | exact Mine.lim3 (by assumption) | exact Mine.lme (by assumption) | exact Mine.lml (by assumption) | exact Mine.lll (by assumption) | decide | lia))) (by ((first | with_reducible assumption | exact Mine.lim (by assumption) | exact Mine.lim0 (by assumption) | exact Mine.lim2 (by assumption) | exact Mine.lim3 (by assumption) | exact Mine.lme (by assumption) | exact Mine.lml (by assumption) | exact Mine.lll (by assumption) | decide | lia))) (fun o h => hop o (.tail _ (ops_kid h htm))) (by ((first | with_reducible assumption | exact Mine.lim (by assumption) | exact Mine.lim0 (by assumption) | exact Mine.lim2 (by assumption) | exact Mine.lim3 (by assumption) | exact Mine.lme (by assumption) | exact Mine.lml (by assumption) | exact Mine.lll (by assumption) | decide | lia))) (fun hf2 h10 tk10 v10 u10 r10 e10 => ?_) fun i u p hf2 hp h10 tk10 e y => ?_)
          · obtain ⟨F10, _, N10⟩ := rd_step2 F9 N9 hxd hD0 htd u10 r10
            clear F9 N9
            have N11 := snap F10 (fun p hp => N10 p (by
              rcases List.mem_cons.mp hp with q | hp
              · exact q ▸ .head _
              · rcases List.mem_cons.mp hp with q | hp
                · exact q ▸ .tail _ (.head _)
                · rw [List.mem_singleton.mp hp]; exact .tail _ (.tail _ (.head _))) : News g L' h10 [_, _, _])
            have ht2 : ∀ p ∈ snapOf g h10, IsT p.2 := fun p hp => (mem_snap.mp hp).2.1
            have hk2' : ∀ h' : Heap, (∀ b o, g.get? b = some o → h'.get? b = some o) → (∀ p ∈ snapOf g h10, h'.get? p.1 = some p.2) → ReadsAll h' (kv ++ [v10]) (datL (done ++ [t])) [] := fun h' kg kt => by
              rw [datL_snoc]
              refine reads_snoc (tm_keeps (snap_keep kg F10.keep kt) t e10) (tms_keeps (snap_keep kg F10.keep kt) done (hkr h10 F10.keep fun p hp => N10.get (.tail _ (.tail _ (.tail _ hp)))))
            have htd2 : ∀ p ∈ snapOf g h10, p.1 ≠ D := fun p hp => ne_obj ((mem_snap.mp hp).1) (N10.get (.head _)) (by rw [(ht2 p hp).1]; simp)
            generalize snapOf g h10 = tl2 at N11 ht2 hk2' htd2
            rw [List.cons_append, List.cons_append, List.cons_append, List.nil_append] at N11
            clear N10 htD
            try dsimp only
            obtain ⟨vs, hvs⟩ : ∃ vs, vs = Value.str op t0 :: kv := ⟨_, rfl⟩
            rw [← hvs] at N11
            have hvl : vs.length ≤ 1000001 := by rw [hvs]; simp only [List.length_cons]; ((first | with_reducible assumption | exact Mine.lim (by assumption) | exact Mine.lim0 (by assumption) | exact Mine.lim2 (by assumption) | exact Mine.lim3 (by assumption) | exact Mine.lme (by assumption) | exact Mine.lml (by assumption) | exact Mine.lll (by assumption) | decide | lia))
            have htD2 := offD N11 (ne_obj (N11.get (.tail _ (.head _))) (N11.get (.head _)) (by simp)) (Ne.symm hD0) htd2
            (repeat' ((fail_if_success with_reducible first|refine zz1 ?_|refine zz2 ?_|refine zz3 ?_|refine zz4 ?_|refine zz7 ?_|refine zz5 ?_|refine zz6 ?_); first | (k_unfold; (try dsimp only)) | walk1 | (dsimp only; walk1)))
            rename_i h12 F12 N12
            rw [show pl + 2 + (wordsL done).length + t.words.length = pl + 2 + (wordsL (done ++ [t])).length by rw [wordsL_snoc, List.length_append]; ((first | with_reducible assumption | exact Mine.lim (by assumption) | exact Mine.lim0 (by assumption) | exact Mine.lim2 (by assumption) | exact Mine.lim3 (by assumption) | exact Mine.lme (by assumption) | exact Mine.lml (by assumption) | exact Mine.lll (by assumption) | decide | lia))] at N12
            have hw4 := hh.append.2
            rw [show pl + 2 + (wordsL done).length + t.words.length = pl + 2 + (wordsL (done ++ [t])).length by rw [wordsL_snoc, List.length_append]; ((first | with_reducible assumption | exact Mine.lim (by assumption) | exact Mine.lim0 (by assumption) | exact Mine.lim2 (by assumption) | exact Mine.lim3 (by assumption) | exact Mine.lme (by assumption) | exact Mine.lml (by assumption) | exact Mine.lll (by assumption) | decide | lia))] at hw4
            rw [show vs.toArray.push v10 = (Value.str op t0 :: (kv ++ [v10])).toArray by rw [hvs]; simp [List.push_toArray]] at N12
            exact WhileStep.intro F12 N12 (n' := ts.length) (by simp) ⟨done ++ [t], ts, t0, kv ++ [v10], e + 1, tl2, _, rfl, by rw [hall, List.append_assoc]; rfl, rfl, faultL_none hf2 hfd, rfl, ht2, by rw [List.length_append, List.length_append, hkl]; rfl, hk2', hw4⟩
          · have U := upto_end hm hin F9 N9 [dx] (List.forall_mem_cons.mpr ⟨.inr (.tail _ (.head _)), List.forall_mem_cons.mpr ⟨.inl (.head _), List.forall_mem_nil _⟩⟩)
            refine hE _ _ (thrown_leave U hL hoff rfl rfl y (fun a ha => .inl ha) fun h4 y4 => hk2 (i + (wordsL done).length + 2) u p ?_ ?_ _ _ _ y4)
            · rw [fault_node, if_neg hd40, hall, faultL_some hf2 ts hfd]; rfl
            · rw [← hp]; congr 1; ((first | with_reducible assumption | exact Mine.lim (by assumption) | exact Mine.lim0 (by assumption) | exact Mine.lim2 (by assumption) | exact Mine.lim3 (by assumption) | exact Mine.lme (by assumption) | exact Mine.lml (by assumption) | exact Mine.lll (by assumption) | decide | lia))
        · rename_i q
          exact absurd (by simpa using q) huc
    · have U := upto_end hm hin F4 N4 [dx] (List.forall_mem_cons.mpr ⟨.inr (.head _), List.forall_mem_cons.mpr ⟨.inl (.head _), List.forall_mem_nil _⟩⟩)
      refine hE _ _ (thrown_leave U hL hoff rfl rfl y (fun a ha => .inl ha) fun h4 y4 => hk2 (i + 2) u p ?_ ?_ _ _ _ y4)
      · rw [fault_node, if_neg hd40, faultL_cons, hf]; rfl
      · rw [← hp]; congr 1; ((first | with_reducible assumption | exact Mine.lim (by assumption) | exact Mine.lim0 (by assumption) | exact Mine.lim2 (by assumption) | exact Mine.lim3 (by assumption) | exact Mine.lme (by assumption) | exact Mine.lml (by assumption) | exact Mine.lll (by assumption) | decide | lia))
theorem term_spec : ∀ (n : Nat) (T : Tm), T.nest ≤ n → TermSpec w mean mg mb base T n
  | _, .node op [], _ => term_leaf op _
  | 0, .node op (k :: ks), hn => absurd hn (by rw [Tm.nest]; ((first | with_reducible assumption | exact Mine.lim (by assumption) | exact Mine.lim0 (by assumption) | exact Mine.lim2 (by assumption) | exact Mine.lim3 (by assumption) | exact Mine.lme (by assumption) | exact Mine.lml (by assumption) | exact Mine.lll (by assumption) | decide | lia)))
  | n + 1, .node op (k :: ks), hn => term_node op k ks n fun t ht => term_spec n t (by
      have := nest_kid ht
      rw [Tm.nest] at hn
      ((first | with_reducible assumption | exact Mine.lim (by assumption) | exact Mine.lim0 (by assumption) | exact Mine.lim2 (by assumption) | exact Mine.lim3 (by assumption) | exact Mine.lme (by assumption) | exact Mine.lml (by assumption) | exact Mine.lll (by assumption) | decide | lia)))
end
end Mine
end
-- U1
section
namespace Mine
open PySem PySem.W PySem.Calls PyProof.Rows
set_option maxHeartbeats 3000000
section
variable {w : World} {mean : ExcName → Option Value} {mg mb : Str → Option Value} {base : Heap} {outer : List Env} {dp un : Nat} {gd : Option (List Code)} {s : Shared} {R : Result → Shared → Prop}
theorem Words.keepsT {h h' : Heap} {wl : Addr} {ws : List (Str × Nat)} {o : Obj} (W : Words h wl ws) (k : KeepT h h') (e : h.get? wl = some o) (e' : h'.get? wl = some o) : Words h' wl ws := by
  obtain ⟨vs, ⟨o1, ho, hc, r⟩, hl, hi⟩ := W.its
  rw [e] at ho
  cases ho
  refine ⟨vs, ⟨o, e', hc, r⟩, hl, fun i u p q => ?_⟩
  obtain ⟨tp, t, t', e1, ⟨o2, ho2, hc2, n2, r2⟩⟩ := hi i u p q
  exact ⟨tp, t, t', e1, o2, k _ _ ho2 ⟨hc2, _, n2, r2⟩, hc2, n2, r2⟩
theorem words_long {base : Heap} {x : Str} {t : Tok} (C : Cx w mean mg mb base outer (Ar dp un gd outer) s.heap) (hdep : dp + 20 < recursionLimit) (hx : 100000 < x.length) (hx2 : x.length ≤ 1000000)
    (hk : ∀ h' tk e, Thrown w.params outer [] s.heap 100000 e h' → R (.error (.ref e)) { s with heap := h', toks := tk }) :
    codeAny (model PR w) (Ar dp un gd outer) (.call (.ref 145) ⟨[.str x t], []⟩) R s := by
  refine' enter_fn (A := Ar dp un gd outer) [("text", .str x t)] C [] (List.forall_mem_nil _) ?k1 ?k2 ?k3 ?k4 ?k5 ?_ ?c2 ?c3 ?c4 ?c5
  ((case k1 => k_is); (case k2 => k_is); (case k3 => (show _ < _; first | ((first | with_reducible assumption | exact Mine.lim (by assumption) | exact Mine.lim0 (by assumption) | exact Mine.lim2 (by assumption) | exact Mine.lim3 (by assumption) | exact Mine.lme (by assumption) | exact Mine.lml (by assumption) | exact Mine.lll (by assumption) | decide | lia)) | (dsimp only; ((first | with_reducible assumption | exact Mine.lim (by assumption) | exact Mine.lim0 (by assumption) | exact Mine.lim2 (by assumption) | exact Mine.lim3 (by assumption) | exact Mine.lme (by assumption) | exact Mine.lml (by assumption) | exact Mine.lll (by assumption) | decide | lia))))); (case k4 => exact BindsTo.of_eq rfl); (case k5 => exact locs rfl); (case c2 => exact rfl); (case c3 => exact rfl); (case c4 => exact rfl); (case c5 => decide))
  intro g L h₁ tk F N B X T hin hout hsz
  try k_fold
  (repeat' ((fail_if_success with_reducible first|refine zz1 ?_|refine zz2 ?_|refine zz3 ?_|refine zz4 ?_|refine zz7 ?_|refine zz5 ?_|refine zz6 ?_); first | (k_unfold; (try dsimp only)) | walk1 | (dsimp only; walk1)))
  refine raise_tf rfl ?_
  (repeat' ((fail_if_success with_reducible first|refine zz1 ?_|refine zz2 ?_|refine zz3 ?_|refine zz4 ?_|refine zz7 ?_|refine zz5 ?_|refine zz6 ?_); first | (k_unfold; (try dsimp only)) | walk1 | (dsimp only; walk1)))
  have c4 := cx_in (A' := (Ar dp un gd outer).deeper (envOf "words_of" wScope L 145 (.ref 144))) C.X C.T B F rfl rfl rfl
  refine wpAny_call (tf_new (s := ⟨h₁, _, _, _, _⟩) c4 (show dp + 1 + 8 < _ by ((first | with_reducible assumption | exact Mine.lim (by assumption) | exact Mine.lim0 (by assumption) | exact Mine.lim2 (by assumption) | exact Mine.lim3 (by assumption) | exact Mine.lme (by assumption) | exact Mine.lml (by assumption) | exact Mine.lll (by assumption) | decide | lia))) fun h5 e ex k k' tk5 tp u5 f1 e1 f2 e2 => ?_)
  have U := upto0 hin F
  refine ⟨e, ex, tp, rfl, X.keeps fun b o q => u5 b o (F.keep b o q) List.not_mem_nil, e1, ?_⟩
  refine thrown_new U ?_ ?_ rfl rfl c4.B.frames u5 f1 e1 f2 e2 fun h6 y => hk _ _ _ y
  · exact Heap.get?_none_of_le (by rw [← hsz]; exact F.above)
  · exact fun a ha => nomatch ha
theorem rinit_spec {base : Heap} {x : Str} {t : Tok} {a da : Addr} (C : Cx w mean mg mb base outer (Ar dp un gd outer) s.heap) (hdep : dp + 40 < recursionLimit) (hu : un + 300 < cLine) (hx : x.length ≤ 100000)
    (hok : ∀ c ∈ x.cps.toList, c < 128 ∧ (opChar c = true ∨ sepChar c = true ∨ Txt.isspace ⟨#[c]⟩ = true))
    (ha : MutAt base outer s.heap (a, instObj 258 da)) (hd : MutAt base outer s.heap (da, emptyDict))
    (hk : ∀ h' wl tk, Upto [da] s.heap h' → RdAt w.params base outer h' a da wl 0 0 → Words h' wl (lexL 0 x.cps.toList ++ [(("" : Str), x.length)]) → R (.ok (.ret .none)) { s with heap := h', toks := tk }) :
    codeAny (model PR w) (Ar dp un gd outer) (.call (.ref 159) ⟨[.ref a, .str x t], []⟩) R s := by
  have hne : a ≠ da := ne_obj ha.at_ hd.at_ (by simp)
  have hm : ∀ p ∈ [(a, instObj 258 da), (da, emptyDict)], MutAt base outer s.heap p := List.forall_mem_cons.mpr ⟨ha, List.forall_mem_cons.mpr ⟨hd, List.forall_mem_nil _⟩⟩
  refine' enter_fn (A := Ar dp un gd outer) [("self", .ref a), ("text", .str x t)] C [(a, instObj 258 da), (da, emptyDict)] hm ?k1 ?k2 ?k3 ?k4 ?k5 ?_ ?c2 ?c3 ?c4 ?c5
  ((case k1 => k_is); (case k2 => k_is); (case k3 => (show _ < _; first | ((first | with_reducible assumption | exact Mine.lim (by assumption) | exact Mine.lim0 (by assumption) | exact Mine.lim2 (by assumption) | exact Mine.lim3 (by assumption) | exact Mine.lme (by assumption) | exact Mine.lml (by assumption) | exact Mine.lll (by assumption) | decide | lia)) | (dsimp only; ((first | with_reducible assumption | exact Mine.lim (by assumption) | exact Mine.lim0 (by assumption) | exact Mine.lim2 (by assumption) | exact Mine.lim3 (by assumption) | exact Mine.lme (by assumption) | exact Mine.lml (by assumption) | exact Mine.lll (by assumption) | decide | lia))))); (case k4 => exact BindsTo.of_eq rfl); (case k5 => exact locs rfl); (case c2 => exact rfl); (case c3 => exact rfl); (case c4 => exact rfl); (case c5 => decide))
  intro g L h₁ tk F N B X T hin hout hsz
  try k_fold
  (repeat' ((fail_if_success with_reducible first|refine zz1 ?_|refine zz2 ?_|refine zz3 ?_|refine zz4 ?_|refine zz7 ?_|refine zz5 ?_|refine zz6 ?_); first | (k_unfold; (try dsimp only)) | walk1 | (dsimp only; walk1)))
  refine wpAny_call (words_spec (cx_in C.X C.T B F rfl rfl rfl) (show dp + 1 + 10 < _ by ((first | with_reducible assumption | exact Mine.lim (by assumption) | exact Mine.lim0 (by assumption) | exact Mine.lim2 (by assumption) | exact Mine.lim3 (by assumption) | exact Mine.lme (by assumption) | exact Mine.lml (by assumption) | exact Mine.lll (by assumption) | decide | lia))) (show un + 3 + 200 < _ by ((first | with_reducible assumption | exact Mine.lim (by assumption) | exact Mine.lim0 (by assumption) | exact Mine.lim2 (by assumption) | exact Mine.lim3 (by assumption) | exact Mine.lme (by assumption) | exact Mine.lml (by assumption) | exact Mine.lll (by assumption) | decide | lia))) hx hok fun h2 wl tk2 u2 f2 W2 => ?_)
  have F2 := fr_upto F u2 (fun a ha => nomatch ha)
  have N2 := news_upto N u2
  have Wf := fr_new F f2
  clear F N
  obtain ⟨wo, hwo, hwc⟩ : ∃ o, h2.get? wl = some o ∧ o.cls = .type "list" := by
    obtain ⟨_, ⟨o, ho, hc, _⟩, _⟩ := W2.its
    exact ⟨o, ho, hc⟩
  obtain ⟨tl, N3, htd, hW⟩ : ∃ tl, News g L h2 ((a, instObj 258 da) :: (da, emptyDict) :: tl) ∧ (∀ p ∈ tl, p.1 ≠ da) ∧
      ∀ h' : Heap, (∀ b o, g.get? b = some o → h'.get? b = some o) → (∀ p ∈ tl, h'.get? p.1 = some p.2) → Words h' wl (lexL 0 x.cps.toList ++ [(("" : Str), x.length)]) := by
    have N3 := snap F2 N2
    refine ⟨(wl, wo) :: snapOf g h2, ?_, List.forall_mem_cons.mpr ⟨?_, fun p hp => ?_⟩, fun h' kg kt => W2.keepsT (snap_keep kg F2.keep fun p hp => kt p (.tail _ hp)) hwo (kt _ (.head _))⟩
    · have N4 := news_cons hwo Wf N3
      intro p hp
      refine N4 p ?_
      rcases List.mem_cons.mp hp with q | hp
      · exact q ▸ .tail _ (.head _)
      · rcases List.mem_cons.mp hp with q | hp
        · exact q ▸ .tail _ (.tail _ (.head _))
        · rcases List.mem_cons.mp hp with q | hp
          · exact q ▸ .head _
          · exact .tail _ (.tail _ (.tail _ hp))
    · exact ne_obj hwo (N2.get (.tail _ (.head _))) (by rw [hwc]; simp)
    · exact ne_obj (mem_snap.mp hp).1 (N2.get (.tail _ (.head _))) (by rw [(mem_snap.mp hp).2.1.1]; simp)
  clear N2 Wf u2 f2 W2 hwo hwc
  try dsimp only
  (repeat' ((fail_if_success with_reducible first|refine zz1 ?_|refine zz2 ?_|refine zz3 ?_|refine zz4 ?_|refine zz7 ?_|refine zz5 ?_|refine zz6 ?_); first | (k_unfold; (try dsimp only)) | walk1 | (dsimp only; walk1)))
  rename_i h5 F5 N5
  have U := upto_end hm hin F5 N5 [da] (List.forall_mem_cons.mpr ⟨.inr (.head _), List.forall_mem_cons.mpr ⟨.inl (.head _), List.forall_mem_nil _⟩⟩)
  refine hk h5 wl _ U ⟨⟨N5.get (.head _), ha.new, ha.off⟩, ⟨_, _, _, _, _, _, _⟩, ⟨N5.get (.tail _ (.head _)), hd.new, hd.off⟩⟩ ?_
  exact hW h5 F5.keep fun p hp => N5.get (.tail _ (.tail _ hp))
end
end Mine
end
-- U2
section
namespace Mine
open PySem PySem.W PySem.Calls PyProof.Rows
set_option maxHeartbeats 3000000
section
variable {w : World} {mean : ExcName → Option Value} {mg mb : Str → Option Value} {base : Heap} {outer : List Env} {dp un : Nat} {gd : Option (List Code)} {s : Shared} {R : Result → Shared → Prop}
theorem rinit_long {base : Heap} {x : Str} {t : Tok} {a da : Addr} (C : Cx w mean mg mb base outer (Ar dp un gd outer) s.heap) (hdep : dp + 40 < recursionLimit) (hx : 100000 < x.length) (hx2 : x.length ≤ 1000000)
    (ha : MutAt base outer s.heap (a, instObj 258 da)) (hda : MutAt base outer s.heap (da, emptyDict))
    (hk : ∀ h' tk e, Thrown w.params outer [] s.heap 100000 e h' → R (.error (.ref e)) { s with heap := h', toks := tk }) :
    codeAny (model PR w) (Ar dp un gd outer) (.call (.ref 159) ⟨[.ref a, .str x t], []⟩) R s := by
  have hm : ∀ p ∈ [(a, instObj 258 da), (da, emptyDict)], MutAt base outer s.heap p := List.forall_mem_cons.mpr ⟨ha, List.forall_mem_cons.mpr ⟨hda, List.forall_mem_nil _⟩⟩
  refine' enter_fn (A := Ar dp un gd outer) [("self", .ref a), ("text", .str x t)] C [(a, instObj 258 da), (da, emptyDict)] hm ?k1 ?k2 ?k3 ?k4 ?k5 ?_ ?c2 ?c3 ?c4 ?c5
  ((case k1 => k_is); (case k2 => k_is); (case k3 => (show _ < _; first | ((first | with_reducible assumption | exact Mine.lim (by assumption) | exact Mine.lim0 (by assumption) | exact Mine.lim2 (by assumption) | exact Mine.lim3 (by assumption) | exact Mine.lme (by assumption) | exact Mine.lml (by assumption) | exact Mine.lll (by assumption) | decide | lia)) | (dsimp only; ((first | with_reducible assumption | exact Mine.lim (by assumption) | exact Mine.lim0 (by assumption) | exact Mine.lim2 (by assumption) | exact Mine.lim3 (by assumption) | exact Mine.lme (by assumption) | exact Mine.lml (by assumption) | exact Mine.lll (by assumption) | decide | lia))))); (case k4 => exact BindsTo.of_eq rfl); (case k5 => exact locs rfl); (case c2 => exact rfl); (case c3 => exact rfl); (case c4 => exact rfl); (case c5 => decide))
  intro g L h₁ tk F N B X T hin hout hsz
  try k_fold
  (repeat' ((fail_if_success with_reducible first|refine zz1 ?_|refine zz2 ?_|refine zz3 ?_|refine zz4 ?_|refine zz7 ?_|refine zz5 ?_|refine zz6 ?_); first | (k_unfold; (try dsimp only)) | walk1 | (dsimp only; walk1)))
  refine wpAny_call (words_long (cx_in C.X C.T B F rfl rfl rfl) (show dp + 1 + 20 < _ by ((first | with_reducible assumption | exact Mine.lim (by assumption) | exact Mine.lim0 (by assumption) | exact Mine.lim2 (by assumption) | exact Mine.lim3 (by assumption) | exact Mine.lme (by assumption) | exact Mine.lml (by assumption) | exact Mine.lll (by assumption) | decide | lia))) hx hx2 fun h2 tk2 e y => ?_)
  have U := upto_end hm hin F N [] (List.forall_mem_cons.mpr ⟨.inr (.head _), List.forall_mem_cons.mpr ⟨.inr (.tail _ (.head _)), List.forall_mem_nil _⟩⟩)
  exact thrown_leave U (Heap.get?_none_of_le (by rw [← hsz]; exact F.above)) (fun a ha => nomatch ha) rfl rfl y (fun a ha => nomatch ha) fun h4 y4 => hk _ _ _ y4
end
section
variable {w : World} {mean : ExcName → Option Value} {mg mb : Str → Option Value} {base : Heap} {outer : List Env} {A : Around} {s : Shared} {R : Result → Shared → Prop}
    {x dx wl : Addr} {pl dp : Nat} {ws : List (Str × Nat)} {u : Str} {p : Nat}
theorem want_end {t : Tok} (C : Cx w mean mg mb base outer A s.heap) (hdep : A.depth + 3 < recursionLimit)
    (hr : RdAt w.params base outer s.heap x dx wl pl dp) (W : Words s.heap wl ws) (hw : ws[pl]? = some (("" : Str), p)) (hb : pl < 2 ^ 60)
    (hk : ∀ h' tk, Upto [] s.heap h' → R (.ok (.ret .none)) { s with heap := h', toks := tk }) :
    codeAny (model PR w) A (.call (.ref 187) ⟨[.ref x, .str "" t], []⟩) R s := by
  obtain ⟨K, hm, hxd⟩ := hr.mu
  refine' enter_fn [("self", .ref x), ("word", .str "" t)] C [(x, instObj 258 dx), (dx, (dictOf (rdEs w.params K wl pl dp) 4))] hm ?k1 ?k2 ?k3 ?k4 ?k5 ?_ ?c2 ?c3 ?c4 ?c5
  ((case k1 => k_is); (case k2 => k_is); (case k3 => (show _ < _; first | ((first | with_reducible assumption | exact Mine.lim (by assumption) | exact Mine.lim0 (by assumption) | exact Mine.lim2 (by assumption) | exact Mine.lim3 (by assumption) | exact Mine.lme (by assumption) | exact Mine.lml (by assumption) | exact Mine.lll (by assumption) | decide | lia)) | (dsimp only; ((first | with_reducible assumption | exact Mine.lim (by assumption) | exact Mine.lim0 (by assumption) | exact Mine.lim2 (by assumption) | exact Mine.lim3 (by assumption) | exact Mine.lme (by assumption) | exact Mine.lml (by assumption) | exact Mine.lll (by assumption) | decide | lia))))); (case k4 => exact BindsTo.of_eq rfl); (case k5 => exact locs rfl); (case c2 => exact rfl); (case c3 => exact rfl); (case c4 => exact rfl); (case c5 => decide))
  intro g L' h₁ tk F N B X T hin hout hsz
  have W1 := W.keeps (in_g hm hin rd_cls)
  try k_fold
  (repeat' ((fail_if_success with_reducible first|refine zz1 ?_|refine zz2 ?_|refine zz3 ?_|refine zz4 ?_|refine zz7 ?_|refine zz5 ?_|refine zz6 ?_); first | (k_unfold; (try dsimp only)) | walk1 | (dsimp only; walk1)))
  refine wpAny_call (word_spec (cx_in C.X C.T B F rfl rfl (frames_cons B.stack)) (show A.depth + 1 + 1 < _ by ((first | with_reducible assumption | exact Mine.lim (by assumption) | exact Mine.lim0 (by assumption) | exact Mine.lim2 (by assumption) | exact Mine.lim3 (by assumption) | exact Mine.lme (by assumption) | exact Mine.lml (by assumption) | exact Mine.lll (by assumption) | decide | lia))) (rd_in B rfl N) (W1.keeps (.of F.keep)) hw hb fun h2 t2 tk2 u2 => ?_)
  have F2 := fr_upto F u2 (fun a ha => nomatch ha)
  have N2 := news_upto N u2
  clear F N
  try dsimp only
  (repeat' ((fail_if_success with_reducible first|refine zz1 ?_|refine zz2 ?_|refine zz3 ?_|refine zz4 ?_|refine zz7 ?_|refine zz5 ?_|refine zz6 ?_); first | (k_unfold; (try dsimp only)) | walk1 | (dsimp only; walk1)))
  refine hk _ _ (upto_end hm hin F2 N2 [] (List.forall_mem_cons.mpr ⟨.inr (.head _), List.forall_mem_cons.mpr ⟨.inr (.tail _ (.head _)), List.forall_mem_nil _⟩⟩))
end
section
variable {w : World} {mean : ExcName → Option Value} {mg mb : Str → Option Value} {outer : List Env} {dp un : Nat} {gd : Option (List Code)} {s : Shared} {R : Result → Shared → Prop}
theorem words_snap {g h : Heap} {L wl : Addr} {m : Str → Option Value} {l : List (Addr × Obj)} {ws : List (Str × Nat)} (F : Fr g L h m) (N : News g L h l) (W : Words h wl ws) :
    ∃ tl, News g L h (l ++ tl) ∧ (∀ p ∈ tl, p.2.cls = .type "tuple" ∨ p.2.cls = .type "list") ∧ ∀ h' : Heap, (∀ b o, g.get? b = some o → h'.get? b = some o) → (∀ p ∈ tl, h'.get? p.1 = some p.2) → KeepT h h' ∧ Words h' wl ws := by
  obtain ⟨o, ho, hc, n, hd⟩ : ∃ o, h.get? wl = some o ∧ o.cls = .type "list" ∧ ∃ n vs, o.data = .seq vs n := by
    obtain ⟨_, ⟨o, ho, hc, n, hd⟩, _⟩ := W.its
    exact ⟨o, ho, hc, n, _, hd⟩
  have N2 := snap F N
  cases q : g.get? wl with
  | some o' =>
    refine ⟨_, N2, fun p hp => .inl (mem_snap.mp hp).2.1.1, fun h' kg kt => ?_⟩
    have kT := snap_keep kg F.keep kt
    have e := F.keep _ _ q
    rw [ho] at e
    cases e
    exact ⟨kT, W.keepsT kT ho (kg _ _ q)⟩
  | none =>
    refine ⟨snapOf g h ++ [(wl, o)], ?_, fun p hp => ?_, fun h' kg kt => ?_⟩
    · rw [← List.append_assoc]
      intro p hp
      rcases List.mem_append.mp hp with hp | hp
      · exact N2 p hp
      · rw [List.mem_singleton.mp hp]
        refine ⟨ho, fun z => ?_, q⟩
        obtain ⟨oL, es, ep, hL, hdd, hr⟩ := F.ns
        have z' : wl = L := z
        rw [z', hL] at ho
        obtain ⟨vs, hd⟩ := hd
        rw [← Option.some.inj ho, hdd] at hd
        cases hd
    · rcases List.mem_append.mp hp with hp | hp
      · exact .inl (mem_snap.mp hp).2.1.1
      · rw [List.mem_singleton.mp hp]; exact .inr hc
    · have kT := snap_keep kg F.keep fun p hp => kt p (List.mem_append_left _ hp)
      exact ⟨kT, W.keepsT kT ho (kt _ (List.mem_append_right _ (.head _)))⟩
theorem lexL_len : ∀ (n off : Nat) (l : List Nat), l.length ≤ n → (lexL off l).length ≤ l.length
  | _, _, [], _ => by rw [lexL_nil]; exact Nat.le_refl _
  | 0, _, _ :: _, h => absurd h (by simp)
  | n + 1, off, c :: cs, h => by
    have hc : cs.length ≤ n := by simpa using h
    cases h1 : opChar c with
    | true =>
      rw [lexL_op h1, List.length_cons]
      have e1 : runLen (c :: cs) = runLen cs + 1 := runLen_cons h1
      have := lexL_len n (off + runLen (c :: cs)) ((c :: cs).drop (runLen (c :: cs))) (by rw [e1, List.drop_succ_cons, List.length_drop]; ((first | with_reducible assumption | exact Mine.lim (by assumption) | exact Mine.lim0 (by assumption) | exact Mine.lim2 (by assumption) | exact Mine.lim3 (by assumption) | exact Mine.lme (by assumption) | exact Mine.lml (by assumption) | exact Mine.lll (by assumption) | decide | lia)))
      rw [e1, List.drop_succ_cons, List.length_drop] at this
      rw [e1, List.drop_succ_cons, List.length_cons]
      ((first | with_reducible assumption | exact Mine.lim (by assumption) | exact Mine.lim0 (by assumption) | exact Mine.lim2 (by assumption) | exact Mine.lim3 (by assumption) | exact Mine.lme (by assumption) | exact Mine.lml (by assumption) | exact Mine.lll (by assumption) | decide | lia))
    | false =>
      have := lexL_len n (off + 1) cs hc
      cases h2 : sepChar c with
      | true => rw [lexL_sep h1 h2, List.length_cons, List.length_cons]; ((first | with_reducible assumption | exact Mine.lim (by assumption) | exact Mine.lim0 (by assumption) | exact Mine.lim2 (by assumption) | exact Mine.lim3 (by assumption) | exact Mine.lme (by assumption) | exact Mine.lml (by assumption) | exact Mine.lll (by assumption) | decide | lia))
      | false => rw [lexL_gap h1 h2, List.length_cons]; ((first | with_reducible assumption | exact Mine.lim (by assumption) | exact Mine.lim0 (by assumption) | exact Mine.lim2 (by assumption) | exact Mine.lim3 (by assumption) | exact Mine.lme (by assumption) | exact Mine.lml (by assumption) | exact Mine.lll (by assumption) | decide | lia))
mutual
theorem fault_lt {dp : Nat} : ∀ (t : Tm) {i : Nat}, t.fault dp = some i → i < t.words.length
  | .node op [], _, h => by rw [Tm.fault] at h; cases h
  | .node op (k :: ks), i, h => by
    rw [fault_node] at h
    rw [words_node, List.length_cons, List.length_cons, List.length_append]
    split at h
    · cases h; ((first | with_reducible assumption | exact Mine.lim (by assumption) | exact Mine.lim0 (by assumption) | exact Mine.lim2 (by assumption) | exact Mine.lim3 (by assumption) | exact Mine.lme (by assumption) | exact Mine.lml (by assumption) | exact Mine.lll (by assumption) | decide | lia))
    · rw [faultL_cons] at h
      rw [wordsL_cons, List.length_append]
      cases q : k.fault (dp + 1) with
      | some j =>
        rw [q] at h
        cases h
        have := fault_lt k q
        dsimp only [List.length_cons, List.length_nil]
        ((first | with_reducible assumption | exact Mine.lim (by assumption) | exact Mine.lim0 (by assumption) | exact Mine.lim2 (by assumption) | exact Mine.lim3 (by assumption) | exact Mine.lme (by assumption) | exact Mine.lml (by assumption) | exact Mine.lll (by assumption) | decide | lia))
      | none =>
        rw [q] at h
        try dsimp only at h
        cases q2 : faultL (dp + 1) ks with
        | none => rw [q2] at h; cases h
        | some j =>
          rw [q2] at h
          cases h
          have := faultL_lt ks q2
          dsimp only [List.length_cons, List.length_nil]
          ((first | with_reducible assumption | exact Mine.lim (by assumption) | exact Mine.lim0 (by assumption) | exact Mine.lim2 (by assumption) | exact Mine.lim3 (by assumption) | exact Mine.lme (by assumption) | exact Mine.lml (by assumption) | exact Mine.lll (by assumption) | decide | lia))
theorem faultL_lt {dp : Nat} : ∀ (ts : List Tm) {i : Nat}, faultL dp ts = some i → i < (wordsL ts).length
  | [], _, h => by rw [faultL] at h; cases h
  | k :: ks, i, h => by
    rw [faultL_cons] at h
    rw [wordsL_cons, List.length_append]
    cases q : k.fault dp with
    | some j =>
      rw [q] at h
      cases h
      have := fault_lt k q
      ((first | with_reducible assumption | exact Mine.lim (by assumption) | exact Mine.lim0 (by assumption) | exact Mine.lim2 (by assumption) | exact Mine.lim3 (by assumption) | exact Mine.lme (by assumption) | exact Mine.lml (by assumption) | exact Mine.lll (by assumption) | decide | lia))
    | none =>
      rw [q] at h
      try dsimp only at h
      cases q2 : faultL dp ks with
      | none => rw [q2] at h; cases h
      | some j =>
        rw [q2] at h
        cases h
        have := faultL_lt ks q2
        try dsimp only
        ((first | with_reducible assumption | exact Mine.lim (by assumption) | exact Mine.lim0 (by assumption) | exact Mine.lim2 (by assumption) | exact Mine.lim3 (by assumption) | exact Mine.lme (by assumption) | exact Mine.lml (by assumption) | exact Mine.lll (by assumption) | decide | lia))
end
theorem read_term_spec {base : Heap} {x : Str} {t : Tok} {Te : Tm} (C : Cx w mean mg mb base outer (Ar dp un gd outer) s.heap) (hdep : dp + Te.nest + 100 < recursionLimit) (hu : un + 10 * Te.nest + 400 < cLine) (hx : x.length ≤ 100000)
    (hok : ∀ c ∈ x.cps.toList, c < 128 ∧ (opChar c = true ∨ sepChar c = true ∨ Txt.isspace ⟨#[c]⟩ = true)) (hlex : (lexL 0 x.cps.toList).map (·.1) = Te.words) (hop : ∀ o ∈ Te.ops, OpWord o)
    (hk1 : Te.fault 0 = none → ∀ h' tk v, Upto [] s.heap h' → Reads h' v Te.dat [] → R (.ok (.ret v)) { s with heap := h', toks := tk })
    (hk2 : ∀ i u p, Te.fault 0 = some i → (lexL 0 x.cps.toList)[i]? = some (u, p) → ∀ h' tk e, Thrown w.params outer [] s.heap p e h' → R (.error (.ref e)) { s with heap := h', toks := tk }) :
    codeAny (model PR w) (Ar dp un gd outer) (.call (.ref 269) ⟨[.str x t], []⟩) R s := by
  refine' enter_fn (A := Ar dp un gd outer) [("text", .str x t)] C [] (List.forall_mem_nil _) ?k1 ?k2 ?k3 ?k4 ?k5 ?_ ?c2 ?c3 ?c4 ?c5
  ((case k1 => k_is); (case k2 => k_is); (case k3 => (show _ < _; first | ((first | with_reducible assumption | exact Mine.lim (by assumption) | exact Mine.lim0 (by assumption) | exact Mine.lim2 (by assumption) | exact Mine.lim3 (by assumption) | exact Mine.lme (by assumption) | exact Mine.lml (by assumption) | exact Mine.lll (by assumption) | decide | lia)) | (dsimp only; ((first | with_reducible assumption | exact Mine.lim (by assumption) | exact Mine.lim0 (by assumption) | exact Mine.lim2 (by assumption) | exact Mine.lim3 (by assumption) | exact Mine.lme (by assumption) | exact Mine.lml (by assumption) | exact Mine.lll (by assumption) | decide | lia))))); (case k4 => exact BindsTo.of_eq rfl); (case k5 => exact locs rfl); (case c2 => exact rfl); (case c3 => exact rfl); (case c4 => exact rfl); (case c5 => decide))
  intro g L h₁ tk F N B X T hin hout hsz
  try k_fold
  (repeat' ((fail_if_success with_reducible first|refine zz1 ?_|refine zz2 ?_|refine zz3 ?_|refine zz4 ?_|refine zz7 ?_|refine zz5 ?_|refine zz6 ?_); first | (k_unfold; (try dsimp only)) | walk1 | (dsimp only; walk1)))
  refine' call_cls ?k1 ?k2 ?k3 ?k4 ?k5 ?k6 ?_
  case k1 => k_asm
  case k2 => k_asm
  case k3 => k_asm
  case k4 => k_is
  case k5 => k_is
  case k6 => k_is
  intro a da h2 F2 N2 l1 l2
  refine rinit_spec (s := ⟨h2, _, _, _, _⟩) (cx_in C.X C.T B F2 rfl rfl rfl) ?_ ?_ hx hok (mut_in B rfl N2 (.head _)) (mut_in B rfl N2 (.tail _ (.head _))) fun h3 wl tk3 u3 r3 W3 => ?_
  · show dp + 1 + 1 + 40 < _; ((first | with_reducible assumption | exact Mine.lim (by assumption) | exact Mine.lim0 (by assumption) | exact Mine.lim2 (by assumption) | exact Mine.lim3 (by assumption) | exact Mine.lme (by assumption) | exact Mine.lml (by assumption) | exact Mine.lll (by assumption) | decide | lia))
  · have hq : (Code.builtin "type.__call__" (Args.mk [Value.ref 258, Value.str x t] [])).cUnits ≤ 50 := by first | decide | exact Nat.le_of_ble_eq_true rfl
    show un + 3 + (Code.builtin "type.__call__" (Args.mk [Value.ref 258, Value.str x t] [])).cUnits + 300 < _
    ((first | with_reducible assumption | exact Mine.lim (by assumption) | exact Mine.lim0 (by assumption) | exact Mine.lim2 (by assumption) | exact Mine.lim3 (by assumption) | exact Mine.lme (by assumption) | exact Mine.lml (by assumption) | exact Mine.lll (by assumption) | decide | lia))
  refine ⟨rfl, ?_⟩
  obtain ⟨F3, K, N3⟩ := rd_step (tl := []) F2 N2 (ne_obj (N2.get (.head _)) (N2.get (.tail _ (.head _))) (by simp)) (List.forall_mem_nil _) u3 r3
  have hne : a ≠ da := ne_obj (N2.get (.head _)) (N2.get (.tail _ (.head _))) (by simp)
  clear F2 N2 l1 l2
  obtain ⟨tl, N4, htc, hkp⟩ := words_snap F3 N3 W3
  rw [List.cons_append, List.cons_append, List.nil_append] at N4
  have htd : ∀ p ∈ tl, p.1 ≠ da := fun p hp => ne_obj (N4.get (.tail _ (.tail _ hp))) (N4.get (.tail _ (.head _))) (by rcases htc p hp with q | q <;> rw [q] <;> simp)
  clear N3
  try dsimp only
  (repeat' ((fail_if_success with_reducible first|refine zz1 ?_|refine zz2 ?_|refine zz3 ?_|refine zz4 ?_|refine zz7 ?_|refine zz5 ?_|refine zz6 ?_); first | (k_unfold; (try dsimp only)) | walk1 | (dsimp only; walk1)))
  rename_i h4 F4 N5
  have hH : Here (lexL 0 x.cps.toList ++ [(("" : Str), x.length)]) 0 Te.words := ⟨[("" : Str)], by rw [List.drop_zero, List.map_append, hlex]; rfl⟩
  have hlw : (lexL 0 x.cps.toList).length = Te.words.length := by rw [← hlex, List.length_map]
  have hlb : Te.words.length ≤ 100000 := by rw [← hlw]; exact Nat.le_trans (lexL_len _ 0 _ (Nat.le_refl _)) (by simpa [Str.length] using hx)
  have hL : s.heap.get? L = none := Heap.get?_none_of_le (by rw [← hsz]; exact F4.above)
  refine wpAny_call (term_spec Te.nest Te (Nat.le_refl _) _ _ _ _ ⟨h4, _, _, _, _⟩ _ a da wl 0 0 _ (cx_in C.X C.T B F4 rfl rfl rfl) (show dp + 1 + Te.nest + 30 < _ by ((first | with_reducible assumption | exact Mine.lim (by assumption) | exact Mine.lim0 (by assumption) | exact Mine.lim2 (by assumption) | exact Mine.lim3 (by assumption) | exact Mine.lme (by assumption) | exact Mine.lml (by assumption) | exact Mine.lll (by assumption) | decide | lia))) (show un + 3 + 10 * Te.nest + 200 < _ by ((first | with_reducible assumption | exact Mine.lim (by assumption) | exact Mine.lim0 (by assumption) | exact Mine.lim2 (by assumption) | exact Mine.lim3 (by assumption) | exact Mine.lme (by assumption) | exact Mine.lml (by assumption) | exact Mine.lll (by assumption) | decide | lia)))
    (rd_in2 B rfl N5 (.head _) (.tail _ (.head _))) (hkp h4 F4.keep fun p hp => N5.get (.tail _ (.tail _ hp))).2 hH (by ((first | with_reducible assumption | exact Mine.lim (by assumption) | exact Mine.lim0 (by assumption) | exact Mine.lim2 (by assumption) | exact Mine.lim3 (by assumption) | exact Mine.lme (by assumption) | exact Mine.lml (by assumption) | exact Mine.lll (by assumption) | decide | lia))) (by ((first | with_reducible assumption | exact Mine.lim (by assumption) | exact Mine.lim0 (by assumption) | exact Mine.lim2 (by assumption) | exact Mine.lim3 (by assumption) | exact Mine.lme (by assumption) | exact Mine.lml (by assumption) | exact Mine.lll (by assumption) | decide | lia))) hop (by ((first | with_reducible assumption | exact Mine.lim (by assumption) | exact Mine.lim0 (by assumption) | exact Mine.lim2 (by assumption) | exact Mine.lim3 (by assumption) | exact Mine.lme (by assumption) | exact Mine.lml (by assumption) | exact Mine.lll (by assumption) | decide | lia))) (fun hf h5 tk5 v5 u5 r5 e5 => ?_) fun i u p hf hp h5 tk5 e y => ?_)
  · obtain ⟨F6, _, N6⟩ := rd_step F4 N5 hne htd u5 r5
    have W6 := (hkp h4 F4.keep fun p hp => N5.get (.tail _ (.tail _ hp))).2
    have N7 : News g L h5 [_, _] := fun p hp => N6 p (by
      rcases List.mem_cons.mp hp with q | hp
      · exact q ▸ .head _
      · rw [List.mem_singleton.mp hp]; exact .tail _ (.head _))
    obtain ⟨tl2, N8, htc2, hkp2⟩ := words_snap F6 N7 ((hkp h5 F6.keep fun p hp => N6.get (.tail _ (.tail _ hp))).2)
    rw [List.cons_append, List.cons_append, List.nil_append] at N8
    clear F4 N5 N6 N7
    try dsimp only
    (repeat' ((fail_if_success with_reducible first|refine zz1 ?_|refine zz2 ?_|refine zz3 ?_|refine zz4 ?_|refine zz7 ?_|refine zz5 ?_|refine zz6 ?_); first | (k_unfold; (try dsimp only)) | walk1 | (dsimp only; walk1)))
    rename_i h6 F7 N9
    obtain ⟨kT, W7⟩ := hkp2 h6 F7.keep fun p hp => N9.get (.tail _ (.tail _ hp))
    refine wpAny_call (want_end (s := ⟨h6, _, _, _, _⟩) (p := x.length) (cx_in C.X C.T B F7 rfl rfl rfl) (show dp + 1 + 3 < _ by ((first | with_reducible assumption | exact Mine.lim (by assumption) | exact Mine.lim0 (by assumption) | exact Mine.lim2 (by assumption) | exact Mine.lim3 (by assumption) | exact Mine.lme (by assumption) | exact Mine.lml (by assumption) | exact Mine.lll (by assumption) | decide | lia))) (rd_in2 B rfl N9 (.head _) (.tail _ (.head _))) W7 (by rw [Nat.zero_add, ← hlw, List.getElem?_append_right (Nat.le_refl _), Nat.sub_self]; rfl) (by ((first | with_reducible assumption | exact Mine.lim (by assumption) | exact Mine.lim0 (by assumption) | exact Mine.lim2 (by assumption) | exact Mine.lim3 (by assumption) | exact Mine.lme (by assumption) | exact Mine.lml (by assumption) | exact Mine.lll (by assumption) | decide | lia))) fun h7 tk7 u7 => ?_)
    have F8 := fr_upto F7 u7 (fun a ha => nomatch ha)
    have N10 := news_upto N9 u7
    clear F7 N9
    try dsimp only
    (repeat' ((fail_if_success with_reducible first|refine zz1 ?_|refine zz2 ?_|refine zz3 ?_|refine zz4 ?_|refine zz7 ?_|refine zz5 ?_|refine zz6 ?_); first | (k_unfold; (try dsimp only)) | walk1 | (dsimp only; walk1)))
    refine hk1 hf _ _ _ (upto0 hin F8) ?_
    exact tm_keeps (hkp2 h7 F8.keep fun p hp => N10.get (.tail _ (.tail _ hp))).1 Te e5
  · have U := upto0 hin F4
    refine thrown_leave U hL (fun a ha => nomatch ha) rfl rfl y (fun b hb => ?_) fun h6 y6 => hk2 i u p hf ?_ _ _ _ y6
    · rw [List.mem_singleton.mp hb]
      refine .inr ?_
      cases q : s.heap.get? da with
      | none => rfl
      | some o =>
        have := hin _ _ q List.not_mem_nil
        rw [(N5 _ (.tail _ (.head _))).2.2] at this
        cases this
    · rw [Nat.zero_add, List.getElem?_append_left (by rw [hlw]; exact fault_lt Te hf)] at hp
      exact hp
theorem read_term_long {base : Heap} {x : Str} {t : Tok} (C : Cx w mean mg mb base outer (Ar dp un gd outer) s.heap) (hdep : dp + 100 < recursionLimit) (hx : 100000 < x.length) (hx2 : x.length ≤ 1000000)
    (hk : ∀ h' tk e, Thrown w.params outer [] s.heap 100000 e h' → R (.error (.ref e)) { s with heap := h', toks := tk }) :
    codeAny (model PR w) (Ar dp un gd outer) (.call (.ref 269) ⟨[.str x t], []⟩) R s := by
  refine' enter_fn (A := Ar dp un gd outer) [("text", .str x t)] C [] (List.forall_mem_nil _) ?k1 ?k2 ?k3 ?k4 ?k5 ?_ ?c2 ?c3 ?c4 ?c5
  ((case k1 => k_is); (case k2 => k_is); (case k3 => (show _ < _; first | ((first | with_reducible assumption | exact Mine.lim (by assumption) | exact Mine.lim0 (by assumption) | exact Mine.lim2 (by assumption) | exact Mine.lim3 (by assumption) | exact Mine.lme (by assumption) | exact Mine.lml (by assumption) | exact Mine.lll (by assumption) | decide | lia)) | (dsimp only; ((first | with_reducible assumption | exact Mine.lim (by assumption) | exact Mine.lim0 (by assumption) | exact Mine.lim2 (by assumption) | exact Mine.lim3 (by assumption) | exact Mine.lme (by assumption) | exact Mine.lml (by assumption) | exact Mine.lll (by assumption) | decide | lia))))); (case k4 => exact BindsTo.of_eq rfl); (case k5 => exact locs rfl); (case c2 => exact rfl); (case c3 => exact rfl); (case c4 => exact rfl); (case c5 => decide))
  intro g L h₁ tk F N B X T hin hout hsz
  try k_fold
  (repeat' ((fail_if_success with_reducible first|refine zz1 ?_|refine zz2 ?_|refine zz3 ?_|refine zz4 ?_|refine zz7 ?_|refine zz5 ?_|refine zz6 ?_); first | (k_unfold; (try dsimp only)) | walk1 | (dsimp only; walk1)))
  refine' call_cls ?k1 ?k2 ?k3 ?k4 ?k5 ?k6 ?_
  case k1 => k_asm
  case k2 => k_asm
  case k3 => k_asm
  case k4 => k_is
  case k5 => k_is
  case k6 => k_is
  intro a da h2 F2 N2 l1 l2
  refine rinit_long (s := ⟨h2, _, _, _, _⟩) (cx_in C.X C.T B F2 rfl rfl rfl) (show dp + 1 + 1 + 40 < _ by ((first | with_reducible assumption | exact Mine.lim (by assumption) | exact Mine.lim0 (by assumption) | exact Mine.lim2 (by assumption) | exact Mine.lim3 (by assumption) | exact Mine.lme (by assumption) | exact Mine.lml (by assumption) | exact Mine.lll (by assumption) | decide | lia))) hx hx2 (mut_in B rfl N2 (.head _)) (mut_in B rfl N2 (.tail _ (.head _))) fun h3 tk3 e y => ?_
  exact thrown_leave (upto0 hin F2) (Heap.get?_none_of_le (by rw [← hsz]; exact F2.above)) (fun a ha => nomatch ha) rfl rfl y (fun a ha => nomatch ha) fun h4 y4 => hk _ _ _ y4
end
end Mine
end
-- V1
section
namespace Mine
open PySem PySem.W PySem.Calls PyProof.Rows
set_option maxHeartbeats 3000000
section
variable {w : World} {mean : ExcName → Option Value} {mg mb : Str → Option Value} {base : Heap} {outer : List Env} {dp un : Nat} {gd : Option (List Code)} {s : Shared} {R : Result → Shared → Prop}
structure NoQ (o : Str) : Prop where
  word : OpWord o
  noq : (Txt.slice o none (some 1) == ("?" : Str)) = false
theorem reads_len {h : Heap} {vs : List Value} {ds : List PyData} (r : ReadsAll h vs ds []) : vs.length = ds.length := all_ind (p := fun vs ds => vs.length = ds.length) rfl (fun _ _ ih => congrArg Nat.succ ih) r
theorem datL_len : ∀ (ks : List Tm), (datL ks).length = ks.length
  | [] => rfl
  | _ :: ks => congrArg Nat.succ (datL_len ks)
theorem tm_tup {h : Heap} {op : Str} {ks : List Tm} {v : Value} (r : Reads h v (Tm.node op ks).dat []) : ∃ a t vs, v = .ref a ∧ IsTup h a (Value.str op t :: vs).toArray ∧ ReadsAll h vs (datL ks) [] ∧ vs.length = ks.length := by
  rw [Tm.dat] at r
  obtain ⟨a, l, rfl, hT, hR⟩ := reads_tuple_items r
  obtain ⟨v, ws, rfl, r1, r2⟩ := all_inv hR
  cases r1
  exact ⟨a, _, _, rfl, hT, r2, (reads_len r2).trans (datL_len ks)⟩
theorem isvar_spec {v : Value} {Te : Tm} (C : Cx w mean mg mb base outer (Ar dp un gd outer) s.heap) (hdep : dp + 10 < recursionLimit) (hr : Reads s.heap v Te.dat []) (hq : ∀ o ∈ Te.ops, NoQ o)
    (hlen : Te.words.length ≤ 1000000)
    (hk : ∀ h' tk, Upto [] s.heap h' → R (.ok (.ret (.bool false))) { s with heap := h', toks := tk }) :
    codeAny (model PR w) (Ar dp un gd outer) (.call (.ref 102) ⟨[v], []⟩) R s := by
  obtain ⟨op, ks⟩ := Te
  obtain ⟨a, t, vs, rfl, hT, hR, hl⟩ := tm_tup hr
  refine' enter_fn (A := Ar dp un gd outer) [("t", .ref a)] C [] (List.forall_mem_nil _) ?k1 ?k2 ?k3 ?k4 ?k5 ?_ ?c2 ?c3 ?c4 ?c5
  ((case k1 => k_is); (case k2 => k_is); (case k3 => (show _ < _; first | ((first | with_reducible assumption | exact Mine.lim (by assumption) | exact Mine.lim0 (by assumption) | exact Mine.lim2 (by assumption) | exact Mine.lim3 (by assumption) | exact Mine.lme (by assumption) | exact Mine.lml (by assumption) | exact Mine.lll (by assumption) | decide | lia)) | (dsimp only; ((first | with_reducible assumption | exact Mine.lim (by assumption) | exact Mine.lim0 (by assumption) | exact Mine.lim2 (by assumption) | exact Mine.lim3 (by assumption) | exact Mine.lme (by assumption) | exact Mine.lml (by assumption) | exact Mine.lll (by assumption) | decide | lia))))); (case k4 => exact BindsTo.of_eq rfl); (case k5 => exact locs rfl); (case c2 => exact rfl); (case c3 => exact rfl); (case c4 => exact rfl); (case c5 => decide))
  intro g L h₁ tk F N B X T hin hout hsz
  have hTg : IsTup g a (Value.str op t :: vs).toArray := IsTup.keeps hT fun b o e => hin b o e List.not_mem_nil
  try k_fold
  (repeat' ((fail_if_success with_reducible first|refine zz1 ?_|refine zz2 ?_|refine zz3 ?_|refine zz4 ?_|refine zz7 ?_|refine zz5 ?_|refine zz6 ?_); first | (k_unfold; (try dsimp only)) | (walk1; (all_goals (try dsimp only))) | (dsimp only; walk1; (all_goals (try dsimp only)))))
  have hkl : ks.length ≤ 1000000 := by
    cases ks with
    | nil => exact Nat.zero_le _
    | cons k ks =>
      have := len_words (k :: ks)
      rw [words_node] at hlen
      simp only [List.length_cons, List.length_append] at hlen this ⊢
      ((first | with_reducible assumption | exact Mine.lim (by assumption) | exact Mine.lim0 (by assumption) | exact Mine.lim2 (by assumption) | exact Mine.lim3 (by assumption) | exact Mine.lme (by assumption) | exact Mine.lml (by assumption) | exact Mine.lll (by assumption) | decide | lia))
  refine len_tuple (IsTup.keeps hTg F.keep) (by simp only [List.size_toArray, List.length_cons, hl]; ((first | with_reducible assumption | exact Mine.lim (by assumption) | exact Mine.lim0 (by assumption) | exact Mine.lim2 (by assumption) | exact Mine.lim3 (by assumption) | exact Mine.lme (by assumption) | exact Mine.lml (by assumption) | exact Mine.lll (by assumption) | decide | lia))) ?_
  rw [show (Value.str op t :: vs).toArray.size = ks.length + 1 by simp [hl]]
  cases ks with
  | cons k ks =>
    (repeat' ((fail_if_success with_reducible first|refine zz1 ?_|refine zz2 ?_|refine zz3 ?_|refine zz4 ?_|refine zz7 ?_|refine zz5 ?_|refine zz6 ?_); first | (k_unfold; (try dsimp only)) | (walk1; (all_goals (try dsimp only))) | (dsimp only; walk1; (all_goals (try dsimp only)))))
    · rename_i q
      simp at q
      ((first | with_reducible assumption | exact Mine.lim (by assumption) | exact Mine.lim0 (by assumption) | exact Mine.lim2 (by assumption) | exact Mine.lim3 (by assumption) | exact Mine.lme (by assumption) | exact Mine.lml (by assumption) | exact Mine.lll (by assumption) | decide | lia))
    · rename_i q
      have e1 : ((((k :: ks).length + 1 : Nat) : Int) == 1) = false := by simpa using q
      rw [e1]
      exact hk h₁ _ (upto0 hin F)
  | nil =>
    (repeat' ((fail_if_success with_reducible first|refine zz1 ?_|refine zz2 ?_|refine zz3 ?_|refine zz4 ?_|refine zz7 ?_|refine zz5 ?_|refine zz6 ?_); first | (k_unfold; (try dsimp only)) | (walk1; (all_goals (try dsimp only))) | (dsimp only; walk1; (all_goals (try dsimp only)))))
    obtain rfl := List.length_eq_zero_iff.mp hl
    have hT0 : IsTup h₁ a [Value.str op t].toArray := IsTup.keeps hTg F.keep
    refine item_tupleT (x := .str op t) hT0 (by decide) (by decide) rfl rfl ?_
    have hol : op.length ≤ 1000 := (hq op (.head _)).word.len
    have hnq := (hq op (.head _)).noq
    (repeat' ((fail_if_success with_reducible first|refine zz1 ?_|refine zz2 ?_|refine zz3 ?_|refine zz4 ?_|refine zz7 ?_|refine zz5 ?_|refine zz6 ?_); first | (k_unfold; (try dsimp only)) | (walk1; (all_goals (try dsimp only))) | (dsimp only; walk1; (all_goals (try dsimp only)))))
    rename_i h2 t2 k2 F2 N2 l2
    rw [hnq]
    exact hk _ _ (upto0 hin F2)
end
end Mine
end
-- E1
section
namespace Mine
open PySem PySem.W PySem.Calls PyProof.Rows
open AutoSeq1 (wpAny_loadPart')
set_option maxHeartbeats 3000000
theorem pure_bool {M : Model} {A : Around} {Q : Bool → Shared → Prop} {E : Value → Shared → Prop} {s : Shared} {b : Bool} (h : ∀ b, Q b s) : wpAny M A (pure b) Q E s := wpAny_pure (h b)
theorem new_enum_tup (l : Addr) (items : Array Value) (n : Nat) (dct : Option Addr) (sl : Array (Option Value)) :
    Meets (Builtin.«enumerate.__new__» ⟨[.type "enumerate", .ref l], []⟩) (fun _ R s => s.heap.get? l = some ⟨.type "tuple", dct, .seq items n, sl⟩ ∧
      R (.ok (.ret (.ref (s.heap.push ⟨.type "tuple_iterator", none, .fields #[.ref l, .int 0 0], #[]⟩).objs.size)))
        { s with heap := (s.heap.push ⟨.type "tuple_iterator", none, .fields #[.ref l, .int 0 0], #[]⟩).push ⟨.type "enumerate", none, .fields #[.none, .bool false, .ref s.heap.objs.size, rawInt 0, .none, .none], #[]⟩ }) :=
  .of_wp fun prog w A R s h => by
    have hsub := sub_enumerate
    have hL : IsTup s.heap l items := ⟨_, h.1, rfl, n, rfl⟩
    wp_walk using wpAny_loadPart' h.1
    refine wpAny_stack_any fun st => pure_bool fun b => ?_
    cases b <;> (wp_walk using wpAny_loadPart' h.1, iter_tuple hL; exact ⟨_, rfl, h.2⟩)
section
variable {prog : Program} {w : World} {A : Around} {E : Value → Shared → Prop} {s : Shared}
theorem call_enum_tup {l : Addr} {items : Array Value} {Q : Value → Shared → Prop} (hL : IsTup s.heap l items)
    (h : ∀ h', IsEnum h' (s.heap.objs.size + 1) s.heap.objs.size 0 .none → IsTupIter h' s.heap.objs.size l 0 → h'.objs.size = s.heap.objs.size + 2 →
      (∀ b o, s.heap.get? b = some o → h'.get? b = some o) → Q (.ref (s.heap.objs.size + 1)) { s with heap := h' }) :
    wpAny (model prog w) A (call (.type "enumerate") [.ref l]) Q E s := by
  obtain ⟨⟨c, dct, dt, sl⟩, hl, rfl, n, rfl⟩ := hL
  refine callType_new F.called_enumerate (by decide) (F.typeCall_enumerate_1 _) (F.newCall_enumerate_1 _) (fun obj => F.args_object_init_2 obj _) F.entry_enumerate_new (new_enum_tup l items n dct sl) ⟨hl, ?_⟩
  generalize hT : s.heap.push ⟨.type "tuple_iterator", none, .fields #[.ref l, .int 0 0], #[]⟩ = T
  have z : T.objs.size = s.heap.objs.size + 1 := by rw [← hT, Heap.size_push]
  have i0 : T.get? s.heap.objs.size = some ⟨.type "tuple_iterator", none, .fields #[.ref l, .int 0 0], #[]⟩ := by rw [← hT]; exact Heap.get?_push_size _ rfl
  have e0 := Heap.get?_push_size T (o := ⟨.type "enumerate", none, .fields #[.none, .bool false, .ref s.heap.objs.size, rawInt 0, .none, .none], #[]⟩) rfl
  rw [z] at e0 ⊢
  exact ⟨⟨_, e0, rfl⟩, h _ e0 ⟨_, Heap.get?_push_of_some _ i0, rfl, rfl⟩ (by rw [Heap.size_push, z]) fun b o x => Heap.get?_push_of_some _ (by rw [← hT]; exact Heap.get?_push_of_some _ x)⟩
theorem stop_it {α : Type} {Q : α → Shared → Prop} (hh : A.handled = none)
    (hE : ∀ h' e, (∀ b o, s.heap.get? b = some o → h'.get? b = some o) → (∃ o, h'.get? e = some o ∧ o.cls = .type "StopIteration") → E (.ref e) { s with heap := h' }) :
    wpAny (model prog w) A (Builtin.SmallTypes.stopIteration : Sem α) Q E s := by
  unfold Builtin.SmallTypes.stopIteration newExc newTuple
  have first : firstArgMember (.type "StopIteration") ([] : List Value) = pure Value.none := rfl
  refine wpAny_bind (wpAny_bind (wpAny_newObj_type (wpAny_bind (wpAny_of_eq first (wpAny_newObj_type (wpAny_raiseNew_none hh (hE _ _ ?_ ?_)) (by size_fits)))) (by size_fits)))
  · exact fun b o e => Heap.get?_push_of_some _ (Heap.get?_push_of_some _ e)
  · exact ⟨_, Heap.get?_push_size _ rfl, rfl⟩
theorem tup_next {it l : Addr} {i : Nat} {items : Array Value} {Q : Value → Shared → Prop} (hit : IsTupIter s.heap it l i) (hl : IsTup s.heap l items)
    (more : ∀ x, items[i]? = some x → ∀ h', IsTupIter h' it l (i + 1) → Heap.SameBut it s.heap h' → Q x { s with heap := h' })
    (over : items[i]? = none → A.handled = none ∧ ∀ h' e, Heap.ExtBut it s.heap h' → (∃ o, h'.get? e = some o ∧ o.cls = .type "StopIteration") → E (.ref e) { s with heap := h' }) :
    wpAny (model prog w) A (Builtin.SmallTypes.nextOf (.ref it)) Q E s := by
  obtain ⟨o, ho, hc, hd⟩ := hit
  obtain ⟨ol, hol, -, nl, hdl⟩ := hl
  have ty : s.TypeIs (.ref it) "tuple_iterator" := ⟨o, ho, hc⟩
  refine wpAny_bind (wpAny_callSpecial?_slot (name := Str.ofString "__next__") ty slot_tupleiter_next (wpAny_call_entry slot_tupleiter_next ty entry_tupleiter_next ?_ (args_tupleiter_next _)))
  refine wpAny_bind (m := field (.ref it) 0) (wpAny_field ho hd (x := .ref l) rfl ?_)
  refine wpAny_bind (m := field (.ref it) 1) (wpAny_field ho hd (x := .int i 0) rfl ?_)
  refine wpAny_bind (m := seqItems? (.ref l)) (wpAny_seqItems hol hdl ?_)
  show wpAny _ _ (match items[(i : Int).toNat]? with | some _ => _ | none => _) _ _ _
  rw [Int.toNat_natCast]
  cases hx : items[i]? with
  | none =>
    obtain ⟨hh, hE⟩ := over hx
    exact wpAny_bind (wpAny_rule (wpAny_bind (wpAny_setField ho hd (by simp) (stop_it hh fun h' e k y => hE h' e (fun b ob nb eb => k b ob ((Heap.SameBut.update ..).extBut b ob nb eb)) y))))
  | some x =>
    refine wpAny_bind (wpAny_setField ho hd (by simp) (wpAny_pure ⟨x, rfl, wpAny_pure (more x hx _ ⟨_, Heap.get?_update_self _ ho (Obj.isFreed_of_fields (Obj.data_mapFields hd _)), (Obj.cls_mapFields ..).trans hc, ?_⟩ (Heap.SameBut.update ..))⟩))
    rw [Obj.data_mapFields hd]; simp [rawInt]
end
theorem draws_tup {prog : Program} {w : World} {A : Around} (hh : A.handled = none) (it l : Addr) (hne : l ≠ it) (items : Array Value) :
    Draws prog w A it [it, l] items.size (fun i v => items[i]? = some v) (fun i h => IsTupIter h it l i ∧ IsTup h l items) where
  live := fun _ _ ⟨⟨o, ho, _⟩, _⟩ => ⟨o, ho⟩
  frame := fun _ _ _ ⟨⟨o, ho, r⟩, ⟨o', ho', r'⟩⟩ k => ⟨⟨o, k it (.head _) o ho, r⟩, ⟨o', k l (.tail _ (.head _)) o' ho', r'⟩⟩
  item := fun i s Q E hi ⟨a, b⟩ hQ => tup_next a b (fun x hx h' c d => hQ x h' s.toks hx ⟨c, let ⟨o', ho', r'⟩ := b; ⟨o', d.extBut l o' hne ho', r'⟩⟩ d) fun hx => absurd hi (Nat.not_lt_of_le (Array.getElem?_eq_none_iff.mp hx))
  done := fun s Q E ⟨a, b⟩ hE => tup_next a b (fun x hx => by rw [Array.getElem?_eq_none (Nat.le_refl _)] at hx; cases hx) fun _ => ⟨hh, hE⟩
end Mine
end
-- C1
section
namespace Mine
open PySem PySem.W PySem.Calls PyProof.Rows PyProof.Rows.LCg
set_option maxHeartbeats 3000000
section
variable {prog : Program} {w : World} {A : Around} {E : Value → Shared → Prop} {g : Heap} {L : Addr} {m : Str → Option Value} {env : Env}
noncomputable abbrev Grow (h h' : Heap) : Prop := ∀ b o, h.get? b = some o → h'.get? b = some o
noncomputable abbrev GrowL (L : Addr) (h h' : Heap) : Prop := ∀ b o, b ≠ L → h.get? b = some o → h'.get? b = some o
theorem fr_neL {g h : Heap} {L a : Addr} {m : Str → Option Value} {o : Obj} (F : Fr g L h m) (e : h.get? a = some o) (hd : ∀ es n, o.data ≠ .dict es n) : a ≠ L := by
  rintro rfl
  obtain ⟨oL, es, ep, hL, hdd, _⟩ := F.ns
  rw [hL] at e
  exact hd es ep (by rw [← Option.some.inj e]; exact hdd)
theorem comp_open {elt iter target : PySem.Expr} {ifs : List PySem.Expr} {scope : Scope} {cl : List (Str × Addr)} {pos : Pos} {s₁ : Shared} {l : Addr} {items : Array Value} {RR : Value → Addr → Result → Shared → Prop}
    (hl : s₁.heap.IsList l items) (hcell : ∀ y ∈ scope.names, y.2 ≠ .cell) (hkind : scope.kind = .function)
    (k : ∀ I D C h tk, Grow s₁.heap h → s₁.heap.get? I = none → s₁.heap.get? D = none → s₁.heap.get? C = none → I ≠ D → I ≠ C → C ≠ D → h.IsListIter I l 0 → h.get? D = some (lst []) → h.Ns C (fun _ => none) →
      codeAny (model prog w) A (.compLoop (.ListComp elt [⟨target, iter, ifs, 0⟩] scope pos) 0 (.ref I) (.ref D) (compEnvC scope cl C env)) (RR (.ref D) C) { s₁ with heap := h, toks := tk }) :
    wpAny (model prog w) A (pyIter (.ref l)) (fun it s₂ => wpAny (model prog w) A (newList []) (fun acc s₃ => wpAny (model prog w) A (newFunctionEnv scope env.globals cl [] env.qual none .none (some env)) (fun cenv s₄ =>
      codeAny (model prog w) A (.compStart (.ListComp elt [⟨target, iter, ifs, 0⟩] scope pos) 0 it acc { cenv with scope := relabel scope env }) (RR acc cenv.locals) s₄) E s₃) E s₂) E s₁ := by
  refine wpAny_pyIter_list hl ?_
  refine wpAny_newObj_type (wpAny_newFunctionEnv hcell (by intro y hy; simp at hy) (fun h₁ hns₁ hsb₁ => ?_) hkind)
  dsimp only at hns₁ hsb₁ ⊢
  generalize hH1 : s₁.heap.push { cls := .type "list_iterator", data := .fields #[.ref l, .int 0 0] } = H1 at hns₁ hsb₁ ⊢
  generalize hH2 : H1.push { cls := .type "list", dict := none, data := .seq ([] : List Value).toArray } = H2 at hns₁ hsb₁ ⊢
  have h1 : H1.objs.size = s₁.heap.objs.size + 1 := by rw [← hH1, Heap.size_push]
  have h2 : H2.objs.size = s₁.heap.objs.size + 1 + 1 := by rw [← hH2, Heap.size_push, h1]
  have up2 : ∀ b o, H1.get? b = some o → h₁.get? b = some o := fun b o e =>
    hsb₁.extBut b o (Nat.ne_of_lt (by rw [h2, ← h1]; exact Nat.lt_succ_of_lt (Heap.lt_size e))) (Heap.get?_push_of_some _ (hH2 ▸ Heap.get?_push_of_some _ e))
  have hI : h₁.IsListIter s₁.heap.objs.size l 0 := ⟨_, up2 _ _ (hH1 ▸ Heap.get?_push_size _ rfl), rfl, rfl⟩
  have hD : h₁.get? H1.objs.size = some (lst []) := hsb₁.extBut _ _ (Nat.ne_of_lt (by rw [h2, h1]; exact Nat.lt_succ_self _)) (Heap.get?_push_of_some _ (hH2 ▸ Heap.get?_push_size _ rfl))
  have up : Grow s₁.heap h₁ := fun b o e => up2 b o (hH1 ▸ Heap.get?_push_of_some _ e)
  have hns : h₁.Ns H2.objs.size (fun _ => none) := by
    have := hns₁
    simpa using this
  have kk := k s₁.heap.objs.size H1.objs.size H2.objs.size h₁ (s₁.toks + ([] : List (Str × Value)).length) up (at_size _) (Heap.get?_none_of_le (by rw [h1]; exact Nat.le_succ _)) (Heap.get?_none_of_le (by rw [h2]; ((first | with_reducible assumption | exact Mine.lim (by assumption) | exact Mine.lim0 (by assumption) | exact Mine.lim2 (by assumption) | exact Mine.lim3 (by assumption) | exact Mine.lme (by assumption) | exact Mine.lml (by assumption) | exact Mine.lll (by assumption) | decide | lia))))
    (by rw [h1]; exact Nat.ne_of_lt (Nat.lt_succ_self _)) (by rw [h2]; exact Nat.ne_of_lt (by ((first | with_reducible assumption | exact Mine.lim (by assumption) | exact Mine.lim0 (by assumption) | exact Mine.lim2 (by assumption) | exact Mine.lim3 (by assumption) | exact Mine.lme (by assumption) | exact Mine.lml (by assumption) | exact Mine.lll (by assumption) | decide | lia)))) (by rw [h2, h1]; exact Nat.ne_of_gt (Nat.lt_succ_self _)) hI hD hns
  exact codeAny_compStart_list kk (wpAny_pyIter_listiter hI kk)
noncomputable def fullOf (g : Heap) (L : Addr) (h : Heap) : List (Addr × Obj) :=
  (List.range h.objs.size).filterMap fun a => match h.get? a with | some o => open Classical in if a ≠ L ∧ g.get? a = none then some (a, o) else none | none => none
theorem mem_full {g h : Heap} {L : Addr} {p : Addr × Obj} : p ∈ fullOf g L h ↔ h.get? p.1 = some p.2 ∧ p.1 ≠ L ∧ g.get? p.1 = none := by
  unfold fullOf
  rw [List.mem_filterMap]
  constructor
  · rintro ⟨a, _, e⟩
    cases q : h.get? a with
    | none => rw [q] at e; cases e
    | some o =>
      rw [q] at e
      dsimp only at e
      split at e
      · rename_i hc
        cases e
        exact ⟨q, hc⟩
      · cases e
  · rintro ⟨e, hc⟩
    refine ⟨p.1, List.mem_range.mpr (Heap.lt_size e), ?_⟩
    rw [e]
    dsimp only
    rw [if_pos hc]
theorem news_full {g h : Heap} {L : Addr} : News g L h (fullOf g L h) := fun p hp => mem_full.mp hp
theorem full_grow {g h h' : Heap} {L : Addr} (k : ∀ b o, g.get? b = some o → h'.get? b = some o) (kg : ∀ b o, g.get? b = some o → h.get? b = some o) (N : ∀ p ∈ fullOf g L h, h'.get? p.1 = some p.2) : GrowL L h h' := fun b o n e => by
  cases q : g.get? b with
  | none => exact N (b, o) (mem_full.mpr ⟨e, n, q⟩)
  | some o' =>
    have := kg b o' q
    rw [e] at this
    cases this
    exact k b o q
theorem comp_none {elt iter c : PySem.Expr} {a b : Str} {pa pb tp : Pos} {kk : Nat} {scope : Scope} {cl : List (Str × Addr)} {pos : Pos} {s₁ : Shared} {l : Addr} {items : Array Value} {RR : Value → Addr → Result → Shared → Prop}
    (hh : A.handled = none) (hl : s₁.heap.IsList l items) (hit : ∀ i (hi : i < items.size), ∃ T x y, items[i] = .ref T ∧ IsTup s₁.heap T #[x, y])
    (hcell : ∀ y ∈ scope.names, y.2 ≠ .cell) (hkind : scope.kind = .function) (hxa : scope.names.lookup a = some .local) (hxb : scope.names.lookup b = some .local) (hab : ¬ a = b)
    (F : Fr g L s₁.heap m)
    (turn : ∀ i (hi : i < items.size) T x y h tk C m₂ E', items[i] = .ref T → IsTup s₁.heap T #[x, y] → GrowL L s₁.heap h → Fr g L h m → h.Ns C m₂ → m₂ a = some x → m₂ b = some y → C ≠ L → s₁.heap.get? C = none →
      wpAny (model prog w) A (isTrue c (compEnvC scope cl C env) (eval c (compEnvC scope cl C env))) (fun ok s' => ok = false ∧ ∃ h' tk', s' = { s₁ with heap := h', toks := tk' } ∧ GrowL L h h' ∧ Fr g L h' m) E' { s₁ with heap := h, toks := tk })
    (fin : ∀ D C h tk m', GrowL L s₁.heap h → Fr g L h m → h.get? D = some (lst []) → s₁.heap.get? D = none → h.Ns C m' → s₁.heap.get? C = none → C ≠ D → RR (.ref D) C (.ok .next) { s₁ with heap := h, toks := tk }) :
    wpAny (model prog w) A (pyIter (.ref l)) (fun it s₂ => wpAny (model prog w) A (newList []) (fun acc s₃ => wpAny (model prog w) A (newFunctionEnv scope env.globals cl [] env.qual none .none (some env)) (fun cenv s₄ =>
      codeAny (model prog w) A (.compStart (.ListComp elt [⟨.Tuple [.Name a pa, .Name b pb] kk tp, iter, [c], 0⟩] scope pos) 0 it acc { cenv with scope := relabel scope env }) (RR acc cenv.locals) s₄) E s₃) E s₂) E s₁ := by
  refine comp_open hl hcell hkind fun I D C h₁ tk₁ up0 nI nD nC hID hIC hCD hI0 hD0 hn0 => ?_
  have keepOf : ∀ {x : Addr} {h h' : Heap}, s₁.heap.get? x = none → (∀ b o, b ≠ x → h.get? b = some o → h'.get? b = some o) → GrowL L s₁.heap h → GrowL L s₁.heap h' := fun nx k u b o n e => k b o (fun q => by rw [q, nx] at e; cases e) (u b o n e)
  have frOf : ∀ {x : Addr} {h h' : Heap}, s₁.heap.get? x = none → (∀ b o, b ≠ x → h.get? b = some o → h'.get? b = some o) → Fr g L h m → Fr g L h' m := fun {x h h'} nx k u => fr_upto (M := [x]) u (fun b o e n => k b o (by simpa using n) e) fun b hb => by rw [List.mem_singleton.mp hb]; exact fr_new F nx
  have hLl : ∀ {x : Addr}, s₁.heap.get? x = none → x ≠ L := fun nx => (fr_new F nx).1
  refine kct_loop (fun n s' => ∃ h tk i m', s' = { s₁ with heap := h, toks := tk } ∧ i ≤ items.size ∧ n = items.size + 1 - i ∧ GrowL L s₁.heap h ∧ Fr g L h m ∧ h.IsListIter I l i ∧ h.get? D = some (lst []) ∧ h.Ns C m') ?_ (items.size + 1)
    ⟨h₁, tk₁, 0, _, rfl, Nat.zero_le _, rfl, fun b o _ e => up0 b o e, F.keeps up0, hI0, hD0, hn0⟩
  rintro n s' ⟨h, tk, i, m', rfl, hi, rfl, up, Fh, hI, hD, hn⟩
  have hl' : h.IsList l items := by
    obtain ⟨o, ho, hc, n, r⟩ := hl
    exact ⟨o, up _ _ (fr_neL F ho (by rw [r]; simp)) ho, hc, n, r⟩
  by_cases hlt : i < items.size
  · obtain ⟨T, x, y, hT, hTt⟩ := hit i hlt
    refine wpAny_pyNext_list_item (x := .ref T) hI hl' (by rw [Array.getElem?_eq_getElem hlt, hT]) fun h2 hI2 hs2 => ?_
    dsimp only
    dsimp only at hs2
    have up2 := keepOf nI (fun b o hb e => hs2.extBut b o hb e) up
    have Fh2 := frOf nI (fun b o hb e => hs2.extBut b o hb e) Fh
    have hD2 : h2.get? D = some (lst []) := hs2.extBut _ _ (Ne.symm hID) hD
    have hn2 : h2.Ns C m' := hn.sameBut hs2 (Ne.symm hIC)
    refine wpAny_letOwnedTupleGo_listiter (s := ⟨h2, _, _, _, _⟩) hI2 ?_
    have hT2 : h2.IsTuple T #[x, y] := by
      obtain ⟨o, ho, hc, n, r⟩ := hTt
      exact ⟨o, up2 _ _ (fr_neL F ho (by rw [r]; simp)) ho, hc, n, r⟩
    refine kcp_assign (env := compEnvC scope cl C env) hh hT2 (lookup_relabel_local hxa) (lookup_relabel_local hxb) (by simp [compEnvC, relabel, hkind]) hn2 fun h3 tk3 hn3 hs3 => ?_
    have up3 := keepOf nC (fun b o hb e => hs3 b o hb e) up2
    have Fh3 := frOf nC (fun b o hb e => hs3 b o hb e) Fh2
    have hD3 : h3.get? D = some (lst []) := hs3 _ _ (Ne.symm hCD) hD2
    have hI3 : h3.IsListIter I l (i + 1) := by
      obtain ⟨o, ho, r⟩ := hI2
      exact ⟨o, hs3 _ _ hIC ho, r⟩
    have hCL : C ≠ L := by
      rintro rfl
      obtain ⟨oL, es, ep, hL, _⟩ := F.ns
      rw [nC] at hL; cases hL
    refine wpAny_mono (turn i hlt T x y h3 tk3 C _ _ hT hTt up3 Fh3 hn3 (by simp [hab]) (by simp) hCL nC) (fun ok s4 h4 => ?_) fun _ _ e => e
    obtain ⟨rfl, h4, tk4, rfl, up4, Fh4⟩ := h4
    rw [if_neg (by simp)]
    refine ⟨items.size + 1 - (i + 1), by ((first | with_reducible assumption | exact Mine.lim (by assumption) | exact Mine.lim0 (by assumption) | exact Mine.lim2 (by assumption) | exact Mine.lim3 (by assumption) | exact Mine.lme (by assumption) | exact Mine.lml (by assumption) | exact Mine.lll (by assumption) | decide | lia)), h4, tk4, i + 1, _, rfl, hlt, rfl, fun b o n e => up4 _ _ n (up3 _ _ n e), Fh4, ?_, up4 _ _ (hLl nD) hD3, hn3.at' fun o e => up4 _ _ hCL e⟩
    obtain ⟨o, ho, r⟩ := hI3
    exact ⟨o, up4 _ _ (hLl nI) ho, r⟩
  · have hin : i = items.size := by ((first | with_reducible assumption | exact Mine.lim (by assumption) | exact Mine.lim0 (by assumption) | exact Mine.lim2 (by assumption) | exact Mine.lim3 (by assumption) | exact Mine.lme (by assumption) | exact Mine.lml (by assumption) | exact Mine.lll (by assumption) | decide | lia))
    subst hin
    refine wpAny_pyNext_list_end hh hI hl' (Array.getElem?_eq_none (Nat.le_refl _)) fun h2 hs2 => ?_
    refine fin D C h2 _ m' (keepOf nI (fun b o hb e => hs2 b o hb e) up) (frOf nI (fun b o hb e => hs2 b o hb e) Fh) (hs2 _ _ (Ne.symm hID) hD) nD (hn.extBut hs2 (Ne.symm hIC)) nC hCD
inductive CmI (s₁ : Shared) (g : Heap) (L I D C l : Addr) (m : Str → Option Value) (N : Nat) (Y : Nat → Value → Heap → Prop) (n : Nat) : Shared → Prop
  | mk (h : Heap) (tk i : Nat) (m' : Str → Option Value) (ys : List Value) (hi : i ≤ N) (hn : n = N + 1 - i) (up : GrowL L s₁.heap h) (Fh : Fr g L h m) (hI : h.IsListIter I l i) (hD : h.get? D = some (lst ys)) (hC : h.Ns C m') (hyl : ys.length = i) (hys : ∀ j y, ys[j]? = some y → Y j y h) :
      CmI s₁ g L I D C l m N Y n { s₁ with heap := h, toks := tk }
theorem comp_gen {elt iter target : PySem.Expr} {scope : Scope} {cl : List (Str × Addr)} {pos : Pos} {s₁ : Shared} {l : Addr} {items : Array Value} {RR : Value → Addr → Result → Shared → Prop}
    (Y : Nat → Value → Heap → Prop) (hY : ∀ i y h h', KeepT h h' → Y i y h → Y i y h')
    (hh : A.handled = none) (hl : s₁.heap.IsList l items) (hsz : items.size ≤ sizeLine)
    (hcell : ∀ y ∈ scope.names, y.2 ≠ .cell) (hkind : scope.kind = .function) (Z : Nat → (Str → Option Value) → Prop)
    (asg : ∀ i (hi : i < items.size) h tk I C m₂ (Q : Unit → Shared → Prop) (E' : Value → Shared → Prop), h.IsListIter I l (i + 1) → GrowL L s₁.heap h → Fr g L h m → h.Ns C m₂ → (∀ h3 tk3 m3, h3.Ns C m3 → (∀ b o, b ≠ C → h.get? b = some o → h3.get? b = some o) → Z i m3 → Q () { s₁ with heap := h3, toks := tk3 }) →
      wpAny (model prog w) A (letOwnedTupleGo target (.ref I) items[i]) (fun _ s₀ => wpAny (model prog w) A (assign target (compEnvC scope cl C env) items[i]) Q E' s₀) E' { s₁ with heap := h, toks := tk })
    (F : Fr g L s₁.heap m)
    (turn : ∀ i (hi : i < items.size) h tk C m₂ E', GrowL L s₁.heap h → Fr g L h m → h.Ns C m₂ → Z i m₂ → C ≠ L → s₁.heap.get? C = none →
      wpAny (model prog w) A (eval elt (compEnvC scope cl C env)) (fun v s' => ∃ h' tk', s' = { s₁ with heap := h', toks := tk' } ∧ GrowL L h h' ∧ Fr g L h' m ∧ Y i v h') E' { s₁ with heap := h, toks := tk })
    (fin : ∀ D C h tk m' ys, GrowL L s₁.heap h → Fr g L h m → h.get? D = some (lst ys) → s₁.heap.get? D = none → h.Ns C m' → s₁.heap.get? C = none → C ≠ D → ys.length = items.size → (∀ i y, ys[i]? = some y → Y i y h) → RR (.ref D) C (.ok .next) { s₁ with heap := h, toks := tk }) :
    wpAny (model prog w) A (pyIter (.ref l)) (fun it s₂ => wpAny (model prog w) A (newList []) (fun acc s₃ => wpAny (model prog w) A (newFunctionEnv scope env.globals cl [] env.qual none .none (some env)) (fun cenv s₄ =>
      codeAny (model prog w) A (.compStart (.ListComp elt [⟨target, iter, [], 0⟩] scope pos) 0 it acc { cenv with scope := relabel scope env }) (RR acc cenv.locals) s₄) E s₃) E s₂) E s₁ := by
  refine comp_open hl hcell hkind fun I D C h₁ tk₁ up0 nI nD nC hID hIC hCD hI0 hD0 hn0 => ?_
  have keepOf : ∀ {x : Addr} {h h' : Heap}, s₁.heap.get? x = none → (∀ b o, b ≠ x → h.get? b = some o → h'.get? b = some o) → GrowL L s₁.heap h → GrowL L s₁.heap h' := fun nx k u b o n e => k b o (fun q => by rw [q, nx] at e; cases e) (u b o n e)
  have frOf : ∀ {x : Addr} {h h' : Heap}, s₁.heap.get? x = none → (∀ b o, b ≠ x → h.get? b = some o → h'.get? b = some o) → Fr g L h m → Fr g L h' m := fun {x h h'} nx k u => fr_upto (M := [x]) u (fun b o e n => k b o (by simpa using n) e) fun b hb => by rw [List.mem_singleton.mp hb]; exact fr_new F nx
  have hLl : ∀ {x : Addr}, s₁.heap.get? x = none → x ≠ L := fun nx => (fr_new F nx).1
  refine kcp_loop (CmI s₁ g L I D C l m items.size Y) ?_ (items.size + 1) (.mk h₁ tk₁ 0 _ [] (Nat.zero_le _) rfl (fun b o _ e => up0 b o e) (F.keeps up0) hI0 hD0 hn0 rfl fun j y e => by simp at e)
  rintro n s' ⟨h, tk, i, m', ys, hi, rfl, up, Fh, hI, hD, hn, hyl, hys⟩
  have hl' : h.IsList l items := by
    obtain ⟨o, ho, hc, n, r⟩ := hl
    exact ⟨o, up _ _ (fr_neL F ho (by rw [r]; simp)) ho, hc, n, r⟩
  have notT : ∀ {x : Addr} {h h' : Heap} {o : Obj}, h.get? x = some o → ¬ IsT o → (∀ b o, b ≠ x → h.get? b = some o → h'.get? b = some o) → KeepT h h' := fun e nt k b o' e' t' => k b o' (fun q => by rw [q, e] at e'; cases e'; exact nt t') e'
  by_cases hlt : i < items.size
  · refine wpAny_pyNext_list_item (x := items[i]) hI hl' (Array.getElem?_eq_getElem hlt) fun h2 hI2 hs2 => ?_
    dsimp only
    dsimp only at hs2
    have up2 := keepOf nI (fun b o hb e => hs2.extBut b o hb e) up
    have Fh2 := frOf nI (fun b o hb e => hs2.extBut b o hb e) Fh
    have hD2 : h2.get? D = some (lst ys) := hs2.extBut _ _ (Ne.symm hID) hD
    have hn2 : h2.Ns C m' := hn.sameBut hs2 (Ne.symm hIC)
    have kT2 : KeepT h h2 := by
      obtain ⟨o, ho, hc, _⟩ := hI
      exact notT ho (fun q => by have z := q.1; rw [hc] at z; exact absurd z (by simp)) fun b o hb e => hs2.extBut b o hb e
    refine asg i hlt h2 _ I C m' _ _ hI2 up2 Fh2 hn2 fun h3 tk3 m3 hn3 hs3 hz3 => ?_
    have up3 := keepOf nC (fun b o hb e => hs3 b o hb e) up2
    have Fh3 := frOf nC (fun b o hb e => hs3 b o hb e) Fh2
    have hD3 : h3.get? D = some (lst ys) := hs3 _ _ (Ne.symm hCD) hD2
    have kT3 : KeepT h2 h3 := by
      obtain ⟨o, es, ep, ho, hd, _⟩ := hn2
      exact notT ho (fun q => by obtain ⟨_, _, _, q⟩ := q; rw [hd] at q; cases q) fun b o hb e => hs3 b o hb e
    have hI3 : h3.IsListIter I l (i + 1) := by
      obtain ⟨o, ho, r⟩ := hI2
      exact ⟨o, hs3 _ _ hIC ho, r⟩
    have hCL : C ≠ L := by
      rintro rfl
      obtain ⟨oL, es, ep, hL, _⟩ := F.ns
      rw [nC] at hL; cases hL
    refine wpAny_mono (turn i hlt h3 tk3 C _ _ up3 Fh3 hn3 hz3 hCL nC) (fun v s4 h4 => ?_) fun _ _ e => e
    obtain ⟨h4, tk4, rfl, up4, Fh4, hv⟩ := h4
    refine append_at (hsz := by show ys.toArray.size ≤ sizeLine; rw [List.size_toArray, hyl]; ((first | with_reducible assumption | exact Mine.lim (by assumption) | exact Mine.lim0 (by assumption) | exact Mine.lim2 (by assumption) | exact Mine.lim3 (by assumption) | exact Mine.lme (by assumption) | exact Mine.lml (by assumption) | exact Mine.lll (by assumption) | decide | lia))) (up4 _ _ (hLl nD) hD3) fun h5 hs5 hD5 => ?_
    have kT4 : KeepT h3 h4 := fun b o e t => by
      obtain ⟨_, _, _, q⟩ := t
      exact up4 b o (fr_neL Fh3 e (by rw [q]; simp)) e
    have kT5 : KeepT h4 h5 := notT (up4 _ _ (hLl nD) hD3) (fun q => absurd q.1 (by simp)) fun b o hb e => hs5.extBut b o hb e
    refine ⟨items.size + 1 - (i + 1), by ((first | with_reducible assumption | exact Mine.lim (by assumption) | exact Mine.lim0 (by assumption) | exact Mine.lim2 (by assumption) | exact Mine.lim3 (by assumption) | exact Mine.lme (by assumption) | exact Mine.lml (by assumption) | exact Mine.lll (by assumption) | decide | lia)), .mk h5 tk4 (i + 1) _ (ys ++ [v]) hlt rfl (keepOf nD (fun b o hb e => hs5.extBut b o hb e) (fun b o n e => up4 _ _ n (up3 _ _ n e))) (frOf nD (fun b o hb e => hs5.extBut b o hb e) Fh4) ?_ ?_ ((hn3.at' fun o e => up4 _ _ hCL e).sameBut hs5 hCD) (by rw [List.length_append, hyl]; rfl) fun j y' e => ?_⟩
    · obtain ⟨o, ho, r⟩ := hI3
      exact ⟨o, hs5.extBut _ _ hID (up4 _ _ (hLl nI) ho), r⟩
    · rw [hD5]
      congr 2
      simp [List.push_toArray]
    · by_cases hj : j < ys.length
      · rw [List.getElem?_append_left hj] at e
        exact hY _ _ _ _ ((kT2.trans kT3).trans (kT4.trans kT5)) (hys j y' e)
      · rw [List.getElem?_append_right (by ((first | with_reducible assumption | exact Mine.lim (by assumption) | exact Mine.lim0 (by assumption) | exact Mine.lim2 (by assumption) | exact Mine.lim3 (by assumption) | exact Mine.lme (by assumption) | exact Mine.lml (by assumption) | exact Mine.lll (by assumption) | decide | lia)))] at e
        have hj0 : j - ys.length = 0 := by
          cases z : j - ys.length with
          | zero => rfl
          | succ n => rw [z] at e; cases e
        rw [hj0] at e
        cases e
        have : j = i := by ((first | with_reducible assumption | exact Mine.lim (by assumption) | exact Mine.lim0 (by assumption) | exact Mine.lim2 (by assumption) | exact Mine.lim3 (by assumption) | exact Mine.lme (by assumption) | exact Mine.lml (by assumption) | exact Mine.lll (by assumption) | decide | lia))
        rw [this]
        exact hY _ _ _ _ kT5 hv
  · have hin : i = items.size := by ((first | with_reducible assumption | exact Mine.lim (by assumption) | exact Mine.lim0 (by assumption) | exact Mine.lim2 (by assumption) | exact Mine.lim3 (by assumption) | exact Mine.lme (by assumption) | exact Mine.lml (by assumption) | exact Mine.lll (by assumption) | decide | lia))
    subst hin
    refine wpAny_pyNext_list_end hh hI hl' (Array.getElem?_eq_none (Nat.le_refl _)) fun h2 hs2 => ?_
    have kT2 : KeepT h h2 := by
      obtain ⟨o, ho, hc, _⟩ := hI
      exact notT ho (fun q => by have z := q.1; rw [hc] at z; exact absurd z (by simp)) fun b o hb e => hs2 b o hb e
    exact fin D C h2 _ m' ys (keepOf nI (fun b o hb e => hs2 b o hb e) up) (frOf nI (fun b o hb e => hs2 b o hb e) Fh) (hs2 _ _ (Ne.symm hID) hD) nD (hn.extBut hs2 (Ne.symm hIC)) nC hCD hyl fun j y e => hY _ _ _ _ kT2 (hys j y e)
theorem comp_map {elt iter : PySem.Expr} {a b : Str} {pa pb tp : Pos} {kk : Nat} {scope : Scope} {cl : List (Str × Addr)} {pos : Pos} {s₁ : Shared} {l : Addr} {items : Array Value} {RR : Value → Addr → Result → Shared → Prop}
    (Y : Nat → Value → Heap → Prop) (hY : ∀ i y h h', KeepT h h' → Y i y h → Y i y h')
    (hh : A.handled = none) (hl : s₁.heap.IsList l items) (hit : ∀ i (hi : i < items.size), ∃ T x y, items[i] = .ref T ∧ IsTup s₁.heap T #[x, y]) (hsz : items.size ≤ sizeLine)
    (hcell : ∀ y ∈ scope.names, y.2 ≠ .cell) (hkind : scope.kind = .function) (hxa : scope.names.lookup a = some .local) (hxb : scope.names.lookup b = some .local) (hab : ¬ a = b)
    (F : Fr g L s₁.heap m)
    (turn : ∀ i (hi : i < items.size) T x y h tk C m₂ E', items[i] = .ref T → IsTup s₁.heap T #[x, y] → GrowL L s₁.heap h → Fr g L h m → h.Ns C m₂ → m₂ a = some x → m₂ b = some y → C ≠ L → s₁.heap.get? C = none →
      wpAny (model prog w) A (eval elt (compEnvC scope cl C env)) (fun v s' => ∃ h' tk', s' = { s₁ with heap := h', toks := tk' } ∧ GrowL L h h' ∧ Fr g L h' m ∧ Y i v h') E' { s₁ with heap := h, toks := tk })
    (fin : ∀ D C h tk m' ys, GrowL L s₁.heap h → Fr g L h m → h.get? D = some (lst ys) → s₁.heap.get? D = none → h.Ns C m' → s₁.heap.get? C = none → C ≠ D → ys.length = items.size → (∀ i y, ys[i]? = some y → Y i y h) → RR (.ref D) C (.ok .next) { s₁ with heap := h, toks := tk }) :
    wpAny (model prog w) A (pyIter (.ref l)) (fun it s₂ => wpAny (model prog w) A (newList []) (fun acc s₃ => wpAny (model prog w) A (newFunctionEnv scope env.globals cl [] env.qual none .none (some env)) (fun cenv s₄ =>
      codeAny (model prog w) A (.compStart (.ListComp elt [⟨.Tuple [.Name a pa, .Name b pb] kk tp, iter, [], 0⟩] scope pos) 0 it acc { cenv with scope := relabel scope env }) (RR acc cenv.locals) s₄) E s₃) E s₂) E s₁ := by
  refine comp_gen Y hY hh hl hsz hcell hkind (fun i m₂ => ∃ T x y, items[i]? = some (.ref T) ∧ IsTup s₁.heap T #[x, y] ∧ m₂ a = some x ∧ m₂ b = some y) (fun i hi h tk I C m₂ Q E' hI up Fh hn k => ?_) F (fun i hi h tk C m₂ E' up Fh hn z hCL nC => ?_) fin
  · obtain ⟨T, x, y, hT, hTt⟩ := hit i hi
    rw [hT]
    refine wpAny_letOwnedTupleGo_listiter (s := ⟨h, _, _, _, _⟩) hI ?_
    have hT2 : h.IsTuple T #[x, y] := by
      obtain ⟨o, ho, hc, n, r⟩ := hTt
      exact ⟨o, up _ _ (fr_neL F ho (by rw [r]; simp)) ho, hc, n, r⟩
    refine kcp_assign (env := compEnvC scope cl C env) hh hT2 (lookup_relabel_local hxa) (lookup_relabel_local hxb) (by simp [compEnvC, relabel, hkind]) hn fun h3 tk3 hn3 hs3 => ?_
    exact k h3 tk3 _ hn3 hs3 ⟨T, x, y, by rw [Array.getElem?_eq_getElem hi, hT], hTt, by simp [hab], by simp⟩
  · obtain ⟨T, x, y, hT, hTt, ma, mb⟩ := z
    exact turn i hi T x y h tk C m₂ E' (by rw [Array.getElem?_eq_getElem hi] at hT; exact Option.some.inj hT) hTt up Fh hn ma mb hCL nC
theorem wpAny_letOwned_name {x : Str} {pos : Pos} {it v : Value} {s : Shared} {Q : Unit → Shared → Prop} (h : Q () s) : wpAny (model prog w) A (letOwnedTupleGo (.Name x pos) it v) Q E s := wpAny_pure h
theorem comp_one {elt iter : PySem.Expr} {a : Str} {pa : Pos} {scope : Scope} {cl : List (Str × Addr)} {pos : Pos} {s₁ : Shared} {l : Addr} {items : Array Value} {RR : Value → Addr → Result → Shared → Prop}
    (Y : Nat → Value → Heap → Prop) (hY : ∀ i y h h', KeepT h h' → Y i y h → Y i y h')
    (hh : A.handled = none) (hl : s₁.heap.IsList l items) (hsz : items.size ≤ sizeLine)
    (hcell : ∀ y ∈ scope.names, y.2 ≠ .cell) (hkind : scope.kind = .function) (hxa : scope.names.lookup a = some .local)
    (F : Fr g L s₁.heap m)
    (turn : ∀ i (hi : i < items.size) h tk C m₂ E', GrowL L s₁.heap h → Fr g L h m → h.Ns C m₂ → m₂ a = some items[i] → C ≠ L → s₁.heap.get? C = none →
      wpAny (model prog w) A (eval elt (compEnvC scope cl C env)) (fun v s' => ∃ h' tk', s' = { s₁ with heap := h', toks := tk' } ∧ GrowL L h h' ∧ Fr g L h' m ∧ Y i v h') E' { s₁ with heap := h, toks := tk })
    (fin : ∀ D C h tk m' ys, GrowL L s₁.heap h → Fr g L h m → h.get? D = some (lst ys) → s₁.heap.get? D = none → h.Ns C m' → s₁.heap.get? C = none → C ≠ D → ys.length = items.size → (∀ i y, ys[i]? = some y → Y i y h) → RR (.ref D) C (.ok .next) { s₁ with heap := h, toks := tk }) :
    wpAny (model prog w) A (pyIter (.ref l)) (fun it s₂ => wpAny (model prog w) A (newList []) (fun acc s₃ => wpAny (model prog w) A (newFunctionEnv scope env.globals cl [] env.qual none .none (some env)) (fun cenv s₄ =>
      codeAny (model prog w) A (.compStart (.ListComp elt [⟨.Name a pa, iter, [], 0⟩] scope pos) 0 it acc { cenv with scope := relabel scope env }) (RR acc cenv.locals) s₄) E s₃) E s₂) E s₁ := by
  refine comp_gen Y hY hh hl hsz hcell hkind (fun i m₂ => m₂ a = items[i]?) (fun i hi h tk I C m₂ Q E' hI up Fh hn k => ?_) F (fun i hi h tk C m₂ E' up Fh hn z hCL nC => turn i hi h tk C m₂ E' up Fh hn (z.trans (Array.getElem?_eq_getElem hi)) hCL nC) fin
  refine wpAny_letOwned_name ?_
  refine wpAny_assign_Name (wpAny_storeName_local (env := compEnvC scope cl C env) (lookup_relabel_local hxa) hn (fun h3 hn3 hs3 => ?_) (by simp [compEnvC, relabel, hkind]))
  exact k h3 _ _ hn3 (fun b o hb e => hs3.extBut b o hb e) (by rw [Array.getElem?_eq_getElem hi]; simp)
end
end Mine
end
-- V2
section
namespace Mine
open PySem PySem.W PySem.Calls PyProof.Rows
set_option maxHeartbeats 3000000
theorem enter_cells {w : World} {mean : ExcName → Option Value} {mg mb : Str → Option Value} {base : Heap} {outer : List Env} {A : Around} {s : Shared} {R : Result → Shared → Prop}
    {name qual : Str} {params : Arguments} {body : List Stmt} {scope : Scope} {dV kV doc pm cdv ct oc : Value} {an od : Option Addr} {osl : Array (Option Value)} {f : Addr} {vs : List Value} (binds : List (Str × Value))
    (C : Cx w mean mg mb base outer A s.heap) (mu : List (Addr × Obj)) (hm : ∀ p ∈ mu, MutAt base outer s.heap p)
    (ho : (top.heap_1 w.params).lookup f = some ⟨oc, od, .func (fnOf name qual params body scope dV kV doc pm an cdv ct), osl⟩) (hcd : codeIn (top.heap_1 w.params) cdv qual = true) (hroom : A.depth < recursionLimit)
    (hbind : BindsTo s (fnOf name qual params body scope dV kV doc pm an cdv ct) ⟨vs, []⟩ binds) (hkind : (binds.all fun y => scope.names.lookup y.1 == some .local || scope.names.lookup y.1 == some .cell) = true)
    (hnd : ((cellsFrom 0 scope.names []).map (·.1)).Nodup)
    (h : ∀ g L' h₁ tk cells, Fr g L' h₁ (bindL (envOfC qual scope L' f cdv).kindOf binds fun _ => none) → News g L' h₁ (cells ++ mu) →
      CellsAre (bindC (envOfC qual scope L' f cdv).kindOf binds fun _ => none) (cellsFrom (L' + 1) scope.names []) cells → Below A base outer g → (top.heap_1 w.params).In g → Top top.view_1 (looseW top.view_1 []) mean mg mb g →
      (∀ b o, s.heap.get? b = some o → b ∉ mu.map (·.1) → g.get? b = some o) → (∀ b o, g.get? b = some o → s.heap.get? b = some o) → g.objs.size = s.heap.objs.size →
      wpAny (model PR w) (A.deeper (envOfC qual scope L' f cdv)) (execs body (envOfC qual scope L' f cdv))
        (fun fl s' => R (.ok (.ret (match fl with | .ret v => v | _ => .none))) s')
        (fun e s' => wpAny (model PR w) (A.deeper (envOfC qual scope L' f cdv)) (leaving (envOfC qual scope L' f cdv) e) (fun _ s'' => R (.error e) s'') (fun e' s'' => R (.error e') s'') s')
        { s with heap := h₁, toks := tk })
    (hco : scope.isCoroutine = false := by rfl) (hgen : scope.isGenerator = false := by rfl) (hk : scope.kind = .function := by rfl) : codeAny (model PR w) A (.call (.ref f) ⟨vs, []⟩) R s := by
  have X := C.X.keeps C.B.stays
  have T := C.T.keeps C.B.stays
  have nb : ∀ b o, base.get? b = some o → b ∉ mu.map (·.1) := fun b o e q => by
    obtain ⟨p, hp, rfl⟩ := List.mem_map.mp q
    rw [(hm p hp).new] at e; cases e
  have st : base.StaysIn (hideAll s.heap (mu.map (·.1))) := fun b o e => hideAll_get _ (C.B.stays b o e) (nb b o e)
  have X2 : (top.heap_1 w.params).In (hideAll s.heap (mu.map (·.1))) := C.X.keeps st
  have T2 : Top top.view_1 (looseW top.view_1 []) mean mg mb (hideAll s.heap (mu.map (·.1))) := C.T.keeps st
  refine codeAny_call_function (fd := fnOf name qual params body scope dV kV doc pm an cdv ct) (body := body) hroom (X _ _ ho) rfl hco hgen rfl (codeRec_of X hcd) (hbind _ _ _ _ ?_)
  refine wpAny_newFunctionEnv_cells hk (kindsX hkind _) fun env' he s' x => ?_
  subst he
  refine ⟨T.nolimit.keeps x.toInCall.keep, codeAny_func ?_⟩
  obtain ⟨h₁, tk, rfl, _⟩ := x.done
  have hk₁ := x.toInCall.keep
  obtain ⟨cells, NC, Y⟩ := Cl.news (h₀ := s.heap) (Nat.le_refl _) fun n c hm => ⟨x.cell n c (lookup_of_mem_nodup (cellsFrom_names scope.names 0 (s.heap.objs.size + 1) [] [] rfl ▸ hnd) hm), x.above n c hm⟩
  refine h (hideAll s.heap (mu.map (·.1))) s.heap.objs.size h₁ tk cells ⟨x.toInCall.ns, fun b o e => hk₁ b o (of_hideAll _ e), Nat.le_of_eq (hideAll_size _ _)⟩ (fun p hp => ?_) Y
    ⟨C.B.stack, st, funFrames_hideAll C.B.frames fun env he a ha hf => by
      obtain ⟨p, hp, rfl⟩ := List.mem_map.mp ha
      exact (hm p hp).off (List.mem_filterMap.mpr ⟨env, he, hf⟩)⟩ X2 T2
    (fun b o e n => hideAll_get _ e n) (fun b o e => of_hideAll _ e) (hideAll_size _ _)
  rcases List.mem_append.mp hp with hp | hp
  · refine ⟨(NC p hp).1, (NC p hp).2.1, ?_⟩
    cases q : (hideAll s.heap (mu.map (·.1))).get? p.1 with
    | none => rfl
    | some o => have := of_hideAll _ q; rw [(NC p hp).2.2] at this; cases this
  · exact ⟨hk₁ _ _ (hm p hp).at_, Nat.ne_of_lt (Heap.lt_size (hm p hp).at_), hideAll_none _ (List.mem_map_of_mem hp)⟩
section
inductive PartV (h : Heap) (Te : Tm) (b : Nat) (v : Value) : Prop
  | mk (tp pth : Addr) (q : Value) (pvs : List Value) (T' : Tm) (h1_ : v = .ref tp) (h2_ : IsTup h tp [Value.ref pth, q].toArray) (h3_ : IsTup h pth pvs.toArray) (h4_ : pvs.length ≤ b) (h5_ : Reads h q (Tm.dat T') []) (h6_ : (∀ o ∈ T'.ops, o ∈ Te.ops)) (h7_ : T'.words.length ≤ Te.words.length) : PartV h Te b v
theorem isTup_keepT {h h' : Heap} (k : KeepT h h') {a : Addr} {its : Array Value} (x : IsTup h a its) : IsTup h' a its := let ⟨o, ho, hc, n, hd⟩ := x; ⟨o, k _ _ ho ⟨hc, _, n, hd⟩, hc, n, hd⟩
theorem PartV.keeps {h h' : Heap} {Te : Tm} {b : Nat} {v : Value} (k : KeepT h h') (x : PartV h Te b v) : PartV h' Te b v := by
  obtain ⟨tp, pth, q, pvs, T', rfl, h1, h2, h3, h4, h5, h6⟩ := x
  exact ⟨tp, pth, q, pvs, T', rfl, isTup_keepT k h1, isTup_keepT k h2, h3, tm_keeps k T' h4, h5, h6⟩
noncomputable abbrev pmap (D a : Addr) (kv : Option Value) : Str → Option Value := fun y => if y = "kid" then kv else if y = "found" then some (.ref D) else if y = "t" then some (.ref a) else none
inductive PartsJ (g : Heap) (op : Str) (a D L : Addr) (ks : List Tm) (vs : List Value) (i : Nat) (m : Str → Option Value) (nx : List (Addr × Obj)) : Prop
  | mk (kv : Option Value) (its : List Value) (e : Nat) (oc : Obj) (cv : Option Value) (tl : List (Addr × Obj)) (h1_ : m = pmap D a kv) (h2_ : nx = (D, listOf its.toArray e) :: (L + 1, oc) :: tl) (h3_ : oc.data = .cell cv) (h4_ : (∀ p ∈ tl, IsT p.2)) (h5_ : its.length ≤ 1 + (wordsL (ks.take i)).length) (h6_ : (∀ h' : Heap, (∀ b o, g.get? b = some o → h'.get? b = some o) → (∀ p ∈ tl, h'.get? p.1 = some p.2) → ∀ v ∈ its, PartV h' (.node op ks) (Tm.node op ks).nest v)) (h7_ : (∀ h' : Heap, (∀ b o, g.get? b = some o → h'.get? b = some o) → (∀ p ∈ tl, h'.get? p.1 = some p.2) → ReadsAll h' vs (datL ks) [])) : PartsJ g op a D L ks vs i m nx
variable {w : World} {mean : ExcName → Option Value} {mg mb : Str → Option Value} {base : Heap} {outer : List Env} {dp un : Nat} {gd : Option (List Code)} {s : Shared} {R : Result → Shared → Prop}
theorem all_get {h : Heap} {vs : List Value} {ds : List PyData} (r : ReadsAll h vs ds []) : ∀ (i : Nat) (x : Value), vs[i]? = some x → ∃ d, ds[i]? = some d ∧ Reads h x d [] :=
  all_ind (p := fun vs ds => ∀ (i : Nat) (x : Value), vs[i]? = some x → ∃ d, ds[i]? = some d ∧ Reads h x d []) (fun _ _ e => nomatch e) (fun a _ ih i x e => by
    cases i with
    | zero => cases e; exact ⟨_, rfl, a⟩
    | succ i => exact ih i x e) r
theorem datL_get : ∀ (ks : List Tm) (i : Nat), (datL ks)[i]? = ks[i]?.map Tm.dat
  | [], _ => rfl
  | _ :: _, 0 => rfl
  | _ :: ks, i + 1 => datL_get ks i
theorem readsAll_get {h : Heap} {ks : List Tm} {vs : List Value} {i : Nat} {x : Value} (r : ReadsAll h vs (datL ks) []) (e : vs[i]? = some x) : ∃ t, ks[i]? = some t ∧ Reads h x t.dat [] := by
  obtain ⟨d, hd, hr⟩ := all_get r i x e
  rw [datL_get] at hd
  obtain ⟨t, ht, rfl⟩ := Option.map_eq_some_iff.mp hd
  exact ⟨t, ht, hr⟩
noncomputable abbrev pScope : Scope := ⟨.function, [("t", .local), ("found", .local), ("k", .cell), ("kid", .local), ("enumerate", .globalImplicit), ("parts", .globalImplicit)], false, false, [("fast", .str "t"), ("fast", .str "found"), ("fast", .str "k"), ("fast", .str "kid"), ("fast", .str "path"), ("fast", .str "part")]⟩
noncomputable abbrev pEnv (L : Addr) : Env := envOfC "parts" pScope L 112 (.ref 111)
theorem words_kid {k : Tm} {ks : List Tm} (h : k ∈ ks) : k.words.length ≤ (wordsL ks).length := by
  induction h with
  | head => rw [wordsL_cons, List.length_append]; exact Nat.le_add_right _ _
  | tail _ _ ih => rw [wordsL_cons, List.length_append]; exact Nat.le_trans ih (Nat.le_add_left _ _)
theorem wordsL_le (op : Str) : ∀ (ks : List Tm), (wordsL ks).length + 1 ≤ (Tm.node op ks).words.length
  | [] => Nat.le_refl _
  | k :: ks => by rw [words_node]; simp only [List.length_cons, List.length_append]; ((first | with_reducible assumption | exact Mine.lim (by assumption) | exact Mine.lim0 (by assumption) | exact Mine.lim2 (by assumption) | exact Mine.lim3 (by assumption) | exact Mine.lme (by assumption) | exact Mine.lml (by assumption) | exact Mine.lll (by assumption) | decide | lia))
theorem nest_kid1 {op : Str} {k : Tm} {ks : List Tm} (h : k ∈ ks) : k.nest + 1 ≤ (Tm.node op ks).nest := by
  have := nest_kid h
  rw [Tm.nest]; ((first | with_reducible assumption | exact Mine.lim (by assumption) | exact Mine.lim0 (by assumption) | exact Mine.lim2 (by assumption) | exact Mine.lim3 (by assumption) | exact Mine.lme (by assumption) | exact Mine.lml (by assumption) | exact Mine.lll (by assumption) | decide | lia))
theorem isTup_eq {h : Heap} {a : Addr} {x y : Array Value} (p : IsTup h a x) (q : IsTup h a y) : x = y := by
  obtain ⟨o, ho, hc, n, hd⟩ := p
  obtain ⟨o', ho', hc', n', hd'⟩ := q
  rw [ho] at ho'
  cases ho'
  rw [hd] at hd'
  cases hd'
  rfl
noncomputable def PartsSpec (w : World) (mean : ExcName → Option Value) (mg mb : Str → Option Value) (base : Heap) (Te : Tm) (n : Nat) : Prop :=
  ∀ (outer : List Env) (dp un : Nat) (gd : Option (List Code)) (s : Shared) (R : Result → Shared → Prop) (v : Value),
    Cx w mean mg mb base outer (Ar dp un gd outer) s.heap → dp + n + 20 < recursionLimit → Reads s.heap v Te.dat [] → Te.words.length ≤ 1000000 → Te.nest ≤ 1000 →
    (∀ (h' : Heap) (D : Addr) (tk : Nat) (its : List Value), Upto [] s.heap h' → s.heap.get? D = none → h'.IsList D its.toArray → its.length ≤ Te.words.length → (∀ v ∈ its, PartV h' Te Te.nest v) → R (.ok (.ret (.ref D))) { s with heap := h', toks := tk }) →
    codeAny (model PR w) (Ar dp un gd outer) (.call (.ref 112) ⟨[v], []⟩) R s
theorem parts_step (op : Str) (ks : List Tm) (n : Nat) (IH : ∀ t ∈ ks, PartsSpec w mean mg mb base t n) : PartsSpec w mean mg mb base (.node op ks) (n + 1) := by
  intro outer dp un gd s R v C hdep hr hlen hnest hk
  obtain ⟨a, t, vs, rfl, hT, hR, hl⟩ := tm_tup hr
  refine' enter_cells (A := Ar dp un gd outer) [("t", .ref a)] C [] (List.forall_mem_nil _) ?k1 ?k2 ?k3 ?k4 ?k5 ?k6 ?_ ?c2 ?c3 ?c4
  case k1 => k_is
  case k2 => k_is
  case k3 => show dp < _; ((first | with_reducible assumption | exact Mine.lim (by assumption) | exact Mine.lim0 (by assumption) | exact Mine.lim2 (by assumption) | exact Mine.lim3 (by assumption) | exact Mine.lme (by assumption) | exact Mine.lml (by assumption) | exact Mine.lll (by assumption) | decide | lia))
  case k4 => exact BindsTo.of_eq rfl
  case k5 => exact rfl
  case k6 => decide +kernel
  case c2 => exact rfl
  case c3 => exact rfl
  case c4 => exact rfl
  intro g L h₁ tk cells F N Y B X T hin hout hsz
  k_cells Y
  rename_i oc hoc
  have hTg : IsTup g a (Value.str op t :: vs).toArray := IsTup.keeps hT fun b o e => hin b o e List.not_mem_nil
  try k_fold
  have hkl : ks.length ≤ 1000000 := by
    cases ks with
    | nil => exact Nat.zero_le _
    | cons k ks =>
      have := len_words (k :: ks)
      rw [words_node] at hlen
      simp only [List.length_cons, List.length_append] at hlen this ⊢
      ((first | with_reducible assumption | exact Mine.lim (by assumption) | exact Mine.lim0 (by assumption) | exact Mine.lim2 (by assumption) | exact Mine.lim3 (by assumption) | exact Mine.lme (by assumption) | exact Mine.lml (by assumption) | exact Mine.lll (by assumption) | decide | lia))
  (repeat' ((fail_if_success with_reducible first|refine zz9 ?_|refine zz1 ?_|refine zz2 ?_|refine zz3 ?_|refine zz4 ?_|refine zz7 ?_|refine zz5 ?_|refine zz10 ?_|refine zz6 ?_); first | (k_unfold; (try dsimp only)) | (walk1; (all_goals (try dsimp only))) | (dsimp only; walk1; (all_goals (try dsimp only)))))
  rename_i D0 D1 h1 D2 h2 l1 D h3 l2 h4 F4 N4
  refine For_turns F4 ?_
  (repeat' ((fail_if_success with_reducible first|refine zz9 ?_|refine zz1 ?_|refine zz2 ?_|refine zz3 ?_|refine zz4 ?_|refine zz7 ?_|refine zz5 ?_|refine zz10 ?_|refine zz6 ?_); first | (k_unfold; (try dsimp only)) | (walk1; (all_goals (try dsimp only))) | (dsimp only; walk1; (all_goals (try dsimp only)))))
  refine slice_tuple_from (s := Shared.mk h4 s.gens s.drawn _ s.os) (a := 1) F4 N4 (IsTup.keeps hTg F4.keep) (by decide) (by simp) (fun h5 F5 N5 => ?_) (by with_unfolding_all rfl) (by intro _; with_unfolding_all rfl) (by simp only [List.size_toArray, List.length_cons, sizeLine, hl]; ((first | with_reducible assumption | exact Mine.lim (by assumption) | exact Mine.lim0 (by assumption) | exact Mine.lim2 (by assumption) | exact Mine.lim3 (by assumption) | exact Mine.lme (by assumption) | exact Mine.lml (by assumption) | exact Mine.lll (by assumption) | decide | lia)))
  rw [show ((Value.str op t :: vs).toArray.toList.drop 1).toArray = vs.toArray by simp] at N5
  generalize hST : (Shared.mk h4 s.gens s.drawn _ s.os).heap.objs.size + 1 = ST at N5 ⊢
  clear F4 N4
  (repeat' ((fail_if_success with_reducible first|refine zz9 ?_|refine zz1 ?_|refine zz2 ?_|refine zz3 ?_|refine zz4 ?_|refine zz7 ?_|refine zz5 ?_|refine zz10 ?_|refine zz6 ?_); first | (k_unfold; (try dsimp only)) | (walk1; (all_goals (try dsimp only))) | (dsimp only; walk1; (all_goals (try dsimp only)))))
  refine call_enum_tup (s := ⟨h5, _, _, _, _⟩) (items := vs.toArray) ⟨_, N5.get (.head _), rfl, _, rfl⟩ fun h6 hE hIt hsz6 up6 => ?_
  try dsimp only at hE hIt hsz6 up6 ⊢
  have F6 : Fr g L h6 _ := F5.keeps up6
  have N6 : News g L h6 _ := fun p hp => ⟨up6 _ _ (N5 p hp).1, (N5 p hp).2⟩
  have hST6 : h6.get? ST = some (tupObj vs) := N6.get (.head _)
  generalize hIe : h5.objs.size = Ie at hE hIt hsz6
  refine wpAny_pyIter_enum (s := ⟨h6, _, _, _, _⟩) hE ?_
  have F7 : Fr g L h6 (pmap D a none) := fr_map F6 fun y => by
    by_cases h1 : y = "found"
    · subst h1; rfl
    · by_cases h2 : y = "t"
      · subst h2; rfl
      · by_cases h3 : y = "kid"
        · subst h3; rfl
        · simp only [pmap, h1, h2, h3, if_false]
          show (if y = "t" then some (Value.ref a) else none) = none
          rw [if_neg h2]
  clear F6
  have hI2 : h6.get? Ie = none → False := fun q => by obtain ⟨_, x, _⟩ := hIt; rw [q] at x; cases x
  have hup : Grow g h5 := F5.keep
  have nIe : h5.get? Ie = none := Heap.get?_none_of_le (by rw [← hIe]; exact Nat.le_refl _)
  have nIe1 : h5.get? (Ie + 1) = none := Heap.get?_none_of_le (by rw [← hIe]; exact Nat.le_succ _)
  have gIe : g.get? Ie = none := by
    cases q : g.get? Ie with
    | none => rfl
    | some o => rw [hup _ _ q] at nIe; cases nIe
  have gIe1 : g.get? (Ie + 1) = none := by
    cases q : g.get? (Ie + 1) with
    | none => rfl
    | some o => rw [hup _ _ q] at nIe1; cases nIe1
  have hL5 : ∃ o, h5.get? L = some o := by obtain ⟨o, _, _, e, _⟩ := F5.ns; exact ⟨o, e⟩
  have offI : ∀ p o, h5.get? p = some o → p ∉ [Ie + 1, Ie] := fun p o e q => by
    rcases List.mem_cons.mp q with rfl | q
    · rw [e] at nIe1; cases nIe1
    · rw [List.mem_singleton.mp q, nIe] at e; cases e
  have N5s := snap F5 (fun p hp => N5 p (by
      rcases List.mem_cons.mp hp with q | hp
      · exact q ▸ .tail _ (.head _)
      · rw [List.mem_singleton.mp hp]; exact .tail _ (.tail _ (.tail _ (.tail _ (.head _))))) : News g L h5 [(D, W.listOf #[Value.ref D2] 0), (L + 1, oc)])
  have hR5 : ReadsAll h5 vs (datL ks) [] := tms_keeps (KeepT.of fun b o e => hup b o (hin b o e List.not_mem_nil)) ks hR
  have hr5 : Reads h5 (.ref a) (Tm.node op ks).dat [] := tm_keeps (KeepT.of fun b o e => hup b o (hin b o e List.not_mem_nil)) _ hr
  refine ⟨Ie + 1, [Ie + 1, Ie, ST], [Ie + 1, Ie], vs.toArray.size, _, _, _, pmap D a none, (D, listOf [Value.ref D2].toArray 0) :: (L + 1, oc) :: snapOf g h5, PartsJ g op a D L ks vs, rfl, KTurns.ofWalksU (WalksT.enumerateD (draws_tup rfl Ie ST ?_ vs.toArray) (Ie + 1) (Nat.succ_ne_self Ie) ?_ (.head _)).toU, ?_, ?_, ?_, ⟨⟨_, hE⟩, hIt, ⟨_, hST6, rfl, _, rfl⟩⟩, F7, fun p hp => ⟨up6 _ _ (N5s p hp).1, (N5s p hp).2⟩, ?_, ?_, ?_⟩
  · exact fun q => offI ST _ (N5.get (.head _)) (by rw [q]; exact .tail _ (.head _))
  · intro q
    rcases List.mem_cons.mp q with q | q
    · exact Nat.succ_ne_self Ie q
    · exact offI ST _ (N5.get (.head _)) (by rw [← List.mem_singleton.mp q]; exact .head _)
  · intro q
    rcases List.mem_cons.mp q with q | q
    · obtain ⟨o, e⟩ := hL5; exact offI L o e (by have q' : L = Ie + 1 := q; rw [q']; exact .head _)
    · rcases List.mem_cons.mp q with q | q
      · obtain ⟨o, e⟩ := hL5; exact offI L o e (by have q' : L = Ie := q; rw [q']; exact .tail _ (.head _))
      · exact (N5 _ (.head _)).2.1 (List.mem_singleton.mp q).symm
  · intro b hb
    rcases List.mem_cons.mp hb with rfl | hb
    · exact gIe1
    · rw [List.mem_singleton.mp hb]; exact gIe
  · exact fun p hp => offI _ _ (N5s p hp).1
  · refine ⟨none, [.ref D2], 0, oc, _, _, rfl, rfl, hoc, fun p hp => (mem_snap.mp hp).2.1, by simp, fun h' kg kt v hv => ?_, fun h' kg kt => tms_keeps (snap_keep kg hup kt) ks hR5⟩
    rw [List.mem_singleton.mp hv]
    refine PartV.keeps (snap_keep kg hup kt) ⟨D2, D0, .ref a, [], .node op ks, rfl, ⟨_, N5.get (.tail _ (.tail _ (.head _))), rfl, _, rfl⟩, ⟨_, N5.get (.tail _ (.tail _ (.tail _ (.head _)))), rfl, _, rfl⟩, Nat.zero_le _, hr5, fun o h => h, Nat.le_refl _⟩
  · rintro i v m₁ news₁ h₁' tk₁ own hi ⟨T', vals, rfl, ⟨ti, x, hx, rfl⟩, hT'⟩ ⟨kv, its, e, oc', cv, tl, rfl, rfl, hoc', htl, hlen', hP, hRd⟩ hnw hown hown1 hown2 hst F₁ N₁
    clear hE hIt hST6 F7 N5s F5 N5 N6 up6 hsz6
    obtain ⟨hst1, hst2, hst3⟩ := hst
    have gC : h₁'.get? (L + 1) = some oc' := (N₁ _ (List.mem_append_right _ (.tail _ (.head _)))).1
    have gD : h₁'.get? D = some (listOf its.toArray e) := (N₁ _ (List.mem_append_right _ (.head _))).1
    have neData : ∀ {p q : Addr} {o o' : Obj}, h₁'.get? p = some o → h₁'.get? q = some o' → o.data ≠ o'.data → p ≠ q := fun e1 e2 n q => n (by rw [q, e2] at e1; rw [Option.some.inj e1])
    have hDC : D ≠ L + 1 := neData gD gC (by rw [hoc']; simp)
    have hownC : ∀ p ∈ own, p.1 ≠ L + 1 ∧ p.1 ≠ D := fun p hp => by
      have z := hown p hp
      rcases List.mem_cons.mp z with z | z
      · exact ⟨fun q => hnw _ (.tail _ (.head _)) (by rw [← q, z]; exact .head _), fun q => hnw _ (.head _) (by rw [← q, z]; exact .head _)⟩
      · rcases List.mem_cons.mp z with z | z
        · exact ⟨fun q => hnw _ (.tail _ (.head _)) (by rw [← q, z]; exact .tail _ (.head _)), fun q => hnw _ (.head _) (by rw [← q, z]; exact .tail _ (.head _))⟩
        · rw [List.mem_singleton.mp z]
          obtain ⟨oS, eS, cS, nS, dS⟩ := hst3
          exact ⟨neData eS gC (by rw [dS, hoc']; simp), ne_obj eS gD (by rw [cS]; simp)⟩
    have htlC : ∀ p ∈ tl, p.1 ≠ L + 1 ∧ p.1 ≠ D := fun p hp => by
      have e1 := (N₁ p (List.mem_append_right _ (.tail _ (.tail _ hp)))).1
      obtain ⟨cS, vS, nS, dS⟩ := htl p hp
      exact ⟨neData e1 gC (by rw [dS, hoc']; simp), ne_obj e1 gD (by rw [cS]; simp)⟩
    obtain ⟨tl3, htl3⟩ : ∃ tl3, tl3 = own ++ tl := ⟨_, rfl⟩
    have h3C : ∀ p ∈ tl3, p.1 ≠ L + 1 := fun p hp => by
      rw [htl3] at hp
      rcases List.mem_append.mp hp with hp | hp
      · exact (hownC p hp).1
      · exact (htlC p hp).1
    have h3D : ∀ p ∈ tl3, p.1 ≠ D := fun p hp => by
      rw [htl3] at hp
      rcases List.mem_append.mp hp with hp | hp
      · exact (hownC p hp).2
      · exact (htlC p hp).2
    have N₂ : News g L h₁' ((L + 1, oc') :: (D, listOf its.toArray e) :: tl3) := fun p hp => N₁ p (by
      rw [htl3] at hp
      rcases List.mem_cons.mp hp with q | hp
      · exact q ▸ List.mem_append_right _ (.tail _ (.head _))
      · rcases List.mem_cons.mp hp with q | hp
        · exact q ▸ List.mem_append_right _ (.head _)
        · rcases List.mem_append.mp hp with hp | hp
          · exact List.mem_append_left _ hp
          · exact List.mem_append_right _ (.tail _ (.tail _ hp)))
    have h3C' : ∀ p ∈ (D, listOf its.toArray e) :: tl3, p.1 ≠ L + 1 := List.forall_mem_cons.mpr ⟨hDC, h3C⟩
    have F₂ : Fr g L h₁' (pmap D a kv) := F₁
    clear F₁ N₁
    (repeat' ((fail_if_success with_reducible first|refine zz9 ?_|refine zz1 ?_|refine zz2 ?_|refine zz3 ?_|refine zz4 ?_|refine zz7 ?_|refine zz5 ?_|refine zz10 ?_|refine zz6 ?_); first | (k_unfold; (try dsimp only)) | (walk1; (all_goals (try dsimp only))) | (dsimp only; walk1; (all_goals (try dsimp only)))))
    rename_i h1' h2' o2 d2 h2 F3 N3
    obtain ⟨ki, hki, hrx⟩ := readsAll_get (hRd h2 F3.keep fun p hp => N3.get (.tail _ (.tail _ (by rw [htl3]; exact List.mem_append_right _ hp)))) (by simpa using hx)
    have hkm : ki ∈ ks := List.mem_of_getElem? hki
    rw [eval_ListComp]
    refine wpAny_comprehension_free (use := none) (cl := [("k", L + 1)]) rfl (by intro _; rfl) rfl rfl (by decide) ?_
    show wpAny _ _ (eval _ _) _ _ _
    (repeat' ((fail_if_success with_reducible first|refine zz9 ?_|refine zz1 ?_|refine zz2 ?_|refine zz3 ?_|refine zz4 ?_|refine zz7 ?_|refine zz5 ?_|refine zz10 ?_|refine zz6 ?_); first | (k_unfold; (try dsimp only)) | (walk1; (all_goals (try dsimp only))) | (dsimp only; walk1; (all_goals (try dsimp only)))))
    refine wpAny_call (IH ki hkm _ _ _ _ ⟨h2, _, _, _, _⟩ _ x (cx_in (env := pEnv L) (A' := (Ar dp un gd outer).deeper (pEnv L)) C.X C.T B F3 rfl rfl rfl) (show dp + 1 + n + 20 < _ by ((first | with_reducible assumption | exact Mine.lim (by assumption) | exact Mine.lim0 (by assumption) | exact Mine.lim2 (by assumption) | exact Mine.lim3 (by assumption) | exact Mine.lme (by assumption) | exact Mine.lml (by assumption) | exact Mine.lll (by assumption) | decide | lia))) hrx ?_ ?_ fun h3 D' tk3 its' u3 f3 l3 len3 p3 => ?_)
    · have := words_kid hkm; have := wordsL_le op ks; ((first | with_reducible assumption | exact Mine.lim (by assumption) | exact Mine.lim0 (by assumption) | exact Mine.lim2 (by assumption) | exact Mine.lim3 (by assumption) | exact Mine.lme (by assumption) | exact Mine.lml (by assumption) | exact Mine.lll (by assumption) | decide | lia))
    · have := nest_kid1 (op := op) hkm; ((first | with_reducible assumption | exact Mine.lim (by assumption) | exact Mine.lim0 (by assumption) | exact Mine.lim2 (by assumption) | exact Mine.lim3 (by assumption) | exact Mine.lme (by assumption) | exact Mine.lml (by assumption) | exact Mine.lll (by assumption) | decide | lia))
    have F4 := fr_upto F3 u3 (fun a ha => nomatch ha)
    have N4 := news_upto N3 u3
    clear F3 N3
    try dsimp only
    have hsub : ∀ o ∈ ki.ops, o ∈ (Tm.node op ks).ops := fun o ho => .tail _ (ops_kid ho hkm)
    refine comp_map (g := g) (L := L) (s₁ := Shared.mk h3 _ _ _ _) (fun i v h => PartV h (.node op ks) (Tm.node op ks).nest v) (fun i y h h' k x => PartV.keeps k x) rfl l3 (fun j hj => ?_) ?_ (by decide) rfl rfl rfl (by decide) F4 (fun j hj T x' y' h tk C' m₂ E' hT hTt up Fh hn ha hb hCL hC3 => ?_) (fun D2' C' h tk m' ys up Fh hD2 nD2 hn nC hCD hys hY => ?_)
    · have hj' : j < its'.length := by simpa using hj
      obtain ⟨tp, pth, q, pvs, T2, e1, e2, _⟩ := p3 its'[j] (List.getElem_mem hj')
      exact ⟨tp, .ref pth, q, by simpa using e1, e2⟩
    · have := words_kid hkm
      have := wordsL_le op ks
      simp only [List.size_toArray, sizeLine]
      ((first | with_reducible assumption | exact Mine.lim (by assumption) | exact Mine.lim0 (by assumption) | exact Mine.lim2 (by assumption) | exact Mine.lim3 (by assumption) | exact Mine.lme (by assumption) | exact Mine.lml (by assumption) | exact Mine.lll (by assumption) | decide | lia))
    · have hj' : j < its'.length := by simpa using hj
      obtain ⟨tp, pth, q, pvs, T2, e1, e2, e3, e4, e5, e6, e7⟩ := p3 its'[j] (List.getElem_mem hj')
      obtain rfl : T = tp := by
        have z : its'[j] = .ref T := by simpa using hT
        rw [z] at e1
        exact Value.ref.inj e1
      have z := isTup_eq hTt e2
      obtain ⟨rfl, rfl⟩ : x' = .ref pth ∧ y' = q := by simpa using z
      obtain ⟨oC, heC, hoC⟩ := PyProof.Rows.LCg.ns_obj hn
      have gC' : g.get? C' = none := by
        cases z : g.get? C' with
        | none => rfl
        | some o => have := F4.keep _ _ z; rw [hC3] at this; cases this
      have nL : ∀ p ∈ ((L + 1, o2) :: (D, listOf its.toArray e) :: tl3), p.1 ≠ L := fun p hp => (N4 p hp).2.1
      have N6 : News g L h ((C', oC) :: (L + 1, o2) :: fullOf g L h) := news_cons heC ⟨hCL, gC'⟩ (news_cons (up _ _ (nL _ (.head _)) (N4.get (.head _))) (news_at N4 (.head _)) news_full)
      have hpl : pvs.length ≤ 1000 := by have := nest_kid1 (op := op) hkm; ((first | with_reducible assumption | exact Mine.lim (by assumption) | exact Mine.lim0 (by assumption) | exact Mine.lim2 (by assumption) | exact Mine.lim3 (by assumption) | exact Mine.lme (by assumption) | exact Mine.lml (by assumption) | exact Mine.lll (by assumption) | decide | lia))
      have neL : ∀ {p : Addr} {its : Array Value}, IsTup h3 p its → p ≠ L := fun t => by
        obtain ⟨o, ho, _, n, hd⟩ := t
        exact fr_neL F4 ho (by rw [hd]; simp)
      have t3 : IsTup h pth pvs.toArray := by
        have z := neL e3
        obtain ⟨o, ho, r⟩ := e3
        exact ⟨o, up _ _ z ho, r⟩
      have kT : KeepT h3 h := fun b o q t => by
        obtain ⟨_, _, _, z⟩ := t
        exact up b o (fr_neL F4 q (by rw [z]; simp)) q
      have r5 : Reads h y' T2.dat [] := tm_keeps kT T2 e5
      clear N4 F4
      have hgk : ∀ b o, g.get? b = some o → h.get? b = some o := Fh.keep
      have hnT : ∀ b o, h.get? b = some o → IsT o → b ≠ L := fun b o q t => by
        obtain ⟨_, _, _, z⟩ := t
        exact fr_neL Fh q (by rw [z]; simp)
      (repeat' ((fail_if_success with_reducible first|refine zz9 ?_|refine zz1 ?_|refine zz2 ?_|refine zz3 ?_|refine zz4 ?_|refine zz7 ?_|refine zz5 ?_|refine zz10 ?_|refine zz6 ?_); first | (k_unfold; (try dsimp only)) | (walk1; (all_goals (try dsimp only))) | (dsimp only; walk1; (all_goals (try dsimp only)))))
      rename_i D6 h6 F6 N7 l6
      have G6 : GrowL L h h6 := full_grow F6.keep hgk fun p hp => N7.get (.tail _ (.tail _ (.tail _ hp)))
      have kT6 : ∀ {hh : Heap}, GrowL L h hh → KeepT h hh := fun gr b o q t => gr b o (hnT b o q t) q
      refine add_tuples (s := Shared.mk h6 _ _ _ _) (vs := [Value.int i ti]) (ws := pvs) F6 N7 ⟨_, N7.get (.head _), rfl, _, rfl⟩ (isTup_keepT (kT6 G6) t3) (fun q => by cases q) (fun _ q => ?_) (fun _ q h7 F7 N8 => ?_) (by simp only [List.length_cons, List.length_nil, sizeLine]; ((first | with_reducible assumption | exact Mine.lim (by assumption) | exact Mine.lim0 (by assumption) | exact Mine.lim2 (by assumption) | exact Mine.lim3 (by assumption) | exact Mine.lme (by assumption) | exact Mine.lml (by assumption) | exact Mine.lll (by assumption) | decide | lia)))
      · subst q
        (repeat' ((fail_if_success with_reducible first|refine zz9 ?_|refine zz1 ?_|refine zz2 ?_|refine zz3 ?_|refine zz4 ?_|refine zz7 ?_|refine zz5 ?_|refine zz10 ?_|refine zz6 ?_); first | (k_unfold; (try dsimp only)) | (walk1; (all_goals (try dsimp only))) | (dsimp only; walk1; (all_goals (try dsimp only)))))
        rename_i D7 h7 F7 N8 l7
        have G7 : GrowL L h h7 := full_grow F7.keep hgk fun p hp => N8.get (.tail _ (.tail _ (.tail _ (.tail _ hp))))
        exact ⟨_, _, rfl, G7, F7, D7, D6, y', [Value.int i ti], T2, rfl, ⟨_, N8.get (.head _), rfl, _, rfl⟩, ⟨_, N8.get (.tail _ (.head _)), rfl, _, rfl⟩, by have := nest_kid1 (op := op) hkm; simp only [List.length_cons, List.length_nil]; ((first | with_reducible assumption | exact Mine.lim (by assumption) | exact Mine.lim0 (by assumption) | exact Mine.lim2 (by assumption) | exact Mine.lim3 (by assumption) | exact Mine.lme (by assumption) | exact Mine.lml (by assumption) | exact Mine.lll (by assumption) | decide | lia)), tm_keeps (kT6 G7) T2 r5, fun o ho => hsub o (e6 o ho), by have := words_kid hkm; have := wordsL_le op ks; ((first | with_reducible assumption | exact Mine.lim (by assumption) | exact Mine.lim0 (by assumption) | exact Mine.lim2 (by assumption) | exact Mine.lim3 (by assumption) | exact Mine.lme (by assumption) | exact Mine.lml (by assumption) | exact Mine.lll (by assumption) | decide | lia))⟩
      · (repeat' ((fail_if_success with_reducible first|refine zz9 ?_|refine zz1 ?_|refine zz2 ?_|refine zz3 ?_|refine zz4 ?_|refine zz7 ?_|refine zz5 ?_|refine zz10 ?_|refine zz6 ?_); first | (k_unfold; (try dsimp only)) | (walk1; (all_goals (try dsimp only))) | (dsimp only; walk1; (all_goals (try dsimp only)))))
        rename_i D7 h8 F8 N9 l7
        have G7 : GrowL L h h8 := full_grow F8.keep hgk fun p hp => N9.get (.tail _ (.tail _ (.tail _ (.tail _ (.tail _ hp)))))
        exact ⟨_, _, rfl, G7, F8, D7, _, y', Value.int i ti :: pvs, T2, rfl, ⟨_, N9.get (.head _), rfl, _, rfl⟩, ⟨_, N9.get (.tail _ (.head _)), rfl, _, rfl⟩, by have := nest_kid1 (op := op) hkm; simp only [List.length_cons]; ((first | with_reducible assumption | exact Mine.lim (by assumption) | exact Mine.lim0 (by assumption) | exact Mine.lim2 (by assumption) | exact Mine.lim3 (by assumption) | exact Mine.lme (by assumption) | exact Mine.lml (by assumption) | exact Mine.lll (by assumption) | decide | lia)), tm_keeps (kT6 G7) T2 r5, fun o ho => hsub o (e6 o ho), by have := words_kid hkm; have := wordsL_le op ks; ((first | with_reducible assumption | exact Mine.lim (by assumption) | exact Mine.lim0 (by assumption) | exact Mine.lim2 (by assumption) | exact Mine.lim3 (by assumption) | exact Mine.lme (by assumption) | exact Mine.lml (by assumption) | exact Mine.lll (by assumption) | decide | lia))⟩
    · refine ⟨m', hn, fun h'' hs'' => ?_⟩
      have qC := fr_new F4 nC
      have uC : Upto [C'] h h'' := fun b o e n => hs''.extBut b o (by simpa using n) e
      have F7 := fr_upto Fh uC (fun b hb => by rw [List.mem_singleton.mp hb]; exact qC)
      have K7 : GrowL L h3 h'' := fun b o n e => uC b o (up _ _ n e) fun q => by rw [List.mem_singleton.mp q] at e; rw [nC] at e; cases e
      have kT7 : KeepT h h'' := fun b o e t => uC b o e fun q => by
        obtain ⟨oC, es, ep, ho, hd, _⟩ := hn
        rw [List.mem_singleton.mp q, ho] at e
        obtain ⟨_, _, _, q2⟩ := t
        rw [← Option.some.inj e, hd] at q2
        cases q2
      have gD2 : h''.get? D2' = some (listOf ys.toArray ys.length) := uC _ _ hD2 (by simpa using Ne.symm hCD)
      have qD2 := fr_new F4 nD2
      have N7 : News g L h'' ((L + 1, o2) :: (D, listOf its.toArray e) :: tl3) := fun p hp => ⟨K7 _ _ (N4 p hp).2.1 (N4 p hp).1, (N4 p hp).2⟩
      have hY7 : ∀ y ∈ ys, PartV h'' (.node op ks) (Tm.node op ks).nest y := fun y hy => by
        obtain ⟨j, hj⟩ := List.getElem?_of_mem hy
        exact PartV.keeps kT7 (hY j y hj)
      have hP7 := hP h'' F7.keep fun p hp => N7.get (.tail _ (.tail _ (by rw [htl3]; exact List.mem_append_right _ hp)))
      have hRd7 := hRd h'' F7.keep fun p hp => N7.get (.tail _ (.tail _ (by rw [htl3]; exact List.mem_append_right _ hp)))
      have hAlen : its.length ≤ 1000001 := by
        have e1 := wordsL_le op ks
        have e2 : (wordsL (ks.take i)).length ≤ (wordsL ks).length := by
          have := congrArg List.length (wordsL_app (ks.drop i) (ks.take i))
          rw [List.take_append_drop, List.length_append] at this
          ((first | with_reducible assumption | exact Mine.lim (by assumption) | exact Mine.lim0 (by assumption) | exact Mine.lim2 (by assumption) | exact Mine.lim3 (by assumption) | exact Mine.lme (by assumption) | exact Mine.lml (by assumption) | exact Mine.lll (by assumption) | decide | lia))
        ((first | with_reducible assumption | exact Mine.lim (by assumption) | exact Mine.lim0 (by assumption) | exact Mine.lim2 (by assumption) | exact Mine.lim3 (by assumption) | exact Mine.lme (by assumption) | exact Mine.lml (by assumption) | exact Mine.lll (by assumption) | decide | lia))
      have hBlen : ys.length ≤ 1000000 := by
        rw [hys, List.size_toArray]
        have := words_kid hkm
        have := wordsL_le op ks
        ((first | with_reducible assumption | exact Mine.lim (by assumption) | exact Mine.lim0 (by assumption) | exact Mine.lim2 (by assumption) | exact Mine.lim3 (by assumption) | exact Mine.lme (by assumption) | exact Mine.lml (by assumption) | exact Mine.lll (by assumption) | decide | lia))
      have Ns := snap F7 (fun p hp => by
        rcases List.mem_cons.mp hp with rfl | hp
        · exact ⟨gD2, qD2⟩
        · exact N7 p (by
            rcases List.mem_cons.mp hp with q | hp
            · exact q ▸ .head _
            · rcases List.mem_cons.mp hp with q | hp
              · exact q ▸ .tail _ (.head _)
              · exact .tail _ (.tail _ (by rw [htl3]; exact List.mem_append_left _ hp))) : News g L h'' ((D2', listOf ys.toArray ys.length) :: (L + 1, o2) :: (D, listOf its.toArray e) :: own))
      have hsn : ∀ p ∈ snapOf g h'', IsT p.2 := fun p hp => (mem_snap.mp hp).2.1
      have hsk : ∀ h' : Heap, (∀ b o, g.get? b = some o → h'.get? b = some o) → (∀ p ∈ snapOf g h'', h'.get? p.1 = some p.2) → KeepT h'' h' := fun h' kg kt => snap_keep kg F7.keep kt
      have hsD : ∀ p ∈ snapOf g h'', p.1 ≠ D := fun p hp => ne_obj (mem_snap.mp hp).1 (N7.get (.tail _ (.head _))) (by rw [(mem_snap.mp hp).2.1.1]; simp)
      generalize snapOf g h'' = tl4 at Ns hsn hsk hsD
      rw [List.cons_append, List.cons_append, List.cons_append] at Ns
      obtain ⟨tl5, htl5⟩ : ∃ tl5, tl5 = own ++ tl4 := ⟨_, rfl⟩
      rw [← htl5] at Ns
      have h5D : ∀ p ∈ tl5, p.1 ≠ D := fun p hp => by
        rw [htl5] at hp
        rcases List.mem_append.mp hp with hp | hp
        · exact (hownC p hp).2
        · exact hsD p hp
      have hD2D : D2' ≠ D := fun q => by have z := N4.get (.tail _ (.head _)); rw [← q] at z; rw [nD2] at z; cases z
      have hLD : L + 1 ≠ D := Ne.symm hDC
      clear F4 N4 N7 l3
      try dsimp only
      (repeat' ((fail_if_success with_reducible first|refine zz9 ?_|refine zz1 ?_|refine zz2 ?_|refine zz3 ?_|refine zz4 ?_|refine zz7 ?_|refine zz5 ?_|refine zz10 ?_|refine zz6 ?_); first | (k_unfold; (try dsimp only)) | (walk1; (all_goals (try dsimp only))) | (dsimp only; walk1; (all_goals (try dsimp only)))))
      refine extend_in (s := Shared.mk h'' _ _ _ _) (own := [(D2', listOf ys.toArray ys.length), (L + 1, o2)]) (rest := tl5) F7 Ns (List.forall_mem_cons.mpr ⟨hD2D, List.forall_mem_cons.mpr ⟨hLD, List.forall_mem_nil _⟩⟩) h5D gD2 (fun h8 n8 F8 N8 => ?_) (by simp only [List.size_toArray, sizeLine]; ((first | with_reducible assumption | exact Mine.lim (by assumption) | exact Mine.lim0 (by assumption) | exact Mine.lim2 (by assumption) | exact Mine.lim3 (by assumption) | exact Mine.lme (by assumption) | exact Mine.lml (by assumption) | exact Mine.lll (by assumption) | decide | lia)))
      rw [List.cons_append, List.cons_append, List.nil_append] at N8
      (repeat' ((fail_if_success with_reducible first|refine zz9 ?_|refine zz1 ?_|refine zz2 ?_|refine zz3 ?_|refine zz4 ?_|refine zz7 ?_|refine zz5 ?_|refine zz10 ?_|refine zz6 ?_); first | (k_unfold; (try dsimp only)) | (walk1; (all_goals (try dsimp only))) | (dsimp only; walk1; (all_goals (try dsimp only)))))
      have F9 := fr_map F8 (m' := pmap D a (some x)) fun y => by
        by_cases hy : y = "kid"
        · simp only [pmap, hy, if_true]
        · simp only [pmap, hy, if_false]
      have inOwn : ∀ b ∈ [Ie + 1, Ie], ∃ o, h8.get? b = some o ∧ ∀ vs n, o.data ≠ .seq vs n := fun b hb => by
        rcases List.mem_cons.mp hb with rfl | hb
        · obtain ⟨old, hE⟩ := hst1
          have z := hown2 (Ie + 1) (.head _) gIe1 _ hE
          exact ⟨_, N8.get (.tail _ (.tail _ (.tail _ (by rw [htl5]; exact List.mem_append_left _ z)))), by simp⟩
        · obtain ⟨oI, eI, cI, dI⟩ := hst2
          rw [List.mem_singleton.mp hb]
          have z := hown2 Ie (.tail _ (.head _)) gIe _ eI
          exact ⟨_, N8.get (.tail _ (.tail _ (.tail _ (by rw [htl5]; exact List.mem_append_left _ z)))), by rw [dI]; simp⟩
      refine LoopStepU.intro F9 (news₂ := (D, listOf (its ++ ys).toArray n8) :: (L + 1, o2) :: tl4) (fun p hp => ?_) (fun p hp q => ?_) ⟨some x, its ++ ys, n8, o2, _, tl4, rfl, rfl, d2, hsn, ?_, fun h' kg kt v hv => ?_, fun h' kg kt => tms_keeps (hsk h' kg kt) ks hRd7⟩
      · rcases List.mem_append.mp hp with hp | hp
        · exact N8 p (.tail _ (.tail _ (.tail _ (by rw [htl5]; exact List.mem_append_left _ hp))))
        · rcases List.mem_cons.mp hp with rfl | hp
          · exact N8 _ (.tail _ (.tail _ (.head _)))
          · rcases List.mem_cons.mp hp with rfl | hp
            · exact N8 _ (.tail _ (.head _))
            · exact N8 p (.tail _ (.tail _ (.tail _ (by rw [htl5]; exact List.mem_append_right _ hp))))
      · rcases List.mem_cons.mp hp with rfl | hp
        · exact hnw _ (.head _) q
        · rcases List.mem_cons.mp hp with rfl | hp
          · exact hnw (L + 1, oc') (.tail _ (.head _)) q
          · obtain ⟨o, e1, e2⟩ := inOwn _ q
            have z := N8.get (a := p.1) (o := p.2) (.tail _ (.tail _ (.tail _ (by rw [htl5]; exact List.mem_append_right _ hp))))
            rw [e1] at z
            obtain ⟨_, vs', n', dd⟩ := hsn p hp
            rw [← Option.some.inj z] at dd
            exact e2 _ _ dd
      · have e3 : ks.take (i + 1) = ks.take i ++ [ki] := by rw [List.take_succ, hki]; rfl
        rw [e3, wordsL_snoc, List.length_append, List.length_append, hys, List.size_toArray]
        ((first | with_reducible assumption | exact Mine.lim (by assumption) | exact Mine.lim0 (by assumption) | exact Mine.lim2 (by assumption) | exact Mine.lim3 (by assumption) | exact Mine.lme (by assumption) | exact Mine.lml (by assumption) | exact Mine.lll (by assumption) | decide | lia))
      · rcases List.mem_append.mp hv with hv | hv
        · exact PartV.keeps (hsk h' kg kt) (hP7 v hv)
        · exact PartV.keeps (hsk h' kg kt) (hY7 v hv)
  · rintro h' tk' m' news' F' N' hnw' ⟨kv, its, e, oc', cv, tl, rfl, rfl, hoc', htl, hlen', hP, hRd⟩
    (repeat' ((fail_if_success with_reducible first|refine zz9 ?_|refine zz1 ?_|refine zz2 ?_|refine zz3 ?_|refine zz4 ?_|refine zz7 ?_|refine zz5 ?_|refine zz10 ?_|refine zz6 ?_); first | (k_unfold; (try dsimp only)) | (walk1; (all_goals (try dsimp only))) | (dsimp only; walk1; (all_goals (try dsimp only)))))
    have nD : s.heap.get? D = none := by
      cases q : s.heap.get? D with
      | none => rfl
      | some o =>
        have z := hin _ _ q List.not_mem_nil
        rw [(N' _ (.head _)).2.2] at z
        cases z
    refine hk h' D tk' its (upto0 hin F') nD ⟨_, N'.get (.head _), rfl, _, rfl⟩ ?_ (hP h' F'.keep fun p hp => N'.get (.tail _ (.tail _ hp)))
    have e1 := wordsL_le op ks
    rw [List.size_toArray, hl, List.take_length] at hlen'
    ((first | with_reducible assumption | exact Mine.lim (by assumption) | exact Mine.lim0 (by assumption) | exact Mine.lim2 (by assumption) | exact Mine.lim3 (by assumption) | exact Mine.lme (by assumption) | exact Mine.lml (by assumption) | exact Mine.lll (by assumption) | decide | lia))
theorem parts_spec : ∀ (n : Nat) (T : Tm), T.nest ≤ n → PartsSpec w mean mg mb base T n
  | 0, .node op ks, hn => absurd hn (by rw [Tm.nest]; ((first | with_reducible assumption | exact Mine.lim (by assumption) | exact Mine.lim0 (by assumption) | exact Mine.lim2 (by assumption) | exact Mine.lim3 (by assumption) | exact Mine.lme (by assumption) | exact Mine.lml (by assumption) | exact Mine.lll (by assumption) | decide | lia)))
  | n + 1, .node op ks, hn => parts_step op ks n fun t ht => parts_spec n t (by
      have := nest_kid ht
      rw [Tm.nest] at hn
      ((first | with_reducible assumption | exact Mine.lim (by assumption) | exact Mine.lim0 (by assumption) | exact Mine.lim2 (by assumption) | exact Mine.lim3 (by assumption) | exact Mine.lme (by assumption) | exact Mine.lml (by assumption) | exact Mine.lll (by assumption) | decide | lia)))
end
end Mine
end
-- E2
section
namespace Mine
open PySem PySem.W PySem.Calls PyProof.Rows
open AutoSeq1 (wpAny_loadPart')
set_option maxHeartbeats 3000000
noncomputable abbrev eSet (ep : Nat) (t : SetTable) : Obj := { cls := .type "set", data := .set #[] ep t }
theorem entry_set_iter : entryFor table "set.__iter__" = some Builtin.«frozenset.__iter__» := entryFor_alias (id' := "frozenset.__iter__") ((fastTable_eq_tree _).trans (by kernel_rfl)) rfl (by rw [PySem.W.Fast.canonicalQ_eq]; decide +kernel) ((fastTable_eq_tree _).trans (by kernel_rfl))
theorem slot_setiter_next : Slot "set_iterator" "__next__" "set_iterator.__next__" :=
  .of (owner := "set_iterator") (n := "__next__") (by rw [typeLookup_type, builtinLookup_eq_fast]; kernel_rfl) (by decide +kernel) (by decide +kernel) (by decide +kernel)
    (by first | exact .inl (by decide +kernel) | exact .inr (by decide +kernel)) (by rw [isSubtype_type]; kernel_rfl)
theorem entry_setiter_next : entryFor table "set_iterator.__next__" = some Builtin.«set_iterator.__next__» := entryFor_of_tree (by kernel_rfl)
theorem args_setiter_next (a : Value) : argsOk "set_iterator.__next__" ⟨[a], []⟩ := by unfold argsOk; kernel_rfl
section
variable {prog : Program} {w : World} {A : Around} {E : Value → Shared → Prop} {s : Shared} {r : Addr} {ep : Nat} {t : SetTable}
theorem eset_state {Q : Array (Int × Value) × Nat × SetTable → Shared → Prop} (hs : s.heap.get? r = some (eSet ep t)) (hf : t.fits 0 = true) (h : Q (#[], ep, t) s) : wpAny (model prog w) A (setState r) Q E s := by
  unfold setState
  refine wpAny_bind (wpAny_load hs ?_)
  dsimp only
  unfold SetTable.fits at hf
  simp only [Bool.and_eq_true, beq_iff_eq, decide_eq_true_eq] at hf
  refine wpAny_ite_split (fun q => ?_) (fun _ => wpAny_bind (wpAny_pure (wpAny_pure h)))
  exfalso
  simp only [Array.size_empty, Bool.or_eq_true, bne_iff_ne, decide_eq_true_eq] at q
  ((first | with_reducible assumption | exact Mine.lim (by assumption) | exact Mine.lim0 (by assumption) | exact Mine.lim2 (by assumption) | exact Mine.lim3 (by assumption) | exact Mine.lme (by assumption) | exact Mine.lml (by assumption) | exact Mine.lll (by assumption) | decide | lia))
theorem eset_iter {Q : Value → Shared → Prop} (hs : s.heap.get? r = some (eSet ep t)) (hf : t.fits 0 = true)
    (h : Q (.ref s.heap.objs.size) { s with heap := s.heap.push { cls := .type "set_iterator", data := .fields #[rawInt 0, rawInt 0, .ref r, rawInt 0, rawInt ep] } }) : wpAny (model prog w) A (pyIter (.ref r)) Q E s := by
  have hT : s.TypeIs (.ref r) "set" := ⟨_, hs, rfl⟩
  refine wpAny_pyIter_slot hT F.slot_set_iter (wpAny_call_entry F.slot_set_iter hT entry_set_iter ?_ (F.args_set_iter_1 _))
  unfold Builtin.«frozenset.__iter__» Builtin.Frozenset.sizeOf setDrawn setEntries setEpoch setsByText
  refine wpAny_bind (wpAny_of_eq (a := r) (by first | rfl | kernel_rfl) ?_)
  refine wpAny_bind (wpAny_bind (wpAny_bind (eset_state hs hf (wpAny_pure (wpAny_pure ?_)))))
  refine wpAny_bind (wpAny_bind (eset_state hs hf ?_))
  dsimp only
  refine wpAny_bind (wpAny_bind (wpAny_askSetting (wpAny_pure (wpAny_pure ?_))))
  refine wpAny_ite_split (fun q => ?_) (fun _ => ?_)
  · exfalso
    rw [Bool.and_eq_true] at q
    have z : (!t.plain && decide ((#[] : Array (Int × Value)).size > 1)) = true := q.2
    simp at z
  · refine wpAny_bind (wpAny_pure ?_)
    refine wpAny_bind (wpAny_bind (eset_state hs hf (wpAny_pure ?_)))
    refine wpAny_bind (wpAny_newObj_type ?_ (by size_fits))
    refine wpAny_pure ⟨_, rfl, "set_iterator", _, ⟨_, Heap.get?_push_size _ rfl, rfl⟩, slot_setiter_next.lookup, h⟩
theorem eset_notDrawn {b : Bool} (h : b = (!t.plain && decide ((#[] : Array (Int × Value)).size > 1))) : b ≠ true := by rw [h]; simp
theorem eset_walk {Q : Array (Int × Value) → Shared → Prop} (hs : s.heap.get? r = some (eSet ep t)) (hf : t.fits 0 = true) (h : Q #[] s) : wpAny (model prog w) A (setWalk r) Q E s := by
  unfold setWalk setsByText
  refine wpAny_bind (eset_state hs hf ?_)
  dsimp only
  refine wpAny_bind (wpAny_bind (wpAny_askSetting (wpAny_pure ?_)))
  refine wpAny_ite_split (fun _ => ?_) (fun _ => ?_)
  · exact wpAny_bind (wpAny_askSetting (wpAny_pure h))
  · refine wpAny_ite_split (fun q => absurd q (eset_notDrawn (t := t) rfl)) (fun _ => ?_)
    refine wpAny_bind (wpAny_ite_split (fun q => ?_) (fun _ => wpAny_pure (wpAny_pure h)))
    simp at q
theorem eset_next {Q : Option (Value × Nat) → Shared → Prop} (hs : s.heap.get? r = some (eSet ep t)) (hf : t.fits 0 = true) (h : Q none s) : wpAny (model prog w) A (setNext r 0 0 ep) Q E s := by
  unfold setNext setsByText
  refine wpAny_bind (eset_state hs hf ?_)
  dsimp only
  refine wpAny_bind (wpAny_bind (wpAny_askSetting (wpAny_pure ?_)))
  refine wpAny_ite_split (fun _ => ?_) (fun _ => ?_)
  · refine wpAny_ite_split (fun q => ?_) (fun _ => ?_)
    · simp at q
    · exact wpAny_bind (eset_walk hs hf (wpAny_pure h))
  · refine wpAny_ite_split (fun q => absurd q (eset_notDrawn (t := t) rfl)) (fun _ => ?_)
    refine wpAny_bind (wpAny_ite_split (fun q => ?_) (fun _ => wpAny_pure (wpAny_pure h)))
    simp at q
noncomputable abbrev eSetIter (r : Addr) (ep : Nat) : Obj := { cls := .type "set_iterator", data := .fields #[rawInt 0, rawInt 0, .ref r, rawInt 0, rawInt ep] }
theorem eset_end {it : Addr} {Q : Option Value → Shared → Prop} (hh : A.handled = none) (hs : s.heap.get? r = some (eSet ep t)) (hf : t.fits 0 = true) (hi : s.heap.get? it = some (eSetIter r ep))
    (hQ : ∀ h', Heap.ExtBut it s.heap h' → Q none { s with heap := h' }) : wpAny (model prog w) A (pyNext (.ref it)) Q E s := by
  have hT : s.TypeIs (.ref it) "set_iterator" := ⟨_, hi, rfl⟩
  unfold pyNext
  refine wpAny_bind (wpAny_attempt (wpAny_callSpecial?_slot (name := Str.ofString "__next__") hT slot_setiter_next
    (wpAny_call_entry slot_setiter_next hT entry_setiter_next ?_ (args_setiter_next _))))
  unfold Builtin.«set_iterator.__next__» setEntries
  refine wpAny_bind (wpAny_of_eq (a := (Value.ref it, [])) (by first | rfl | kernel_rfl) ?_)
  dsimp only
  unfold fieldsOf
  refine wpAny_bind (wpAny_bind (wpAny_load hi ?_))
  refine wpAny_pure ?_
  dsimp only [rawInt]
  refine wpAny_bind (wpAny_bind (eset_state hs hf (wpAny_pure ?_)))
  refine wpAny_ite_split (fun q => ?_) (fun _ => ?_)
  · simp at q
  refine wpAny_bind (eset_next hs hf ?_)
  dsimp only
  refine wpAny_bind (wpAny_setField hi rfl (by simp) ?_)
  refine stop_it hh fun h' e k y => ?_
  obtain ⟨o, ho, hc⟩ := y
  refine wpAny_bind (wpAny_isInstance (T := "StopIteration") (b := true) ⟨o, ho, hc⟩ isSubtype_stop ?_)
  exact wpAny_pure (hQ _ fun b ob nb eb => k b ob ((Heap.SameBut.update ..).extBut b ob nb eb))
theorem slot_setiter_iter : Slot "set_iterator" "__iter__" "set_iterator.__iter__" :=
  .of (owner := "set_iterator") (n := "__iter__") (by rw [typeLookup_type, builtinLookup_eq_fast]; kernel_rfl) (by decide +kernel) (by decide +kernel) (by decide +kernel)
    (by first | exact .inl (by decide +kernel) | exact .inr (by decide +kernel)) (by rw [isSubtype_type]; kernel_rfl)
theorem entry_setiter_iter : entryFor table "set_iterator.__iter__" = some Builtin.«dict_keyiterator.__iter__» := entryFor_alias (id' := "dict_keyiterator.__iter__") ((fastTable_eq_tree _).trans (by kernel_rfl)) rfl (by rw [PySem.W.Fast.canonicalQ_eq]; decide +kernel) ((fastTable_eq_tree _).trans (by kernel_rfl))
theorem args_setiter_iter (a : Value) : argsOk "set_iterator.__iter__" ⟨[a], []⟩ := by unfold argsOk; kernel_rfl
theorem eset_self {it : Addr} {Q : Value → Shared → Prop} (hi : s.heap.get? it = some (eSetIter r ep)) (h : Q (.ref it) s) : wpAny (model prog w) A (pyIter (.ref it)) Q E s := by
  have hT : s.TypeIs (.ref it) "set_iterator" := ⟨_, hi, rfl⟩
  refine wpAny_pyIter_slot hT slot_setiter_iter (wpAny_call_entry slot_setiter_iter hT entry_setiter_iter ?_ (args_setiter_iter _))
  show wpAny _ _ (ret (.ref it)) _ _ s
  exact wpAny_pure ⟨_, rfl, "set_iterator", _, hT, slot_setiter_next.lookup, h⟩
theorem eset_hint {Q : Bool → Shared → Prop} (hT : s.TypeIs (.ref r) "set") (h : Q false s) : wpAny (model prog w) A (Builtin.List.listLengthHint (.ref r)) Q E s := by
  unfold Builtin.List.listLengthHint
  refine wpAny_bind (wpAny_specialOf hT F.slot_set_len.lookup ?_)
  generalize hid : ("set.__len__" : String) = id0
  wp_delta
  rw [show splitId id0 = some ("set", "__len__") from by subst hid; decide +kernel]
  subst hid
  refine wpAny_bind (wpAny_isInstance (T := "set") (b := true) hT (by rw [isSubtype_type]; kernel_rfl) ?_)
  refine wpAny_ite_split (fun hab => absurd hab (by decide)) (fun _ => ?_)
  refine wpAny_ite_split (fun _ => ?_) (fun hab => absurd (by decide +kernel) hab)
  refine wpAny_bind (wpAny_typeOf hT ?_)
  exact wpAny_pure h
theorem eset_src (hf : t.fits 0 = true) : KdlSrc prog w "set" r r 0 (fun _ _ => False) (fun h => h.get? r = some (eSet ep t)) where
  type := fun _ hm => ⟨_, hm, rfl⟩
  there := fun _ hm => ⟨Heap.lt_size hm, Heap.lt_size hm⟩
  keep := fun _ _ hm hk => hk r (.inl rfl) _ hm
  notList := by decide
  notTuple := by decide
  hint := fun _ _ _ _ hm hq => eset_hint ⟨_, hm, rfl⟩ hq
  iter := fun A s hh hm => ⟨_, fun _ h => h.get? r = some (eSet ep t) ∧ h.get? s.heap.objs.size = some (eSetIter r ep), (fun _ _ hq => eset_iter hm hf hq),
    { sub := fun b hb => by rw [List.mem_singleton.mp hb]; exact .head _
      frame := fun _ h h' hst hk => ⟨hk r (.tail _ (.head _)) _ hst.1, hk _ (.head _) _ hst.2⟩
      item := fun i _ _ _ hi => absurd hi (Nat.not_lt_zero _)
      done := fun s' Q E hst hQ => eset_end hh hst.1 hf hst.2 fun h' hx => hQ h' s'.toks fun b o hb e => hx b o (fun q => hb (by rw [q]; exact .head _)) e
      self := fun _ _ _ _ hst hq => eset_self hst.2 hq }, Heap.get?_push_of_some _ hm, Heap.get?_push_size _ rfl⟩
end
end Mine
end
-- V3
section
namespace Mine
open PySem PySem.W PySem.Calls PyProof.Rows
set_option maxHeartbeats 3000000
section
variable {w : World} {mean : ExcName → Option Value} {mg mb : Str → Option Value} {base : Heap} {outer : List Env} {dp un : Nat} {gd : Option (List Code)} {s : Shared} {R : Result → Shared → Prop}
noncomputable abbrev vScope : Scope := ⟨.function, [("t", .local), ("sorted", .globalImplicit), ("set", .globalImplicit), ("parts", .globalImplicit)], false, false, [("fast", .str "t"), ("fast", .str "path"), ("fast", .str "part")]⟩
noncomputable abbrev vEnv (L : Addr) : Env := envOf "variables" vScope L 107 (.ref 106)
theorem variables_spec {v : Value} {Te : Tm} (C : Cx w mean mg mb base outer (Ar dp un gd outer) s.heap) (hdep : dp + Te.nest + 30 < recursionLimit) (hr : Reads s.heap v Te.dat []) (hq : ∀ o ∈ Te.ops, NoQ o)
    (hlen : Te.words.length ≤ 1000000) (hnest : Te.nest ≤ 1000)
    (hk : ∀ h' D tk, Upto [] s.heap h' → s.heap.get? D = none → h'.IsList D #[] → R (.ok (.ret (.ref D))) { s with heap := h', toks := tk }) :
    codeAny (model PR w) (Ar dp un gd outer) (.call (.ref 107) ⟨[v], []⟩) R s := by
  refine' enter_fn (A := Ar dp un gd outer) [("t", v)] C [] (List.forall_mem_nil _) ?k1 ?k2 ?k3 ?k4 ?k5 ?_ ?c2 ?c3 ?c4 ?c5
  ((case k1 => k_is); (case k2 => k_is); (case k3 => (show _ < _; first | ((first | with_reducible assumption | exact Mine.lim (by assumption) | exact Mine.lim0 (by assumption) | exact Mine.lim2 (by assumption) | exact Mine.lim3 (by assumption) | exact Mine.lme (by assumption) | exact Mine.lml (by assumption) | exact Mine.lll (by assumption) | decide | lia)) | (dsimp only; ((first | with_reducible assumption | exact Mine.lim (by assumption) | exact Mine.lim0 (by assumption) | exact Mine.lim2 (by assumption) | exact Mine.lim3 (by assumption) | exact Mine.lme (by assumption) | exact Mine.lml (by assumption) | exact Mine.lll (by assumption) | decide | lia))))); (case k4 => exact BindsTo.of_eq rfl); (case k5 => exact locs rfl); (case c2 => exact rfl); (case c3 => exact rfl); (case c4 => exact rfl); (case c5 => decide))
  intro g L h₁ tk F N B X T hin hout hsz
  have hr1 : Reads h₁ v Te.dat [] := tm_keeps (KeepT.of fun b o e => F.keep b o (hin b o e List.not_mem_nil)) Te hr
  try k_fold
  (repeat' ((fail_if_success with_reducible first|refine zz9 ?_|refine zz1 ?_|refine zz2 ?_|refine zz3 ?_|refine zz4 ?_|refine zz7 ?_|refine zz5 ?_|refine zz10 ?_|refine zz6 ?_); first | (k_unfold; (try dsimp only)) | (walk1; (all_goals (try dsimp only))) | (dsimp only; walk1; (all_goals (try dsimp only)))))
  rw [eval_ListComp]
  refine wpAny_comprehension_free (use := none) (cl := []) rfl (by intro _; rfl) rfl rfl (by decide) ?_
  show wpAny _ _ (eval _ _) _ _ _
  (repeat' ((fail_if_success with_reducible first|refine zz9 ?_|refine zz1 ?_|refine zz2 ?_|refine zz3 ?_|refine zz4 ?_|refine zz7 ?_|refine zz5 ?_|refine zz10 ?_|refine zz6 ?_); first | (k_unfold; (try dsimp only)) | (walk1; (all_goals (try dsimp only))) | (dsimp only; walk1; (all_goals (try dsimp only)))))
  refine wpAny_call (parts_spec Te.nest Te (Nat.le_refl _) _ _ _ _ ⟨h₁, _, _, _, _⟩ _ v (cx_in (env := vEnv L) (A' := (Ar dp un gd outer).deeper (vEnv L)) C.X C.T B F rfl rfl rfl) (show dp + 1 + Te.nest + 20 < _ by ((first | with_reducible assumption | exact Mine.lim (by assumption) | exact Mine.lim0 (by assumption) | exact Mine.lim2 (by assumption) | exact Mine.lim3 (by assumption) | exact Mine.lme (by assumption) | exact Mine.lml (by assumption) | exact Mine.lll (by assumption) | decide | lia))) hr1 hlen hnest fun h3 D' tk3 its' u3 f3 l3 len3 p3 => ?_)
  have F4 := fr_upto F u3 (fun a ha => nomatch ha)
  clear F N
  try dsimp only
  refine comp_none (g := g) (L := L) (s₁ := Shared.mk h3 _ _ _ _) rfl l3 (fun j hj => ?_) (by decide) rfl rfl rfl (by decide) F4 (fun j hj T' x' y' h tk C' m₂ E' hT hTt up Fh hn ha hb hCL hC3 => ?_) (fun D2' C' h tk m' up Fh hD2 nD2 hn nC hCD => ?_)
  · have hj' : j < its'.length := by simpa using hj
    obtain ⟨tp, pth, q, pvs, T2, e1, e2, _⟩ := p3 its'[j] (List.getElem_mem hj')
    exact ⟨tp, .ref pth, q, by simpa using e1, e2⟩
  · have hj' : j < its'.length := by simpa using hj
    obtain ⟨tp, pth, q, pvs, T2, e1, e2, e3, e4, e5, e6, e7⟩ := p3 its'[j] (List.getElem_mem hj')
    obtain rfl : T' = tp := by
      have z : its'[j] = .ref T' := by simpa using hT
      rw [z] at e1
      exact Value.ref.inj e1
    have z := isTup_eq hTt e2
    obtain ⟨rfl, rfl⟩ : x' = .ref pth ∧ y' = q := by simpa using z
    obtain ⟨oC, heC, hoC⟩ := PyProof.Rows.LCg.ns_obj hn
    have qC := fr_new F4 hC3
    have N6 : News g L h [(C', oC)] := news_cons heC qC news_nil
    have kT : KeepT h3 h := fun b o q t => by
      obtain ⟨_, _, _, z⟩ := t
      exact up b o (fr_neL F4 q (by rw [z]; simp)) q
    have r5 : Reads h y' T2.dat [] := tm_keeps kT T2 e5
    (repeat' ((fail_if_success with_reducible first|refine zz9 ?_|refine zz1 ?_|refine zz2 ?_|refine zz3 ?_|refine zz4 ?_|refine zz7 ?_|refine zz5 ?_|refine zz10 ?_|refine zz6 ?_); first | (k_unfold; (try dsimp only)) | (walk1; (all_goals (try dsimp only))) | (dsimp only; walk1; (all_goals (try dsimp only)))))
    refine wpAny_call (isvar_spec (s := ⟨h, _, _, _, _⟩) (Te := T2) (cx_in (env := vEnv L) (A' := (Ar dp un gd outer).deeper (vEnv L)) C.X C.T B Fh rfl rfl rfl) (show dp + 1 + 10 < _ by ((first | with_reducible assumption | exact Mine.lim (by assumption) | exact Mine.lim0 (by assumption) | exact Mine.lim2 (by assumption) | exact Mine.lim3 (by assumption) | exact Mine.lme (by assumption) | exact Mine.lml (by assumption) | exact Mine.lll (by assumption) | decide | lia))) r5 (fun o ho => hq o (e6 o ho)) (by ((first | with_reducible assumption | exact Mine.lim (by assumption) | exact Mine.lim0 (by assumption) | exact Mine.lim2 (by assumption) | exact Mine.lim3 (by assumption) | exact Mine.lme (by assumption) | exact Mine.lml (by assumption) | exact Mine.lll (by assumption) | decide | lia))) fun h7 tk7 u7 => ?_)
    try dsimp only
    (repeat' ((fail_if_success with_reducible first|refine zz9 ?_|refine zz1 ?_|refine zz2 ?_|refine zz3 ?_|refine zz4 ?_|refine zz7 ?_|refine zz5 ?_|refine zz10 ?_|refine zz6 ?_); first | (k_unfold; (try dsimp only)) | (walk1; (all_goals (try dsimp only))) | (dsimp only; walk1; (all_goals (try dsimp only)))))
    exact ⟨h7, tk7, rfl, fun b o n e => u7 b o e List.not_mem_nil, fr_upto Fh u7 (fun a ha => nomatch ha)⟩
  · refine ⟨m', hn, fun h'' hs'' => ?_⟩
    have qC := fr_new F4 nC
    have uC : Upto [C'] h h'' := fun b o e n => hs''.extBut b o (by simpa using n) e
    have F7 := fr_upto Fh uC (fun b hb => by rw [List.mem_singleton.mp hb]; exact qC)
    have gD2 : h''.get? D2' = some (listOf #[] 0) := uC _ _ hD2 (by simpa using Ne.symm hCD)
    have N7 : News g L h'' [(D2', listOf #[] 0)] := news_cons gD2 (fr_new F4 nD2) news_nil
    clear F4 Fh uC hs'' hD2 hn
    try dsimp only
    (repeat' ((fail_if_success with_reducible first|refine zz9 ?_|refine zz1 ?_|refine zz2 ?_|refine zz3 ?_|refine zz4 ?_|refine zz7 ?_|refine zz5 ?_|refine zz10 ?_|refine zz6 ?_); first | (k_unfold; (try dsimp only)) | (walk1; (all_goals (try dsimp only))) | (dsimp only; walk1; (all_goals (try dsimp only)))))
    refine call_set_list (s := ⟨h'', _, _, _, _⟩) (items := #[]) (ns := []) rfl ⟨_, gD2, rfl, _, rfl⟩ .nil (by decide) fun h9 tk9 hS up9 => ?_
    try dsimp only at hS up9
    generalize hSa : h''.objs.size = Sa at hS up9 ⊢
    obtain ⟨o, es, ep, ts, hg, ⟨hc, hd0, hsl⟩, hdat, _, _, _, hfit, hsz⟩ := hS
    have hes : es = #[] := Array.eq_empty_of_size_eq_zero hsz
    subst hes
    have hgS : h9.get? Sa = some (eSet ep ts) := by
      rw [hg]
      obtain ⟨oc, od, odt, osl⟩ := o
      simp only at hc hd0 hsl hdat
      subst hc hd0 hsl hdat
      rfl
    have K9 : ∀ b o, h''.get? b = some o → h9.get? b = some o := fun b o e => up9 b o (hSa ▸ Heap.lt_size e) e
    have F9 := F7.keeps K9
    have N9 : News g L h9 [(Sa, eSet ep ts)] := news_cons hgS (fr_new F7 (by rw [← hSa]; exact at_size _)) news_nil
    clear F7 N7
    (repeat' ((fail_if_success with_reducible first|refine zz9 ?_|refine zz1 ?_|refine zz2 ?_|refine zz3 ?_|refine zz4 ?_|refine zz7 ?_|refine zz5 ?_|refine zz10 ?_|refine zz6 ?_); first | (k_unfold; (try dsimp only)) | (walk1; (all_goals (try dsimp only))) | (dsimp only; walk1; (all_goals (try dsimp only)))))
    refine kdu_sorted (s := ⟨h9, _, _, _, _⟩) (eset_src hfit) rfl F9 N9 hgS (Nat.zero_le _) fun D9 h10 tk10 vs10 F10 N10 l10 hl10 _ => ?_
    obtain rfl := List.length_eq_zero_iff.mp hl10
    refine ksk_lsort (s := ⟨h10, _, _, _, _⟩) (vs := []) (ns := []) F10 N10 (fun o => Upd.head (fun p hp => by
      have := l10 p hp
      exact Nat.ne_of_lt this)) rfl .nil (by decide) fun vs' ns' c h11 F11 N11 hI hl _ _ _ => ?_
    have hv0 : vs'.length = 0 := by rw [hI.length, hl]; rfl
    obtain rfl := List.length_eq_zero_iff.mp hv0
    have nD : s.heap.get? D9 = none := by
      cases q : s.heap.get? D9 with
      | none => rfl
      | some o =>
        have z := hin _ _ q List.not_mem_nil
        rw [(N11 _ (.head _)).2.2] at z
        cases z
    exact hk h11 D9 _ (upto0 hin F11) nD ⟨_, N11.get (.head _), rfl, _, rfl⟩
end
end Mine
end
-- Ct1
section
namespace Mine
open PySem PySem.W PySem.Calls PyProof.Rows
set_option maxHeartbeats 1000000
noncomputable def freedObj : Obj := ⟨.none, none, .freed, #[]⟩
noncomputable def retake (g h : Heap) : Heap := ⟨Array.ofFn (n := g.objs.size) fun i => if (g.get? i).isSome then (h.objs[(i : Nat)]?).getD freedObj else freedObj, {}⟩
theorem retake_size (g h : Heap) : (retake g h).objs.size = g.objs.size := by unfold retake; exact Array.size_ofFn
theorem retake_get {g h : Heap} {b : Addr} : (retake g h).get? b = if (g.get? b).isSome then h.get? b else none := by
  by_cases hb : b < g.objs.size
  · have e : (retake g h).objs[b]? = some (if (g.get? b).isSome then (h.objs[b]?).getD freedObj else freedObj) := by
      unfold retake
      simp [Array.getElem?_ofFn, hb]
    rw [Heap.get?, e]
    by_cases q : (g.get? b).isSome = true
    · rw [if_pos q, if_pos q, Heap.get?]
      cases h.objs[b]? with
      | none => rfl
      | some o => rfl
    · rw [if_neg q, if_neg q]
      rfl
  · have h1 : (retake g h).get? b = none := Heap.get?_none_of_le (by rw [retake_size]; exact Nat.le_of_not_lt hb)
    have h2 : g.get? b = none := Heap.get?_none_of_le (Nat.le_of_not_lt hb)
    rw [h1, h2]
    rfl
theorem retake_of {g h : Heap} {b : Addr} {o : Obj} (e : (retake g h).get? b = some o) : h.get? b = some o := by
  rw [retake_get] at e
  split at e
  · exact e
  · cases e
theorem retake_none {g h : Heap} {b : Addr} (e : g.get? b = none) : (retake g h).get? b = none := by
  rw [retake_get, e]; rfl
theorem retake_some {g h : Heap} {b : Addr} {o o' : Obj} (e : g.get? b = some o) (e' : h.get? b = some o') : (retake g h).get? b = some o' := by
  rw [retake_get, e]; exact e'
structure Slotty (M fr : List Addr) (h h' : Heap) : Prop where
  keep : ∀ b o, h.get? b = some o → b ∉ M → b ∉ fr → h'.get? b = some o
  slot : ∀ a ∈ fr, ∀ o, h.get? a = some o → ∃ sl, h'.get? a = some { o with slots := sl }
theorem Slotty.of {M fr : List Addr} {h h' : Heap} (u : Upto M h h') (hM : ∀ a ∈ M, a ∉ fr) : Slotty M fr h h' :=
  ⟨fun b o e n _ => u b o e n, fun a ha o e => ⟨o.slots, u a o e fun q => hM a q ha⟩⟩
section
variable {A : Around} {base g h h' : Heap} {outer : List Env} {L : Addr} {m : Str → Option Value} {M : List Addr} {news : List (Addr × Obj)}
theorem refit (F : Fr g L h m) (B : Below A base outer g) (k : Slotty M (L :: outer.filterMap (·.frame)) h h') (hM : ∀ a ∈ M, g.get? a = none) :
    Fr (retake g h') L h' m ∧ Below A base outer (retake g h') ∧ Slotty [] (outer.filterMap (·.frame)) g (retake g h') := by
  have hgL : g.get? L = none := Heap.get?_none_of_le F.above
  have gk : ∀ b o, g.get? b = some o → b ∉ outer.filterMap (·.frame) → h'.get? b = some o := fun b o e n =>
    k.keep b o (F.keep b o e) (fun q => by rw [hM b q] at e; cases e) fun q => by
      rcases List.mem_cons.mp q with rfl | q
      · rw [hgL] at e; cases e
      · exact n q
  have gs : ∀ a ∈ outer.filterMap (·.frame), ∀ o, g.get? a = some o → ∃ sl, h'.get? a = some { o with slots := sl } := fun a ha o e => k.slot a (.tail _ ha) o (F.keep a o e)
  have S : Slotty [] (outer.filterMap (·.frame)) g (retake g h') := ⟨fun b o e _ n => retake_some e (gk b o e n), fun a ha o e => by
    obtain ⟨sl, e1⟩ := gs a ha o e
    exact ⟨sl, retake_some e e1⟩⟩
  refine ⟨⟨?_, fun b o e => retake_of e, by rw [retake_size]; exact F.above⟩, ⟨B.stack, fun b o e => ?_, ?_⟩, S⟩
  · obtain ⟨oL, es, ep, hL, hd', hr⟩ := F.ns
    obtain ⟨sl, e1⟩ := k.slot L (.head _) oL hL
    exact ⟨_, es, ep, e1, hd', hr⟩
  · have e1 := B.stays b o e
    refine retake_some e1 (gk b o e1 fun q => ?_)
    rw [(B.frames.mem q).1] at e; cases e
  · refine B.frames.of_keeps fun b o e _ => ?_
    by_cases q : b ∈ outer.filterMap (·.frame)
    · obtain ⟨sl, e1⟩ := S.slot b q o e
      exact ⟨_, e1, rfl⟩
    · exact ⟨o, S.keep b o e List.not_mem_nil q, rfl⟩
theorem refit_news (B : Below A base outer g) (k : Slotty M (L :: outer.filterMap (·.frame)) h h') (N : News g L h news) (hMn : ∀ p ∈ news, p.1 ∉ M) : News (retake g h') L h' news := fun p hp => by
  obtain ⟨e, n, gn⟩ := N p hp
  refine ⟨k.keep p.1 p.2 e (hMn p hp) fun q => ?_, n, retake_none gn⟩
  rcases List.mem_cons.mp q with q | q
  · exact n q
  · obtain ⟨_, o, e2, _⟩ := B.frames.mem q
    rw [gn] at e2; cases e2
end
structure ThrownC (c : Value) (P : Params) (outer : List Env) (M : List Addr) (h : Heap) (sp : Int) (e : Addr) (h' : Heap) : Prop where
  fl : ∃ stay de k k' mt t t', FlyC c stay outer e de .none h' ∧ stay.get? de = some (tfDict P k k' mt t t' sp) ∧ (∀ b o, h.get? b = some o → b ∉ M → b ∉ outer.filterMap (·.frame) → stay.get? b = some o) ∧ (h.get? de = none ∨ de ∈ M)
  frames : ∀ a ∈ outer.filterMap (·.frame), ∀ o, h.get? a = some o → ∃ sl, h'.get? a = some { o with slots := sl }
theorem Thrown.toC {P : Params} {outer : List Env} {M : List Addr} {h h' : Heap} {sp : Int} {e : Addr} (y : Thrown P outer M h sp e h') : ThrownC .none P outer M h sp e h' := ⟨y.fl, y.frames⟩
inductive Caught (P : Params) (A : Around) (base g h' : Heap) (outer : List Env) (L e : Addr) (m : Str → Option Value) (news : List (Addr × Obj)) (sp : Int) (c : Value) : Prop
  | mk (de : Addr) (k k' : Tok) (mt : Str) (t t' : Tok) (vs : Array Value) (sl : Array (Option Value)) (F : Fr (retake g h') L h' m) (B : Below A base outer (retake g h')) (S : Slotty [] (outer.filterMap (·.frame)) g (retake g h'))
      (he : h'.get? e = some ⟨.ref 76, some de, .fields vs, sl⟩) (hv : vs[2]? = some c) (N : News (retake g h') L h' ((e, ⟨.ref 76, some de, .fields vs, sl⟩) :: (de, tfDict P k k' mt t t' sp) :: news)) : Caught P A base g h' outer L e m news sp c
section
variable {P : Params} {A : Around} {base g h h' : Heap} {env : Env} {outer : List Env} {L e : Addr} {m : Str → Option Value} {news : List (Addr × Obj)} {sp : Int} {c : Value}
theorem ThrownC.slotty {M : List Addr} (hf : env.frame = some L) (y : ThrownC c P (env :: outer) M h sp e h') : Slotty M (L :: outer.filterMap (·.frame)) h h' := by
  obtain ⟨⟨stay, de, k, k', mt, t, t', fly, hd', hs, hfr⟩, hfs⟩ := y
  rw [List.filterMap_cons, hf] at hs hfs
  exact ⟨fun b o e n n' => fly.keep b o (hs b o e n n'), hfs⟩
theorem ThrownC.caught (hf : env.frame = some L) (F : Fr g L h m) (B : Below A base outer g) (N : News g L h news) (y : ThrownC c P (env :: outer) [] h sp e h') :
    Caught P A base g h' outer L e m news sp c := by
  have S := y.slotty hf
  obtain ⟨⟨stay, de, k, k', mt, t, t', fly, hd', hs, hfr⟩, hfs⟩ := y
  obtain ⟨vs, T, oT, ts, sl, he, h1, h2, _⟩ := fly.tr
  obtain ⟨F', B', S'⟩ := refit F B S fun a ha => nomatch ha
  have N' := refit_news B S N fun p _ q => nomatch q
  have nfr : ∀ {x : Addr} {o : Obj}, stay.get? x = some o → x ∉ L :: outer.filterMap (·.frame) := fun {x o} e1 q => by
    have q' : x ∈ (env :: outer).filterMap (·.frame) := by rw [List.filterMap_cons, hf]; exact q
    rw [(fly.frames.mem q').1] at e1
    cases e1
  have hde : h.get? de = none := by
    rcases hfr with q | q
    · exact q
    · cases q
  have hxe : h.get? e = none := by
    cases q : h.get? e with
    | none => rfl
    | some o =>
      exfalso
      by_cases qf : e ∈ (env :: outer).filterMap (·.frame)
      · obtain ⟨_, o', e2, nd⟩ := fly.frames.mem qf
        rw [he] at e2
        cases e2
        exact nd _ rfl
      · have := hs e o q List.not_mem_nil qf
        rw [fly.new] at this
        cases this
  have old : ∀ {x : Addr}, h.get? x = none → (retake g h').get? x = none ∧ x ≠ L := fun {x} q => by
    constructor
    · refine retake_none ?_
      cases z : g.get? x with
      | none => rfl
      | some o => rw [F.keep _ _ z] at q; cases q
    · rintro rfl
      obtain ⟨oL, _, _, hL, _⟩ := F.ns
      rw [hL] at q; cases q
  refine ⟨de, k, k', mt, t, t', vs, sl, F', B', S', he, h2, fun p hp => ?_⟩
  rcases List.mem_cons.mp hp with rfl | hp
  · exact ⟨he, (old hxe).2, (old hxe).1⟩
  · rcases List.mem_cons.mp hp with rfl | hp
    · exact ⟨fly.keep _ _ hd', (old hde).2, (old hde).1⟩
    · exact N' p hp
end
end Mine
end
-- Ct2
section
namespace Mine
open PySem PySem.W PySem.Calls PyProof.Rows
set_option maxHeartbeats 1000000
theorem entry_unchain : entryFor table "proto.unchain" = some Builtin.«proto.unchain» := entryFor_of_tree (by kernel_rfl)
section
variable {w : World} {A : Around} {E : Value → Shared → Prop} {s : Shared} {e hv : Addr} {oe ov : Obj} {es vs : Array Value}
theorem wpAny_raiseNewH {α : Type} {Q : α → Shared → Prop} (hh : A.handled = some (.ref hv)) (hne : hv ≠ e) (hv1 : s.heap.get? hv = some ov) (hvd : ov.data = .fields vs) (h2 : vs[2]? = some .none)
    (he : s.heap.get? e = some oe) (hed : oe.data = .fields es) (hz : 2 < es.size)
    (hE : E (.ref e) { s with heap := s.heap.update e (Obj.mapFields (·.setIfInBounds 2 (.ref hv))) }) : wpAny (model PR w) A (raiseNew (.ref e) : Sem α) Q E s := by
  unfold raiseNew
  refine wpAny_bind (wpAny_handled ?_)
  rw [hh]
  dsimp only
  rw [if_pos (show (Value.ref hv != Value.ref e) = true by simp [hne])]
  refine wpAny_bind (wpAny_holding (wpAny_runValue (codeAny_builtin entry_unchain ?_)))
  unfold Builtin.«proto.unchain»
  dsimp only
  refine wpAny_bind (wpAny_field hv1 hvd h2 ?_)
  rw [if_pos (show (Value.none == Value.none) = true by rfl)]
  refine wpAny_pure ?_
  dsimp only
  refine wpAny_bind ?_
  show wpAny _ _ (setField (.ref e) 2 (.ref hv)) _ _ _
  exact wpAny_setField he hed hz (wpAny_throw hE)
theorem tf_matches {Q : Bool → Shared → Prop} (X : (top.heap_1 w.params).In s.heap) {fs : Array Value} {de : Option Addr} {sl : Array (Option Value)} (he : s.heap.get? e = some ⟨.ref 76, de, .fields fs, sl⟩) (hq : Q true s) : wpAny (model PR w) A (excMatches (.ref e) (.ref 76)) Q E s := by
  obtain ⟨h, g, d, tk, os⟩ := s
  dsimp only at he X
  have L1 : Looks (model PR w) h (typeOf (.ref e)) (.ref 76) := (Looks.ld he).andThen .now
  have L2 := tf_subB (w := w) X
  have hC := X 76 _ (by k_is)
  have L3 : Looks (model PR w) h (isInstance (.ref 76) (.type "tuple")) false := lk_of X (by kernel_rfl)
  have L4 : Looks (model PR w) h (isExcClass (.ref 76)) true := lk_of X (by kernel_rfl)
  have L5 : Looks (model PR w) h (isSubtype (.ref 76) (.ref 76)) true := lk_of X (by kernel_rfl)
  unfold excMatches
  refine wpAny_bind (L3.at ?_)
  simp only [Bool.false_eq_true, if_false]
  refine wpAny_bind (wpAny_pure ?_)
  simp only [List.forIn_cons, List.forIn_nil]
  refine wpAny_bind (wpAny_bind (wpAny_bind (L4.at ?_)))
  simp only [Bool.not_true, Bool.false_eq_true, if_false]
  refine wpAny_pure (wpAny_pure ?_)
  refine wpAny_bind (L1.at ?_)
  refine wpAny_bind (wpAny_bind (wpAny_bind (L5.at ?_)))
  simp only [if_true]
  exact wpAny_pure (wpAny_pure (wpAny_pure hq))
theorem catch_open {M : Model} {A : Around} {env : Env} {outer : List Env} {L : Addr} {P : Params} {h : Heap} {sp : Int} {X : Sem Flow} {Q : Flow → Shared → Prop} {c : Value} (hf : env.frame = some L) (hfr : A.frames = some (env :: outer)) (y : ThrownC c P (env :: outer) [] h sp e s.heap)
    (k : ∀ h2, ThrownC c P (env :: outer) [] h sp e h2 → wpAny M A X Q E { s with heap := h2 }) : wpAny M A (noteFrame (.ref e) env) (fun _ s₂ => wpAny M A (setFlight (.ref e) none) (fun _ s₃ => wpAny M A X Q E s₃) E s₂) E s := by
  obtain ⟨⟨stay, de, k1, k', mt, t, t', fly, hd', hs, hfr'⟩, hfs⟩ := y
  refine tf_note hfr hf fly fun h1 fly1 u1 => ?_
  refine tf_land (s := { s with heap := h1 }) fly1 fun h2 fly2 u2 => ?_
  refine k h2 ⟨⟨stay, de, k1, k', mt, t, t', fly2, hd', hs, hfr'⟩, fun a ha o hb => ?_⟩
  obtain ⟨sl, e1⟩ := hfs a ha o hb
  obtain ⟨_, o2, e2, nd⟩ := fly.frames.mem ha
  rw [e1] at e2
  cases e2
  obtain ⟨sl1, e3⟩ := u1 a _ e1 nd
  obtain ⟨sl2, e4⟩ := u2 a _ e3 nd
  exact ⟨sl2, e4⟩
theorem funFrames_upd {h h' base : Heap} {L : Addr} (k : ∀ b, b ≠ L → h'.get? b = h.get? b) (kL : ∃ o', h'.get? L = some o' ∧ ∀ vs, o'.data ≠ .fields vs) : ∀ {l : List Env}, h.FunFrames base l → h'.FunFrames base l
  | [], _ => trivial
  | env :: _, ⟨hk, ⟨L', o, hf, hn, ho, hd⟩, hr⟩ => by
    refine ⟨hk, ?_, funFrames_upd k kL hr⟩
    by_cases q : L' = L
    · obtain ⟨o', e1, e2⟩ := kL
      exact ⟨L, o', q ▸ hf, q ▸ hn, e1, e2⟩
    · exact ⟨L', o, hf, hn, (k L' q).trans ho, hd⟩
theorem FlyC.sameBut {c : Value} {stay h h' : Heap} {env : Env} {outer : List Env} {L e de : Addr} {fl : Value} (hf : env.frame = some L) (y : FlyC c stay (env :: outer) e de fl h) (k : ∀ b, b ≠ L → h'.get? b = h.get? b)
    (kL : ∃ o', h'.get? L = some o' ∧ ∀ vs, o'.data ≠ .fields vs) : FlyC c stay (env :: outer) e de fl h' := by
  have hm : L ∈ (env :: outer).filterMap (·.frame) := by rw [List.filterMap_cons, hf]; exact .head _
  obtain ⟨hkb, hen, hl, vs, T, oT, ts, sl, he, h1, h2, hnT, hTe, hT, hdT, h3⟩ := y
  obtain ⟨n1, oL, eL, nd⟩ := hl.mem hm
  have heL : e ≠ L := by
    rintro rfl
    rw [he] at eL; cases eL; exact nd _ rfl
  have hTL : T ≠ L := by
    rintro rfl
    rw [hT] at eL; cases eL; exact nd _ hdT
  exact ⟨fun b o q => (k b (fun z => by rw [z, n1] at q; cases q)).trans (hkb b o q), hen, funFrames_upd k kL hl, vs, T, oT, ts, sl, (k e heL).trans he, h1, h2, hnT, hTe, (k T hTL).trans hT, hdT, h3⟩
theorem thrown_newH {Mo : Model} {A : Around} {hm : Option Value} {env : Env} {outer : List Env} {L x dx : Addr} {P : Params} {M : List Addr} {h base : Heap} {sp : Int} {c : Value} {n : Str} {pos : Pos} {m : Str → Option Value} {E : Value → Shared → Prop} {Q : Unit → Shared → Prop}
    {k k' t t' : Tok} {mt : Str} {vs : Array Value} {sl : Array (Option Value)} {s : Shared}
    (U : Slotty M (outer.filterMap (·.frame)) h s.heap) (hL : h.get? L = none) (hfr : A.frames = some (env :: outer)) (hf : env.frame = some L) (hloc : env.locals = L) (hn : env.kindOf n = some .local)
    (hp : (env.scope.kind == .class || (env.scope.kind == .module && env.locals != env.globals)) = false)
    (hl : s.heap.FunFrames base (env :: outer)) (ns : s.heap.Ns L m) (e1 : s.heap.get? x = some ⟨.ref 76, some dx, .fields vs, sl⟩) (v1 : vs[1]? = some .none) (v2 : vs[2]? = some c) (fx : h.get? x = none)
    (e3 : s.heap.get? dx = some (tfDict P k k' mt t t' sp)) (fdx : h.get? dx = none) (ndx : dx ∉ (env :: outer).filterMap (·.frame))
    (hq : ∀ h'' tk, ThrownC c P outer M h sp x h'' → Q () { s with heap := h'', toks := tk }) {EE : Value → Shared → Prop} (hE : ∀ s', wpAny Mo A (leaving env (.ref x)) Q E s' → EE (.ref x) s') :
    AsSuiteRaised Mo (A.mark hm) env n pos (notedBy Mo (A.mark hm) env (cameBackBy Mo A env EE)) (.ref x) s := by
  have hmL : L ∈ (env :: outer).filterMap (·.frame) := by rw [List.filterMap_cons, hf]; exact .head _
  have nxe : dx ≠ x := fun q => by rw [q, e1] at e3; cases e3
  have hl' := funFrames_base (stay := hideAll s.heap (x :: (env :: outer).filterMap (·.frame))) hl fun a ha => hideAll_none _ (.tail _ ha)
  have hsd : (hideAll s.heap (x :: (env :: outer).filterMap (·.frame))).get? dx = some (tfDict P k k' mt t t' sp) := hideAll_get _ e3 fun q => by
    rcases List.mem_cons.mp q with q | q
    · exact nxe q
    · exact ndx q
  have hst : ∀ b o, h.get? b = some o → b ∉ M → b ∉ outer.filterMap (·.frame) → (hideAll s.heap (x :: (env :: outer).filterMap (·.frame))).get? b = some o := fun b o hb nM nf => hideAll_get _ (U.keep b o hb nM nf) fun q => by
    rcases List.mem_cons.mp q with rfl | q
    · rw [fx] at hb; cases hb
    · rw [List.filterMap_cons, hf] at q
      rcases List.mem_cons.mp q with rfl | q
      · rw [hL] at hb; cases hb
      · exact nf q
  have hkb : (hideAll s.heap (x :: (env :: outer).filterMap (·.frame))).StaysIn s.heap := fun b o q => of_hideAll _ q
  have hen : (hideAll s.heap (x :: (env :: outer).filterMap (·.frame))).get? x = none := hideAll_none _ (.head _)
  generalize hideAll s.heap (x :: (env :: outer).filterMap (·.frame)) = stay at hl' hsd hst hkb hen
  refine tf_note0 (A := A.mark hm) hfr hl' hf e1 hkb hen v1 v2 fun h1 y1 u1 => ?_
  refine wpAny_nameGoes (s := { s with heap := h1 }) hn (by rw [hloc]; exact u1.ns ns) hp fun h2 m' hn2 hs2 => ?_
  rw [hloc] at hn2 hs2
  have y2 := y1.sameBut hf (fun b hb => hs2.2 b hb) (by
    obtain ⟨oL, es, ep, q1, q2, _⟩ := hn2
    exact ⟨oL, q1, fun vs q => by rw [q2] at q; cases q⟩)
  refine tf_passOn (s := ⟨h2, _, _, _, _⟩) hf y2 fun h3 y3 u3 => ?_
  refine tf_noteAgain (s := ⟨h3, _, _, _, _⟩) hf y3 ?_
  refine tf_cameBack (s := ⟨h3, _, _, _, _⟩) hf y3 fun h4 y4 u4 => ?_
  refine hE _ ?_
  refine tf_leaveHeld (s := ⟨h4, _, _, _, _⟩) hf y4 fun h5 y5 u5 => hq h5 _ ⟨⟨stay, dx, k, k', mt, t, t', y5, hsd, hst, .inl fdx⟩, fun a ha o hb => ?_⟩
  have ha' : a ∈ (env :: outer).filterMap (·.frame) := by rw [List.filterMap_cons, hf]; exact .tail _ ha
  obtain ⟨sl0, z0⟩ := U.slot a ha o hb
  obtain ⟨_, o2, z1, nd⟩ := hl.mem ha'
  rw [z0] at z1
  cases z1
  have haL : a ≠ L := by
    rintro rfl
    rw [hL] at hb; cases hb
  obtain ⟨sl1, z1⟩ := u1 a _ z0 nd
  have z2 := (hs2.2 a haL).trans z1
  obtain ⟨sl3, z3⟩ := u3 a _ z2 nd
  obtain ⟨sl4, z4⟩ := u4 a _ z3 nd
  obtain ⟨sl5, z5⟩ := u5 a _ z4 nd
  exact ⟨sl5, z5⟩
theorem catch_land {M : Model} {A : Around} {env : Env} {outer : List Env} {P : Params} {h : Heap} {sp : Int} {Q : Unit → Shared → Prop} {E : Value → Shared → Prop} {s : Shared} {e : Addr} {c : Value} (y : ThrownC c P (env :: outer) [] h sp e s.heap)
    (k : ∀ h2, ThrownC c P (env :: outer) [] h sp e h2 → Q () { s with heap := h2 }) : wpAny M A (setFlight (.ref e) none) Q E s := by
  obtain ⟨⟨stay, de, k1, k', mt, t, t', fly, hd', hs, hfr'⟩, hfs⟩ := y
  refine tf_land fly fun h2 fly2 u2 => ?_
  refine k h2 ⟨⟨stay, de, k1, k', mt, t, t', fly2, hd', hs, hfr'⟩, fun a ha o hb => ?_⟩
  obtain ⟨sl, e1⟩ := hfs a ha o hb
  obtain ⟨_, o2, e2, nd⟩ := fly.frames.mem ha
  rw [e1] at e2
  cases e2
  obtain ⟨sl2, e4⟩ := u2 a _ e1 nd
  exact ⟨sl2, e4⟩
theorem raise_coreH {w : World} {A : Around} {E : Value → Shared → Prop} {env : Env} {Q : Flow → Shared → Prop} {x : Sem Value} {s : Shared} {hv : Addr} (hh : A.handled = some (.ref hv))
    (hx : wpAny (model PR w) A x (fun v s₁ => ∃ e dx tp vs sl de, v = .ref e ∧ (top.heap_1 w.params).In s₁.heap ∧ s₁.heap.get? e = some (tfObj dx tp) ∧ hv ≠ e ∧ s₁.heap.get? hv = some ⟨.ref 76, some de, .fields vs, sl⟩ ∧ vs[2]? = some .none ∧
      E (.ref e) { s₁ with heap := s₁.heap.update e (Obj.mapFields (·.setIfInBounds 2 (.ref hv))) }) E s) :
    wpAny (model PR w) A (raiseStmt env (some x) none) Q E s := by
  unfold raiseStmt
  refine wpAny_bind (wpAny_mono hx (fun v s₁ h₁ => ?_) fun _ _ x => x)
  obtain ⟨e, dx, tp, vs, sl, de, rfl, X, he, hne, hv1, hv2, hE⟩ := h₁
  obtain ⟨hp, g, d, tk, os⟩ := s₁
  dsimp only at X he hv1
  have L1 : Looks (model PR w) hp (typeOf (.ref e)) (.ref 76) := (Looks.ld he).andThen .now
  have L2 := tf_subB X
  have hC := X 76 _ (by k_is)
  repeat (first | exact wpAny_raiseNewH hh hne hv1 rfl hv2 he rfl (show 2 < 6 by decide) hE | lk)
theorem raise_tfH {w : World} {A : Around} {E : Value → Shared → Prop} {Q : Flow → Shared → Prop} {env : Env} {e : PySem.Expr} {pos : Pos} {s : Shared} {hv : Addr} (hh : A.handled = some (.ref hv))
    (h : wpAny (model PR w) A (eval e env) (fun v s₁ => ∃ e dx tp vs sl de, v = .ref e ∧ (top.heap_1 w.params).In s₁.heap ∧ s₁.heap.get? e = some (tfObj dx tp) ∧ hv ≠ e ∧ s₁.heap.get? hv = some ⟨.ref 76, some de, .fields vs, sl⟩ ∧ vs[2]? = some .none ∧
      E (.ref e) { s₁ with heap := s₁.heap.update e (Obj.mapFields (·.setIfInBounds 2 (.ref hv))) }) E s) :
    wpAny (model PR w) A (exec (.Raise (some e) none pos) env) Q E s := by
  rw [arm_exec_Raise]
  refine wpAny_bind (wpAny_standAt (raise_coreH hh ?_))
  simp only [evalOpt]
  exact wpAny_bind (wpAny_mono h (fun v s' h' => wpAny_bind (wpAny_standAt (wpAny_pure h'))) fun _ _ x => x)
end
end Mine
end
-- It1
section
namespace Mine
open PySem PySem.W PySem.Calls PyProof.Rows
set_option maxHeartbeats 1000000
section
variable {prog : Program} {w : World} {A : Around} {E : Value → Shared → Prop} {s : Shared} {env : Env} {h₀ : Heap} {x : Str} {body : List Stmt} {Q : Flow → Shared → Prop} {m : Str → Option Value} {news : List (Addr × Obj)}
theorem iter_list_inv {l : Addr} {items : Array Value} (hh : A.handled = none) (hl : s.heap.IsList l items) (hlL : l ≠ env.locals) (F : Fr h₀ env.locals s.heap m) (N : News h₀ env.locals s.heap news)
    (J : Nat → (Str → Option Value) → List (Addr × Obj) → Prop) (h0 : J 0 m news)
    (turn : ∀ i v m₁ news₁ h₁ tk₁ own, items[i]? = some v → J i m₁ news₁ → (∀ q ∈ own, q.1 = s.heap.objs.size ∨ q.1 = l) → (∀ p ∈ news₁, p.1 ≠ s.heap.objs.size) → (∃ o, h₁.get? s.heap.objs.size = some o ∧ ∃ y, o.data = y ∧ (∀ es n, y ≠ .dict es n) ∧ ∀ vs n, y ≠ .seq vs n) →
      Fr h₀ env.locals h₁ (fun y => if y = x then some v else m₁ y) → News h₀ env.locals h₁ (own ++ news₁) →
      wpAny (model prog w) A (execs body env) (LoopStepV h₀ env.locals [s.heap.objs.size] own (J (i + 1)) { s with heap := h₁, toks := tk₁ } (fun v s' => Q (.ret v) s') fun s' => Q .next s') E { s with heap := h₁, toks := tk₁ })
    (done : ∀ h' tk m' news', Fr h₀ env.locals h' m' → News h₀ env.locals h' news' → J items.size m' news' → Q .next { s with heap := h', toks := tk }) :
    wpAny (model prog w) A (pyIter (.ref l)) (fun it s₂ => LoopAtV prog w A h₀ env x body Q E it s₂) E s := by
  obtain ⟨ol, hol, hol2⟩ := id hl
  have hlt : l < s.heap.objs.size := Heap.lt_size hol
  have hne : l ≠ s.heap.objs.size := Nat.ne_of_lt hlt
  refine wpAny_pyIter_list hl ?_
  have W := Walks.list (prog := prog) (w := w) hh s.heap.objs.size l hne items
  refine ⟨s.heap.objs.size, [s.heap.objs.size, l], [s.heap.objs.size], items.size, _, _, m, news, J, rfl, W, ?_, ?_, ?_, ?_, F.push _, fun p hp => ⟨Heap.get?_push_of_some _ (N p hp).1, (N p hp).2⟩, h0, ?_, ?_⟩
  · intro hm
    rcases List.mem_cons.mp hm with e | hm
    · exact absurd F.ns.lt (e ▸ Nat.lt_irrefl _)
    · exact hlL (List.mem_singleton.mp hm).symm
  · intro b hb
    rw [List.mem_singleton.mp hb]
    exact next_is_new F
  · intro p hp hI
    exact absurd (Heap.lt_size (N p hp).1) ((List.mem_singleton.mp hI) ▸ Nat.lt_irrefl _)
  · exact ⟨⟨_, Heap.get?_push_size _ rfl, rfl, rfl⟩, hl.at fun o e => Heap.get?_push_of_some _ e⟩
  · rintro i v m₁ news₁ s₁ own ⟨hh', tk', rfl⟩ hi hv hJ hoff hsub _ _ st F₁ N₁
    refine turn i v m₁ news₁ hh' tk' own hv hJ (fun q hq => ?_) (fun p hp q => hoff p hp (by rw [q]; exact .head _)) ?_ F₁ N₁
    · rcases List.mem_cons.mp (hsub q hq) with e | e
      · exact .inl e
      · exact .inr (List.mem_singleton.mp e)
    · obtain ⟨⟨o, e, c, d⟩, _⟩ := st
      exact ⟨o, e, o.data, rfl, (fun es n q => by rw [q] at d; cases d), (fun vs n q => by rw [q] at d; cases d)⟩
  · intro h' tk m' news' F' N' _ hJ
    exact done h' tk m' news' F' N' hJ
end
end Mine
end
-- It3
section
namespace Mine
open PySem PySem.W PySem.Calls PyProof.Rows
set_option maxHeartbeats 1000000
section
variable {prog : Program} {w : World} {A : Around} {E : Value → Shared → Prop} {s : Shared} {env : Env} {h₀ : Heap} {elts : List PySem.Expr} {kk : Nat} {tp : Pos} {body : List Stmt} {Q : Flow → Shared → Prop} {m : Str → Option Value} {news : List (Addr × Obj)}
theorem iter_list_turns {l : Addr} {items : Array Value} (hh : A.handled = none) (hl : s.heap.IsList l items) (hrf : ∀ (i : Nat) (v : Value), items[i]? = some v → ∃ T : Addr, v = Value.ref T) (hlL : l ≠ env.locals) (F : Fr h₀ env.locals s.heap m) (N : News h₀ env.locals s.heap news)
    (J : Nat → (Str → Option Value) → List (Addr × Obj) → Prop) (h0 : J 0 m news)
    (turn : ∀ (i : Nat) (v : Value) m₁ news₁ h₁ tk₁ own, items[i]? = some v → J i m₁ news₁ → (∀ q ∈ own, q.1 = s.heap.objs.size ∨ q.1 = l) → (∀ p ∈ news₁, p.1 ≠ s.heap.objs.size) → (∃ o, h₁.get? s.heap.objs.size = some o ∧ ∃ y, o.data = y ∧ (∀ es n, y ≠ .dict es n) ∧ ∀ vs n, y ≠ .seq vs n) →
      Fr h₀ env.locals h₁ m₁ → News h₀ env.locals h₁ (own ++ news₁) →
      wpAny (model prog w) A (assign (.Tuple elts kk tp) env v) (fun _ s₃ => wpAny (model prog w) A (execs body env) (LoopStepV h₀ env.locals [s.heap.objs.size] own (J (i + 1)) { s with heap := h₁, toks := tk₁ } (fun v s' => Q (.ret v) s') fun s' => Q .next s') E s₃) E { s with heap := h₁, toks := tk₁ })
    (done : ∀ h' tk m' news', Fr h₀ env.locals h' m' → News h₀ env.locals h' news' → J items.size m' news' → Q .next { s with heap := h', toks := tk }) :
    wpAny (model prog w) A (pyIter (.ref l)) (fun it s₂ => TurnsAt prog w A h₀ env (.Tuple elts kk tp) body Q E it s₂) E s := by
  obtain ⟨ol, hol, hol2⟩ := id hl
  have hlt : l < s.heap.objs.size := Heap.lt_size hol
  have hne : l ≠ s.heap.objs.size := Nat.ne_of_lt hlt
  refine wpAny_pyIter_list hl ?_
  have W := Walks.list (prog := prog) (w := w) hh s.heap.objs.size l hne items
  have K : KTurns prog w A (.Tuple elts kk tp) s.heap.objs.size [s.heap.objs.size, l] [s.heap.objs.size] items.size (fun i v _ => items[i]? = some v) (fun i v h => items[i]? = some v ∧ (h.IsListIter s.heap.objs.size l (i + 1) ∧ h.IsList l items)) (fun i h => h.IsListIter s.heap.objs.size l i ∧ h.IsList l items) :=
    { sub := W.sub
      frame := W.frame
      item := fun i s Q E hi st hQ => W.item i s Q E hi st fun v h' tk hP st' hk => hQ v h' tk ⟨hP, st'⟩ hk
      go := fun i v s Q E hm hQ => by
        obtain ⟨T, rfl⟩ := hrf i v hm.1
        exact wpAny_letOwnedTupleGo_listiter hm.2.1 (hQ s.heap hm.1 hm.2 fun _ _ _ e => e)
      done := W.done }
  refine ⟨s.heap.objs.size, [s.heap.objs.size, l], [s.heap.objs.size], items.size, _, _, _, m, news, J, rfl, K, ?_, ?_, ?_, ?_, F.push _, fun p hp => ⟨Heap.get?_push_of_some _ (N p hp).1, (N p hp).2⟩, h0, ?_, ?_⟩
  · intro hm
    rcases List.mem_cons.mp hm with e | hm
    · exact absurd F.ns.lt (e ▸ Nat.lt_irrefl _)
    · exact hlL (List.mem_singleton.mp hm).symm
  · intro b hb
    rw [List.mem_singleton.mp hb]
    exact next_is_new F
  · intro p hp hI
    exact absurd (Heap.lt_size (N p hp).1) ((List.mem_singleton.mp hI) ▸ Nat.lt_irrefl _)
  · exact ⟨⟨_, Heap.get?_push_size _ rfl, rfl, rfl⟩, hl.at fun o e => Heap.get?_push_of_some _ e⟩
  · intro i v m₁ news₁ hh' tk' own hi hv hJ hoff hsub _ _ st F₁ N₁
    refine turn i v m₁ news₁ hh' tk' own hv hJ (fun q hq => ?_) (fun p hp q => hoff p hp (by rw [q]; exact .head _)) ?_ F₁ N₁
    · rcases List.mem_cons.mp (hsub q hq) with e | e
      · exact .inl e
      · exact .inr (List.mem_singleton.mp e)
    · obtain ⟨⟨o, e, c, d⟩, _⟩ := st
      exact ⟨o, e, o.data, rfl, (fun es n q => by rw [q] at d; cases d), (fun vs n q => by rw [q] at d; cases d)⟩
  · intro h' tk m' news' F' N' _ hJ
    exact done h' tk m' news' F' N' hJ
end
end Mine
end
-- M1
section
namespace Mine
open PySem PySem.W PySem.Calls PyProof.Rows
set_option maxHeartbeats 3000000
section
variable {prog : Program} {w : World} {A : Around} {E : Value → Shared → Prop} {g : Heap} {L : Addr} {m : Str → Option Value} {env : Env}
theorem comp_nil {elt iter c target : PySem.Expr} {scope : Scope} {cl : List (Str × Addr)} {pos : Pos} {s₁ : Shared} {l : Addr} {RR : Value → Addr → Result → Shared → Prop}
    (hh : A.handled = none) (hl : s₁.heap.IsList l #[]) (hcell : ∀ y ∈ scope.names, y.2 ≠ .cell) (hkind : scope.kind = .function)
    (fin : ∀ D C h tk m', Grow s₁.heap h → h.get? D = some (listOf #[] 0) → s₁.heap.get? D = none → h.Ns C m' → s₁.heap.get? C = none → C ≠ D → RR (.ref D) C (.ok .next) { s₁ with heap := h, toks := tk }) :
    wpAny (model prog w) A (pyIter (.ref l)) (fun it s₂ => wpAny (model prog w) A (newList []) (fun acc s₃ => wpAny (model prog w) A (newFunctionEnv scope env.globals cl [] env.qual none .none (some env)) (fun cenv s₄ =>
      codeAny (model prog w) A (.compStart (.ListComp elt [⟨target, iter, [c], 0⟩] scope pos) 0 it acc { cenv with scope := relabel scope env }) (RR acc cenv.locals) s₄) E s₃) E s₂) E s₁ := by
  refine comp_open hl hcell hkind fun I D C h₁ tk₁ up0 nI nD nC hID hIC hCD hI0 hD0 hn0 => ?_
  refine kct_loop (fun _ s' => s' = { s₁ with heap := h₁, toks := tk₁ }) ?_ 0 rfl
  rintro n s' rfl
  have hl' : h₁.IsList l #[] := by
    obtain ⟨o, ho, r⟩ := hl
    exact ⟨o, up0 _ _ ho, r⟩
  refine wpAny_pyNext_list_end hh hI0 hl' rfl fun h2 hs2 => ?_
  exact fin D C h2 _ _ (fun b o e => hs2 b o (fun q => by rw [q, nI] at e; cases e) (up0 _ _ e)) (hs2 _ _ (Ne.symm hID) hD0) nD (hn0.extBut hs2 (Ne.symm hIC)) nC hCD
theorem assign_comp {s : Shared} {elt iter target : PySem.Expr} {y : Str} {py : Pos} {ifs : List PySem.Expr} {scope : Scope} {cl : List (Str × Addr)} {pos spos : Pos} {Q : Flow → Shared → Prop}
    (hsw : swapsWith (.ListComp elt [⟨target, iter, ifs, 0⟩] scope pos) (some (.Name y py)) spos.line env = pure true)
    (hclos : closureFor scope env = pure cl) (hkind : scope.kind = .function) (hnames : ∀ z ∈ scope.names, z.2 = .local → scope.names.lookup z.1 = some .local)
    (h : wpAny (model prog w) A (eval iter env) (fun xv s₁ => wpAny (model prog w) A (pyIter xv) (fun it s₂ => wpAny (model prog w) A (newList []) (fun acc s₃ =>
      wpAny (model prog w) A (newFunctionEnv scope env.globals cl [] env.qual none .none (some env)) (fun cenv s₄ =>
        codeAny (model prog w) A (.compStart (.ListComp elt [⟨target, iter, ifs, 0⟩] scope pos) 0 it acc { cenv with scope := relabel scope env }) (compPost (model prog w) A E (some (assign (.Name y py) env)) (fun _ s' => Q .next s') acc cenv.locals) s₄) E s₃) E s₂) E s₁) E s)
    (hs : ∀ x, foldedSetIterable iter env x = pure x := by intro _; rfl) :
    wpAny (model prog w) A (exec (.Assign [.Name y py] (.ListComp elt [⟨target, iter, ifs, 0⟩] scope pos) spos) env) Q E s := by
  rw [exec_Assign_Name_used _ _ _ _ hsw]
  refine wpAny_bind (wpAny_standAt (wpAny_bind ?_))
  show wpAny _ A (do let _ ← comprehension (.ListComp elt [⟨target, iter, ifs, 0⟩] scope pos) scope env _ (newList []) false (eval iter env) (some (assign (.Name y py) env))) _ _ s
  exact wpAny_bind (wpAny_mono (wpAny_comprehension_free (use := some (assign (.Name y py) env)) (Q := fun _ s' => Q .next s') rfl hs hclos hkind hnames h) (fun _ s' hq => wpAny_pure (wpAny_pure hq)) fun _ _ e => e)
end
section
variable {w : World} {mean : ExcName → Option Value} {mg mb : Str → Option Value} {base : Heap} {outer : List Env} {dp un : Nat} {gd : Option (List Code)} {s : Shared} {R : Result → Shared → Prop}
noncomputable abbrev riScope : Scope := ⟨.function, [("self", .local), ("name", .local), ("left", .local), ("right", .local), ("needs", .local), ("known", .cell), ("asked", .local), ("kind", .local), ("one", .local), ("other", .local), ("lost", .local), ("is_variable", .globalImplicit), ("RuleFault", .globalImplicit), ("variables", .globalImplicit), ("list", .globalImplicit), ("tuple", .globalImplicit)], false, false,
  [("fast", .str "self"), ("fast", .str "name"), ("fast", .str "left"), ("fast", .str "right"), ("fast", .str "needs"), ("fast", .str "known"), ("fast", .str "asked"), ("fast", .str "kind"), ("fast", .str "one"), ("fast", .str "other"), ("fast", .str "late"), ("fast", .str "lost")]⟩
noncomputable abbrev riEnv (L : Addr) : Env := envOfC "Rule.__init__" riScope L 124 (.ref 123)
structure TmV (h : Heap) (v : Value) (T : Tm) : Prop where
  rd : Reads h v T.dat []
  nq : ∀ o ∈ T.ops, NoQ o
  len : T.words.length ≤ 1000000
  nest : T.nest ≤ 1000
theorem TmV.keeps {h h' : Heap} (k : KeepT h h') {v : Value} {T : Tm} (x : TmV h v T) : TmV h' v T := ⟨tm_keeps k T x.rd, x.nq, x.len, x.nest⟩
inductive NeedV (h : Heap) (dm : Nat) : Value → Prop
  | mk (a : Addr) (kd : Str) (tkd : Tok) (v1 v2 : Value) (T1 T2 : Tm) (ha : IsTup h a #[Value.str kd tkd, v1, v2]) (hk : kd = "alike" ∨ kd = "unlike") (h1 : TmV h v1 T1) (h2 : TmV h v2 T2) (n1 : T1.nest ≤ dm) (n2 : T2.nest ≤ dm) : NeedV h dm (.ref a)
inductive AskV (g : Heap) (NL : List (Addr × Obj)) (dm : Nat) : Value → Prop
  | mk (a : Addr) (kd : Str) (tkd : Tok) (v1 v2 : Value) (T1 T2 : Tm) (ha : ∀ h' : Heap, (∀ b o, g.get? b = some o → h'.get? b = some o) → (∀ p ∈ NL, h'.get? p.1 = some p.2) → IsTup h' a #[Value.str kd tkd, v1, v2])
      (hk : kd = "alike" ∨ kd = "unlike") (h1 : TmV g v1 T1) (h2 : TmV g v2 T2) (n1 : T1.nest ≤ dm) (n2 : T2.nest ≤ dm) : AskV g NL dm (.ref a)
theorem NeedV.ask {h g : Heap} {NL : List (Addr × Obj)} {dm : Nat} (k : KeepT h g) {v : Value} : NeedV h dm v → AskV g NL dm v
  | .mk a kd tkd v1 v2 T1 T2 ha hk h1 h2 n1 n2 => .mk a kd tkd v1 v2 T1 T2 (fun h' kg _ => (isTup_keepT k ha).keeps kg) hk (h1.keeps k) (h2.keeps k) n1 n2
inductive RIJ (NL : List (Addr × Obj)) (x nt : Addr) (nm : Str) (tn : Tok) (lv rv : Value) (i : Nat) (m : Str → Option Value) (nx : List (Addr × Obj)) : Prop
  | mk (hn : nx = NL) (m1 : m "self" = some (.ref x)) (m2 : m "name" = some (.str nm tn)) (m3 : m "left" = some lv) (m4 : m "right" = some rv) (m5 : m "needs" = some (.ref nt)) : RIJ NL x nt nm tn lv rv i m nx
noncomputable abbrev rimap (x nt : Addr) (nm : Str) (tn : Tok) (lv rv : Value) (u : Str → Option Value) : Str → Option Value := fun y => if y = "self" then some (.ref x) else if y = "name" then some (.str nm tn) else if y = "left" then some lv else if y = "right" then some rv else if y = "needs" then some (.ref nt) else u y
theorem rimap_of {m : Str → Option Value} {x nt : Addr} {nm : Str} {tn : Tok} {lv rv : Value} (m1 : m "self" = some (.ref x)) (m2 : m "name" = some (.str nm tn)) (m3 : m "left" = some lv) (m4 : m "right" = some rv) (m5 : m "needs" = some (.ref nt)) : ∀ y, m y = rimap x nt nm tn lv rv m y := fun y => by
  unfold rimap
  by_cases q1 : y = "self"
  · rw [if_pos q1, q1]; exact m1
  rw [if_neg q1]
  by_cases q2 : y = "name"
  · rw [if_pos q2, q2]; exact m2
  rw [if_neg q2]
  by_cases q3 : y = "left"
  · rw [if_pos q3, q3]; exact m3
  rw [if_neg q3]
  by_cases q4 : y = "right"
  · rw [if_pos q4, q4]; exact m4
  rw [if_neg q4]
  by_cases q5 : y = "needs"
  · rw [if_pos q5, q5]; exact m5
  rw [if_neg q5]
theorem news_comm {g h : Heap} {L : Addr} {a b : List (Addr × Obj)} (N : News g L h (a ++ b)) : News g L h (b ++ a) := fun p hp => N p (by
  rcases List.mem_append.mp hp with hp | hp
  · exact List.mem_append_right _ hp
  · exact List.mem_append_left _ hp)
theorem rule_init {nm : Str} {tn : Tok} {lv rv : Value} {Tl Tr : Tm} {x dx nt : Addr} {ns : List Value} {dm : Nat} (C : Cx w mean mg mb base outer (Ar dp un gd outer) s.heap) (hdep : dp + dm + 60 < recursionLimit) (hu : un + 400 < cLine)
    (hl : TmV s.heap lv Tl) (hr : TmV s.heap rv Tr) (nl : Tl.nest ≤ dm) (nr : Tr.nest ≤ dm)
    (hnt : IsTup s.heap nt ns.toArray) (hns : ∀ v ∈ ns, NeedV s.heap dm v) (hnl : ns.length ≤ 10) (ha : MutAt base outer s.heap (x, instObj 134 dx)) (hda : MutAt base outer s.heap (dx, emptyDict))
    (hk : ∀ h' k1 k2 k3 k4 tk, Upto [dx] s.heap h' → h'.get? dx = some (dictOf [⟨PyData.keyHash w.params "name", .str "name" k1, .str nm tn⟩, ⟨PyData.keyHash w.params "left", .str "left" k2, lv⟩, ⟨PyData.keyHash w.params "right", .str "right" k3, rv⟩, ⟨PyData.keyHash w.params "needs", .str "needs" k4, .ref nt⟩] 4) →
      R (.ok (.ret .none)) { s with heap := h', toks := tk }) :
    codeAny (model PR w) (Ar dp un gd outer) (.call (.ref 124) ⟨[.ref x, .str nm tn, lv, rv, .ref nt], []⟩) R s := by
  have hm : ∀ p ∈ [(x, instObj 134 dx), (dx, emptyDict)], MutAt base outer s.heap p := List.forall_mem_cons.mpr ⟨ha, List.forall_mem_cons.mpr ⟨hda, List.forall_mem_nil _⟩⟩
  have hxd : x ≠ dx := ne_obj ha.at_ hda.at_ (by simp)
  refine' enter_cells (A := Ar dp un gd outer) [("self", .ref x), ("name", .str nm tn), ("left", lv), ("right", rv), ("needs", .ref nt)] C [(x, instObj 134 dx), (dx, emptyDict)] hm ?k1 ?k2 ?k3 ?k4 ?k5 ?k6 ?_ ?c2 ?c3 ?c4
  case k1 => k_is
  case k2 => k_is
  case k3 => show dp < _; ((first | with_reducible assumption | exact Mine.lim (by assumption) | exact Mine.lim0 (by assumption) | exact Mine.lim2 (by assumption) | exact Mine.lim3 (by assumption) | exact Mine.lme (by assumption) | exact Mine.lml (by assumption) | exact Mine.lll (by assumption) | decide | lia))
  case k4 => exact BindsTo.of_eq rfl
  case k5 => exact rfl
  case k6 => decide +kernel
  case c2 => exact rfl
  case c3 => exact rfl
  case c4 => exact rfl
  intro g L h₁ tk cells F N Y B X T hin hout hsz
  k_cells Y
  rename_i oc hoc
  rw [List.cons_append, List.nil_append] at N
  have hxC : x ≠ L + 1 := fun q => by
    have z := N.get (.tail _ (.head _))
    rw [q, N.get (.head _)] at z
    rw [Option.some.inj z] at hoc
    cases hoc
  have hdC : dx ≠ L + 1 := fun q => by
    have z := N.get (.tail _ (.tail _ (.head _)))
    rw [q, N.get (.head _)] at z
    rw [Option.some.inj z] at hoc
    cases hoc
  have kTg : KeepT s.heap g := fun b o e t => hin b o e fun q => by
    rcases List.mem_cons.mp q with q | q
    · rw [q, ha.at_] at e; cases e; exact absurd t.1 (by simp)
    · rw [List.mem_singleton.mp q, hda.at_] at e; cases e; exact absurd t.1 (by simp)
  have hlg := hl.keeps kTg
  have hrg := hr.keeps kTg
  have hng := isTup_keepT kTg hnt
  try k_fold
  (repeat' ((fail_if_success with_reducible first|refine zz11 ?_|refine zz9 ?_|refine zz1 ?_|refine zz2 ?_|refine zz3 ?_|refine zz4 ?_|refine zz7 ?_|refine zz5 ?_|refine zz10 ?_|refine zz6 ?_); first | (k_unfold; (try dsimp only)) | (walk1; (all_goals (try dsimp only))) | (dsimp only; walk1; (all_goals (try dsimp only)))))
  refine wpAny_call (isvar_spec (s := ⟨h₁, _, _, _, _⟩) (Te := Tl) (cx_in (env := riEnv L) (A' := (Ar dp un gd outer).deeper (riEnv L)) C.X C.T B F rfl rfl rfl) (show dp + 1 + 10 < _ by ((first | with_reducible assumption | exact Mine.lim (by assumption) | exact Mine.lim0 (by assumption) | exact Mine.lim2 (by assumption) | exact Mine.lim3 (by assumption) | exact Mine.lme (by assumption) | exact Mine.lml (by assumption) | exact Mine.lll (by assumption) | decide | lia))) (hlg.keeps (KeepT.of F.keep)).rd hl.nq hl.len fun h2 tk2 u2 => ?_)
  have F2 := fr_upto F u2 (fun a ha => nomatch ha)
  have N2 := news_upto N u2
  clear F N
  try dsimp only
  (repeat' ((fail_if_success with_reducible first|refine zz11 ?_|refine zz9 ?_|refine zz1 ?_|refine zz2 ?_|refine zz3 ?_|refine zz4 ?_|refine zz7 ?_|refine zz5 ?_|refine zz10 ?_|refine zz6 ?_); first | (k_unfold; (try dsimp only)) | (walk1; (all_goals (try dsimp only))) | (dsimp only; walk1; (all_goals (try dsimp only)))))
  refine wpAny_call (variables_spec (s := ⟨h2, _, _, _, _⟩) (Te := Tl) (cx_in (env := riEnv L) (A' := (Ar dp un gd outer).deeper (riEnv L)) C.X C.T B F2 rfl rfl rfl) (show dp + 1 + Tl.nest + 30 < _ by ((first | with_reducible assumption | exact Mine.lim (by assumption) | exact Mine.lim0 (by assumption) | exact Mine.lim2 (by assumption) | exact Mine.lim3 (by assumption) | exact Mine.lme (by assumption) | exact Mine.lml (by assumption) | exact Mine.lll (by assumption) | decide | lia))) (hlg.keeps (KeepT.of F2.keep)).rd hl.nq hl.len hl.nest fun h3 Dk tk3 u3 f3 l3 => ?_)
  have qk := fr_new F2 f3
  have hkC : Dk ≠ L + 1 := fun q => by
    have z := N2.get (.head _)
    rw [← q] at z
    rw [f3] at z
    cases z
  have F3 := fr_upto F2 u3 (fun a ha => nomatch ha)
  have N3 := news_upto N2 u3
  clear F2 N2
  obtain ⟨ok, hok, hokc, nk, hokd⟩ := l3
  have N4 : News g L h3 [(L + 1, oc), (Dk, ok), (x, instObj 134 dx), (dx, emptyDict)] := fun p hp => by
    rcases List.mem_cons.mp hp with rfl | hp
    · exact N3 _ (.head _)
    · rcases List.mem_cons.mp hp with rfl | hp
      · exact ⟨hok, qk⟩
      · exact N3 p (.tail _ hp)
  have hC4 : ∀ p ∈ [(Dk, ok), (x, instObj 134 dx), (dx, emptyDict)], p.1 ≠ L + 1 := List.forall_mem_cons.mpr ⟨hkC, List.forall_mem_cons.mpr ⟨hxC, List.forall_mem_cons.mpr ⟨hdC, List.forall_mem_nil _⟩⟩⟩
  clear N3 hok
  try dsimp only
  (repeat' ((fail_if_success with_reducible first|refine zz11 ?_|refine zz9 ?_|refine zz1 ?_|refine zz2 ?_|refine zz3 ?_|refine zz4 ?_|refine zz7 ?_|refine zz5 ?_|refine zz10 ?_|refine zz6 ?_|refine zz12 ?_|refine zz8 ?_); first | (k_unfold; (try dsimp only)) | (walk1; (all_goals (try dsimp only))) | (dsimp only; walk1; (all_goals (try dsimp only)))))
  rename Fr g L _ _ => FF
  rename News g L _ _ => NN
  rename_i _ oK dK Da _ _ lA _ _
  refine PySem.W.list_copyKT FF NN (hng.keeps FF.keep) (fun Dl cl hh Fl Nl ll => ?_) (Nat.le_trans (show _ ≤ 16 by rw [List.size_toArray]; ((first | with_reducible assumption | exact Mine.lim (by assumption) | exact Mine.lim0 (by assumption) | exact Mine.lim2 (by assumption) | exact Mine.lim3 (by assumption) | exact Mine.lme (by assumption) | exact Mine.lml (by assumption) | exact Mine.lll (by assumption) | decide | lia))) (by decide))
  clear FF NN
  try dsimp only
  (repeat' ((fail_if_success with_reducible first|refine zz11 ?_|refine zz9 ?_|refine zz1 ?_|refine zz2 ?_|refine zz3 ?_|refine zz4 ?_|refine zz7 ?_|refine zz5 ?_|refine zz10 ?_|refine zz6 ?_|refine zz12 ?_|refine zz8 ?_); first | (k_unfold; (try dsimp only)) | (walk1; (all_goals (try dsimp only))) | (dsimp only; walk1; (all_goals (try dsimp only)))))
  rename Fr g L _ _ => FF
  rename News g L _ _ => NN
  refine kmk_add_lit (s := ⟨_, _, _, _, _⟩) (its := [Value.ref Da].toArray) (its2 := ns.toArray) (zs := .ref Da :: ns) FF NN ⟨_, NN.get (.tail _ (.head _)), rfl, _, rfl⟩ ⟨_, NN.get (.head _), rfl, _, rfl⟩ rfl (fun lQ hh FA NA lA => ?_) (Nat.le_trans (show 1 + ns.length ≤ 16 by ((first | with_reducible assumption | exact Mine.lim (by assumption) | exact Mine.lim0 (by assumption) | exact Mine.lim2 (by assumption) | exact Mine.lim3 (by assumption) | exact Mine.lme (by assumption) | exact Mine.lml (by assumption) | exact Mine.lll (by assumption) | decide | lia))) (by decide))
  clear FF NN
  try dsimp only
  (repeat' ((fail_if_success with_reducible first|refine zz11 ?_|refine zz9 ?_|refine zz1 ?_|refine zz2 ?_|refine zz3 ?_|refine zz4 ?_|refine zz7 ?_|refine zz5 ?_|refine zz10 ?_|refine zz6 ?_|refine zz12 ?_|refine zz8 ?_); first | (k_unfold; (try dsimp only)) | (walk1; (all_goals (try dsimp only))) | (dsimp only; walk1; (all_goals (try dsimp only)))))
  rename Fr g L _ _ => FF
  refine For_turns FF ?_
  (repeat' ((fail_if_success with_reducible first|refine zz11 ?_|refine zz9 ?_|refine zz1 ?_|refine zz2 ?_|refine zz3 ?_|refine zz4 ?_|refine zz7 ?_|refine zz5 ?_|refine zz10 ?_|refine zz6 ?_|refine zz12 ?_|refine zz8 ?_); first | (k_unfold; (try dsimp only)) | (walk1; (all_goals (try dsimp only))) | (dsimp only; walk1; (all_goals (try dsimp only)))))
  rename Fr g L _ _ => FF
  rename News g L _ _ => NN
  obtain ⟨NL, hNL⟩ : ∃ NL, NL = [(L + 1, oK), (Dk, ok), (x, instObj 134 dx), (dx, emptyDict), (Da, tupObj [Value.str "alike" tk3, rv, rv])] := ⟨_, rfl⟩
  rename_i h9
  have NNL : News g L h9 NL := by
    rw [hNL]
    exact news_cons (NN.get (.tail _ (.tail _ (.tail _ (.tail _ (.head _)))))) (NN _ (.tail _ (.tail _ (.tail _ (.tail _ (.head _)))))).2 (news_cons (NN.get (.tail _ (.tail _ (.tail _ (.tail _ (.tail _ (.head _))))))) (NN _ (.tail _ (.tail _ (.tail _ (.tail _ (.tail _ (.head _))))))).2 (news_cons (NN.get (.tail _ (.tail _ (.tail _ (.tail _ (.tail _ (.tail _ (.head _)))))))) (NN _ (.tail _ (.tail _ (.tail _ (.tail _ (.tail _ (.tail _ (.head _)))))))).2 (news_cons (NN.get (.tail _ (.tail _ (.tail _ (.tail _ (.tail _ (.tail _ (.tail _ (.head _))))))))) (NN _ (.tail _ (.tail _ (.tail _ (.tail _ (.tail _ (.tail _ (.tail _ (.head _))))))))).2 (news_cons (NN.get (.tail _ (.tail _ (.tail _ (.head _))))) (NN _ (.tail _ (.tail _ (.tail _ (.head _))))).2 news_nil))))
  have hask : ∀ (i : Nat) (v : Value), (Value.ref Da :: ns).toArray[i]? = some v → AskV g NL dm v := fun i v e => by
    rw [List.getElem?_toArray] at e
    rcases List.mem_cons.mp (List.mem_of_getElem? e) with rfl | hv
    · exact .mk Da "alike" tk3 rv rv Tr Tr (fun h' _ kt => ⟨_, kt (Da, tupObj [Value.str "alike" tk3, rv, rv]) (by rw [hNL]; exact (.tail _ (.tail _ (.tail _ (.tail _ (.head _)))))), rfl, _, rfl⟩) (.inl rfl) hrg hrg nr nr
    · exact (hns v hv).ask kTg
  refine iter_list_turns (s := ⟨_, _, _, _, _⟩) (items := (Value.ref Da :: ns).toArray) rfl ⟨_, NN.get (.head _), rfl, _, rfl⟩ (fun i v e => by cases hask i v e; exact ⟨_, rfl⟩) (NN _ (.head _)).2.1 FF NNL (RIJ NL x nt nm tn lv rv) (.mk rfl rfl rfl rfl rfl rfl) ?_ ?_
  · intro i v m₁ news₁ h1 tk1 own hi hJ hown hnI hoI F1 N1
    rcases hJ with ⟨hn1, m1, m2, m3, m4, m5⟩
    rw [hn1, hNL] at N1
    have N2 := news_comm N1
    have F2 := fr_map F1 (rimap_of m1 m2 m3 m4 m5)
    rcases hask i v hi with ⟨a, kd, tkd, v1, v2, T1, T2, hT, hkd, hT1, hT2, n1, n2⟩
    have hTa := hT h1 F1.keep fun p hp => (N2 p (List.mem_append_left _ (by rw [hNL] at hp; exact hp))).1
    rw [hn1] at hnI
    clear F1 N1 NN FF NNL hask
    try dsimp only [List.cons_append, List.nil_append] at N2
    try dsimp only
    (repeat' ((fail_if_success with_reducible first|refine zz11 ?_|refine zz9 ?_|refine zz1 ?_|refine zz2 ?_|refine zz3 ?_|refine zz4 ?_|refine zz7 ?_|refine zz5 ?_|refine zz10 ?_|refine zz6 ?_); first | (k_unfold; (try dsimp only)) | (walk1; (all_goals (try dsimp only))) | (dsimp only; walk1; (all_goals (try dsimp only)))))
    · refine assign_comp (cl := [("known", L + 1)]) (by rfl) rfl rfl (by decide) ?_
      (repeat' ((fail_if_success with_reducible first|refine zz11 ?_|refine zz9 ?_|refine zz1 ?_|refine zz2 ?_|refine zz3 ?_|refine zz4 ?_|refine zz7 ?_|refine zz5 ?_|refine zz10 ?_|refine zz6 ?_); first | (k_unfold; (try dsimp only)) | (walk1; (all_goals (try dsimp only))) | (dsimp only; walk1; (all_goals (try dsimp only)))))
      rename Fr g L _ _ => F5
      rename News g L _ _ => N5
      refine wpAny_call (variables_spec (s := ⟨_, _, _, _, _⟩) (Te := T1) (cx_in (env := riEnv L) (A' := (Ar dp un gd outer).deeper (riEnv L)) C.X C.T B F5 rfl rfl rfl) (show dp + 1 + T1.nest + 30 < _ by ((first | with_reducible assumption | exact Mine.lim (by assumption) | exact Mine.lim0 (by assumption) | exact Mine.lim2 (by assumption) | exact Mine.lim3 (by assumption) | exact Mine.lme (by assumption) | exact Mine.lml (by assumption) | exact Mine.lll (by assumption) | decide | lia))) (hT1.keeps (KeepT.of F5.keep)).rd hT1.nq hT1.len hT1.nest fun h6 D6 tk6 u6 f6 l6 => ?_)
      have q6 := fr_new F5 f6
      have F6 := fr_upto F5 u6 (fun a ha => nomatch ha)
      have N6 := news_upto N5 u6
      clear F5 N5
      obtain ⟨o6, ho6, hc6, n6, hd6⟩ := l6
      have N7 := news_cons ho6 q6 N6
      try dsimp only
      (repeat' ((fail_if_success with_reducible first|refine zz11 ?_|refine zz9 ?_|refine zz1 ?_|refine zz2 ?_|refine zz3 ?_|refine zz4 ?_|refine zz7 ?_|refine zz5 ?_|refine zz10 ?_|refine zz6 ?_); first | (k_unfold; (try dsimp only)) | (walk1; (all_goals (try dsimp only))) | (dsimp only; walk1; (all_goals (try dsimp only)))))
      refine wpAny_call (variables_spec (s := ⟨h6, _, _, _, _⟩) (Te := T2) (cx_in (env := riEnv L) (A' := (Ar dp un gd outer).deeper (riEnv L)) C.X C.T B F6 rfl rfl rfl) (show dp + 1 + T2.nest + 30 < _ by ((first | with_reducible assumption | exact Mine.lim (by assumption) | exact Mine.lim0 (by assumption) | exact Mine.lim2 (by assumption) | exact Mine.lim3 (by assumption) | exact Mine.lme (by assumption) | exact Mine.lml (by assumption) | exact Mine.lll (by assumption) | decide | lia))) (hT2.keeps (KeepT.of F6.keep)).rd hT2.nq hT2.len hT2.nest fun h7 D7 tk7 u7 f7 l7 => ?_)
      have F7 := fr_upto F6 u7 (fun a ha => nomatch ha)
      have N8 := news_upto N7 u7
      clear F6 N6 N7
      try dsimp only
      (repeat' ((fail_if_success with_reducible first|refine zz11 ?_|refine zz9 ?_|refine zz1 ?_|refine zz2 ?_|refine zz3 ?_|refine zz4 ?_|refine zz7 ?_|refine zz5 ?_|refine zz10 ?_|refine zz6 ?_); first | (k_unfold; (try dsimp only)) | (walk1; (all_goals (try dsimp only))) | (dsimp only; walk1; (all_goals (try dsimp only)))))
      refine add_lists (s := ⟨h7, _, _, _, _⟩) (vs := []) (ws := []) F7 N8 ⟨_, N8.get (.head _), hc6, n6, hd6⟩ l7 (fun h8 F8 N9 => ?_) (by decide)
      try dsimp only
      refine comp_nil (s₁ := Shared.mk h8 _ _ _ _) rfl ⟨_, N9.get (.head _), rfl, _, rfl⟩ (by decide) rfl fun D9 C9 h9 tk9 m9 up9 hD9 nD9 hn9 nC9 hCD9 => ?_
      have F9 := F8.keeps up9
      have qD9 := fr_new F8 nD9
      have qC9 := fr_new F8 nC9
      obtain ⟨oC, heC, hoC⟩ := PyProof.Rows.LCg.ns_obj hn9
      have N10 := news_cons heC qC9 (news_cons hD9 qD9 (fun p hp => ⟨up9 _ _ (N9 p hp).1, (N9 p hp).2⟩ : News g L h9 _))
      have offC : ∀ b o, h8.get? b = some o → b ≠ C9 := fun b o e q => by rw [q, nC9] at e; cases e
      have off9 := fun (p : Addr × Obj) (hp : p ∈ _) => offC p.1 p.2 (N9 p hp).1
      clear F8 F7
      show wpAny _ _ (assign (.Name "lost" _) _ (.ref D9)) _ _ _
      refine wpAny_assign_Name ?_
      (repeat' ((fail_if_success with_reducible first|refine zz11 ?_|refine zz9 ?_|refine zz1 ?_|refine zz2 ?_|refine zz3 ?_|refine zz4 ?_|refine zz7 ?_|refine zz5 ?_|refine zz10 ?_|refine zz6 ?_); first | (k_unfold; (try dsimp only)) | (walk1; (all_goals (try dsimp only))) | (dsimp only; walk1; (all_goals (try dsimp only)))))
      rename_i h10 F10 N11
      refine ⟨m9, hoC.ns (N11.get (.head _)), fun h11 hs11 => ?_⟩
      have u11 : Upto [C9] h10 h11 := fun b o e n => hs11.extBut b o (by simpa using n) e
      have F11 := fr_upto F10 u11 (fun b hb => by rw [List.mem_singleton.mp hb]; exact qC9)
      have N12 : News g L h11 ((D9, listOf #[] 0) :: _) := news_cons (u11 _ _ (N11.get (.tail _ (.head _))) (by simpa using Ne.symm hCD9)) qD9 (fun p hp => ⟨u11 _ _ (N11 p (.tail _ (.tail _ hp))).1 (by simpa using off9 p hp), (N11 p (.tail _ (.tail _ hp))).2⟩)
      clear F10 N11 u11 hs11 off9 offC
      try dsimp only
      (repeat' ((fail_if_success with_reducible first|refine zz11 ?_|refine zz9 ?_|refine zz1 ?_|refine zz2 ?_|refine zz3 ?_|refine zz4 ?_|refine zz7 ?_|refine zz5 ?_|refine zz10 ?_|refine zz6 ?_); first | (k_unfold; (try dsimp only)) | (walk1; (all_goals (try dsimp only))) | (dsimp only; walk1; (all_goals (try dsimp only)))))
      rename Fr g L _ _ => F20
      rename News g L _ _ => N20
      try dsimp only
      refine ⟨rfl, _, _, _, NL, rfl, F20, news_comm (a := NL) ?_, fun p hp q => hnI p hp (List.mem_singleton.mp q), .mk rfl rfl rfl rfl rfl rfl⟩
      rw [hNL]
      exact fun p hp => N20 p (by repeat first | exact hp | apply List.Mem.tail)
    · rename_i q
      rcases hkd with rfl | rfl <;> exact absurd q (by decide)
  · intro h1 tk1 m₁ news₁ F1 N1 hJ
    rcases hJ with ⟨hn1, m1, m2, m3, m4, m5⟩
    rw [hn1, hNL] at N1
    have F2 := fr_map F1 (rimap_of m1 m2 m3 m4 m5)
    have N21 : News g L h1 [(x, instObj 134 dx), (dx, emptyDict)] := news_cons (N1.get (.tail _ (.tail _ (.head _)))) (N1 _ (.tail _ (.tail _ (.head _)))).2 (news_cons (N1.get (.tail _ (.tail _ (.tail _ (.head _))))) (N1 _ (.tail _ (.tail _ (.tail _ (.head _))))).2 news_nil)
    clear F1 N1 NN FF NNL hask
    try dsimp only
    (repeat' ((fail_if_success with_reducible first|refine zz11 ?_|refine zz9 ?_|refine zz1 ?_|refine zz2 ?_|refine zz3 ?_|refine zz4 ?_|refine zz7 ?_|refine zz5 ?_|refine zz10 ?_|refine zz6 ?_); first | (k_unfold; (try dsimp only)) | (walk1; (all_goals (try dsimp only))) | (dsimp only; walk1; (all_goals (try dsimp only)))))
    rename Fr g L _ _ => F22
    rename News g L _ _ => N22
    have U := upto_end hm hin F22 N22 [dx] (List.forall_mem_cons.mpr ⟨.inr (.head _), List.forall_mem_cons.mpr ⟨.inl (.head _), List.forall_mem_nil _⟩⟩)
    exact hk _ _ _ _ _ _ U (N22.get (.tail _ (.head _)))
end
end Mine
end
-- N1
section
namespace Mine
open PySem PySem.W PySem.Calls PyProof.Rows
set_option maxHeartbeats 3000000
section
variable {w : World} {mean : ExcName → Option Value} {mg mb : Str → Option Value} {base : Heap} {outer : List Env} {dep un : Nat} {gd : Option (List Code)} {s : Shared} {R : Result → Shared → Prop}
    {x dx wl : Addr} {pl dp : Nat} {ws : List (Str × Nat)}
theorem need_spec {T1 T2 : Tm} {sg : Str} (C : Cx w mean mg mb base outer (Ar dep un gd outer) s.heap) (hdep : dep + T1.nest + T2.nest + 50 < recursionLimit) (hu : un + 10 * (T1.nest + T2.nest) + 300 < cLine)
    (hr : RdAt w.params base outer s.heap x dx wl pl 0) (W : Words s.heap wl ws) (hw : Here ws pl (T1.words ++ sg :: T2.words)) (hb : pl + T1.words.length + T2.words.length + 1 < 2 ^ 58) (hs : sg = "=" ∨ sg = "!=")
    (ho1 : ∀ o ∈ T1.ops, OpWord o) (ho2 : ∀ o ∈ T2.ops, OpWord o) (hl1 : T1.words.length ≤ 1000000) (hl2 : T2.words.length ≤ 1000000)
    (hk1 : T1.fault 0 = none → T2.fault 0 = none → ∀ h' tk nd v1 v2 tkd, Upto [dx] s.heap h' → RdAt w.params base outer h' x dx wl (pl + T1.words.length + 1 + T2.words.length) 0 →
      IsTup h' nd #[Value.str (if sg = "=" then "alike" else "unlike") tkd, v1, v2] → Reads h' v1 T1.dat [] → Reads h' v2 T2.dat [] → R (.ok (.ret (.ref nd))) { s with heap := h', toks := tk })
    (hk2 : ∀ i u p, (match T1.fault 0 with | some j => some j | none => (T2.fault 0).map (· + (T1.words.length + 1))) = some i → ws[pl + i]? = some (u, p) → ∀ h' tk e, Thrown w.params outer [dx] s.heap p e h' → R (.error (.ref e)) { s with heap := h', toks := tk }) :
    codeAny (model PR w) (Ar dep un gd outer) (.call (.ref 229) ⟨[.ref x], []⟩) R s := by
  obtain ⟨K, hm, hxd⟩ := hr.mu
  obtain ⟨hw1, hw2⟩ := hw.append
  obtain ⟨⟨ps, hps⟩, hw3⟩ := hw2.cons
  refine' enter_fn (A := Ar dep un gd outer) [("self", .ref x)] C [(x, instObj 258 dx), (dx, (dictOf (rdEs w.params K wl pl 0) 4))] hm ?k1 ?k2 ?k3 ?k4 ?k5 ?_ ?c2 ?c3 ?c4 ?c5
  ((case k1 => k_is); (case k2 => k_is); (case k3 => (show _ < _; first | ((first | with_reducible assumption | exact Mine.lim (by assumption) | exact Mine.lim0 (by assumption) | exact Mine.lim2 (by assumption) | exact Mine.lim3 (by assumption) | exact Mine.lme (by assumption) | exact Mine.lml (by assumption) | exact Mine.lll (by assumption) | decide | lia)) | (dsimp only; ((first | with_reducible assumption | exact Mine.lim (by assumption) | exact Mine.lim0 (by assumption) | exact Mine.lim2 (by assumption) | exact Mine.lim3 (by assumption) | exact Mine.lme (by assumption) | exact Mine.lml (by assumption) | exact Mine.lll (by assumption) | decide | lia))))); (case k4 => exact BindsTo.of_eq rfl); (case k5 => exact locs rfl); (case c2 => exact rfl); (case c3 => exact rfl); (case c4 => exact rfl); (case c5 => decide))
  intro g L' h₁ tk F N B X T hin hout hsz
  have W1 := W.keeps (in_g hm hin rd_cls)
  have hL : s.heap.get? L' = none := Heap.get?_none_of_le (by rw [← hsz]; exact F.above)
  have hoff : ∀ a ∈ [dx], a ∉ outer.filterMap (·.frame) := fun a ha => by rw [List.mem_singleton.mp ha]; exact (hm _ (.tail _ (.head _))).off
  try k_fold
  (repeat' ((fail_if_success with_reducible first|refine zz11 ?_|refine zz9 ?_|refine zz1 ?_|refine zz2 ?_|refine zz3 ?_|refine zz4 ?_|refine zz7 ?_|refine zz5 ?_|refine zz10 ?_|refine zz6 ?_); first | (k_unfold; (try dsimp only)) | walk1 | (dsimp only; walk1)))
  refine wpAny_call (term_spec T1.nest T1 (Nat.le_refl _) _ _ _ _ ⟨h₁, _, _, _, _⟩ _ x dx wl pl 0 ws (cx_in C.X C.T B F rfl rfl rfl) (show dep + 1 + T1.nest + 30 < _ by ((first | with_reducible assumption | exact Mine.lim (by assumption) | exact Mine.lim0 (by assumption) | exact Mine.lim2 (by assumption) | exact Mine.lim3 (by assumption) | exact Mine.lme (by assumption) | exact Mine.lml (by assumption) | exact Mine.lll (by assumption) | decide | lia))) (show un + 3 + 10 * T1.nest + 200 < _ by ((first | with_reducible assumption | exact Mine.lim (by assumption) | exact Mine.lim0 (by assumption) | exact Mine.lim2 (by assumption) | exact Mine.lim3 (by assumption) | exact Mine.lme (by assumption) | exact Mine.lml (by assumption) | exact Mine.lll (by assumption) | decide | lia))) (rd_in B rfl N) (W1.keeps (.of F.keep)) hw1 (by ((first | with_reducible assumption | exact Mine.lim (by assumption) | exact Mine.lim0 (by assumption) | exact Mine.lim2 (by assumption) | exact Mine.lim3 (by assumption) | exact Mine.lme (by assumption) | exact Mine.lml (by assumption) | exact Mine.lll (by assumption) | decide | lia))) (by ((first | with_reducible assumption | exact Mine.lim (by assumption) | exact Mine.lim0 (by assumption) | exact Mine.lim2 (by assumption) | exact Mine.lim3 (by assumption) | exact Mine.lme (by assumption) | exact Mine.lml (by assumption) | exact Mine.lll (by assumption) | decide | lia))) ho1 hl1 (fun hf h5 tk5 v5 u5 r5 e5 => ?_) fun i u p hf hp h5 tk5 e y => ?_)
  · obtain ⟨F5, _, N5⟩ := rd_step F N hxd (List.forall_mem_nil _) u5 r5
    clear F N
    have N6 := snap F5 N5
    have ht0 : ∀ p ∈ snapOf g h5, IsT p.2 := fun p hp => (mem_snap.mp hp).2.1
    have htd : ∀ p ∈ snapOf g h5, p.1 ≠ dx := fun p hp => ne_obj (mem_snap.mp hp).1 (N5.get (.tail _ (.head _))) (by rw [(ht0 p hp).1]; simp)
    have hkp : ∀ h' : Heap, (∀ b o, g.get? b = some o → h'.get? b = some o) → (∀ p ∈ snapOf g h5, h'.get? p.1 = some p.2) → Reads h' v5 T1.dat [] := fun h' kg kt => tm_keeps (snap_keep kg F5.keep kt) T1 e5
    generalize snapOf g h5 = tl at N6 ht0 hkp htd
    rw [List.cons_append, List.cons_append, List.nil_append] at N6
    clear N5
    try dsimp only
    (repeat' ((fail_if_success with_reducible first|refine zz11 ?_|refine zz9 ?_|refine zz1 ?_|refine zz2 ?_|refine zz3 ?_|refine zz4 ?_|refine zz7 ?_|refine zz5 ?_|refine zz10 ?_|refine zz6 ?_); first | (k_unfold; (try dsimp only)) | walk1 | (dsimp only; walk1)))
    rename_i h6 F6 N7
    refine wpAny_call (word_spec (s := ⟨h6, _, _, _, _⟩) (cx_in C.X C.T B F6 rfl rfl rfl) (show dep + 1 + 1 < _ by ((first | with_reducible assumption | exact Mine.lim (by assumption) | exact Mine.lim0 (by assumption) | exact Mine.lim2 (by assumption) | exact Mine.lim3 (by assumption) | exact Mine.lme (by assumption) | exact Mine.lml (by assumption) | exact Mine.lll (by assumption) | decide | lia))) (rd_in2 B rfl N7 (.head _) (.tail _ (.head _))) (W1.keeps (.of F6.keep)) hps (by ((first | with_reducible assumption | exact Mine.lim (by assumption) | exact Mine.lim0 (by assumption) | exact Mine.lim2 (by assumption) | exact Mine.lim3 (by assumption) | exact Mine.lme (by assumption) | exact Mine.lml (by assumption) | exact Mine.lll (by assumption) | decide | lia))) fun h7 t7 tk7 u7 => ?_)
    have F7 := fr_upto F6 u7 (fun a ha => nomatch ha)
    have N8 := news_upto N7 u7
    clear F6 N7
    try dsimp only
    (repeat' ((fail_if_success with_reducible first|refine zz11 ?_|refine zz9 ?_|refine zz1 ?_|refine zz2 ?_|refine zz3 ?_|refine zz4 ?_|refine zz7 ?_|refine zz5 ?_|refine zz10 ?_|refine zz6 ?_); first | (k_unfold; (try dsimp only)) | walk1 | (dsimp only; walk1)))
    · rename_i D8 h8 F8 N9 l8 q8
      have N10 : News g L' h8 ((x, instObj 258 dx) :: (dx, _) :: tl) := fun p hp => N9 p (.tail _ hp)
      clear N9
      refine wpAny_call (take_spec (s := ⟨h8, _, _, _, _⟩) (cx_in C.X C.T B F8 rfl rfl rfl) (show dep + 1 + 1 < _ by ((first | with_reducible assumption | exact Mine.lim (by assumption) | exact Mine.lim0 (by assumption) | exact Mine.lim2 (by assumption) | exact Mine.lim3 (by assumption) | exact Mine.lme (by assumption) | exact Mine.lml (by assumption) | exact Mine.lll (by assumption) | decide | lia))) (rd_in2 B rfl N10 (.head _) (.tail _ (.head _))) (W1.keeps (.of F8.keep)) hps (by ((first | with_reducible assumption | exact Mine.lim (by assumption) | exact Mine.lim0 (by assumption) | exact Mine.lim2 (by assumption) | exact Mine.lim3 (by assumption) | exact Mine.lme (by assumption) | exact Mine.lml (by assumption) | exact Mine.lll (by assumption) | decide | lia))) fun h9 t9 tk9 u9 r9 => ?_)
      obtain ⟨F9, _, N11⟩ := rd_step F8 N10 hxd htd u9 r9
      clear F8 N10
      try dsimp only
      (repeat' ((fail_if_success with_reducible first|refine zz11 ?_|refine zz9 ?_|refine zz1 ?_|refine zz2 ?_|refine zz3 ?_|refine zz4 ?_|refine zz7 ?_|refine zz5 ?_|refine zz10 ?_|refine zz6 ?_); first | (k_unfold; (try dsimp only)) | walk1 | (dsimp only; walk1)))
      all_goals
        rename_i q9 h10 F10 N12
        refine wpAny_call (term_spec T2.nest T2 (Nat.le_refl _) _ _ _ _ ⟨h10, _, _, _, _⟩ _ x dx wl (pl + T1.words.length + 1) 0 ws (cx_in C.X C.T B F10 rfl rfl rfl) (show dep + 1 + T2.nest + 30 < _ by ((first | with_reducible assumption | exact Mine.lim (by assumption) | exact Mine.lim0 (by assumption) | exact Mine.lim2 (by assumption) | exact Mine.lim3 (by assumption) | exact Mine.lme (by assumption) | exact Mine.lml (by assumption) | exact Mine.lll (by assumption) | decide | lia))) (show un + 3 + 10 * T2.nest + 200 < _ by ((first | with_reducible assumption | exact Mine.lim (by assumption) | exact Mine.lim0 (by assumption) | exact Mine.lim2 (by assumption) | exact Mine.lim3 (by assumption) | exact Mine.lme (by assumption) | exact Mine.lml (by assumption) | exact Mine.lll (by assumption) | decide | lia))) (rd_in2 B rfl N12 (.head _) (.tail _ (.head _))) (W1.keeps (.of F10.keep)) hw3 (by ((first | with_reducible assumption | exact Mine.lim (by assumption) | exact Mine.lim0 (by assumption) | exact Mine.lim2 (by assumption) | exact Mine.lim3 (by assumption) | exact Mine.lme (by assumption) | exact Mine.lml (by assumption) | exact Mine.lll (by assumption) | decide | lia))) (by ((first | with_reducible assumption | exact Mine.lim (by assumption) | exact Mine.lim0 (by assumption) | exact Mine.lim2 (by assumption) | exact Mine.lim3 (by assumption) | exact Mine.lme (by assumption) | exact Mine.lml (by assumption) | exact Mine.lll (by assumption) | decide | lia))) ho2 hl2 (fun hf2 h11 tk11 v11 u11 r11 e11 => ?_) fun i u p hf2 hp h11 tk11 e y => ?_)
        · obtain ⟨F11, _, N13⟩ := rd_step F10 N12 hxd htd u11 r11
          clear F10 N12
          have v5s := hkp h11 F11.keep fun p hp => N13.get (.tail _ (.tail _ hp))
          have N14 := snap F11 (fun p hp => N13 p (by
            rcases List.mem_cons.mp hp with q | hp
            · exact q ▸ .head _
            · rw [List.mem_singleton.mp hp]; exact .tail _ (.head _)) : News g L' h11 [_, _])
          have hkp2 : ∀ h' : Heap, (∀ b o, g.get? b = some o → h'.get? b = some o) → (∀ p ∈ snapOf g h11, h'.get? p.1 = some p.2) → KeepT h11 h' := fun h' kg kt => snap_keep kg F11.keep kt
          generalize snapOf g h11 = tl2 at N14 hkp2
          rw [List.cons_append, List.cons_append, List.nil_append] at N14
          clear N13
          try dsimp only
          (repeat' ((fail_if_success with_reducible first|refine zz11 ?_|refine zz9 ?_|refine zz1 ?_|refine zz2 ?_|refine zz3 ?_|refine zz4 ?_|refine zz7 ?_|refine zz5 ?_|refine zz10 ?_|refine zz6 ?_); first | (k_unfold; (try dsimp only)) | walk1 | (dsimp only; walk1)))
          rename_i D12 h12 F12 N15 l12
          have N16 : News g L' h12 ((x, instObj 258 dx) :: (dx, dictOf (rdEs w.params _ wl (pl + T1.words.length + 1 + T2.words.length) 0) 4) :: tl2) := fun p hp => N15 p (.tail _ hp)
          obtain ⟨a, b⟩ := rd_end hr hm hin F12 N16
          have kT := hkp2 h12 F12.keep fun p hp => N16.get (.tail _ (.tail _ hp))
          first
            | (simp only [if_pos q9] at hk1
               exact hk1 hf hf2 h12 _ D12 v5 v11 _ a b ⟨_, N15.get (.head _), rfl, 0, rfl⟩ (tm_keeps kT T1 v5s) (tm_keeps kT T2 e11))
            | (simp only [if_neg q9] at hk1
               exact hk1 hf hf2 h12 _ D12 v5 v11 _ a b ⟨_, N15.get (.head _), rfl, 0, rfl⟩ (tm_keeps kT T1 v5s) (tm_keeps kT T2 e11))
            | (simp only [beq_iff_eq, beq_eq_false_iff_ne, ne_eq] at q9
               simp only [q9, if_true, if_false] at hk1
               exact hk1 hf hf2 h12 _ D12 v5 v11 _ a b ⟨_, N15.get (.head _), rfl, 0, rfl⟩ (tm_keeps kT T1 v5s) (tm_keeps kT T2 e11))
        · have U := upto_end hm hin F10 N12 [dx] (List.forall_mem_cons.mpr ⟨.inr (.head _), List.forall_mem_cons.mpr ⟨.inl (.head _), List.forall_mem_nil _⟩⟩)
          exact thrown_leave U hL hoff rfl rfl y (fun a ha => .inl ha) fun h4 y4 => hk2 (i + (T1.words.length + 1)) u p (by rw [hf, hf2]; rfl) (by rw [← hp]; congr 1; ((first | with_reducible assumption | exact Mine.lim (by assumption) | exact Mine.lim0 (by assumption) | exact Mine.lim2 (by assumption) | exact Mine.lim3 (by assumption) | exact Mine.lme (by assumption) | exact Mine.lml (by assumption) | exact Mine.lll (by assumption) | decide | lia))) _ _ _ y4
    · rename_i q8
      rcases hs with rfl | rfl <;> exact absurd q8 (by decide)
  · have U := upto_end hm hin F N [dx] (List.forall_mem_cons.mpr ⟨.inr (.head _), List.forall_mem_cons.mpr ⟨.inl (.head _), List.forall_mem_nil _⟩⟩)
    exact thrown_leave U hL hoff rfl rfl y (fun a ha => .inl ha) fun h4 y4 => hk2 i u p (by rw [hf]) hp _ _ _ y4
end
end Mine
end
-- N2
section
namespace Mine
open PySem PySem.W PySem.Calls PyProof.Rows
set_option maxHeartbeats 3000000
section
variable {w : World} {mean : ExcName → Option Value} {mg mb : Str → Option Value} {base : Heap} {outer : List Env} {dep un : Nat} {gd : Option (List Code)} {s : Shared} {R : Result → Shared → Prop}
    {x dx wl : Addr} {pl dp : Nat} {ws : List (Str × Nat)}
theorem rule_spec0 {nm : Str} {Tl Tr : Tm} (C : Cx w mean mg mb base outer (Ar dep un gd outer) s.heap) (hdep : dep + Tl.nest + Tr.nest + 100 < recursionLimit) (hu : un + 10 * (Tl.nest + Tr.nest) + 500 < cLine)
    (hr : RdAt w.params base outer s.heap x dx wl 0 0) (W : Words s.heap wl ws) (hw : Here ws 0 (nm :: (":" : Str) :: (Tl.words ++ ("->" : Str) :: Tr.words))) (hnm : OpWord nm) {pe : Nat} (hend : ws[2 + Tl.words.length + 1 + Tr.words.length]? = some (("" : Str), pe)) (hbig : 2 + Tl.words.length + 1 + Tr.words.length < 2 ^ 58)
    (hlq : ∀ o ∈ Tl.ops, NoQ o) (hrq : ∀ o ∈ Tr.ops, NoQ o) (hll : Tl.words.length ≤ 1000000) (hlr : Tr.words.length ≤ 1000000) (hnl : Tl.nest ≤ 1000) (hnr : Tr.nest ≤ 1000)
    (hk1 : Tl.fault 0 = none → Tr.fault 0 = none → ∀ h' a da nt lv rv tn ka kb kc kd tk, Upto [dx] s.heap h' → s.heap.get? a = none → s.heap.get? da = none → h'.get? a = some (instObj 134 da) →
      h'.get? da = some (dictOf [⟨PyData.keyHash w.params "name", .str "name" ka, .str nm tn⟩, ⟨PyData.keyHash w.params "left", .str "left" kb, lv⟩, ⟨PyData.keyHash w.params "right", .str "right" kc, rv⟩, ⟨PyData.keyHash w.params "needs", .str "needs" kd, .ref nt⟩] 4) →
      IsTup h' nt #[] → Reads h' lv Tl.dat [] → Reads h' rv Tr.dat [] → RdAt w.params base outer h' x dx wl (2 + Tl.words.length + 1 + Tr.words.length) 0 → R (.ok (.ret (.ref a))) { s with heap := h', toks := tk })
    (hk2 : ∀ i u p, (match Tl.fault 0 with | some j => some (j + 2) | none => (Tr.fault 0).map (· + (Tl.words.length + 3))) = some i → ws[i]? = some (u, p) → ∀ h' tk e, Thrown w.params outer [dx] s.heap p e h' → R (.error (.ref e)) { s with heap := h', toks := tk }) :
    codeAny (model PR w) (Ar dep un gd outer) (.call (.ref 236) ⟨[.ref x], []⟩) R s := by
  obtain ⟨K, hm, hxd⟩ := hr.mu
  obtain ⟨⟨p0, hp0⟩, hw1⟩ := hw.cons
  obtain ⟨⟨p1, hp1⟩, hw2⟩ := hw1.cons
  obtain ⟨hw3, hw4⟩ := hw2.append
  obtain ⟨⟨p4, hp4⟩, hw5⟩ := hw4.cons
  refine' enter_fn (A := Ar dep un gd outer) [("self", .ref x)] C [(x, instObj 258 dx), (dx, (dictOf (rdEs w.params K wl 0 0) 4))] hm ?k1 ?k2 ?k3 ?k4 ?k5 ?_ ?c2 ?c3 ?c4 ?c5
  ((case k1 => k_is); (case k2 => k_is); (case k3 => (show _ < _; first | ((first | with_reducible assumption | exact Mine.lim (by assumption) | exact Mine.lim0 (by assumption) | exact Mine.lim2 (by assumption) | exact Mine.lim3 (by assumption) | exact Mine.lme (by assumption) | exact Mine.lml (by assumption) | exact Mine.lll (by assumption) | decide | lia)) | (dsimp only; ((first | with_reducible assumption | exact Mine.lim (by assumption) | exact Mine.lim0 (by assumption) | exact Mine.lim2 (by assumption) | exact Mine.lim3 (by assumption) | exact Mine.lme (by assumption) | exact Mine.lml (by assumption) | exact Mine.lll (by assumption) | decide | lia))))); (case k4 => exact BindsTo.of_eq rfl); (case k5 => exact locs rfl); (case c2 => exact rfl); (case c3 => exact rfl); (case c4 => exact rfl); (case c5 => decide))
  intro g L' h₁ tk F N B X T hin hout hsz
  have W1 := W.keeps (in_g hm hin rd_cls)
  have hL : s.heap.get? L' = none := Heap.get?_none_of_le (by rw [← hsz]; exact F.above)
  have hoff : ∀ a ∈ [dx], a ∉ outer.filterMap (·.frame) := fun a ha => by rw [List.mem_singleton.mp ha]; exact (hm _ (.tail _ (.head _))).off
  try k_fold
  (repeat' ((fail_if_success with_reducible first|refine zz11 ?_|refine zz9 ?_|refine zz1 ?_|refine zz2 ?_|refine zz3 ?_|refine zz4 ?_|refine zz7 ?_|refine zz5 ?_|refine zz10 ?_|refine zz6 ?_); first | (k_unfold; (try dsimp only)) | walk1 | (dsimp only; walk1)))
  refine wpAny_call (spot_spec (cx_in C.X C.T B F rfl rfl rfl) (show dep + 1 + 1 < _ by ((first | with_reducible assumption | exact Mine.lim (by assumption) | exact Mine.lim0 (by assumption) | exact Mine.lim2 (by assumption) | exact Mine.lim3 (by assumption) | exact Mine.lme (by assumption) | exact Mine.lml (by assumption) | exact Mine.lll (by assumption) | decide | lia))) (rd_in B rfl N) (W1.keeps (.of F.keep)) hp0 (by ((first | with_reducible assumption | exact Mine.lim (by assumption) | exact Mine.lim0 (by assumption) | exact Mine.lim2 (by assumption) | exact Mine.lim3 (by assumption) | exact Mine.lme (by assumption) | exact Mine.lml (by assumption) | exact Mine.lll (by assumption) | decide | lia))) fun h2 t2 tk2 u2 => ?_)
  have F2 := fr_upto F u2 (fun a ha => nomatch ha)
  have N2 := news_upto N u2
  clear F N
  try dsimp only
  (repeat' ((fail_if_success with_reducible first|refine zz11 ?_|refine zz9 ?_|refine zz1 ?_|refine zz2 ?_|refine zz3 ?_|refine zz4 ?_|refine zz7 ?_|refine zz5 ?_|refine zz10 ?_|refine zz6 ?_); first | (k_unfold; (try dsimp only)) | walk1 | (dsimp only; walk1)))
  refine wpAny_call (op_spec (s := ⟨h2, _, _, _, _⟩) (cx_in C.X C.T B F2 rfl rfl rfl) (show dep + 1 + 3 < _ by ((first | with_reducible assumption | exact Mine.lim (by assumption) | exact Mine.lim0 (by assumption) | exact Mine.lim2 (by assumption) | exact Mine.lim3 (by assumption) | exact Mine.lme (by assumption) | exact Mine.lml (by assumption) | exact Mine.lll (by assumption) | decide | lia))) (show un + 3 + 100 < _ by ((first | with_reducible assumption | exact Mine.lim (by assumption) | exact Mine.lim0 (by assumption) | exact Mine.lim2 (by assumption) | exact Mine.lim3 (by assumption) | exact Mine.lme (by assumption) | exact Mine.lml (by assumption) | exact Mine.lll (by assumption) | decide | lia))) (rd_in B rfl N2) (W1.keeps (.of F2.keep)) hp0 (by ((first | with_reducible assumption | exact Mine.lim (by assumption) | exact Mine.lim0 (by assumption) | exact Mine.lim2 (by assumption) | exact Mine.lim3 (by assumption) | exact Mine.lme (by assumption) | exact Mine.lml (by assumption) | exact Mine.lll (by assumption) | decide | lia))) hnm fun h3 tk3 t3 u3 r3 => ?_)
  obtain ⟨F3, _, N3⟩ := rd_step F2 N2 hxd (List.forall_mem_nil _) u3 r3
  clear F2 N2
  try dsimp only
  (repeat' ((fail_if_success with_reducible first|refine zz11 ?_|refine zz9 ?_|refine zz1 ?_|refine zz2 ?_|refine zz3 ?_|refine zz4 ?_|refine zz7 ?_|refine zz5 ?_|refine zz10 ?_|refine zz6 ?_); first | (k_unfold; (try dsimp only)) | walk1 | (dsimp only; walk1)))
  rename_i D4 _ _ _ _ h4 F4 N4
  have N5 : News g L' h4 [(x, instObj 258 dx), (dx, _)] := fun p hp => N4 p (.tail _ hp)
  clear N4
  refine wpAny_call (want_spec (s := ⟨h4, _, _, _, _⟩) (cx_in C.X C.T B F4 rfl rfl rfl) (show dep + 1 + 3 < _ by ((first | with_reducible assumption | exact Mine.lim (by assumption) | exact Mine.lim0 (by assumption) | exact Mine.lim2 (by assumption) | exact Mine.lim3 (by assumption) | exact Mine.lme (by assumption) | exact Mine.lml (by assumption) | exact Mine.lll (by assumption) | decide | lia))) (rd_in2 B rfl N5 (.head _) (.tail _ (.head _))) (W1.keeps (.of F4.keep)) hp1 (by ((first | with_reducible assumption | exact Mine.lim (by assumption) | exact Mine.lim0 (by assumption) | exact Mine.lim2 (by assumption) | exact Mine.lim3 (by assumption) | exact Mine.lme (by assumption) | exact Mine.lml (by assumption) | exact Mine.lll (by assumption) | decide | lia))) (by decide) fun h5 tk5 u5 r5 => ?_)
  obtain ⟨F5, _, N6⟩ := rd_step F4 N5 hxd (List.forall_mem_nil _) u5 r5
  clear F4 N5
  try dsimp only
  (repeat' ((fail_if_success with_reducible first|refine zz11 ?_|refine zz9 ?_|refine zz1 ?_|refine zz2 ?_|refine zz3 ?_|refine zz4 ?_|refine zz7 ?_|refine zz5 ?_|refine zz10 ?_|refine zz6 ?_); first | (k_unfold; (try dsimp only)) | walk1 | (dsimp only; walk1)))
  refine wpAny_call (term_spec Tl.nest Tl (Nat.le_refl _) _ _ _ _ ⟨h5, _, _, _, _⟩ _ x dx wl 2 0 ws (cx_in C.X C.T B F5 rfl rfl rfl) (show dep + 1 + Tl.nest + 30 < _ by ((first | with_reducible assumption | exact Mine.lim (by assumption) | exact Mine.lim0 (by assumption) | exact Mine.lim2 (by assumption) | exact Mine.lim3 (by assumption) | exact Mine.lme (by assumption) | exact Mine.lml (by assumption) | exact Mine.lll (by assumption) | decide | lia))) (show un + 3 + 10 * Tl.nest + 200 < _ by ((first | with_reducible assumption | exact Mine.lim (by assumption) | exact Mine.lim0 (by assumption) | exact Mine.lim2 (by assumption) | exact Mine.lim3 (by assumption) | exact Mine.lme (by assumption) | exact Mine.lml (by assumption) | exact Mine.lll (by assumption) | decide | lia))) (rd_in2 (pl := 2) B rfl N6 (.head _) (.tail _ (.head _))) (W1.keeps (.of F5.keep)) hw3 (by ((first | with_reducible assumption | exact Mine.lim (by assumption) | exact Mine.lim0 (by assumption) | exact Mine.lim2 (by assumption) | exact Mine.lim3 (by assumption) | exact Mine.lme (by assumption) | exact Mine.lml (by assumption) | exact Mine.lll (by assumption) | decide | lia))) (by ((first | with_reducible assumption | exact Mine.lim (by assumption) | exact Mine.lim0 (by assumption) | exact Mine.lim2 (by assumption) | exact Mine.lim3 (by assumption) | exact Mine.lme (by assumption) | exact Mine.lml (by assumption) | exact Mine.lll (by assumption) | decide | lia))) (fun o ho => (hlq o ho).word) hll (fun hf h6 tk6 v6 u6 r6 e6 => ?_) fun i u p hf hp h6 tk6 e y => ?_)
  · obtain ⟨F6, _, N7⟩ := rd_step F5 N6 hxd (List.forall_mem_nil _) u6 r6
    clear F5 N6
    have N8 := snap F6 N7
    have ht0 : ∀ p ∈ snapOf g h6, IsT p.2 := fun p hp => (mem_snap.mp hp).2.1
    have htd : ∀ p ∈ snapOf g h6, p.1 ≠ dx := fun p hp => ne_obj (mem_snap.mp hp).1 (N7.get (.tail _ (.head _))) (by rw [(ht0 p hp).1]; simp)
    have hkp : ∀ h' : Heap, (∀ b o, g.get? b = some o → h'.get? b = some o) → (∀ p ∈ snapOf g h6, h'.get? p.1 = some p.2) → Reads h' v6 Tl.dat [] := fun h' kg kt => tm_keeps (snap_keep kg F6.keep kt) Tl e6
    generalize snapOf g h6 = tl at N8 ht0 hkp htd
    rw [List.cons_append, List.cons_append, List.nil_append] at N8
    clear N7
    try dsimp only
    (repeat' ((fail_if_success with_reducible first|refine zz11 ?_|refine zz9 ?_|refine zz1 ?_|refine zz2 ?_|refine zz3 ?_|refine zz4 ?_|refine zz7 ?_|refine zz5 ?_|refine zz10 ?_|refine zz6 ?_); first | (k_unfold; (try dsimp only)) | walk1 | (dsimp only; walk1)))
    rename_i h7 F7 N9
    refine wpAny_call (want_spec (s := ⟨h7, _, _, _, _⟩) (pl := 2 + Tl.words.length) (cx_in C.X C.T B F7 rfl rfl rfl) (show dep + 1 + 3 < _ by ((first | with_reducible assumption | exact Mine.lim (by assumption) | exact Mine.lim0 (by assumption) | exact Mine.lim2 (by assumption) | exact Mine.lim3 (by assumption) | exact Mine.lme (by assumption) | exact Mine.lml (by assumption) | exact Mine.lll (by assumption) | decide | lia))) (rd_in2 B rfl N9 (.head _) (.tail _ (.head _))) (W1.keeps (.of F7.keep)) hp4 (by ((first | with_reducible assumption | exact Mine.lim (by assumption) | exact Mine.lim0 (by assumption) | exact Mine.lim2 (by assumption) | exact Mine.lim3 (by assumption) | exact Mine.lme (by assumption) | exact Mine.lml (by assumption) | exact Mine.lll (by assumption) | decide | lia))) (by decide) fun h8 tk8 u8 r8 => ?_)
    obtain ⟨F8, _, N10⟩ := rd_step F7 N9 hxd htd u8 r8
    clear F7 N9
    try dsimp only
    (repeat' ((fail_if_success with_reducible first|refine zz11 ?_|refine zz9 ?_|refine zz1 ?_|refine zz2 ?_|refine zz3 ?_|refine zz4 ?_|refine zz7 ?_|refine zz5 ?_|refine zz10 ?_|refine zz6 ?_); first | (k_unfold; (try dsimp only)) | walk1 | (dsimp only; walk1)))
    refine wpAny_call (term_spec Tr.nest Tr (Nat.le_refl _) _ _ _ _ ⟨h8, _, _, _, _⟩ _ x dx wl (2 + Tl.words.length + 1) 0 ws (cx_in C.X C.T B F8 rfl rfl rfl) (show dep + 1 + Tr.nest + 30 < _ by ((first | with_reducible assumption | exact Mine.lim (by assumption) | exact Mine.lim0 (by assumption) | exact Mine.lim2 (by assumption) | exact Mine.lim3 (by assumption) | exact Mine.lme (by assumption) | exact Mine.lml (by assumption) | exact Mine.lll (by assumption) | decide | lia))) (show un + 3 + 10 * Tr.nest + 200 < _ by ((first | with_reducible assumption | exact Mine.lim (by assumption) | exact Mine.lim0 (by assumption) | exact Mine.lim2 (by assumption) | exact Mine.lim3 (by assumption) | exact Mine.lme (by assumption) | exact Mine.lml (by assumption) | exact Mine.lll (by assumption) | decide | lia))) (rd_in2 B rfl N10 (.head _) (.tail _ (.head _))) (W1.keeps (.of F8.keep)) hw5 (by ((first | with_reducible assumption | exact Mine.lim (by assumption) | exact Mine.lim0 (by assumption) | exact Mine.lim2 (by assumption) | exact Mine.lim3 (by assumption) | exact Mine.lme (by assumption) | exact Mine.lml (by assumption) | exact Mine.lll (by assumption) | decide | lia))) (by ((first | with_reducible assumption | exact Mine.lim (by assumption) | exact Mine.lim0 (by assumption) | exact Mine.lim2 (by assumption) | exact Mine.lim3 (by assumption) | exact Mine.lme (by assumption) | exact Mine.lml (by assumption) | exact Mine.lll (by assumption) | decide | lia))) (fun o ho => (hrq o ho).word) hlr (fun hf2 h9 tk9 v9 u9 r9 e9 => ?_) fun i u p hf2 hp h9 tk9 e y => ?_)
    · obtain ⟨F9, _, N11⟩ := rd_step F8 N10 hxd htd u9 r9
      clear F8 N10
      have v6s := hkp h9 F9.keep fun p hp => N11.get (.tail _ (.tail _ hp))
      have N12 := snap F9 (fun p hp => N11 p (by
        rcases List.mem_cons.mp hp with q | hp
        · exact q ▸ .head _
        · rw [List.mem_singleton.mp hp]; exact .tail _ (.head _)) : News g L' h9 [_, _])
      have hs0 : ∀ p ∈ snapOf g h9, IsT p.2 := fun p hp => (mem_snap.mp hp).2.1
      have hsd : ∀ p ∈ snapOf g h9, p.1 ≠ dx := fun p hp => ne_obj (mem_snap.mp hp).1 (N11.get (.tail _ (.head _))) (by rw [(hs0 p hp).1]; simp)
      have hkp2 : ∀ h' : Heap, (∀ b o, g.get? b = some o → h'.get? b = some o) → (∀ p ∈ snapOf g h9, h'.get? p.1 = some p.2) → KeepT h9 h' := fun h' kg kt => snap_keep kg F9.keep kt
      generalize snapOf g h9 = tl2 at N12 hs0 hsd hkp2
      rw [List.cons_append, List.cons_append, List.nil_append] at N12
      clear N11
      try dsimp only
      (repeat' ((fail_if_success with_reducible first|refine zz11 ?_|refine zz9 ?_|refine zz1 ?_|refine zz2 ?_|refine zz3 ?_|refine zz4 ?_|refine zz7 ?_|refine zz5 ?_|refine zz10 ?_|refine zz6 ?_); first | (k_unfold; (try dsimp only)) | walk1 | (dsimp only; walk1)))
      rename_i l9 _ _ _ _ D10 _ _ h10 F10 N13
      have N14 : News g L' h10 ((l9, PySem.W.listOf #[] 0) :: (x, instObj 258 dx) :: (dx, _) :: tl2) := fun p hp => N13 p (.tail _ hp)
      clear N13
      refine wpAny_call (word_spec (s := ⟨h10, _, _, _, _⟩) (cx_in C.X C.T B F10 rfl rfl rfl) (show dep + 1 + 1 < _ by ((first | with_reducible assumption | exact Mine.lim (by assumption) | exact Mine.lim0 (by assumption) | exact Mine.lim2 (by assumption) | exact Mine.lim3 (by assumption) | exact Mine.lme (by assumption) | exact Mine.lml (by assumption) | exact Mine.lll (by assumption) | decide | lia))) (rd_in2 B rfl N14 (.tail _ (.head _)) (.tail _ (.tail _ (.head _)))) (W1.keeps (.of F10.keep)) hend (by ((first | with_reducible assumption | exact Mine.lim (by assumption) | exact Mine.lim0 (by assumption) | exact Mine.lim2 (by assumption) | exact Mine.lim3 (by assumption) | exact Mine.lme (by assumption) | exact Mine.lml (by assumption) | exact Mine.lll (by assumption) | decide | lia))) fun h11 t11 tk11 u11 => ?_)
      have F11 := fr_upto F10 u11 (fun a ha => nomatch ha)
      have N15 := news_upto N14 u11
      clear F10 N14
      try dsimp only
      (repeat' ((fail_if_success with_reducible first|refine zz11 ?_|refine zz9 ?_|refine zz1 ?_|refine zz2 ?_|refine zz3 ?_|refine zz4 ?_|refine zz7 ?_|refine zz5 ?_|refine zz10 ?_|refine zz6 ?_); first | (k_unfold; (try dsimp only)) | walk1 | (dsimp only; walk1)))
      walk1
      (repeat' ((fail_if_success with_reducible first|refine zz11 ?_|refine zz9 ?_|refine zz1 ?_|refine zz2 ?_|refine zz3 ?_|refine zz4 ?_|refine zz7 ?_|refine zz5 ?_|refine zz10 ?_|refine zz6 ?_); first | (k_unfold; (try dsimp only)) | walk1 | (dsimp only; walk1)))
      refine' call_cls ?k1 ?k2 ?k3 ?k4 ?k5 ?k6 ?_
      case k1 => k_asm
      case k2 => k_asm
      case k3 => k_asm
      case k4 => k_is
      case k5 => k_is
      case k6 => k_is
      intro a da h12 F12 N16 l12 l13
      have kT := hkp2 h12 F12.keep fun p hp => N16.get (.tail _ (.tail _ (.tail _ (.tail _ (.tail _ (.tail _ hp))))))
      have r6' := tm_keeps kT Tl v6s
      have r9' := tm_keeps kT Tr e9
      have tN : IsTup h12 _ #[] := ⟨_, N16.get (.tail _ (.tail _ (.head _))), rfl, _, rfl⟩
      refine rule_init (s := ⟨h12, _, _, _, _⟩) (Tl := Tl) (Tr := Tr) (ns := []) (dm := Tl.nest + Tr.nest) (cx_in C.X C.T B F12 rfl rfl rfl) (show dep + 1 + 1 + (Tl.nest + Tr.nest) + 60 < _ by ((first | with_reducible assumption | exact Mine.lim (by assumption) | exact Mine.lim0 (by assumption) | exact Mine.lim2 (by assumption) | exact Mine.lim3 (by assumption) | exact Mine.lme (by assumption) | exact Mine.lml (by assumption) | exact Mine.lll (by assumption) | decide | lia))) ?_ ⟨r6', hlq, hll, hnl⟩ ⟨r9', hrq, hlr, hnr⟩ (Nat.le_add_right _ _) (Nat.le_add_left _ _) tN (fun _ h => nomatch h) (by decide) (mut_in B rfl N16 (.head _)) (mut_in B rfl N16 (.tail _ (.head _))) fun h13 ka kb kc kd tk13 u13 e13 => ?_
      · have hq : (Code.builtin "type.__call__" (Args.mk [Value.ref 134, Value.str nm t3, v6, v9, Value.none] [])).cUnits ≤ 50 := by first | decide | exact Nat.le_of_ble_eq_true rfl
        show un + 3 + (1 + 3 * _) + 400 < _
        exact Nat.lt_of_le_of_lt (Nat.add_le_add_right (Nat.add_le_add_left hq _) _) (by ((first | with_reducible assumption | exact Mine.lim (by assumption) | exact Mine.lim0 (by assumption) | exact Mine.lim2 (by assumption) | exact Mine.lim3 (by assumption) | exact Mine.lme (by assumption) | exact Mine.lml (by assumption) | exact Mine.lll (by assumption) | decide | lia)))
      refine ⟨rfl, ?_⟩
      have F13 := fr_upto F12 u13 (fun b hb => by rw [List.mem_singleton.mp hb]; exact news_at N16 (.tail _ (.head _)))
      have kT13 : KeepT h12 h13 := fun b o e t => u13 b o e fun q => by
        rw [List.mem_singleton.mp q, N16.get (.tail _ (.head _))] at e
        cases e
        exact absurd t.1 (by simp)
      have N17 : News g L' h13 [(x, instObj 258 dx), (dx, dictOf (rdEs w.params _ wl (2 + Tl.words.length + 1 + Tr.words.length) 0) 4)] :=
        news_cons (u13 _ _ (N16.get (.tail _ (.tail _ (.tail _ (.tail _ (.head _)))))) (fun q => absurd (l12 _ (.tail _ (.tail _ (.head _)))) (by rw [List.mem_singleton.mp q]; exact Nat.lt_irrefl _))) (news_at N16 (.tail _ (.tail _ (.tail _ (.tail _ (.head _))))))
          (news_cons (u13 _ _ (N16.get (.tail _ (.tail _ (.tail _ (.tail _ (.tail _ (.head _))))))) (fun q => absurd (l12 _ (.tail _ (.tail _ (.tail _ (.head _))))) (by rw [List.mem_singleton.mp q]; exact Nat.lt_irrefl _))) (news_at N16 (.tail _ (.tail _ (.tail _ (.tail _ (.tail _ (.head _))))))) news_nil)
      obtain ⟨ua, ub⟩ := rd_end hr hm hin F13 N17
      have faa : s.heap.get? a = none := by
        cases q : s.heap.get? a with
        | none => rfl
        | some o =>
          have h1 : a ≠ x := ne_obj (N16.get (.head _)) (N16.get (.tail _ (.tail _ (.tail _ (.tail _ (.head _)))))) (by simp)
          have h2 : a ≠ dx := ne_obj (N16.get (.head _)) (N16.get (.tail _ (.tail _ (.tail _ (.tail _ (.tail _ (.head _))))))) (by simp)
          have := hin _ _ q (by
            intro hh
            rcases List.mem_cons.mp hh with hh | hh
            · exact h1 hh
            · exact h2 (List.mem_singleton.mp hh))
          rw [(N16 _ (.head _)).2.2] at this
          cases this
      have fda : s.heap.get? da = none := by
        cases q : s.heap.get? da with
        | none => rfl
        | some o =>
          have h1 : x < da := l12 _ (.tail _ (.tail _ (.head _)))
          have h2 : dx < da := l12 _ (.tail _ (.tail _ (.tail _ (.head _))))
          have := hin _ _ q (by
            intro hh
            rcases List.mem_cons.mp hh with hh | hh
            · exact absurd h1 (by rw [hh]; exact Nat.lt_irrefl _)
            · rw [List.mem_singleton.mp hh] at h2; exact absurd h2 (Nat.lt_irrefl _))
          rw [(N16 _ (.tail _ (.head _))).2.2] at this
          cases this
      exact hk1 hf hf2 h13 a da _ v6 v9 t3 ka kb kc kd _ ua faa fda (u13 _ _ (N16.get (.head _)) (fun q => absurd l13 (by rw [List.mem_singleton.mp q]; exact Nat.lt_irrefl _))) e13 (isTup_keepT kT13 tN) (tm_keeps kT13 Tl r6') (tm_keeps kT13 Tr r9') ub
    · have U := upto_end hm hin F8 N10 [dx] (List.forall_mem_cons.mpr ⟨.inr (.head _), List.forall_mem_cons.mpr ⟨.inl (.head _), List.forall_mem_nil _⟩⟩)
      exact thrown_leave U hL hoff rfl rfl y (fun a ha => .inl ha) fun h4 y4 => hk2 (i + (Tl.words.length + 3)) u p (by rw [hf, hf2]; rfl) (by rw [← hp]; congr 1; ((first | with_reducible assumption | exact Mine.lim (by assumption) | exact Mine.lim0 (by assumption) | exact Mine.lim2 (by assumption) | exact Mine.lim3 (by assumption) | exact Mine.lme (by assumption) | exact Mine.lml (by assumption) | exact Mine.lll (by assumption) | decide | lia))) _ _ _ y4
  · have U := upto_end hm hin F5 N6 [dx] (List.forall_mem_cons.mpr ⟨.inr (.head _), List.forall_mem_cons.mpr ⟨.inl (.head _), List.forall_mem_nil _⟩⟩)
    exact thrown_leave U hL hoff rfl rfl y (fun a ha => .inl ha) fun h4 y4 => hk2 (i + 2) u p (by rw [hf]) (by rw [← hp]; congr 1; ((first | with_reducible assumption | exact Mine.lim (by assumption) | exact Mine.lim0 (by assumption) | exact Mine.lim2 (by assumption) | exact Mine.lim3 (by assumption) | exact Mine.lme (by assumption) | exact Mine.lml (by assumption) | exact Mine.lll (by assumption) | decide | lia))) _ _ _ y4
end
end Mine
end
-- N3
section
namespace Mine
open PySem PySem.W PySem.Calls PyProof.Rows
set_option maxHeartbeats 3000000
section
variable {w : World} {mean : ExcName → Option Value} {mg mb : Str → Option Value} {base : Heap} {outer : List Env} {dep un : Nat} {gd : Option (List Code)} {s : Shared} {R : Result → Shared → Prop}
    {x dx wl : Addr} {pl dp : Nat} {ws : List (Str × Nat)}
theorem rule_spec1 {nm sg : Str} {Tl Tr T1 T2 : Tm} (C : Cx w mean mg mb base outer (Ar dep un gd outer) s.heap) (hdep : dep + Tl.nest + Tr.nest + T1.nest + T2.nest + 100 < recursionLimit) (hu : un + 10 * (Tl.nest + Tr.nest + T1.nest + T2.nest) + 500 < cLine)
    (hr : RdAt w.params base outer s.heap x dx wl 0 0) (W : Words s.heap wl ws) (hw : Here ws 0 (nm :: (":" : Str) :: (Tl.words ++ ("->" : Str) :: (Tr.words ++ ("if" : Str) :: (T1.words ++ sg :: T2.words))))) (hnm : OpWord nm) (hsg : sg = "=" ∨ sg = "!=") {pe : Nat} (hend : ws[2 + Tl.words.length + 1 + Tr.words.length + 1 + T1.words.length + 1 + T2.words.length]? = some (("" : Str), pe)) (hbig : 2 + Tl.words.length + 1 + Tr.words.length + 1 + T1.words.length + 1 + T2.words.length < 2 ^ 58)
    (hlq : ∀ o ∈ Tl.ops, NoQ o) (hrq : ∀ o ∈ Tr.ops, NoQ o) (hq1 : ∀ o ∈ T1.ops, NoQ o) (hq2 : ∀ o ∈ T2.ops, NoQ o) (hll : Tl.words.length ≤ 1000000) (hlr : Tr.words.length ≤ 1000000) (hl1 : T1.words.length ≤ 1000000) (hl2 : T2.words.length ≤ 1000000) (hnl : Tl.nest ≤ 1000) (hnr : Tr.nest ≤ 1000) (hn1 : T1.nest ≤ 1000) (hn2 : T2.nest ≤ 1000)
    (hk1 : Tl.fault 0 = none → Tr.fault 0 = none → T1.fault 0 = none → T2.fault 0 = none → ∀ h' a da nt nd lv rv v1 v2 tn tkd ka kb kc kd tk, Upto [dx] s.heap h' → s.heap.get? a = none → s.heap.get? da = none → h'.get? a = some (instObj 134 da) →
      h'.get? da = some (dictOf [⟨PyData.keyHash w.params "name", .str "name" ka, .str nm tn⟩, ⟨PyData.keyHash w.params "left", .str "left" kb, lv⟩, ⟨PyData.keyHash w.params "right", .str "right" kc, rv⟩, ⟨PyData.keyHash w.params "needs", .str "needs" kd, .ref nt⟩] 4) →
      IsTup h' nt #[Value.ref nd] → IsTup h' nd #[Value.str (if sg = "=" then "alike" else "unlike") tkd, v1, v2] → Reads h' v1 T1.dat [] → Reads h' v2 T2.dat [] → Reads h' lv Tl.dat [] → Reads h' rv Tr.dat [] → RdAt w.params base outer h' x dx wl (2 + Tl.words.length + 1 + Tr.words.length + 1 + T1.words.length + 1 + T2.words.length) 0 → R (.ok (.ret (.ref a))) { s with heap := h', toks := tk })
    (hk2 : ∀ i u p, (match Tl.fault 0 with | some j => some (j + 2) | none => match Tr.fault 0 with | some j => some (j + (Tl.words.length + 3)) | none => match T1.fault 0 with | some j => some (j + (Tl.words.length + Tr.words.length + 4)) | none => (T2.fault 0).map (· + (Tl.words.length + Tr.words.length + T1.words.length + 5))) = some i → ws[i]? = some (u, p) → ∀ h' tk e, Thrown w.params outer [dx] s.heap p e h' → R (.error (.ref e)) { s with heap := h', toks := tk }) :
    codeAny (model PR w) (Ar dep un gd outer) (.call (.ref 236) ⟨[.ref x], []⟩) R s := by
  obtain ⟨K, hm, hxd⟩ := hr.mu
  obtain ⟨⟨p0, hp0⟩, hw1⟩ := hw.cons
  obtain ⟨⟨p1, hp1⟩, hw2⟩ := hw1.cons
  obtain ⟨hw3, hw4⟩ := hw2.append
  obtain ⟨⟨p4, hp4⟩, hw5⟩ := hw4.cons
  obtain ⟨hw5, hw6⟩ := hw5.append
  obtain ⟨⟨p6, hp6⟩, hw7⟩ := hw6.cons
  refine' enter_fn (A := Ar dep un gd outer) [("self", .ref x)] C [(x, instObj 258 dx), (dx, (dictOf (rdEs w.params K wl 0 0) 4))] hm ?k1 ?k2 ?k3 ?k4 ?k5 ?_ ?c2 ?c3 ?c4 ?c5
  ((case k1 => k_is); (case k2 => k_is); (case k3 => (show _ < _; first | ((first | with_reducible assumption | exact Mine.lim (by assumption) | exact Mine.lim0 (by assumption) | exact Mine.lim2 (by assumption) | exact Mine.lim3 (by assumption) | exact Mine.lme (by assumption) | exact Mine.lml (by assumption) | exact Mine.lll (by assumption) | decide | lia)) | (dsimp only; ((first | with_reducible assumption | exact Mine.lim (by assumption) | exact Mine.lim0 (by assumption) | exact Mine.lim2 (by assumption) | exact Mine.lim3 (by assumption) | exact Mine.lme (by assumption) | exact Mine.lml (by assumption) | exact Mine.lll (by assumption) | decide | lia))))); (case k4 => exact BindsTo.of_eq rfl); (case k5 => exact locs rfl); (case c2 => exact rfl); (case c3 => exact rfl); (case c4 => exact rfl); (case c5 => decide))
  intro g L' h₁ tk F N B X T hin hout hsz
  have W1 := W.keeps (in_g hm hin rd_cls)
  have hL : s.heap.get? L' = none := Heap.get?_none_of_le (by rw [← hsz]; exact F.above)
  have hoff : ∀ a ∈ [dx], a ∉ outer.filterMap (·.frame) := fun a ha => by rw [List.mem_singleton.mp ha]; exact (hm _ (.tail _ (.head _))).off
  try k_fold
  (repeat' ((fail_if_success with_reducible first|refine zz11 ?_|refine zz9 ?_|refine zz1 ?_|refine zz2 ?_|refine zz3 ?_|refine zz4 ?_|refine zz7 ?_|refine zz5 ?_|refine zz10 ?_|refine zz6 ?_); first | (k_unfold; (try dsimp only)) | walk1 | (dsimp only; walk1)))
  refine wpAny_call (spot_spec (cx_in C.X C.T B F rfl rfl rfl) (show dep + 1 + 1 < _ by ((first | with_reducible assumption | exact Mine.lim (by assumption) | exact Mine.lim0 (by assumption) | exact Mine.lim2 (by assumption) | exact Mine.lim3 (by assumption) | exact Mine.lme (by assumption) | exact Mine.lml (by assumption) | exact Mine.lll (by assumption) | decide | lia))) (rd_in B rfl N) (W1.keeps (.of F.keep)) hp0 (by ((first | with_reducible assumption | exact Mine.lim (by assumption) | exact Mine.lim0 (by assumption) | exact Mine.lim2 (by assumption) | exact Mine.lim3 (by assumption) | exact Mine.lme (by assumption) | exact Mine.lml (by assumption) | exact Mine.lll (by assumption) | decide | lia))) fun h2 t2 tk2 u2 => ?_)
  have F2 := fr_upto F u2 (fun a ha => nomatch ha)
  have N2 := news_upto N u2
  clear F N
  try dsimp only
  (repeat' ((fail_if_success with_reducible first|refine zz11 ?_|refine zz9 ?_|refine zz1 ?_|refine zz2 ?_|refine zz3 ?_|refine zz4 ?_|refine zz7 ?_|refine zz5 ?_|refine zz10 ?_|refine zz6 ?_); first | (k_unfold; (try dsimp only)) | walk1 | (dsimp only; walk1)))
  refine wpAny_call (op_spec (s := ⟨h2, _, _, _, _⟩) (cx_in C.X C.T B F2 rfl rfl rfl) (show dep + 1 + 3 < _ by ((first | with_reducible assumption | exact Mine.lim (by assumption) | exact Mine.lim0 (by assumption) | exact Mine.lim2 (by assumption) | exact Mine.lim3 (by assumption) | exact Mine.lme (by assumption) | exact Mine.lml (by assumption) | exact Mine.lll (by assumption) | decide | lia))) (show un + 3 + 100 < _ by ((first | with_reducible assumption | exact Mine.lim (by assumption) | exact Mine.lim0 (by assumption) | exact Mine.lim2 (by assumption) | exact Mine.lim3 (by assumption) | exact Mine.lme (by assumption) | exact Mine.lml (by assumption) | exact Mine.lll (by assumption) | decide | lia))) (rd_in B rfl N2) (W1.keeps (.of F2.keep)) hp0 (by ((first | with_reducible assumption | exact Mine.lim (by assumption) | exact Mine.lim0 (by assumption) | exact Mine.lim2 (by assumption) | exact Mine.lim3 (by assumption) | exact Mine.lme (by assumption) | exact Mine.lml (by assumption) | exact Mine.lll (by assumption) | decide | lia))) hnm fun h3 tk3 t3 u3 r3 => ?_)
  obtain ⟨F3, _, N3⟩ := rd_step F2 N2 hxd (List.forall_mem_nil _) u3 r3
  clear F2 N2
  try dsimp only
  (repeat' ((fail_if_success with_reducible first|refine zz11 ?_|refine zz9 ?_|refine zz1 ?_|refine zz2 ?_|refine zz3 ?_|refine zz4 ?_|refine zz7 ?_|refine zz5 ?_|refine zz10 ?_|refine zz6 ?_); first | (k_unfold; (try dsimp only)) | walk1 | (dsimp only; walk1)))
  rename_i D4 _ _ _ _ h4 F4 N4
  have N5 : News g L' h4 [(x, instObj 258 dx), (dx, _)] := fun p hp => N4 p (.tail _ hp)
  clear N4
  refine wpAny_call (want_spec (s := ⟨h4, _, _, _, _⟩) (cx_in C.X C.T B F4 rfl rfl rfl) (show dep + 1 + 3 < _ by ((first | with_reducible assumption | exact Mine.lim (by assumption) | exact Mine.lim0 (by assumption) | exact Mine.lim2 (by assumption) | exact Mine.lim3 (by assumption) | exact Mine.lme (by assumption) | exact Mine.lml (by assumption) | exact Mine.lll (by assumption) | decide | lia))) (rd_in2 B rfl N5 (.head _) (.tail _ (.head _))) (W1.keeps (.of F4.keep)) hp1 (by ((first | with_reducible assumption | exact Mine.lim (by assumption) | exact Mine.lim0 (by assumption) | exact Mine.lim2 (by assumption) | exact Mine.lim3 (by assumption) | exact Mine.lme (by assumption) | exact Mine.lml (by assumption) | exact Mine.lll (by assumption) | decide | lia))) (by decide) fun h5 tk5 u5 r5 => ?_)
  obtain ⟨F5, _, N6⟩ := rd_step F4 N5 hxd (List.forall_mem_nil _) u5 r5
  clear F4 N5
  try dsimp only
  (repeat' ((fail_if_success with_reducible first|refine zz11 ?_|refine zz9 ?_|refine zz1 ?_|refine zz2 ?_|refine zz3 ?_|refine zz4 ?_|refine zz7 ?_|refine zz5 ?_|refine zz10 ?_|refine zz6 ?_); first | (k_unfold; (try dsimp only)) | walk1 | (dsimp only; walk1)))
  refine wpAny_call (term_spec Tl.nest Tl (Nat.le_refl _) _ _ _ _ ⟨h5, _, _, _, _⟩ _ x dx wl 2 0 ws (cx_in C.X C.T B F5 rfl rfl rfl) (show dep + 1 + Tl.nest + 30 < _ by ((first | with_reducible assumption | exact Mine.lim (by assumption) | exact Mine.lim0 (by assumption) | exact Mine.lim2 (by assumption) | exact Mine.lim3 (by assumption) | exact Mine.lme (by assumption) | exact Mine.lml (by assumption) | exact Mine.lll (by assumption) | decide | lia))) (show un + 3 + 10 * Tl.nest + 200 < _ by ((first | with_reducible assumption | exact Mine.lim (by assumption) | exact Mine.lim0 (by assumption) | exact Mine.lim2 (by assumption) | exact Mine.lim3 (by assumption) | exact Mine.lme (by assumption) | exact Mine.lml (by assumption) | exact Mine.lll (by assumption) | decide | lia))) (rd_in2 (pl := 2) B rfl N6 (.head _) (.tail _ (.head _))) (W1.keeps (.of F5.keep)) hw3 (by ((first | with_reducible assumption | exact Mine.lim (by assumption) | exact Mine.lim0 (by assumption) | exact Mine.lim2 (by assumption) | exact Mine.lim3 (by assumption) | exact Mine.lme (by assumption) | exact Mine.lml (by assumption) | exact Mine.lll (by assumption) | decide | lia))) (by ((first | with_reducible assumption | exact Mine.lim (by assumption) | exact Mine.lim0 (by assumption) | exact Mine.lim2 (by assumption) | exact Mine.lim3 (by assumption) | exact Mine.lme (by assumption) | exact Mine.lml (by assumption) | exact Mine.lll (by assumption) | decide | lia))) (fun o ho => (hlq o ho).word) hll (fun hf h6 tk6 v6 u6 r6 e6 => ?_) fun i u p hf hp h6 tk6 e y => ?_)
  · obtain ⟨F6, _, N7⟩ := rd_step F5 N6 hxd (List.forall_mem_nil _) u6 r6
    clear F5 N6
    have N8 := snap F6 N7
    have ht0 : ∀ p ∈ snapOf g h6, IsT p.2 := fun p hp => (mem_snap.mp hp).2.1
    have htd : ∀ p ∈ snapOf g h6, p.1 ≠ dx := fun p hp => ne_obj (mem_snap.mp hp).1 (N7.get (.tail _ (.head _))) (by rw [(ht0 p hp).1]; simp)
    have hkp : ∀ h' : Heap, (∀ b o, g.get? b = some o → h'.get? b = some o) → (∀ p ∈ snapOf g h6, h'.get? p.1 = some p.2) → Reads h' v6 Tl.dat [] := fun h' kg kt => tm_keeps (snap_keep kg F6.keep kt) Tl e6
    generalize snapOf g h6 = tl at N8 ht0 hkp htd
    rw [List.cons_append, List.cons_append, List.nil_append] at N8
    clear N7
    try dsimp only
    (repeat' ((fail_if_success with_reducible first|refine zz11 ?_|refine zz9 ?_|refine zz1 ?_|refine zz2 ?_|refine zz3 ?_|refine zz4 ?_|refine zz7 ?_|refine zz5 ?_|refine zz10 ?_|refine zz6 ?_); first | (k_unfold; (try dsimp only)) | walk1 | (dsimp only; walk1)))
    rename_i h7 F7 N9
    refine wpAny_call (want_spec (s := ⟨h7, _, _, _, _⟩) (pl := 2 + Tl.words.length) (cx_in C.X C.T B F7 rfl rfl rfl) (show dep + 1 + 3 < _ by ((first | with_reducible assumption | exact Mine.lim (by assumption) | exact Mine.lim0 (by assumption) | exact Mine.lim2 (by assumption) | exact Mine.lim3 (by assumption) | exact Mine.lme (by assumption) | exact Mine.lml (by assumption) | exact Mine.lll (by assumption) | decide | lia))) (rd_in2 B rfl N9 (.head _) (.tail _ (.head _))) (W1.keeps (.of F7.keep)) hp4 (by ((first | with_reducible assumption | exact Mine.lim (by assumption) | exact Mine.lim0 (by assumption) | exact Mine.lim2 (by assumption) | exact Mine.lim3 (by assumption) | exact Mine.lme (by assumption) | exact Mine.lml (by assumption) | exact Mine.lll (by assumption) | decide | lia))) (by decide) fun h8 tk8 u8 r8 => ?_)
    obtain ⟨F8, _, N10⟩ := rd_step F7 N9 hxd htd u8 r8
    clear F7 N9
    try dsimp only
    (repeat' ((fail_if_success with_reducible first|refine zz11 ?_|refine zz9 ?_|refine zz1 ?_|refine zz2 ?_|refine zz3 ?_|refine zz4 ?_|refine zz7 ?_|refine zz5 ?_|refine zz10 ?_|refine zz6 ?_); first | (k_unfold; (try dsimp only)) | walk1 | (dsimp only; walk1)))
    refine wpAny_call (term_spec Tr.nest Tr (Nat.le_refl _) _ _ _ _ ⟨h8, _, _, _, _⟩ _ x dx wl (2 + Tl.words.length + 1) 0 ws (cx_in C.X C.T B F8 rfl rfl rfl) (show dep + 1 + Tr.nest + 30 < _ by ((first | with_reducible assumption | exact Mine.lim (by assumption) | exact Mine.lim0 (by assumption) | exact Mine.lim2 (by assumption) | exact Mine.lim3 (by assumption) | exact Mine.lme (by assumption) | exact Mine.lml (by assumption) | exact Mine.lll (by assumption) | decide | lia))) (show un + 3 + 10 * Tr.nest + 200 < _ by ((first | with_reducible assumption | exact Mine.lim (by assumption) | exact Mine.lim0 (by assumption) | exact Mine.lim2 (by assumption) | exact Mine.lim3 (by assumption) | exact Mine.lme (by assumption) | exact Mine.lml (by assumption) | exact Mine.lll (by assumption) | decide | lia))) (rd_in2 B rfl N10 (.head _) (.tail _ (.head _))) (W1.keeps (.of F8.keep)) hw5 (by ((first | with_reducible assumption | exact Mine.lim (by assumption) | exact Mine.lim0 (by assumption) | exact Mine.lim2 (by assumption) | exact Mine.lim3 (by assumption) | exact Mine.lme (by assumption) | exact Mine.lml (by assumption) | exact Mine.lll (by assumption) | decide | lia))) (by ((first | with_reducible assumption | exact Mine.lim (by assumption) | exact Mine.lim0 (by assumption) | exact Mine.lim2 (by assumption) | exact Mine.lim3 (by assumption) | exact Mine.lme (by assumption) | exact Mine.lml (by assumption) | exact Mine.lll (by assumption) | decide | lia))) (fun o ho => (hrq o ho).word) hlr (fun hf2 h9 tk9 v9 u9 r9 e9 => ?_) fun i u p hf2 hp h9 tk9 e y => ?_)
    · obtain ⟨F9, _, N11⟩ := rd_step F8 N10 hxd htd u9 r9
      clear F8 N10
      have v6s := hkp h9 F9.keep fun p hp => N11.get (.tail _ (.tail _ hp))
      have N12 := snap F9 (fun p hp => N11 p (by
        rcases List.mem_cons.mp hp with q | hp
        · exact q ▸ .head _
        · rw [List.mem_singleton.mp hp]; exact .tail _ (.head _)) : News g L' h9 [_, _])
      have hs0 : ∀ p ∈ snapOf g h9, IsT p.2 := fun p hp => (mem_snap.mp hp).2.1
      have hsd : ∀ p ∈ snapOf g h9, p.1 ≠ dx := fun p hp => ne_obj (mem_snap.mp hp).1 (N11.get (.tail _ (.head _))) (by rw [(hs0 p hp).1]; simp)
      have hkp2 : ∀ h' : Heap, (∀ b o, g.get? b = some o → h'.get? b = some o) → (∀ p ∈ snapOf g h9, h'.get? p.1 = some p.2) → KeepT h9 h' := fun h' kg kt => snap_keep kg F9.keep kt
      generalize snapOf g h9 = tl2 at N12 hs0 hsd hkp2
      rw [List.cons_append, List.cons_append, List.nil_append] at N12
      clear N11
      try dsimp only
      (repeat' ((fail_if_success with_reducible first|refine zz11 ?_|refine zz9 ?_|refine zz1 ?_|refine zz2 ?_|refine zz3 ?_|refine zz4 ?_|refine zz7 ?_|refine zz5 ?_|refine zz10 ?_|refine zz6 ?_); first | (k_unfold; (try dsimp only)) | walk1 | (dsimp only; walk1)))
      rename_i l9 _ _ _ _ D10 _ _ h10 F10 N13
      have N14 : News g L' h10 ((l9, PySem.W.listOf #[] 0) :: (x, instObj 258 dx) :: (dx, _) :: tl2) := fun p hp => N13 p (.tail _ hp)
      clear N13
      refine wpAny_call (word_spec (s := ⟨h10, _, _, _, _⟩) (cx_in C.X C.T B F10 rfl rfl rfl) (show dep + 1 + 1 < _ by ((first | with_reducible assumption | exact Mine.lim (by assumption) | exact Mine.lim0 (by assumption) | exact Mine.lim2 (by assumption) | exact Mine.lim3 (by assumption) | exact Mine.lme (by assumption) | exact Mine.lml (by assumption) | exact Mine.lll (by assumption) | decide | lia))) (rd_in2 B rfl N14 (.tail _ (.head _)) (.tail _ (.tail _ (.head _)))) (W1.keeps (.of F10.keep)) hp6 (by ((first | with_reducible assumption | exact Mine.lim (by assumption) | exact Mine.lim0 (by assumption) | exact Mine.lim2 (by assumption) | exact Mine.lim3 (by assumption) | exact Mine.lme (by assumption) | exact Mine.lml (by assumption) | exact Mine.lll (by assumption) | decide | lia))) fun h11 t11 tk11 u11 => ?_)
      have F11 := fr_upto F10 u11 (fun a ha => nomatch ha)
      have N15 := news_upto N14 u11
      clear F10 N14
      try dsimp only
      (repeat' ((fail_if_success with_reducible first|refine zz11 ?_|refine zz9 ?_|refine zz1 ?_|refine zz2 ?_|refine zz3 ?_|refine zz4 ?_|refine zz7 ?_|refine zz5 ?_|refine zz10 ?_|refine zz6 ?_); first | (k_unfold; (try dsimp only)) | walk1 | (dsimp only; walk1)))
      refine wpAny_call (take_spec (s := ⟨h11, _, _, _, _⟩) (cx_in C.X C.T B F11 rfl rfl rfl) (show dep + 1 + 1 < _ by ((first | with_reducible assumption | exact Mine.lim (by assumption) | exact Mine.lim0 (by assumption) | exact Mine.lim2 (by assumption) | exact Mine.lim3 (by assumption) | exact Mine.lme (by assumption) | exact Mine.lml (by assumption) | exact Mine.lll (by assumption) | decide | lia))) (rd_in2 B rfl N15 (.tail _ (.head _)) (.tail _ (.tail _ (.head _)))) (W1.keeps (.of F11.keep)) hp6 (by ((first | with_reducible assumption | exact Mine.lim (by assumption) | exact Mine.lim0 (by assumption) | exact Mine.lim2 (by assumption) | exact Mine.lim3 (by assumption) | exact Mine.lme (by assumption) | exact Mine.lml (by assumption) | exact Mine.lll (by assumption) | decide | lia))) fun h12 t12 tk12 u12 r12 => ?_)
      have hl9 : l9 ≠ dx := ne_obj (N15.get (.head _)) (N15.get (.tail _ (.tail _ (.head _)))) (by simp)
      obtain ⟨F12, _, N16⟩ := rd_step2 F11 N15 hxd hl9 hsd u12 r12
      clear F11 N15
      try dsimp only
      (repeat' ((fail_if_success with_reducible first|refine zz11 ?_|refine zz9 ?_|refine zz1 ?_|refine zz2 ?_|refine zz3 ?_|refine zz4 ?_|refine zz7 ?_|refine zz5 ?_|refine zz10 ?_|refine zz6 ?_); first | (k_unfold; (try dsimp only)) | walk1 | (dsimp only; walk1)))
      refine wpAny_call (need_spec (s := ⟨h12, _, _, _, _⟩) (T1 := T1) (T2 := T2) (sg := sg) (cx_in C.X C.T B F12 rfl rfl rfl) (show dep + 1 + T1.nest + T2.nest + 50 < _ by ((first | with_reducible assumption | exact Mine.lim (by assumption) | exact Mine.lim0 (by assumption) | exact Mine.lim2 (by assumption) | exact Mine.lim3 (by assumption) | exact Mine.lme (by assumption) | exact Mine.lml (by assumption) | exact Mine.lll (by assumption) | decide | lia))) (show un + 3 + 10 * (T1.nest + T2.nest) + 300 < _ by ((first | with_reducible assumption | exact Mine.lim (by assumption) | exact Mine.lim0 (by assumption) | exact Mine.lim2 (by assumption) | exact Mine.lim3 (by assumption) | exact Mine.lme (by assumption) | exact Mine.lml (by assumption) | exact Mine.lll (by assumption) | decide | lia))) (rd_in2 B rfl N16 (.tail _ (.head _)) (.tail _ (.tail _ (.head _)))) (W1.keeps (.of F12.keep)) hw7 (by ((first | with_reducible assumption | exact Mine.lim (by assumption) | exact Mine.lim0 (by assumption) | exact Mine.lim2 (by assumption) | exact Mine.lim3 (by assumption) | exact Mine.lme (by assumption) | exact Mine.lml (by assumption) | exact Mine.lll (by assumption) | decide | lia))) hsg (fun o ho => (hq1 o ho).word) (fun o ho => (hq2 o ho).word) hl1 hl2 (fun hf3 hf4 h13 tk13 nd v1 v2 tkd u13 r13 eN e1 e2 => ?_) fun i u p hf3 hp h13 tk13 e y => ?_)
      · obtain ⟨F13, _, N17⟩ := rd_step2 F12 N16 hxd hl9 hsd u13 r13
        clear F12 N16
        have kTa := hkp2 h13 F13.keep fun p hp => N17.get (.tail _ (.tail _ (.tail _ hp)))
        have r6a := tm_keeps kTa Tl v6s
        have r9a := tm_keeps kTa Tr e9
        have N18 := snap F13 (fun p hp => N17 p (by
            rcases List.mem_cons.mp hp with q | hp
            · exact q ▸ .head _
            · rcases List.mem_cons.mp hp with q | hp
              · exact q ▸ .tail _ (.head _)
              · rw [List.mem_singleton.mp hp]; exact .tail _ (.tail _ (.head _))) : News g L' h13 [_, _, _])
        have hs1 : ∀ p ∈ snapOf g h13, IsT p.2 := fun p hp => (mem_snap.mp hp).2.1
        have hsd3 : ∀ p ∈ snapOf g h13, p.1 ≠ dx := fun p hp => ne_obj (mem_snap.mp hp).1 (N17.get (.tail _ (.tail _ (.head _)))) (by rw [(hs1 p hp).1]; simp)
        have hs9 : ∀ p ∈ snapOf g h13, p.1 ≠ l9 := fun p hp => ne_obj (mem_snap.mp hp).1 (N17.get (.head _)) (by rw [(hs1 p hp).1]; simp)
        have hkp3 : ∀ h' : Heap, (∀ b o, g.get? b = some o → h'.get? b = some o) → (∀ p ∈ snapOf g h13, h'.get? p.1 = some p.2) → KeepT h13 h' := fun h' kg kt => snap_keep kg F13.keep kt
        generalize snapOf g h13 = tl3 at N18 hs1 hsd3 hs9 hkp3
        rw [List.cons_append, List.cons_append, List.cons_append, List.nil_append] at N18
        have hx9 : x ≠ l9 := ne_obj (N17.get (.tail _ (.head _))) (N17.get (.head _)) (by simp)
        clear N17
        have hD9 := offD N18 hx9 (Ne.symm hl9) hs9
        try dsimp only
        (repeat' ((fail_if_success with_reducible first|refine zz11 ?_|refine zz9 ?_|refine zz1 ?_|refine zz2 ?_|refine zz3 ?_|refine zz4 ?_|refine zz7 ?_|refine zz5 ?_|refine zz10 ?_|refine zz6 ?_); first | (k_unfold; (try dsimp only)) | walk1 | (dsimp only; walk1)))
        rename_i h14 F14 N19
        refine whl_start 100 ?_
        (repeat' ((fail_if_success with_reducible first|refine zz11 ?_|refine zz9 ?_|refine zz1 ?_|refine zz2 ?_|refine zz3 ?_|refine zz4 ?_|refine zz7 ?_|refine zz5 ?_|refine zz10 ?_|refine zz6 ?_); first | (k_unfold; (try dsimp only)) | walk1 | (dsimp only; walk1)))
        refine wpAny_call (word_spec (s := ⟨h14, _, _, _, _⟩) (cx_in C.X C.T B F14 rfl rfl rfl) (show dep + 1 + 1 < _ by ((first | with_reducible assumption | exact Mine.lim (by assumption) | exact Mine.lim0 (by assumption) | exact Mine.lim2 (by assumption) | exact Mine.lim3 (by assumption) | exact Mine.lme (by assumption) | exact Mine.lml (by assumption) | exact Mine.lll (by assumption) | decide | lia))) (rd_in2 B rfl N19 (.tail _ (.head _)) (.tail _ (.tail _ (.head _)))) (W1.keeps (.of F14.keep)) hend (by ((first | with_reducible assumption | exact Mine.lim (by assumption) | exact Mine.lim0 (by assumption) | exact Mine.lim2 (by assumption) | exact Mine.lim3 (by assumption) | exact Mine.lme (by assumption) | exact Mine.lml (by assumption) | exact Mine.lll (by assumption) | decide | lia))) fun h15 t15 tk15 u15 => ?_)
        have F15 := fr_upto F14 u15 (fun a ha => nomatch ha)
        have N20 := news_upto N19 u15
        clear F14 N19
        try dsimp only
        (repeat' ((fail_if_success with_reducible first|refine zz11 ?_|refine zz9 ?_|refine zz1 ?_|refine zz2 ?_|refine zz3 ?_|refine zz4 ?_|refine zz7 ?_|refine zz5 ?_|refine zz10 ?_|refine zz6 ?_); first | (k_unfold; (try dsimp only)) | walk1 | (dsimp only; walk1)))
        walk1
        (repeat' ((fail_if_success with_reducible first|refine zz11 ?_|refine zz9 ?_|refine zz1 ?_|refine zz2 ?_|refine zz3 ?_|refine zz4 ?_|refine zz7 ?_|refine zz5 ?_|refine zz10 ?_|refine zz6 ?_); first | (k_unfold; (try dsimp only)) | walk1 | (dsimp only; walk1)))
        refine' call_cls ?k1 ?k2 ?k3 ?k4 ?k5 ?k6 ?_
        case k1 => k_asm
        case k2 => k_asm
        case k3 => k_asm
        case k4 => k_is
        case k5 => k_is
        case k6 => k_is
        intro a da H12 G12 M16 l12 l13
        have kT := hkp3 H12 G12.keep fun p hp => M16.get (.tail _ (.tail _ (.tail _ (.tail _ (.tail _ (.tail _ hp))))))
        have r6' := tm_keeps kT Tl r6a
        have r9' := tm_keeps kT Tr r9a
        have tN : IsTup H12 _ #[Value.ref nd] := ⟨_, M16.get (.tail _ (.tail _ (.head _))), rfl, _, rfl⟩
        have eN' : IsTup H12 nd _ := isTup_keepT kT eN
        have e1' := tm_keeps kT T1 e1
        have e2' := tm_keeps kT T2 e2
        refine rule_init (s := ⟨H12, _, _, _, _⟩) (Tl := Tl) (Tr := Tr) (ns := [Value.ref nd]) (dm := Tl.nest + Tr.nest + T1.nest + T2.nest) (cx_in C.X C.T B G12 rfl rfl rfl) (show dep + 1 + 1 + (Tl.nest + Tr.nest + T1.nest + T2.nest) + 60 < _ by ((first | with_reducible assumption | exact Mine.lim (by assumption) | exact Mine.lim0 (by assumption) | exact Mine.lim2 (by assumption) | exact Mine.lim3 (by assumption) | exact Mine.lme (by assumption) | exact Mine.lml (by assumption) | exact Mine.lll (by assumption) | decide | lia))) ?_ ⟨r6', hlq, hll, hnl⟩ ⟨r9', hrq, hlr, hnr⟩ (by ((first | with_reducible assumption | exact Mine.lim (by assumption) | exact Mine.lim0 (by assumption) | exact Mine.lim2 (by assumption) | exact Mine.lim3 (by assumption) | exact Mine.lme (by assumption) | exact Mine.lml (by assumption) | exact Mine.lll (by assumption) | decide | lia))) (by ((first | with_reducible assumption | exact Mine.lim (by assumption) | exact Mine.lim0 (by assumption) | exact Mine.lim2 (by assumption) | exact Mine.lim3 (by assumption) | exact Mine.lme (by assumption) | exact Mine.lml (by assumption) | exact Mine.lll (by assumption) | decide | lia))) tN (fun v h => by rw [List.mem_singleton.mp h]; exact .mk nd _ _ _ _ T1 T2 eN' (by rcases hsg with rfl | rfl; exact .inl rfl; exact .inr rfl) ⟨e1', hq1, hl1, hn1⟩ ⟨e2', hq2, hl2, hn2⟩ (by ((first | with_reducible assumption | exact Mine.lim (by assumption) | exact Mine.lim0 (by assumption) | exact Mine.lim2 (by assumption) | exact Mine.lim3 (by assumption) | exact Mine.lme (by assumption) | exact Mine.lml (by assumption) | exact Mine.lll (by assumption) | decide | lia))) (by ((first | with_reducible assumption | exact Mine.lim (by assumption) | exact Mine.lim0 (by assumption) | exact Mine.lim2 (by assumption) | exact Mine.lim3 (by assumption) | exact Mine.lme (by assumption) | exact Mine.lml (by assumption) | exact Mine.lll (by assumption) | decide | lia)))) (show 1 ≤ 10 by decide) (mut_in B rfl M16 (.head _)) (mut_in B rfl M16 (.tail _ (.head _))) fun H13 ka kb kc kd tq13 w13 e13 => ?_
        · have hq : (Code.builtin "type.__call__" (Args.mk [Value.ref 134, Value.str nm t3, v6, v9, Value.none] [])).cUnits ≤ 50 := by first | decide | exact Nat.le_of_ble_eq_true rfl
          show un + 3 + (1 + 3 * _) + 400 < _
          exact Nat.lt_of_le_of_lt (Nat.add_le_add_right (Nat.add_le_add_left hq _) _) (by ((first | with_reducible assumption | exact Mine.lim (by assumption) | exact Mine.lim0 (by assumption) | exact Mine.lim2 (by assumption) | exact Mine.lim3 (by assumption) | exact Mine.lme (by assumption) | exact Mine.lml (by assumption) | exact Mine.lll (by assumption) | decide | lia)))
        refine ⟨rfl, ?_⟩
        have G13 := fr_upto G12 w13 (fun b hb => by rw [List.mem_singleton.mp hb]; exact news_at M16 (.tail _ (.head _)))
        have kU13 : KeepT H12 H13 := fun b o e t => w13 b o e fun q => by
          rw [List.mem_singleton.mp q, M16.get (.tail _ (.head _))] at e
          cases e
          exact absurd t.1 (by simp)
        have M17 : News g L' H13 [(x, instObj 258 dx), (dx, dictOf (rdEs w.params _ wl (2 + Tl.words.length + 1 + Tr.words.length + 1 + T1.words.length + 1 + T2.words.length) 0) 4)] :=
          news_cons (w13 _ _ (M16.get (.tail _ (.tail _ (.tail _ (.tail _ (.head _)))))) (fun q => absurd (l12 _ (.tail _ (.tail _ (.head _)))) (by rw [List.mem_singleton.mp q]; exact Nat.lt_irrefl _))) (news_at M16 (.tail _ (.tail _ (.tail _ (.tail _ (.head _))))))
            (news_cons (w13 _ _ (M16.get (.tail _ (.tail _ (.tail _ (.tail _ (.tail _ (.head _))))))) (fun q => absurd (l12 _ (.tail _ (.tail _ (.tail _ (.head _))))) (by rw [List.mem_singleton.mp q]; exact Nat.lt_irrefl _))) (news_at M16 (.tail _ (.tail _ (.tail _ (.tail _ (.tail _ (.head _))))))) news_nil)
        obtain ⟨ua, ub⟩ := rd_end hr hm hin G13 M17
        have faa : s.heap.get? a = none := by
          cases q : s.heap.get? a with
          | none => rfl
          | some o =>
            have h1 : a ≠ x := ne_obj (M16.get (.head _)) (M16.get (.tail _ (.tail _ (.tail _ (.tail _ (.head _)))))) (by simp)
            have h2 : a ≠ dx := ne_obj (M16.get (.head _)) (M16.get (.tail _ (.tail _ (.tail _ (.tail _ (.tail _ (.head _))))))) (by simp)
            have := hin _ _ q (by
              intro hh
              rcases List.mem_cons.mp hh with hh | hh
              · exact h1 hh
              · exact h2 (List.mem_singleton.mp hh))
            rw [(M16 _ (.head _)).2.2] at this
            cases this
        have fda : s.heap.get? da = none := by
          cases q : s.heap.get? da with
          | none => rfl
          | some o =>
            have h1 : x < da := l12 _ (.tail _ (.tail _ (.head _)))
            have h2 : dx < da := l12 _ (.tail _ (.tail _ (.tail _ (.head _))))
            have := hin _ _ q (by
              intro hh
              rcases List.mem_cons.mp hh with hh | hh
              · exact absurd h1 (by rw [hh]; exact Nat.lt_irrefl _)
              · rw [List.mem_singleton.mp hh] at h2; exact absurd h2 (Nat.lt_irrefl _))
            rw [(M16 _ (.tail _ (.head _))).2.2] at this
            cases this
        exact hk1 hf hf2 hf3 hf4 H13 a da _ nd v6 v9 v1 v2 t3 tkd ka kb kc kd _ ua faa fda (w13 _ _ (M16.get (.head _)) (fun q => absurd l13 (by rw [List.mem_singleton.mp q]; exact Nat.lt_irrefl _))) e13 (isTup_keepT kU13 tN) (isTup_keepT kU13 eN') (tm_keeps kU13 T1 e1') (tm_keeps kU13 T2 e2') (tm_keeps kU13 Tl r6') (tm_keeps kU13 Tr r9') ub
      · have U := upto_end hm hin F12 N16 [dx] (List.forall_mem_cons.mpr ⟨.inr (.tail _ (.head _)), List.forall_mem_cons.mpr ⟨.inl (.head _), List.forall_mem_nil _⟩⟩)
        refine thrown_leave U hL hoff rfl rfl y (fun a ha => .inl ha) fun h4 y4 => ?_
        cases q1 : T1.fault 0 with
        | some j => 
          rw [q1] at hf3
          cases hf3
          exact hk2 (i + (Tl.words.length + Tr.words.length + 4)) u p (by rw [hf, hf2, q1]) (by rw [← hp]; congr 1; ((first | with_reducible assumption | exact Mine.lim (by assumption) | exact Mine.lim0 (by assumption) | exact Mine.lim2 (by assumption) | exact Mine.lim3 (by assumption) | exact Mine.lme (by assumption) | exact Mine.lml (by assumption) | exact Mine.lll (by assumption) | decide | lia))) _ _ _ y4
        | none =>
          rw [q1] at hf3
          cases q2 : T2.fault 0 with
          | none => rw [q2] at hf3; cases hf3
          | some j =>
            rw [q2] at hf3
            obtain rfl : j + (T1.words.length + 1) = i := by injection hf3
            exact hk2 (j + (T1.words.length + 1) + (Tl.words.length + Tr.words.length + 4)) u p (by rw [hf, hf2, q1, q2]; show some (j + (Tl.words.length + Tr.words.length + T1.words.length + 5)) = some _; congr 1; ((first | with_reducible assumption | exact Mine.lim (by assumption) | exact Mine.lim0 (by assumption) | exact Mine.lim2 (by assumption) | exact Mine.lim3 (by assumption) | exact Mine.lme (by assumption) | exact Mine.lml (by assumption) | exact Mine.lll (by assumption) | decide | lia))) (by rw [← hp]; congr 1; ((first | with_reducible assumption | exact Mine.lim (by assumption) | exact Mine.lim0 (by assumption) | exact Mine.lim2 (by assumption) | exact Mine.lim3 (by assumption) | exact Mine.lme (by assumption) | exact Mine.lml (by assumption) | exact Mine.lll (by assumption) | decide | lia))) _ _ _ y4
    · have U := upto_end hm hin F8 N10 [dx] (List.forall_mem_cons.mpr ⟨.inr (.head _), List.forall_mem_cons.mpr ⟨.inl (.head _), List.forall_mem_nil _⟩⟩)
      exact thrown_leave U hL hoff rfl rfl y (fun a ha => .inl ha) fun h4 y4 => hk2 (i + (Tl.words.length + 3)) u p (by rw [hf, hf2]) (by rw [← hp]; congr 1; ((first | with_reducible assumption | exact Mine.lim (by assumption) | exact Mine.lim0 (by assumption) | exact Mine.lim2 (by assumption) | exact Mine.lim3 (by assumption) | exact Mine.lme (by assumption) | exact Mine.lml (by assumption) | exact Mine.lll (by assumption) | decide | lia))) _ _ _ y4
  · have U := upto_end hm hin F5 N6 [dx] (List.forall_mem_cons.mpr ⟨.inr (.head _), List.forall_mem_cons.mpr ⟨.inl (.head _), List.forall_mem_nil _⟩⟩)
    exact thrown_leave U hL hoff rfl rfl y (fun a ha => .inl ha) fun h4 y4 => hk2 (i + 2) u p (by rw [hf]) (by rw [← hp]; congr 1; ((first | with_reducible assumption | exact Mine.lim (by assumption) | exact Mine.lim0 (by assumption) | exact Mine.lim2 (by assumption) | exact Mine.lim3 (by assumption) | exact Mine.lme (by assumption) | exact Mine.lml (by assumption) | exact Mine.lll (by assumption) | decide | lia))) _ _ _ y4
end
end Mine
end
-- Q1
section
namespace Mine
open PySem PySem.W PySem.Calls PyProof.Rows
set_option maxHeartbeats 1000000
theorem takeWhile_app {p : Nat → Bool} {c : Nat} {l2 : List Nat} (h : p c = false) : ∀ (l1 : List Nat), (l1 ++ c :: l2).takeWhile p = l1.takeWhile p
  | [] => by simp [h]
  | a :: l => by
    simp only [List.cons_append, List.takeWhile_cons]
    rw [takeWhile_app h l]
theorem take_all {p : Nat → Bool} : ∀ {l : List Nat}, (∀ c ∈ l, p c = true) → l.takeWhile p = l
  | [], _ => rfl
  | c :: l, h => by rw [List.takeWhile_cons, if_pos (h c (.head _)), take_all fun a q => h a (.tail _ q)]
theorem take_mem {p : Nat → Bool} {c : Nat} : ∀ {l : List Nat}, c ∈ l.takeWhile p → p c = true
  | [], h => by cases h
  | a :: l, h => by
    rw [List.takeWhile_cons] at h
    split at h
    · rename_i q
      rcases List.mem_cons.mp h with rfl | h
      · exact q
      · exact take_mem h
    · cases h
theorem runLen_le : ∀ (l : List Nat), runLen l ≤ l.length := fun l => (List.takeWhile_sublist _).length_le
theorem lex_app {c : Nat} {l2 : List Nat} (hc : opChar c = false) : ∀ (n off : Nat) (l1 : List Nat), l1.length ≤ n → lexL off (l1 ++ c :: l2) = lexL off l1 ++ lexL (off + l1.length) (c :: l2)
  | _, off, [], _ => by rw [lexL_nil]; rfl
  | 0, _, _ :: _, h => absurd h (by simp)
  | n + 1, off, a :: r, h => by
    have hr : r.length ≤ n := by simpa using h
    cases h1 : opChar a with
    | true =>
      have e1 : runLen (a :: r) = runLen r + 1 := runLen_cons h1
      have e2 : (a :: (r ++ c :: l2)).takeWhile opChar = (a :: r).takeWhile opChar := takeWhile_app hc (a :: r)
      have e3 : runLen (a :: (r ++ c :: l2)) = runLen (a :: r) := by unfold runLen; rw [e2]
      have hle := runLen_le r
      rw [List.cons_append, lexL_op h1, lexL_op h1, e2, e3]
      rw [show (a :: (r ++ c :: l2)).drop (runLen (a :: r)) = (a :: r).drop (runLen (a :: r)) ++ c :: l2 by
        rw [show a :: (r ++ c :: l2) = (a :: r) ++ c :: l2 from rfl, List.drop_append_of_le_length (by rw [e1, List.length_cons]; ((first | with_reducible assumption | exact Mine.lim (by assumption) | exact Mine.lim0 (by assumption) | exact Mine.lim2 (by assumption) | exact Mine.lim3 (by assumption) | exact Mine.lme (by assumption) | exact Mine.lml (by assumption) | exact Mine.lll (by assumption) | decide | lia)))]]
      rw [lex_app hc n _ _ (by rw [e1, List.drop_succ_cons, List.length_drop]; ((first | with_reducible assumption | exact Mine.lim (by assumption) | exact Mine.lim0 (by assumption) | exact Mine.lim2 (by assumption) | exact Mine.lim3 (by assumption) | exact Mine.lme (by assumption) | exact Mine.lml (by assumption) | exact Mine.lll (by assumption) | decide | lia))), List.cons_append]
      congr 3
      rw [List.length_drop, List.length_cons]
      ((first | with_reducible assumption | exact Mine.lim (by assumption) | exact Mine.lim0 (by assumption) | exact Mine.lim2 (by assumption) | exact Mine.lim3 (by assumption) | exact Mine.lme (by assumption) | exact Mine.lml (by assumption) | exact Mine.lll (by assumption) | decide | lia))
    | false =>
      have := lex_app (l2 := l2) hc n (off + 1) r hr
      cases h2 : sepChar a with
      | true =>
        rw [List.cons_append, lexL_sep h1 h2, lexL_sep h1 h2, this, List.cons_append]
        congr 3
        rw [List.length_cons]; ((first | with_reducible assumption | exact Mine.lim (by assumption) | exact Mine.lim0 (by assumption) | exact Mine.lim2 (by assumption) | exact Mine.lim3 (by assumption) | exact Mine.lme (by assumption) | exact Mine.lml (by assumption) | exact Mine.lll (by assumption) | decide | lia))
      | false =>
        rw [List.cons_append, lexL_gap h1 h2, lexL_gap h1 h2, this]
        congr 2
        rw [List.length_cons]; ((first | with_reducible assumption | exact Mine.lim (by assumption) | exact Mine.lim0 (by assumption) | exact Mine.lim2 (by assumption) | exact Mine.lim3 (by assumption) | exact Mine.lme (by assumption) | exact Mine.lml (by assumption) | exact Mine.lll (by assumption) | decide | lia))
theorem lex_shift : ∀ (n k k' : Nat) (l : List Nat), l.length ≤ n → (lexL k l).map (·.1) = (lexL k' l).map (·.1)
  | _, k, k', [], _ => by rw [lexL_nil, lexL_nil]
  | 0, _, _, _ :: _, h => absurd h (by simp)
  | n + 1, k, k', a :: r, h => by
    have hr : r.length ≤ n := by simpa using h
    cases h1 : opChar a with
    | true =>
      have e1 : runLen (a :: r) = runLen r + 1 := runLen_cons h1
      rw [lexL_op h1, lexL_op h1, List.map_cons, List.map_cons, lex_shift n _ (k' + runLen (a :: r)) _ (by rw [e1, List.drop_succ_cons, List.length_drop]; ((first | with_reducible assumption | exact Mine.lim (by assumption) | exact Mine.lim0 (by assumption) | exact Mine.lim2 (by assumption) | exact Mine.lim3 (by assumption) | exact Mine.lme (by assumption) | exact Mine.lml (by assumption) | exact Mine.lll (by assumption) | decide | lia)))]
    | false =>
      cases h2 : sepChar a with
      | true => rw [lexL_sep h1 h2, lexL_sep h1 h2, List.map_cons, List.map_cons, lex_shift n _ (k' + 1) _ hr]
      | false => rw [lexL_gap h1 h2, lexL_gap h1 h2, lex_shift n _ (k' + 1) _ hr]
noncomputable def wordsOf (l : List Nat) : List Str := (lexL 0 l).map (·.1)
theorem wordsOf_at (k : Nat) (l : List Nat) : (lexL k l).map (·.1) = wordsOf l := lex_shift _ _ _ l (Nat.le_refl _)
theorem wo_app {c : Nat} {l1 l2 : List Nat} (h : opChar c = false) : wordsOf (l1 ++ c :: l2) = wordsOf l1 ++ wordsOf (c :: l2) := by
  unfold wordsOf
  rw [lex_app h _ 0 l1 (Nat.le_refl _), List.map_append, wordsOf_at (0 + l1.length) (c :: l2)]
  rfl
theorem wo_gap {c : Nat} {l : List Nat} (h : opChar c = false) (h' : sepChar c = false) : wordsOf (c :: l) = wordsOf l := by
  unfold wordsOf
  rw [lexL_gap h h', wordsOf_at]
  rfl
theorem wo_sep {c : Nat} {l : List Nat} (h : opChar c = false) (h' : sepChar c = true) : wordsOf (c :: l) = ⟨#[c]⟩ :: wordsOf l := by
  unfold wordsOf
  rw [lexL_sep h h', List.map_cons, wordsOf_at]
  rfl
theorem wo_nil : wordsOf [] = [] := by unfold wordsOf; rw [lexL_nil]; rfl
theorem wo_op {c : Nat} {l : List Nat} (h : ∀ a ∈ c :: l, opChar a = true) : wordsOf (c :: l) = [⟨(c :: l).toArray⟩] := by
  have e : (c :: l).takeWhile opChar = c :: l := take_all h
  unfold wordsOf
  rw [lexL_op (h c (.head _))]
  have e2 : runLen (c :: l) = (c :: l).length := by unfold runLen; rw [e]
  rw [e, e2, List.drop_length, lexL_nil]
  rfl
theorem op32 : opChar 32 = false := by decide +kernel
theorem sep32 : sepChar 32 = false := by decide +kernel
theorem op40 : opChar 40 = false := by decide +kernel
theorem sep40 : sepChar 40 = true := by decide +kernel
theorem op41 : opChar 41 = false := by decide +kernel
theorem sep41 : sepChar 41 = true := by decide +kernel
theorem op58 : opChar 58 = false := by decide +kernel
theorem sep58 : sepChar 58 = true := by decide +kernel
theorem wo_gaps (l : List Nat) : ∀ (n : Nat), wordsOf (List.replicate n 32 ++ l) = wordsOf l
  | 0 => rfl
  | n + 1 => by
    rw [List.replicate_succ, List.cons_append, wo_gap op32 sep32, wo_gaps l n]
theorem wo_gapsE (l : List Nat) : ∀ (n : Nat), wordsOf (l ++ List.replicate n 32) = wordsOf l
  | 0 => by rw [List.replicate_zero, List.append_nil]
  | n + 1 => by
    rw [List.replicate_succ, wo_app op32, wo_gap op32 sep32]
    have := wo_gaps [] n
    rw [List.append_nil] at this
    rw [this, wo_nil, List.append_nil]
noncomputable def abc : List Nat := [32, 40, 41, 58, 45, 62, 61, 33, 97, 98, 99, 102, 103, 104, 105, 107, 112, 113, 114]
theorem abc_ok : ∀ c ∈ abc, c < 128 ∧ (c = 32 ∨ (c ≠ 32 ∧ opChar c = true ∧ c ≠ 40 ∧ c ≠ 41) ∨ ((c = 40 ∨ c = 41 ∨ c = 58) ∧ opChar c = false ∧ sepChar c = true)) := by decide +kernel
theorem abc_hok {l : List Nat} (h : ∀ c ∈ l, c ∈ abc) : ∀ c ∈ l, c < 128 ∧ (opChar c = true ∨ sepChar c = true ∨ Txt.isspace ⟨#[c]⟩ = true) := fun c hc => by
  obtain ⟨h1, h2⟩ := abc_ok c (h c hc)
  refine ⟨h1, ?_⟩
  rcases h2 with rfl | ⟨_, q, _⟩ | ⟨_, _, q⟩
  · exact .inr (.inr (by decide +kernel))
  · exact .inl q
  · exact .inr (.inl q)
noncomputable def scanW : Int → Nat → List Str → Option Nat
  | _, _, [] => none
  | d, j, u :: r => if u = ("(" : Str) then (if 40 < d + 1 then some (j + 1) else scanW (d + 1) (j + 1) r) else if u = (")" : Str) then scanW (d - 1) (j + 1) r else scanW d (j + 1) r
noncomputable def blanks (l : List Nat) : Nat := (l.takeWhile (· == 32)).length
noncomputable def beyondL : Int → Nat → List Nat → Option Nat
  | _, _, [] => none
  | d, i, c :: r => if c = 40 then (if 40 < d + 1 then some (i + 1 + blanks r) else beyondL (d + 1) (i + 1) r) else if c = 41 then beyondL (d - 1) (i + 1) r else beyondL d (i + 1) r
theorem scan_skip {d : Int} {j : Nat} {u : Str} {r : List Str} (h1 : u ≠ ("(" : Str)) (h2 : u ≠ (")" : Str)) : scanW d j (u :: r) = scanW d (j + 1) r := by
  rw [scanW, if_neg h1, if_neg h2]
mutual
theorem scan_tm (dp j : Nat) (rest : List Str) : ∀ (t : Tm), (∀ o ∈ t.ops, OpWord o) → scanW dp j (t.words ++ rest) = match t.fault dp with | some i => some (j + i) | none => scanW dp (j + t.words.length) rest
  | .node op [], ho => by
    have h := ho op (.head _)
    rw [Tm.words, Tm.fault]
    exact scan_skip (isOp_open h) (isOp_close h)
  | .node op (k :: ks), ho => by
    have h := ho op (.head _)
    rw [words_node, fault_node, List.cons_append, scanW, if_pos rfl]
    by_cases hd : 40 ≤ dp
    · rw [if_pos hd, if_pos (by ((first | with_reducible assumption | exact Mine.lim (by assumption) | exact Mine.lim0 (by assumption) | exact Mine.lim2 (by assumption) | exact Mine.lim3 (by assumption) | exact Mine.lme (by assumption) | exact Mine.lml (by assumption) | exact Mine.lll (by assumption) | decide | lia)))]
    · rw [if_neg hd, if_neg (by ((first | with_reducible assumption | exact Mine.lim (by assumption) | exact Mine.lim0 (by assumption) | exact Mine.lim2 (by assumption) | exact Mine.lim3 (by assumption) | exact Mine.lme (by assumption) | exact Mine.lml (by assumption) | exact Mine.lll (by assumption) | decide | lia))), List.cons_append, scan_skip (isOp_open h) (isOp_close h), List.append_assoc]
      have := scan_tms (dp + 1) (j + 1 + 1) ([(")" : Str)] ++ rest) (k :: ks) fun o q => ho o (.tail _ q)
      rw [show ((dp + 1 : Nat) : Int) = (dp : Int) + 1 by ((first | with_reducible assumption | exact Mine.lim (by assumption) | exact Mine.lim0 (by assumption) | exact Mine.lim2 (by assumption) | exact Mine.lim3 (by assumption) | exact Mine.lme (by assumption) | exact Mine.lml (by assumption) | exact Mine.lll (by assumption) | decide | lia))] at this
      rw [this]
      cases q : faultL (dp + 1) (k :: ks) with
      | some i =>
        show some _ = some (j + (i + 2))
        congr 1
        ((first | with_reducible assumption | exact Mine.lim (by assumption) | exact Mine.lim0 (by assumption) | exact Mine.lim2 (by assumption) | exact Mine.lim3 (by assumption) | exact Mine.lme (by assumption) | exact Mine.lml (by assumption) | exact Mine.lll (by assumption) | decide | lia))
      | none =>
        show scanW _ _ ((")" : Str) :: rest) = scanW _ _ rest
        rw [scanW, if_neg (by decide), if_pos rfl]
        congr 1
        · ((first | with_reducible assumption | exact Mine.lim (by assumption) | exact Mine.lim0 (by assumption) | exact Mine.lim2 (by assumption) | exact Mine.lim3 (by assumption) | exact Mine.lme (by assumption) | exact Mine.lml (by assumption) | exact Mine.lll (by assumption) | decide | lia))
        · simp only [List.length_cons, List.length_append, List.length_nil]; ((first | with_reducible assumption | exact Mine.lim (by assumption) | exact Mine.lim0 (by assumption) | exact Mine.lim2 (by assumption) | exact Mine.lim3 (by assumption) | exact Mine.lme (by assumption) | exact Mine.lml (by assumption) | exact Mine.lll (by assumption) | decide | lia))
theorem scan_tms (dp j : Nat) (rest : List Str) : ∀ (ts : List Tm), (∀ o ∈ opsL ts, OpWord o) → scanW dp j (wordsL ts ++ rest) = match faultL dp ts with | some i => some (j + i) | none => scanW dp (j + (wordsL ts).length) rest
  | [], _ => by
    rw [wordsL, faultL]
    rfl
  | k :: ks, ho => by
    rw [wordsL_cons, faultL_cons, List.append_assoc, scan_tm dp j _ k fun o q => ho o (List.mem_append_left _ q)]
    cases q : k.fault dp with
    | some i => rfl
    | none =>
      dsimp only
      rw [scan_tms dp _ rest ks fun o q => ho o (List.mem_append_right _ q)]
      cases q2 : faultL dp ks with
      | some i =>
        show some _ = some (j + (i + k.words.length))
        congr 1
        ((first | with_reducible assumption | exact Mine.lim (by assumption) | exact Mine.lim0 (by assumption) | exact Mine.lim2 (by assumption) | exact Mine.lim3 (by assumption) | exact Mine.lme (by assumption) | exact Mine.lml (by assumption) | exact Mine.lll (by assumption) | decide | lia))
      | none =>
        show scanW _ _ _ = scanW _ _ _
        rw [List.length_append]
        congr 1
        ((first | with_reducible assumption | exact Mine.lim (by assumption) | exact Mine.lim0 (by assumption) | exact Mine.lim2 (by assumption) | exact Mine.lim3 (by assumption) | exact Mine.lme (by assumption) | exact Mine.lml (by assumption) | exact Mine.lll (by assumption) | decide | lia))
end
theorem lex_head {u : Str} {p : Nat} : ∀ (l : List Nat) (k : Nat) (rest : List (Str × Nat)), (∀ c ∈ l, c ∈ abc) → lexL k l = (u, p) :: rest → p = k + blanks l
  | [], _, _, _, h => by rw [lexL_nil] at h; cases h
  | a :: r, k, rest, hl, h => by
    obtain ⟨_, ha | ⟨ha, h1, _⟩ | ⟨ha, h1, h2⟩⟩ := abc_ok a (hl a (.head _))
    · subst ha
      rw [lexL_gap op32 sep32] at h
      have := lex_head r (k + 1) rest (fun c hc => hl c (.tail _ hc)) h
      rw [this]
      simp only [blanks, List.takeWhile_cons, beq_self_eq_true, if_true, List.length_cons]
      ((first | with_reducible assumption | exact Mine.lim (by assumption) | exact Mine.lim0 (by assumption) | exact Mine.lim2 (by assumption) | exact Mine.lim3 (by assumption) | exact Mine.lme (by assumption) | exact Mine.lml (by assumption) | exact Mine.lll (by assumption) | decide | lia))
    · rw [lexL_op h1] at h
      injection h with h3 _
      have : p = k := (congrArg (·.2) h3).symm
      rw [this]
      simp [blanks, List.takeWhile_cons, ha]
    · rw [lexL_sep h1 h2] at h
      injection h with h3 _
      have : p = k := (congrArg (·.2) h3).symm
      rw [this]
      have : a ≠ 32 := by ((first | with_reducible assumption | exact Mine.lim (by assumption) | exact Mine.lim0 (by assumption) | exact Mine.lim2 (by assumption) | exact Mine.lim3 (by assumption) | exact Mine.lme (by assumption) | exact Mine.lml (by assumption) | exact Mine.lll (by assumption) | decide | lia))
      simp [blanks, List.takeWhile_cons, this]
theorem beyond_run {d : Int} : ∀ (u : List Nat) (k : Nat) (r : List Nat), (∀ c ∈ u, c ≠ 40 ∧ c ≠ 41) → beyondL d k (u ++ r) = beyondL d (k + u.length) r
  | [], _, _, _ => rfl
  | c :: u, k, r, h => by
    obtain ⟨h1, h2⟩ := h c (.head _)
    rw [List.cons_append, beyondL, if_neg h1, if_neg h2, beyond_run u (k + 1) r fun c hc => h c (.tail _ hc)]
    congr 1
    rw [List.length_cons]
    ((first | with_reducible assumption | exact Mine.lim (by assumption) | exact Mine.lim0 (by assumption) | exact Mine.lim2 (by assumption) | exact Mine.lim3 (by assumption) | exact Mine.lme (by assumption) | exact Mine.lml (by assumption) | exact Mine.lll (by assumption) | decide | lia))
theorem opword_run {u : List Nat} {c : Nat} (h : c ∈ u) (ho : opChar c = true) : (⟨u.toArray⟩ : Str) ≠ ("(" : Str) ∧ (⟨u.toArray⟩ : Str) ≠ (")" : Str) := by
  constructor
  · intro e
    have e1 : u.toArray = #[40] := congrArg Str.cps e
    have e2 : u = [40] := by simpa using congrArg Array.toList e1
    rw [e2, List.mem_singleton] at h
    rw [h, op40] at ho
    cases ho
  · intro e
    have e1 : u.toArray = #[41] := congrArg Str.cps e
    have e2 : u = [41] := by simpa using congrArg Array.toList e1
    rw [e2, List.mem_singleton] at h
    rw [h, op41] at ho
    cases ho
theorem scan_beyond : ∀ (n : Nat) (d : Int) (k : Nat) (l : List Nat) (pre : List (Str × Nat)), l.length ≤ n → (∀ c ∈ l, c ∈ abc) →
    (scanW d pre.length ((lexL k l).map (·.1)) = none → beyondL d k l = none) ∧ ∀ m u p, scanW d pre.length ((lexL k l).map (·.1)) = some m → (pre ++ lexL k l)[m]? = some (u, p) → beyondL d k l = some p
  | _, d, k, [], pre, _, _ => by
    rw [lexL_nil]
    exact ⟨fun _ => rfl, fun m u p h => by cases h⟩
  | 0, _, _, _ :: _, _, h, _ => absurd h (by simp)
  | n + 1, d, k, a :: r, pre, h, hl => by
    have hr : r.length ≤ n := by simpa using h
    have hl' : ∀ c ∈ r, c ∈ abc := fun c hc => hl c (.tail _ hc)
    obtain ⟨_, ha | ⟨ha, h1, _⟩ | ⟨ha, h1, h2⟩⟩ := abc_ok a (hl a (.head _))
    · subst ha
      rw [lexL_gap op32 sep32, beyondL, if_neg (by decide), if_neg (by decide)]
      exact scan_beyond n d (k + 1) r pre hr hl'
    · have e1 : runLen (a :: r) = runLen r + 1 := runLen_cons h1
      rw [lexL_op h1, List.map_cons]
      have hin : a ∈ (a :: r).takeWhile opChar := by rw [List.takeWhile_cons, if_pos h1]; exact .head _
      obtain ⟨w1, w2⟩ := opword_run hin h1
      rw [scan_skip w1 w2]
      have hb : beyondL d k (a :: r) = beyondL d (k + runLen (a :: r)) ((a :: r).drop (runLen (a :: r))) := by
        have := beyond_run (d := d) ((a :: r).takeWhile opChar) k ((a :: r).drop (runLen (a :: r))) fun c hc => by
          have := take_mem hc
          constructor
          · rintro rfl; rw [op40] at this; cases this
          · rintro rfl; rw [op41] at this; cases this
        rw [← run_take, List.take_append_drop, run_take] at this
        exact this
      rw [hb]
      have := scan_beyond n d (k + runLen (a :: r)) ((a :: r).drop (runLen (a :: r))) (pre ++ [(⟨((a :: r).takeWhile opChar).toArray⟩, k)]) (by rw [e1, List.drop_succ_cons, List.length_drop]; ((first | with_reducible assumption | exact Mine.lim (by assumption) | exact Mine.lim0 (by assumption) | exact Mine.lim2 (by assumption) | exact Mine.lim3 (by assumption) | exact Mine.lme (by assumption) | exact Mine.lml (by assumption) | exact Mine.lll (by assumption) | decide | lia))) fun c hc => hl c (List.mem_of_mem_drop hc)
      rw [List.length_append, List.length_singleton, List.append_assoc, List.singleton_append] at this
      exact this
    · rw [lexL_sep h1 h2, List.map_cons, beyondL]
      have IH := fun d' => scan_beyond n d' (k + 1) r (pre ++ [((⟨#[a]⟩ : Str), k)]) hr hl'
      simp only [List.length_append, List.length_singleton, List.append_assoc, List.singleton_append] at IH
      rw [scanW]
      dsimp only
      rcases ha with rfl | rfl | rfl
      · rw [if_pos (by decide +kernel : (⟨#[40]⟩ : Str) = "("), if_pos rfl]
        by_cases hd : 40 < d + 1
        · rw [if_pos hd, if_pos hd]
          refine ⟨fun q => (by cases q), fun m u p q hm => ?_⟩
          injection q with q
          subst q
          rw [List.getElem?_append_right (by ((first | with_reducible assumption | exact Mine.lim (by assumption) | exact Mine.lim0 (by assumption) | exact Mine.lim2 (by assumption) | exact Mine.lim3 (by assumption) | exact Mine.lme (by assumption) | exact Mine.lml (by assumption) | exact Mine.lll (by assumption) | decide | lia))), show pre.length + 1 - pre.length = 1 by ((first | with_reducible assumption | exact Mine.lim (by assumption) | exact Mine.lim0 (by assumption) | exact Mine.lim2 (by assumption) | exact Mine.lim3 (by assumption) | exact Mine.lme (by assumption) | exact Mine.lml (by assumption) | exact Mine.lll (by assumption) | decide | lia)), List.getElem?_cons_succ] at hm
          cases q2 : lexL (k + 1) r with
          | nil => rw [q2] at hm; cases hm
          | cons b bs =>
            rw [q2] at hm
            injection hm with hm
            subst hm
            rw [lex_head r (k + 1) bs hl' q2]
        · rw [if_neg hd, if_neg hd]
          exact IH (d + 1)
      · rw [if_neg (by decide +kernel : (⟨#[41]⟩ : Str) ≠ "("), if_pos (by decide +kernel : (⟨#[41]⟩ : Str) = ")"), if_neg (by decide : (41 : Nat) ≠ 40), if_pos rfl]
        exact IH (d - 1)
      · rw [if_neg (by decide +kernel : (⟨#[58]⟩ : Str) ≠ "("), if_neg (by decide +kernel : (⟨#[58]⟩ : Str) ≠ ")"), if_neg (by decide : (58 : Nat) ≠ 40), if_neg (by decide : (58 : Nat) ≠ 41)]
        exact IH d
end Mine
end
-- N4
section
namespace Mine
open PySem PySem.W PySem.Calls PyProof.Rows
set_option maxHeartbeats 3000000
structure RTm where
  nm : Str
  l : Tm
  r : Tm
  nd : Option (Str × Tm × Tm)
noncomputable def kindOf (sg : Str) : Str := if sg = "=" then "alike" else "unlike"
noncomputable def RTm.words (R : RTm) : List Str := match R.nd with
  | none => R.nm :: (":" : Str) :: (R.l.words ++ ("->" : Str) :: R.r.words)
  | some (sg, a, b) => R.nm :: (":" : Str) :: (R.l.words ++ ("->" : Str) :: (R.r.words ++ ("if" : Str) :: (a.words ++ sg :: b.words)))
noncomputable def RTm.fault (R : RTm) : Option Nat := match R.nd with
  | none => (match R.l.fault 0 with | some j => some (j + 2) | none => (R.r.fault 0).map (· + (R.l.words.length + 3)))
  | some (_, a, b) => (match R.l.fault 0 with | some j => some (j + 2) | none => match R.r.fault 0 with | some j => some (j + (R.l.words.length + 3)) | none => match a.fault 0 with | some j => some (j + (R.l.words.length + R.r.words.length + 4)) | none => (b.fault 0).map (· + (R.l.words.length + R.r.words.length + a.words.length + 5)))
noncomputable def RTm.needs (R : RTm) : PyData := match R.nd with
  | none => .tuple []
  | some (sg, a, b) => .tuple [.tuple [.str (kindOf sg), a.dat, b.dat]]
structure TmOk (T : Tm) : Prop where
  ops : ∀ o ∈ T.ops, NoQ o
  len : T.words.length ≤ 1000000
  nest : T.nest ≤ 60
structure RTm.Ok (R : RTm) : Prop where
  nm : OpWord R.nm
  l : TmOk R.l
  r : TmOk R.r
  nd : ∀ sg a b, R.nd = some (sg, a, b) → (sg = "=" ∨ sg = "!=") ∧ TmOk a ∧ TmOk b
inductive RuleV (P : Params) (h : Heap) (a da : Addr) (R : RTm) : Prop
  | mk (lv : Value) (rv : Value) (nt : Addr) (tn : Tok) (ka : Tok) (kb : Tok) (kc : Tok) (kd : Tok) (h1_ : h.get? a = some (instObj 134 da)) (h2_ : h.get? da = some (dictOf [⟨PyData.keyHash P "name", .str "name" ka, .str R.nm tn⟩, ⟨PyData.keyHash P "left", .str "left" kb, lv⟩, ⟨PyData.keyHash P "right", .str "right" kc, rv⟩, ⟨PyData.keyHash P "needs", .str "needs" kd, .ref nt⟩] 4)) (h3_ : Reads h lv R.l.dat []) (h4_ : Reads h rv R.r.dat []) (h5_ : Reads h (.ref nt) R.needs []) : RuleV P h a da R
theorem needs_keeps {h h' : Heap} (k : KeepT h h') (R : RTm) {v : Value} (r : Reads h v R.needs []) : Reads h' v R.needs [] := reads_keepT k r
theorem RuleV.keeps {P : Params} {h h' : Heap} {a da : Addr} {R : RTm} (r : RuleV P h a da R) (k : KeepT h h') (ka : ∀ o, h.get? a = some o → h'.get? a = some o) (kd : ∀ o, h.get? da = some o → h'.get? da = some o) : RuleV P h' a da R := by
  obtain ⟨lv, rv, nt, tn, k1, k2, k3, k4, e1, e2, r1, r2, r3⟩ := r
  exact ⟨lv, rv, nt, tn, k1, k2, k3, k4, ka _ e1, kd _ e2, tm_keeps k _ r1, tm_keeps k _ r2, needs_keeps k R r3⟩
theorem RuleV.grow {P : Params} {h h' : Heap} {a da L : Addr} {R : RTm} {g : Heap} {m : Str → Option Value} (F : Fr g L h m) (r : RuleV P h a da R) (hda : da ≠ L) (G : GrowL L h h') : RuleV P h' a da R := by
  have e1 : h.get? a = some (instObj 134 da) := by
    obtain ⟨_, _, _, _, _, _, _, _, e1, _⟩ := r
    exact e1
  refine r.keeps (fun b o e t => G b o (fr_neL F e fun es n q => ?_) e) (fun o e => G a o (fr_neL F e1 fun es n q => ?_) e) (fun o e => G da o hda e)
  · obtain ⟨_, _, _, q2⟩ := t
    rw [q] at q2
    cases q2
  · cases q
theorem Words.grow {g h h' : Heap} {L wl : Addr} {m : Str → Option Value} {ws : List (Str × Nat)} (F : Fr g L h m) (W : Words h wl ws) (G : GrowL L h h') : Words h' wl ws := by
  obtain ⟨vs, ⟨o1, ho, hc, r⟩, hl, hi⟩ := W.its
  refine ⟨vs, ⟨o1, G _ _ (fr_neL F ho fun es n q => ?_) ho, hc, r⟩, hl, fun i u p q => ?_⟩
  · obtain ⟨n2, r⟩ := r
    rw [q] at r
    cases r
  · obtain ⟨tp, t, t', e1, ⟨o2, ho2, hc2, n2, r2⟩⟩ := hi i u p q
    exact ⟨tp, t, t', e1, o2, G _ _ (fr_neL F ho2 fun es n q => by rw [q] at r2; cases r2) ho2, hc2, n2, r2⟩
section
variable {w : World} {mean : ExcName → Option Value} {mg mb : Str → Option Value} {base : Heap} {outer : List Env} {dep un : Nat} {gd : Option (List Code)} {s : Shared} {R : Result → Shared → Prop}
    {x dx wl : Addr} {pl dp : Nat} {ws : List (Str × Nat)}
theorem rule_spec {U : RTm} (C : Cx w mean mg mb base outer (Ar dep un gd outer) s.heap) (hdep : dep + 400 < recursionLimit) (hu : un + 3000 < cLine)
    (hr : RdAt w.params base outer s.heap x dx wl 0 0) (W : Words s.heap wl ws) (hU : U.Ok) (hw : Here ws 0 U.words) {pe : Nat} (hend : ws[U.words.length]? = some (("" : Str), pe)) (hbig : U.words.length < 2 ^ 58)
    (hk1 : U.fault = none → ∀ h' a da tk, Upto [dx] s.heap h' → s.heap.get? a = none → s.heap.get? da = none → RuleV w.params h' a da U → RdAt w.params base outer h' x dx wl U.words.length 0 → R (.ok (.ret (.ref a))) { s with heap := h', toks := tk })
    (hk2 : ∀ i u p, U.fault = some i → ws[i]? = some (u, p) → ∀ h' tk e, Thrown w.params outer [dx] s.heap p e h' → R (.error (.ref e)) { s with heap := h', toks := tk }) :
    codeAny (model PR w) (Ar dep un gd outer) (.call (.ref 236) ⟨[.ref x], []⟩) R s := by
  obtain ⟨nm, l, r, nd⟩ := U
  obtain ⟨o1, o2, o3, o4⟩ := hU
  try dsimp only at o1 o2 o3 o4
  have hnl := o2.nest
  have hnr := o3.nest
  cases nd with
  | none =>
    simp only [RTm.words, RTm.fault, List.length_cons, List.length_append] at hw hend hbig hk1 hk2
    refine rule_spec0 C (by ((first | with_reducible assumption | exact Mine.lim (by assumption) | exact Mine.lim0 (by assumption) | exact Mine.lim2 (by assumption) | exact Mine.lim3 (by assumption) | exact Mine.lme (by assumption) | exact Mine.lml (by assumption) | exact Mine.lll (by assumption) | decide | lia))) (by ((first | with_reducible assumption | exact Mine.lim (by assumption) | exact Mine.lim0 (by assumption) | exact Mine.lim2 (by assumption) | exact Mine.lim3 (by assumption) | exact Mine.lme (by assumption) | exact Mine.lml (by assumption) | exact Mine.lll (by assumption) | decide | lia))) hr W hw o1 (pe := pe) (by rw [← hend]; congr 1; ((first | with_reducible assumption | exact Mine.lim (by assumption) | exact Mine.lim0 (by assumption) | exact Mine.lim2 (by assumption) | exact Mine.lim3 (by assumption) | exact Mine.lme (by assumption) | exact Mine.lml (by assumption) | exact Mine.lll (by assumption) | decide | lia))) (by ((first | with_reducible assumption | exact Mine.lim (by assumption) | exact Mine.lim0 (by assumption) | exact Mine.lim2 (by assumption) | exact Mine.lim3 (by assumption) | exact Mine.lme (by assumption) | exact Mine.lml (by assumption) | exact Mine.lll (by assumption) | decide | lia))) o2.ops o3.ops o2.len o3.len (by ((first | with_reducible assumption | exact Mine.lim (by assumption) | exact Mine.lim0 (by assumption) | exact Mine.lim2 (by assumption) | exact Mine.lim3 (by assumption) | exact Mine.lme (by assumption) | exact Mine.lml (by assumption) | exact Mine.lll (by assumption) | decide | lia))) (by ((first | with_reducible assumption | exact Mine.lim (by assumption) | exact Mine.lim0 (by assumption) | exact Mine.lim2 (by assumption) | exact Mine.lim3 (by assumption) | exact Mine.lme (by assumption) | exact Mine.lml (by assumption) | exact Mine.lll (by assumption) | decide | lia))) (fun f1 f2 h' a da nt lv rv tn ka kb kc kd tk u ea e0 e1 e2 tN r1 r2 rd => ?_) hk2
    refine hk1 (by rw [f1, f2]; rfl) h' a da tk u ea e0 ⟨lv, rv, nt, tn, ka, kb, kc, kd, e1, e2, r1, r2, ?_⟩ (by rw [show l.words.length + (r.words.length + 1) + 1 + 1 = 2 + l.words.length + 1 + r.words.length by ((first | with_reducible assumption | exact Mine.lim (by assumption) | exact Mine.lim0 (by assumption) | exact Mine.lim2 (by assumption) | exact Mine.lim3 (by assumption) | exact Mine.lme (by assumption) | exact Mine.lml (by assumption) | exact Mine.lll (by assumption) | decide | lia))]; exact rd)
    obtain ⟨o, q1, q2, n, q3⟩ := tN
    exact .tuple q1 q2 q3 .nil
  | some t =>
    obtain ⟨sg, ta, tb⟩ := t
    obtain ⟨hsg, oa, ob⟩ := o4 sg ta tb rfl
    have hna := oa.nest
    have hnb := ob.nest
    simp only [RTm.words, RTm.fault, List.length_cons, List.length_append] at hw hend hbig hk1 hk2
    refine rule_spec1 C (by ((first | with_reducible assumption | exact Mine.lim (by assumption) | exact Mine.lim0 (by assumption) | exact Mine.lim2 (by assumption) | exact Mine.lim3 (by assumption) | exact Mine.lme (by assumption) | exact Mine.lml (by assumption) | exact Mine.lll (by assumption) | decide | lia))) (by ((first | with_reducible assumption | exact Mine.lim (by assumption) | exact Mine.lim0 (by assumption) | exact Mine.lim2 (by assumption) | exact Mine.lim3 (by assumption) | exact Mine.lme (by assumption) | exact Mine.lml (by assumption) | exact Mine.lll (by assumption) | decide | lia))) hr W hw o1 hsg (pe := pe) (by rw [← hend]; congr 1; ((first | with_reducible assumption | exact Mine.lim (by assumption) | exact Mine.lim0 (by assumption) | exact Mine.lim2 (by assumption) | exact Mine.lim3 (by assumption) | exact Mine.lme (by assumption) | exact Mine.lml (by assumption) | exact Mine.lll (by assumption) | decide | lia))) (by ((first | with_reducible assumption | exact Mine.lim (by assumption) | exact Mine.lim0 (by assumption) | exact Mine.lim2 (by assumption) | exact Mine.lim3 (by assumption) | exact Mine.lme (by assumption) | exact Mine.lml (by assumption) | exact Mine.lll (by assumption) | decide | lia))) o2.ops o3.ops oa.ops ob.ops o2.len o3.len oa.len ob.len (by ((first | with_reducible assumption | exact Mine.lim (by assumption) | exact Mine.lim0 (by assumption) | exact Mine.lim2 (by assumption) | exact Mine.lim3 (by assumption) | exact Mine.lme (by assumption) | exact Mine.lml (by assumption) | exact Mine.lll (by assumption) | decide | lia))) (by ((first | with_reducible assumption | exact Mine.lim (by assumption) | exact Mine.lim0 (by assumption) | exact Mine.lim2 (by assumption) | exact Mine.lim3 (by assumption) | exact Mine.lme (by assumption) | exact Mine.lml (by assumption) | exact Mine.lll (by assumption) | decide | lia))) (by ((first | with_reducible assumption | exact Mine.lim (by assumption) | exact Mine.lim0 (by assumption) | exact Mine.lim2 (by assumption) | exact Mine.lim3 (by assumption) | exact Mine.lme (by assumption) | exact Mine.lml (by assumption) | exact Mine.lll (by assumption) | decide | lia))) (by ((first | with_reducible assumption | exact Mine.lim (by assumption) | exact Mine.lim0 (by assumption) | exact Mine.lim2 (by assumption) | exact Mine.lim3 (by assumption) | exact Mine.lme (by assumption) | exact Mine.lml (by assumption) | exact Mine.lll (by assumption) | decide | lia))) (fun f1 f2 f3 f4 h' a da nt nd lv rv v1 v2 tn tkd ka kb kc kd tk u ea e0 e1 e2 tN tD s1 s2 r1 r2 rd => ?_) hk2
    refine hk1 (by rw [f1, f2, f3, f4]; rfl) h' a da tk u ea e0 ⟨lv, rv, nt, tn, ka, kb, kc, kd, e1, e2, r1, r2, ?_⟩ (by rw [show l.words.length + (r.words.length + (ta.words.length + (tb.words.length + 1) + 1) + 1) + 1 + 1 = 2 + l.words.length + 1 + r.words.length + 1 + ta.words.length + 1 + tb.words.length by ((first | with_reducible assumption | exact Mine.lim (by assumption) | exact Mine.lim0 (by assumption) | exact Mine.lim2 (by assumption) | exact Mine.lim3 (by assumption) | exact Mine.lme (by assumption) | exact Mine.lml (by assumption) | exact Mine.lll (by assumption) | decide | lia))]; exact rd)
    obtain ⟨o, q1, q2, n, q3⟩ := tN
    obtain ⟨o', q1', q2', n', q3'⟩ := tD
    exact .tuple q1 q2 q3 (readsAll_cons_val (.tuple q1' q2' q3' (readsAll_cons_val (.str _ _) (readsAll_cons_val s1 (readsAll_cons_val s2 .nil)))) .nil)
theorem rtm_fault_lt {U : RTm} {i : Nat} (h : U.fault = some i) : i < U.words.length := by
  obtain ⟨nm, l, r, nd⟩ := U
  cases nd with
  | none =>
    simp only [RTm.words, RTm.fault, List.length_cons, List.length_append] at h ⊢
    cases q : l.fault 0 with
    | some j =>
      rw [q] at h
      cases h
      have := fault_lt l q
      ((first | with_reducible assumption | exact Mine.lim (by assumption) | exact Mine.lim0 (by assumption) | exact Mine.lim2 (by assumption) | exact Mine.lim3 (by assumption) | exact Mine.lme (by assumption) | exact Mine.lml (by assumption) | exact Mine.lll (by assumption) | decide | lia))
    | none =>
      rw [q] at h
      cases q2 : r.fault 0 with
      | none => rw [q2] at h; cases h
      | some j =>
        rw [q2] at h
        obtain rfl : j + (l.words.length + 3) = i := by injection h
        have := fault_lt r q2
        ((first | with_reducible assumption | exact Mine.lim (by assumption) | exact Mine.lim0 (by assumption) | exact Mine.lim2 (by assumption) | exact Mine.lim3 (by assumption) | exact Mine.lme (by assumption) | exact Mine.lml (by assumption) | exact Mine.lll (by assumption) | decide | lia))
  | some t =>
    obtain ⟨sg, ta, tb⟩ := t
    simp only [RTm.words, RTm.fault, List.length_cons, List.length_append] at h ⊢
    cases q : l.fault 0 with
    | some j =>
      rw [q] at h
      cases h
      have := fault_lt l q
      ((first | with_reducible assumption | exact Mine.lim (by assumption) | exact Mine.lim0 (by assumption) | exact Mine.lim2 (by assumption) | exact Mine.lim3 (by assumption) | exact Mine.lme (by assumption) | exact Mine.lml (by assumption) | exact Mine.lll (by assumption) | decide | lia))
    | none =>
      rw [q] at h
      cases q2 : r.fault 0 with
      | some j =>
        rw [q2] at h
        cases h
        have := fault_lt r q2
        ((first | with_reducible assumption | exact Mine.lim (by assumption) | exact Mine.lim0 (by assumption) | exact Mine.lim2 (by assumption) | exact Mine.lim3 (by assumption) | exact Mine.lme (by assumption) | exact Mine.lml (by assumption) | exact Mine.lll (by assumption) | decide | lia))
      | none =>
        rw [q2] at h
        cases q3 : ta.fault 0 with
        | some j =>
          rw [q3] at h
          cases h
          have := fault_lt ta q3
          ((first | with_reducible assumption | exact Mine.lim (by assumption) | exact Mine.lim0 (by assumption) | exact Mine.lim2 (by assumption) | exact Mine.lim3 (by assumption) | exact Mine.lme (by assumption) | exact Mine.lml (by assumption) | exact Mine.lll (by assumption) | decide | lia))
        | none =>
          rw [q3] at h
          cases q4 : tb.fault 0 with
          | none => rw [q4] at h; cases h
          | some j =>
            rw [q4] at h
            obtain rfl : j + (l.words.length + r.words.length + ta.words.length + 5) = i := by injection h
            have := fault_lt tb q4
            ((first | with_reducible assumption | exact Mine.lim (by assumption) | exact Mine.lim0 (by assumption) | exact Mine.lim2 (by assumption) | exact Mine.lim3 (by assumption) | exact Mine.lme (by assumption) | exact Mine.lml (by assumption) | exact Mine.lll (by assumption) | decide | lia))
theorem read_rule_spec {x : Str} {t : Tok} {U : RTm} (C : Cx w mean mg mb base outer (Ar dep un gd outer) s.heap) (hdep : dep + 450 < recursionLimit) (hu : un + 3400 < cLine) (hx : x.length ≤ 100000)
    (hok : ∀ c ∈ x.cps.toList, c < 128 ∧ (opChar c = true ∨ sepChar c = true ∨ Txt.isspace ⟨#[c]⟩ = true)) (hlex : (lexL 0 x.cps.toList).map (·.1) = U.words) (hU : U.Ok)
    (hk1 : U.fault = none → ∀ h' a da tk, Upto [] s.heap h' → s.heap.get? a = none → s.heap.get? da = none → RuleV w.params h' a da U → R (.ok (.ret (.ref a))) { s with heap := h', toks := tk })
    (hk2 : ∀ i u p, U.fault = some i → (lexL 0 x.cps.toList)[i]? = some (u, p) → ∀ h' tk e, Thrown w.params outer [] s.heap p e h' → R (.error (.ref e)) { s with heap := h', toks := tk }) :
    codeAny (model PR w) (Ar dep un gd outer) (.call (.ref 276) ⟨[.str x t], []⟩) R s := by
  refine' enter_fn (A := Ar dep un gd outer) [("text", .str x t)] C [] (List.forall_mem_nil _) ?k1 ?k2 ?k3 ?k4 ?k5 ?_ ?c2 ?c3 ?c4 ?c5
  ((case k1 => k_is); (case k2 => k_is); (case k3 => (show _ < _; first | ((first | with_reducible assumption | exact Mine.lim (by assumption) | exact Mine.lim0 (by assumption) | exact Mine.lim2 (by assumption) | exact Mine.lim3 (by assumption) | exact Mine.lme (by assumption) | exact Mine.lml (by assumption) | exact Mine.lll (by assumption) | decide | lia)) | (dsimp only; ((first | with_reducible assumption | exact Mine.lim (by assumption) | exact Mine.lim0 (by assumption) | exact Mine.lim2 (by assumption) | exact Mine.lim3 (by assumption) | exact Mine.lme (by assumption) | exact Mine.lml (by assumption) | exact Mine.lll (by assumption) | decide | lia))))); (case k4 => exact BindsTo.of_eq rfl); (case k5 => exact locs rfl); (case c2 => exact rfl); (case c3 => exact rfl); (case c4 => exact rfl); (case c5 => decide))
  intro g L h₁ tk F N B X T hin hout hsz
  try k_fold
  (repeat' ((fail_if_success with_reducible first|refine zz11 ?_|refine zz9 ?_|refine zz1 ?_|refine zz2 ?_|refine zz3 ?_|refine zz4 ?_|refine zz7 ?_|refine zz5 ?_|refine zz10 ?_|refine zz6 ?_); first | (k_unfold; (try dsimp only)) | walk1 | (dsimp only; walk1)))
  refine' call_cls ?k1 ?k2 ?k3 ?k4 ?k5 ?k6 ?_
  case k1 => k_asm
  case k2 => k_asm
  case k3 => k_asm
  case k4 => k_is
  case k5 => k_is
  case k6 => k_is
  intro a da h2 F2 N2 l1 l2
  refine rinit_spec (s := ⟨h2, _, _, _, _⟩) (cx_in C.X C.T B F2 rfl rfl rfl) ?_ ?_ hx hok (mut_in B rfl N2 (.head _)) (mut_in B rfl N2 (.tail _ (.head _))) fun h3 wl tk3 u3 r3 W3 => ?_
  · show dep + 1 + 1 + 40 < _; ((first | with_reducible assumption | exact Mine.lim (by assumption) | exact Mine.lim0 (by assumption) | exact Mine.lim2 (by assumption) | exact Mine.lim3 (by assumption) | exact Mine.lme (by assumption) | exact Mine.lml (by assumption) | exact Mine.lll (by assumption) | decide | lia))
  · have hq : (Code.builtin "type.__call__" (Args.mk [Value.ref 258, Value.str x t] [])).cUnits ≤ 50 := by first | decide | exact Nat.le_of_ble_eq_true rfl
    show un + 3 + (Code.builtin "type.__call__" (Args.mk [Value.ref 258, Value.str x t] [])).cUnits + 300 < _
    ((first | with_reducible assumption | exact Mine.lim (by assumption) | exact Mine.lim0 (by assumption) | exact Mine.lim2 (by assumption) | exact Mine.lim3 (by assumption) | exact Mine.lme (by assumption) | exact Mine.lml (by assumption) | exact Mine.lll (by assumption) | decide | lia))
  refine ⟨rfl, ?_⟩
  obtain ⟨F3, K, N3⟩ := rd_step (tl := []) F2 N2 (ne_obj (N2.get (.head _)) (N2.get (.tail _ (.head _))) (by simp)) (List.forall_mem_nil _) u3 r3
  have hne : a ≠ da := ne_obj (N2.get (.head _)) (N2.get (.tail _ (.head _))) (by simp)
  clear F2 N2 l1 l2
  obtain ⟨tl, N4, htc, hkp⟩ := words_snap F3 N3 W3
  rw [List.cons_append, List.cons_append, List.nil_append] at N4
  have htd : ∀ p ∈ tl, p.1 ≠ da := fun p hp => ne_obj (N4.get (.tail _ (.tail _ hp))) (N4.get (.tail _ (.head _))) (by rcases htc p hp with q | q <;> rw [q] <;> simp)
  clear N3
  try dsimp only
  (repeat' ((fail_if_success with_reducible first|refine zz11 ?_|refine zz9 ?_|refine zz1 ?_|refine zz2 ?_|refine zz3 ?_|refine zz4 ?_|refine zz7 ?_|refine zz5 ?_|refine zz10 ?_|refine zz6 ?_); first | (k_unfold; (try dsimp only)) | walk1 | (dsimp only; walk1)))
  rename_i h4 F4 N5
  have hH : Here (lexL 0 x.cps.toList ++ [(("" : Str), x.length)]) 0 U.words := ⟨[("" : Str)], by rw [List.drop_zero, List.map_append, hlex]; rfl⟩
  have hlw : (lexL 0 x.cps.toList).length = U.words.length := by rw [← hlex, List.length_map]
  have hlb : U.words.length ≤ 100000 := by rw [← hlw]; exact Nat.le_trans (lexL_len _ 0 _ (Nat.le_refl _)) (by simpa [Str.length] using hx)
  have hL : s.heap.get? L = none := Heap.get?_none_of_le (by rw [← hsz]; exact F4.above)
  have hda0 : s.heap.get? da = none := by
    cases q : s.heap.get? da with
    | none => rfl
    | some o =>
      have := hin _ _ q List.not_mem_nil
      rw [(N5 _ (.tail _ (.head _))).2.2] at this
      cases this
  refine wpAny_call (rule_spec (U := U) (s := ⟨h4, _, _, _, _⟩) (cx_in C.X C.T B F4 rfl rfl rfl) (show dep + 1 + 400 < _ by ((first | with_reducible assumption | exact Mine.lim (by assumption) | exact Mine.lim0 (by assumption) | exact Mine.lim2 (by assumption) | exact Mine.lim3 (by assumption) | exact Mine.lme (by assumption) | exact Mine.lml (by assumption) | exact Mine.lll (by assumption) | decide | lia))) (show un + 3 + 3000 < _ by ((first | with_reducible assumption | exact Mine.lim (by assumption) | exact Mine.lim0 (by assumption) | exact Mine.lim2 (by assumption) | exact Mine.lim3 (by assumption) | exact Mine.lme (by assumption) | exact Mine.lml (by assumption) | exact Mine.lll (by assumption) | decide | lia)))
    (rd_in2 B rfl N5 (.head _) (.tail _ (.head _))) (hkp h4 F4.keep fun p hp => N5.get (.tail _ (.tail _ hp))).2 hU hH (pe := x.length) (by rw [← hlw, List.getElem?_append_right (Nat.le_refl _), Nat.sub_self]; rfl) (by ((first | with_reducible assumption | exact Mine.lim (by assumption) | exact Mine.lim0 (by assumption) | exact Mine.lim2 (by assumption) | exact Mine.lim3 (by assumption) | exact Mine.lme (by assumption) | exact Mine.lml (by assumption) | exact Mine.lll (by assumption) | decide | lia))) (fun hf h5 a5 da5 tk5 u5 na5 n5 e5 r5 => ?_) fun i u p hf hp h5 tk5 e y => ?_)
  · have hdL : da5 ≠ L := fun q => by
      obtain ⟨oL, _, _, hoL, _⟩ := F4.ns
      rw [q, hoL] at n5
      cases n5
    obtain ⟨F6, _, N6⟩ := rd_step F4 N5 hne htd u5 r5
    have W6 := (hkp h5 F6.keep fun p hp => N6.get (.tail _ (.tail _ hp))).2
    have d0 : s.heap.get? da5 = none := by
      cases q : s.heap.get? da5 with
      | none => rfl
      | some o =>
        have := F4.keep _ _ (hin _ _ q List.not_mem_nil)
        rw [n5] at this
        cases this
    have a0 : s.heap.get? a5 = none := by
      cases q : s.heap.get? a5 with
      | none => rfl
      | some o =>
        have := F4.keep _ _ (hin _ _ q List.not_mem_nil)
        rw [na5] at this
        cases this
    have N7 : News g L h5 [_, _] := fun p hp => N6 p (by
      rcases List.mem_cons.mp hp with q | hp
      · exact q ▸ .head _
      · rw [List.mem_singleton.mp hp]; exact .tail _ (.head _))
    have N8 : News g L h5 ((a, instObj 258 da) :: (da, dictOf (rdEs w.params _ wl U.words.length 0) 4) :: fullOf g L h5) := fun p hp => by
      rcases List.mem_cons.mp hp with q | hp
      · exact N7 p (q ▸ .head _)
      · rcases List.mem_cons.mp hp with q | hp
        · exact N7 p (q ▸ .tail _ (.head _))
        · exact news_full p hp
    have hgr : ∀ h' : Heap, (∀ b o, g.get? b = some o → h'.get? b = some o) → (∀ p ∈ fullOf g L h5, h'.get? p.1 = some p.2) → RuleV w.params h' a5 da5 U ∧ Words h' wl (lexL 0 x.cps.toList ++ [(("" : Str), x.length)]) := fun h' kg kt => by
      have G := full_grow kg F6.keep kt
      exact ⟨e5.grow F6 hdL G, W6.grow F6 G⟩
    generalize fullOf g L h5 = tl2 at N8 hgr
    clear F4 N5 N6 N7
    try dsimp only
    (repeat' ((fail_if_success with_reducible first|refine zz11 ?_|refine zz9 ?_|refine zz1 ?_|refine zz2 ?_|refine zz3 ?_|refine zz4 ?_|refine zz7 ?_|refine zz5 ?_|refine zz10 ?_|refine zz6 ?_); first | (k_unfold; (try dsimp only)) | walk1 | (dsimp only; walk1)))
    rename_i h6 F7 N9
    obtain ⟨kT, W7⟩ := hgr h6 F7.keep fun p hp => N9.get (.tail _ (.tail _ hp))
    refine wpAny_call (want_end (s := ⟨h6, _, _, _, _⟩) (p := x.length) (cx_in C.X C.T B F7 rfl rfl rfl) (show dep + 1 + 3 < _ by ((first | with_reducible assumption | exact Mine.lim (by assumption) | exact Mine.lim0 (by assumption) | exact Mine.lim2 (by assumption) | exact Mine.lim3 (by assumption) | exact Mine.lme (by assumption) | exact Mine.lml (by assumption) | exact Mine.lll (by assumption) | decide | lia))) (rd_in2 B rfl N9 (.head _) (.tail _ (.head _))) W7 (by rw [← hlw, List.getElem?_append_right (Nat.le_refl _), Nat.sub_self]; rfl) (by ((first | with_reducible assumption | exact Mine.lim (by assumption) | exact Mine.lim0 (by assumption) | exact Mine.lim2 (by assumption) | exact Mine.lim3 (by assumption) | exact Mine.lme (by assumption) | exact Mine.lml (by assumption) | exact Mine.lll (by assumption) | decide | lia))) fun h7 tk7 u7 => ?_)
    have F8 := fr_upto F7 u7 (fun a ha => nomatch ha)
    have N10 := news_upto N9 u7
    clear F7 N9
    try dsimp only
    (repeat' ((fail_if_success with_reducible first|refine zz11 ?_|refine zz9 ?_|refine zz1 ?_|refine zz2 ?_|refine zz3 ?_|refine zz4 ?_|refine zz7 ?_|refine zz5 ?_|refine zz10 ?_|refine zz6 ?_); first | (k_unfold; (try dsimp only)) | walk1 | (dsimp only; walk1)))
    refine hk1 hf _ a5 da5 _ (upto0 hin F8) a0 d0 ?_
    exact (hgr h7 F8.keep fun p hp => N10.get (.tail _ (.tail _ hp))).1
  · have UU := upto0 hin F4
    refine thrown_leave UU hL (fun a ha => nomatch ha) rfl rfl y (fun b hb => ?_) fun h6 y6 => hk2 i u p hf ?_ _ _ _ y6
    · rw [List.mem_singleton.mp hb]
      exact .inr hda0
    · rw [List.getElem?_append_left (by rw [hlw]; exact rtm_fault_lt hf)] at hp
      exact hp
theorem read_rule_long {x : Str} {t : Tok} (C : Cx w mean mg mb base outer (Ar dep un gd outer) s.heap) (hdep : dep + 100 < recursionLimit) (hx : 100000 < x.length) (hx2 : x.length ≤ 1000000)
    (hk : ∀ h' tk e, Thrown w.params outer [] s.heap 100000 e h' → R (.error (.ref e)) { s with heap := h', toks := tk }) :
    codeAny (model PR w) (Ar dep un gd outer) (.call (.ref 276) ⟨[.str x t], []⟩) R s := by
  refine' enter_fn (A := Ar dep un gd outer) [("text", .str x t)] C [] (List.forall_mem_nil _) ?k1 ?k2 ?k3 ?k4 ?k5 ?_ ?c2 ?c3 ?c4 ?c5
  ((case k1 => k_is); (case k2 => k_is); (case k3 => (show _ < _; first | ((first | with_reducible assumption | exact Mine.lim (by assumption) | exact Mine.lim0 (by assumption) | exact Mine.lim2 (by assumption) | exact Mine.lim3 (by assumption) | exact Mine.lme (by assumption) | exact Mine.lml (by assumption) | exact Mine.lll (by assumption) | decide | lia)) | (dsimp only; ((first | with_reducible assumption | exact Mine.lim (by assumption) | exact Mine.lim0 (by assumption) | exact Mine.lim2 (by assumption) | exact Mine.lim3 (by assumption) | exact Mine.lme (by assumption) | exact Mine.lml (by assumption) | exact Mine.lll (by assumption) | decide | lia))))); (case k4 => exact BindsTo.of_eq rfl); (case k5 => exact locs rfl); (case c2 => exact rfl); (case c3 => exact rfl); (case c4 => exact rfl); (case c5 => decide))
  intro g L h₁ tk F N B X T hin hout hsz
  try k_fold
  (repeat' ((fail_if_success with_reducible first|refine zz11 ?_|refine zz9 ?_|refine zz1 ?_|refine zz2 ?_|refine zz3 ?_|refine zz4 ?_|refine zz7 ?_|refine zz5 ?_|refine zz10 ?_|refine zz6 ?_); first | (k_unfold; (try dsimp only)) | walk1 | (dsimp only; walk1)))
  refine' call_cls ?k1 ?k2 ?k3 ?k4 ?k5 ?k6 ?_
  case k1 => k_asm
  case k2 => k_asm
  case k3 => k_asm
  case k4 => k_is
  case k5 => k_is
  case k6 => k_is
  intro a da h2 F2 N2 l1 l2
  refine rinit_long (s := ⟨h2, _, _, _, _⟩) (cx_in C.X C.T B F2 rfl rfl rfl) (show dep + 1 + 1 + 40 < _ by ((first | with_reducible assumption | exact Mine.lim (by assumption) | exact Mine.lim0 (by assumption) | exact Mine.lim2 (by assumption) | exact Mine.lim3 (by assumption) | exact Mine.lme (by assumption) | exact Mine.lml (by assumption) | exact Mine.lll (by assumption) | decide | lia))) hx hx2 (mut_in B rfl N2 (.head _)) (mut_in B rfl N2 (.tail _ (.head _))) fun h3 tk3 e y => ?_
  exact thrown_leave (upto0 hin F2) (Heap.get?_none_of_le (by rw [← hsz]; exact F2.above)) (fun a ha => nomatch ha) rfl rfl y (fun a ha => nomatch ha) fun h4 y4 => hk _ _ _ y4
end
end Mine
end
-- Ct3
section
namespace Mine
open PySem PySem.W PySem.Calls PyProof.Rows Builtin Builtin.ObjectAttr
set_option maxHeartbeats 1000000
theorem exc_get {w : World} {A : Around} {E : Value → Shared → Prop} {s : Shared} {x : Addr} {ox od : Obj} {name : Str} {v : Value} {expr : Bool} {Q : Value → Shared → Prop}
    (X : (top.heap_1 w.params).In s.heap) (I : InstAt s.heap x ox 76 (some od)) (e : findObj (top.heap_1 w.params) 76 (some od) name = some (.value v)) (hv : handedIn v = true) (hq : Q v { s with toks := s.toks + 1 }) :
    wpAny (model PR w) A (getAttr (.ref x) name expr) Q E s := by
  obtain ⟨h, g, d, t, os⟩ := s
  dsimp only at X I
  have L1 : Looks (model PR w) h (typeOf (.ref x)) (.ref 76) := I.type
  have L2 := looks_findIn (M := model PR w) X (t := .ref 76) (name := "__getattribute__") (r := some (.builtin "BaseException.__getattribute__")) (by k_is)
  have L3 := looks_findIn (M := model PR w) X (t := .ref 76) (name := "__getattr__") (r := none) (by k_is)
  have LF := looks_find (M := model PR w) X I e
  have sub : Looks (model PR w) h (isInstance (.ref x) (.type "BaseException")) true := L1.andThen (tf_subB X)
  have f3 := PySem.F.attr_Exception.ga.bind (.ref x)
  unfold getAttr
  refine wpAny_bind (wpAny_mkText ?_)
  unfold getAttrBy
  refine wpAny_holding (wpAny_bind (L1.at (wpAny_bind (L2.at ?_))))
  dsimp only
  have hx2 : (Value.builtin "BaseException.__getattribute__" == Value.builtin "object.__getattribute__") = false := by decide +kernel
  rw [hx2, Bool.and_false, if_neg Bool.false_ne_true]
  unfold getAttrByItsOwn
  refine wpAny_bind ?_
  show wpAny _ _ (typeLookup (.ref 76) "__getattr__") _ _ _
  refine L3.at ?_
  refine wpAny_bind (wpAny_attempt (wpAny_holding ?_))
  unfold callGetattribute
  have hx0 : (expr && onTheHeap (Value.builtin "BaseException.__getattribute__")) = false := by cases expr <;> rfl
  rw [hx0, if_neg Bool.false_ne_true]
  unfold boundAndCalled
  rw [f3]
  refine wpAny_bind (wpAny_pure (wpAny_call ?_))
  refine codeAny_call_builtin PySem.F.attr_Exception.ga.plain PySem.F.entry_bexc_ga (@check_slot (model PR w) _ _ _ "BaseException.__getattribute__" "BaseException" "__getattribute__" (.ref x) [.str name t] [] _ (by decide +kernel) (by decide +kernel) sub (PySem.F.args_bexc_ga (.ref x) (.str name t)) ?_)
  show wpAny _ _ (Builtin.«object.__getattribute__» ⟨[.ref x, .str name t], []⟩) _ _ ⟨h, g, d, t + 1, os⟩
  unfold Builtin.«object.__getattribute__»
  refine wpAny_bind (wpAny_pure ?_)
  dsimp only
  refine wpAny_bind (wpAny_pure ?_)
  refine wpAny_bind (L1.at (wpAny_bind (LF.at ?_)))
  refine wpAny_pure ?_
  dsimp only
  rw [handedOut_of hv]
  exact wpAny_pure hq
theorem tf_what {w : World} {A : Around} {E : Value → Shared → Prop} {s : Shared} {x de : Addr} {vs : Array Value} {sl : Array (Option Value)} {k k' t t' : Tok} {mt : Str} {sp : Int} {expr : Bool} {Q : Value → Shared → Prop}
    (X : (top.heap_1 w.params).In s.heap) (he : s.heap.get? x = some ⟨.ref 76, some de, .fields vs, sl⟩) (hde : s.heap.get? de = some (tfDict w.params k k' mt t t' sp)) (hq : Q (.str mt t) { s with toks := s.toks + 1 }) :
    wpAny (model PR w) A (getAttr (.ref x) "what" expr) Q E s :=
  exc_get X ⟨he, rfl, rfl, hde⟩ (findObj_own (attr := none) (by k_is) (by k_is) rfl rfl) rfl hq
theorem tf_spot {w : World} {A : Around} {E : Value → Shared → Prop} {s : Shared} {x de : Addr} {vs : Array Value} {sl : Array (Option Value)} {k k' t t' : Tok} {mt : Str} {sp : Int} {expr : Bool} {Q : Value → Shared → Prop}
    (X : (top.heap_1 w.params).In s.heap) (he : s.heap.get? x = some ⟨.ref 76, some de, .fields vs, sl⟩) (hde : s.heap.get? de = some (tfDict w.params k k' mt t t' sp)) (hq : Q (.int sp t') { s with toks := s.toks + 1 }) :
    wpAny (model PR w) A (getAttr (.ref x) "spot" expr) Q E s :=
  exc_get X ⟨he, rfl, rfl, hde⟩ (findObj_own (attr := none) (by k_is) (by k_is) rfl rfl) rfl hq
end Mine
end
-- O1
section
namespace Mine
open PySem PySem.W PySem.Calls PyProof.Rows
set_option maxHeartbeats 3000000
noncomputable abbrev rrScope : Scope := ⟨.function, [("text", .local), ("found", .local), ("begin", .local), ("row", .local), ("fault", .local), ("read_rule", .globalImplicit), ("TextFault", .globalImplicit), ("len", .globalImplicit)], false, false, []⟩
noncomputable abbrev rrmap (D : Addr) (x : Str) (t : Tok) (rv : Option Value) (b : Int) (tb : Tok) : Str → Option Value := fun y => if y = "row" then rv else if y = "found" then some (.ref D) else if y = "begin" then some (.int b tb) else if y = "text" then some (.str x t) else none
inductive RulesAt (P : Params) (h : Heap) (F : Addr → Prop) : List Value → List RTm → Prop
  | nil : RulesAt P h F [] []
  | cons {a da : Addr} {U : RTm} {vs : List Value} {Us : List RTm} : RuleV P h a da U → F a → F da → RulesAt P h F vs Us → RulesAt P h F (.ref a :: vs) (U :: Us)
theorem RulesAt.snoc {P : Params} {h : Heap} {F : Addr → Prop} {a da : Addr} {U : RTm} (r : RuleV P h a da U) (fa : F a) (fda : F da) {vs : List Value} {Us : List RTm} (q : RulesAt P h F vs Us) : RulesAt P h F (vs ++ [.ref a]) (Us ++ [U]) := by
  induction q with
  | nil => exact .cons r fa fda .nil
  | cons q a b _ ih => exact .cons q a b ih
theorem RulesAt.len {P : Params} {h : Heap} {F : Addr → Prop} {vs : List Value} {Us : List RTm} (q : RulesAt P h F vs Us) : vs.length = Us.length := by
  induction q with
  | nil => rfl
  | cons _ _ _ _ ih => exact congrArg Nat.succ ih
theorem RulesAt.imp {P : Params} {h : Heap} {F F' : Addr → Prop} (i : ∀ b, F b → F' b) {vs : List Value} {Us : List RTm} (q : RulesAt P h F vs Us) : RulesAt P h F' vs Us := by
  induction q with
  | nil => exact .nil
  | cons q a b _ ih => exact .cons q (i _ a) (i _ b) ih
structure RowOk (r : Str × Option RTm) : Prop where
  len : r.1.length ≤ 100000
  skip : r.2 = none → Txt.strip r.1 = "" ∨ (Txt.strip r.1 ≠ "" ∧ Txt.item (Txt.strip r.1) 0 = ";")
  some : ∀ U, r.2 = some U → Txt.strip r.1 ≠ "" ∧ Txt.item (Txt.strip r.1) 0 ≠ ";" ∧ U.Ok ∧ (lexL 0 r.1.cps.toList).map (·.1) = U.words ∧ ∀ c ∈ r.1.cps.toList, c < 128 ∧ (opChar c = true ∨ sepChar c = true ∨ Txt.isspace ⟨#[c]⟩ = true)
noncomputable def rowsLen : List (Str × Option RTm) → Nat
  | [] => 0
  | r :: rs => r.1.length + 1 + rowsLen rs
theorem rowsLen_app (b : List (Str × Option RTm)) : ∀ (a : List (Str × Option RTm)), rowsLen (a ++ b) = rowsLen a + rowsLen b
  | [] => (Nat.zero_add _).symm
  | r :: rs => by
    rw [List.cons_append, rowsLen, rowsLen, rowsLen_app b rs]; ((first | with_reducible assumption | exact Mine.lim (by assumption) | exact Mine.lim0 (by assumption) | exact Mine.lim2 (by assumption) | exact Mine.lim3 (by assumption) | exact Mine.lme (by assumption) | exact Mine.lml (by assumption) | exact Mine.lll (by assumption) | decide | lia))
noncomputable def rowsRules : List (Str × Option RTm) → List RTm
  | [] => []
  | (_, none) :: rs => rowsRules rs
  | (_, some U) :: rs => U :: rowsRules rs
theorem rowsRules_app (b : List (Str × Option RTm)) : ∀ (a : List (Str × Option RTm)), rowsRules (a ++ b) = rowsRules a ++ rowsRules b
  | [] => rfl
  | (_, none) :: rs => rowsRules_app b rs
  | (_, some U) :: rs => congrArg (List.cons U) (rowsRules_app b rs)
noncomputable def rowsFault (b : Nat) : List (Str × Option RTm) → Option Nat
  | [] => none
  | (x, none) :: rs => rowsFault (b + x.length + 1) rs
  | (x, some U) :: rs => match U.fault with
    | none => rowsFault (b + x.length + 1) rs
    | some i => some (b + (((lexL 0 x.cps.toList)[i]?).map (·.2)).getD 0)
section
variable {w : World} {mean : ExcName → Option Value} {mg mb : Str → Option Value} {base : Heap} {outer : List Env} {dep un : Nat} {gd : Option (List Code)} {s : Shared} {R : Result → Shared → Prop}
inductive RowsJ (P : Params) (g : Heap) (D : Addr) (x : Str) (t : Tok) (rows : List (Str × Option RTm)) (i : Nat) (m : Str → Option Value) (nx : List (Addr × Obj)) : Prop
  | mk (rv : Option Value) (tb : Tok) (vs : List Value) (e : Nat) (tl : List (Addr × Obj)) (h1_ : m = rrmap D x t rv (rowsLen (rows.take i) : Nat) tb) (h2_ : nx = (D, listOf vs.toArray e) :: tl) (h3_ : (∀ p ∈ tl, p.1 ≠ D)) (h4_ : i ≤ rows.length) (h5_ : vs.length ≤ i) (h6_ : (∀ p, rowsFault 0 rows = p → rowsFault (rowsLen (rows.take i)) (rows.drop i) = p)) (h7_ : ∀ h' : Heap, (∀ b o, g.get? b = some o → h'.get? b = some o) → (∀ p ∈ tl, h'.get? p.1 = some p.2) → RulesAt P h' (fun b => g.get? b = none) vs (rowsRules (rows.take i))) : RowsJ P g D x t rows i m nx
theorem read_rules_spec {x : Str} {t : Tok} {rows : List (Str × Option RTm)} (C : Cx w mean mg mb base outer (Ar dep un gd outer) s.heap) (hdep : dep + 500 < recursionLimit) (hu : un + 3800 < cLine) (hx : x.length ≤ 100000)
    (hsp : Txt.split x "\n" = rows.map (·.1)) (hrow : ∀ r ∈ rows, RowOk r) (hrl : rows.length ≤ 100)
    (hk1 : rowsFault 0 rows = none → ∀ h' D vs e tk, Upto [] s.heap h' → s.heap.get? D = none → h'.get? D = some (listOf vs.toArray e) → RulesAt w.params h' (fun b => s.heap.get? b = none) vs (rowsRules rows) → R (.ok (.ret (.ref D))) { s with heap := h', toks := tk })
    (hk2 : ∀ p, rowsFault 0 rows = some p → ∀ h' tk e c, ThrownC c w.params outer [] s.heap p e h' → R (.error (.ref e)) { s with heap := h', toks := tk }) :
    codeAny (model PR w) (Ar dep un gd outer) (.call (.ref 283) ⟨[.str x t], []⟩) R s := by
  refine' enter_fn (A := Ar dep un gd outer) [("text", .str x t)] C [] (List.forall_mem_nil _) ?k1 ?k2 ?k3 ?k4 ?k5 ?_ ?c2 ?c3 ?c4 ?c5
  ((case k1 => k_is); (case k2 => k_is); (case k3 => (show _ < _; first | ((first | with_reducible assumption | exact Mine.lim (by assumption) | exact Mine.lim0 (by assumption) | exact Mine.lim2 (by assumption) | exact Mine.lim3 (by assumption) | exact Mine.lme (by assumption) | exact Mine.lml (by assumption) | exact Mine.lll (by assumption) | decide | lia)) | (dsimp only; ((first | with_reducible assumption | exact Mine.lim (by assumption) | exact Mine.lim0 (by assumption) | exact Mine.lim2 (by assumption) | exact Mine.lim3 (by assumption) | exact Mine.lme (by assumption) | exact Mine.lml (by assumption) | exact Mine.lll (by assumption) | decide | lia))))); (case k4 => exact BindsTo.of_eq rfl); (case k5 => exact locs rfl); (case c2 => exact rfl); (case c3 => exact rfl); (case c4 => exact rfl); (case c5 => decide))
  intro g L h₁ tk0 F N B X T hin hout hsz
  try k_fold
  (repeat' ((fail_if_success with_reducible first|refine zz11 ?_|refine zz9 ?_|refine zz1 ?_|refine zz2 ?_|refine zz3 ?_|refine zz4 ?_|refine zz7 ?_|refine zz5 ?_|refine zz10 ?_|refine zz6 ?_); first | (k_unfold; (try dsimp only)) | (walk1; (all_goals (try dsimp only))) | (dsimp only; walk1; (all_goals (try dsimp only)))))
  rename_i D0 h0 l0 T1 h1 l1 h2 h3 h4 F4 N4
  have hD4 : D0 < h4.objs.size := Heap.lt_size (N4.get (.tail _ (.head _)))
  refine For_invVF F4 rfl rfl ?_
  (repeat' ((fail_if_success with_reducible first|refine zz11 ?_|refine zz9 ?_|refine zz1 ?_|refine zz2 ?_|refine zz3 ?_|refine zz4 ?_|refine zz7 ?_|refine zz5 ?_|refine zz10 ?_|refine zz6 ?_); first | (k_unfold; (try dsimp only)) | (walk1; (all_goals (try dsimp only))) | (dsimp only; walk1; (all_goals (try dsimp only)))))
  rename_i ls h5 k5 e1 e2 e3 e4 F5 N5
  have hls : (strValues ls).length = rows.length := by rw [e2.len_eq, e1, hsp, List.length_map]
  have hD0 : D0 ≠ (Shared.mk h4 s.gens s.drawn (tk + 1) s.os).heap.objs.size := Nat.ne_of_lt hD4
  generalize hsl : (Shared.mk h4 s.gens s.drawn (tk + 1) s.os).heap.objs.size = sl at e4 N5 hD0 ⊢
  have hD0L := (N5 _ (.tail _ (.tail _ (.head _)))).2
  have G5 : Fr g L h5 (rrmap D0 x t none 0 tk0) := by
    refine fr_map F5 fun y => ?_
    by_cases h1 : y = "begin"
    · subst h1; rfl
    · by_cases h2 : y = "found"
      · subst h2; rfl
      · by_cases h3 : y = "row"
        · subst h3; rfl
        · simp only [rrmap, h1, h2, h3, if_false]
          by_cases h4 : y = "text"
          · subst h4; rfl
          · have h5 : (y == "text") = false := by simp [h4]
            simp only [List.reverse_cons, List.reverse_nil, List.nil_append, List.lookup_cons, h5, List.lookup_nil]
            rw [if_neg h4]
  clear F5
  refine iter_list_inv (s := ⟨h5, _, _, _, _⟩) (news := [(D0, listOf [].toArray 0)]) rfl e4 (N5 _ (.head _)).2.1 G5 (fun p hp => N5 p (.tail _ (.tail _ hp))) (RowsJ w.params g D0 x t rows)
    ⟨none, _, [], 0, [], rfl, rfl, List.forall_mem_nil _, Nat.zero_le _, Nat.le_refl _, fun p hp => hp, fun h' _ _ => .nil⟩ ?_ ?_
  · rintro i v m₁ news₁ h6 tk6 own hv ⟨rv, tb, vs, e, tl, rfl, rfl, htl, hi, hvl, hfa, hru⟩ hown hnI ⟨oI, hoI, dI, hdI, hnd, hns⟩ F6 N6
    have hv2 : (strValues ls)[i]? = some v := by simpa using hv
    obtain ⟨row, tr, rfl, hrn⟩ := e2.item i v hv2
    rw [e1, hsp, List.getElem?_map] at hrn
    obtain ⟨r, hri, hr1⟩ := Option.map_eq_some_iff.mp hrn
    obtain ⟨row', ru⟩ := r
    try dsimp only at hr1
    subst hr1
    have hrw := hrow _ (List.mem_of_getElem? hri)
    have htake : rows.take (i + 1) = rows.take i ++ [(row', ru)] := by rw [List.take_succ, hri]; rfl
    have hdrop : rows.drop i = (row', ru) :: rows.drop (i + 1) := by
      have hlt : i < rows.length := (List.getElem?_eq_some_iff.mp hri).1
      rw [List.drop_eq_getElem_cons hlt]
      congr 1
      exact (List.getElem?_eq_some_iff.mp hri).2
    have hrl2 : rowsLen (rows.take (i + 1)) = rowsLen (rows.take i) + row'.length + 1 := by rw [htake, rowsLen_app]; show _ + (row'.length + 1 + 0) = _; ((first | with_reducible assumption | exact Mine.lim (by assumption) | exact Mine.lim0 (by assumption) | exact Mine.lim2 (by assumption) | exact Mine.lim3 (by assumption) | exact Mine.lme (by assumption) | exact Mine.lml (by assumption) | exact Mine.lll (by assumption) | decide | lia))
    obtain ⟨tl3, htl3⟩ : ∃ tl3, tl3 = own ++ tl := ⟨_, rfl⟩
    have h3D : ∀ p ∈ tl3, p.1 ≠ D0 := fun p hp => by
      rw [htl3] at hp
      rcases List.mem_append.mp hp with hp | hp
      · rcases hown p hp with q | q
        · exact fun z => hnI _ (.head _) (by rw [← z, q])
        · exact fun z => hD0 (by rw [← z, q])
      · exact htl p hp
    have N7 : News g L h6 ((D0, listOf vs.toArray e) :: tl3) := fun p hp => N6 p (by
      rw [htl3] at hp
      rcases List.mem_cons.mp hp with q | hp
      · exact q ▸ List.mem_append_right _ (.head _)
      · rcases List.mem_append.mp hp with hp | hp
        · exact List.mem_append_left _ hp
        · exact List.mem_append_right _ (.tail _ hp))
    have F7 : Fr g L h6 (rrmap D0 x t (some (.str row' tr)) (rowsLen (rows.take i) : Nat) tb) := fr_map F6 fun y => by
      by_cases h1 : y = "row"
      · subst h1; rfl
      · simp only [rrmap, h1, if_false]
    clear F6 N6
    generalize rowsLen (rows.take i) = bg at F7 hrl2 hfa
    have hrlen : row'.length ≤ 100000 := hrw.len
    have hilt : i < rows.length := (List.getElem?_eq_some_iff.mp hri).1
    have fin : ∀ (h' : Heap) (T : Tok) (tk' : Nat) (vs' : List Value) (e' : Nat) (nw : List (Addr × Obj)), Fr g L h' (fun y => if y = "begin" then some (.int ((bg : Int) + (row'.length : Int) + 1) T) else rrmap D0 x t (some (.str row' tr)) (bg : Nat) tb y) →
        News g L h' ((D0, listOf vs'.toArray e') :: (nw ++ tl3)) → (∀ p ∈ nw, p.1 ≠ D0) → (∀ p ∈ nw, p.1 ≠ h5.objs.size) → vs'.length ≤ i + 1 → (∀ p, rowsFault 0 rows = p → rowsFault (bg + row'.length + 1) (rows.drop (i + 1)) = p) →
        (∀ h'' : Heap, (∀ b o, g.get? b = some o → h''.get? b = some o) → (∀ p ∈ nw ++ tl, h''.get? p.1 = some p.2) → RulesAt w.params h'' (fun b => g.get? b = none) vs' (rowsRules (rows.take (i + 1)))) →
        LoopStepU g L [h5.objs.size] own (RowsJ w.params g D0 x t rows (i + 1)) ⟨h6, s.gens, s.drawn, tk6, s.os⟩ .next ⟨h', s.gens, s.drawn, tk', s.os⟩ := by
      intro h' T tk' vs' e' nw Fx Nx n1 n2 hl hf hR
      refine ⟨rfl, h', tk', rrmap D0 x t (some (.str row' tr)) ((bg + row'.length + 1 : Nat) : Int) T, (D0, listOf vs'.toArray e') :: (nw ++ tl), rfl, ?_, ?_, ?_, ⟨some (.str row' tr), T, vs', e', nw ++ tl, by rw [hrl2], rfl, ?_, hilt, hl, by rw [hrl2]; exact hf, hR⟩⟩
      · refine fr_map Fx fun y => ?_
        by_cases h1 : y = "begin"
        · subst h1
          rw [show ((bg + row'.length + 1 : Nat) : Int) = (bg : Int) + (row'.length : Int) + 1 by ((first | with_reducible assumption | exact Mine.lim (by assumption) | exact Mine.lim0 (by assumption) | exact Mine.lim2 (by assumption) | exact Mine.lim3 (by assumption) | exact Mine.lme (by assumption) | exact Mine.lml (by assumption) | exact Mine.lll (by assumption) | decide | lia))]
          rfl
        · simp only [rrmap, h1, if_false]
      · intro p hp
        rcases List.mem_append.mp hp with hp | hp
        · exact Nx p (.tail _ (List.mem_append_right _ (by rw [htl3]; exact List.mem_append_left _ hp)))
        · rcases List.mem_cons.mp hp with rfl | hp
          · exact Nx _ (.head _)
          · rcases List.mem_append.mp hp with hp | hp
            · exact Nx p (.tail _ (List.mem_append_left _ hp))
            · exact Nx p (.tail _ (List.mem_append_right _ (by rw [htl3]; exact List.mem_append_right _ hp)))
      · intro p hp q
        have q' := List.mem_singleton.mp q
        rcases List.mem_cons.mp hp with rfl | hp
        · exact hnI _ (.head _) q'
        · rcases List.mem_append.mp hp with hp | hp
          · exact n2 p hp q'
          · exact hnI p (.tail _ hp) q'
      · intro p hp
        exact (List.mem_append.mp hp).elim (n1 p) (htl p)
    clear G5 N5
    (repeat' ((fail_if_success with_reducible first|refine zz11 ?_|refine zz9 ?_|refine zz1 ?_|refine zz2 ?_|refine zz3 ?_|refine zz4 ?_|refine zz7 ?_|refine zz5 ?_|refine zz10 ?_|refine zz6 ?_); first | (k_unfold; (try dsimp only)) | (walk1; (all_goals (try dsimp only))) | (dsimp only; walk1; (all_goals (try dsimp only)))))
    · cases ru with
      | none =>
        rename_i q1 _ _ _ _ _ q2
        rcases hrw.skip rfl with z | ⟨_, z⟩
        · try dsimp only at z; rw [z] at q1; exact absurd q1 (by decide)
        · try dsimp only at z; rw [z] at q2; exact absurd q2 (by decide)
      | some U =>
        obtain ⟨_, _, hU, hlex, hok⟩ := hrw.some U rfl
        try dsimp only at hlex hok
        walk1
        (repeat' ((fail_if_success with_reducible first|refine zz11 ?_|refine zz9 ?_|refine zz1 ?_|refine zz2 ?_|refine zz3 ?_|refine zz4 ?_|refine zz7 ?_|refine zz5 ?_|refine zz10 ?_|refine zz6 ?_); first | (k_unfold; (try dsimp only)) | (walk1; (all_goals (try dsimp only))) | (dsimp only; walk1; (all_goals (try dsimp only)))))
        refine wpAny_call (read_rule_spec (s := ⟨h6, _, _, _, _⟩) (U := U) (cx_in C.X C.T B F7 rfl rfl rfl) (show dep + 1 + 450 < _ by ((first | with_reducible assumption | exact Mine.lim (by assumption) | exact Mine.lim0 (by assumption) | exact Mine.lim2 (by assumption) | exact Mine.lim3 (by assumption) | exact Mine.lme (by assumption) | exact Mine.lml (by assumption) | exact Mine.lll (by assumption) | decide | lia))) (show un + 3 + 3400 < _ by ((first | with_reducible assumption | exact Mine.lim (by assumption) | exact Mine.lim0 (by assumption) | exact Mine.lim2 (by assumption) | exact Mine.lim3 (by assumption) | exact Mine.lme (by assumption) | exact Mine.lml (by assumption) | exact Mine.lll (by assumption) | decide | lia))) hrlen hok hlex hU (fun hf h7 a da tk7 u7 fa fda r7 => ?_) fun j u p hf hp h7 tk7 e7 y7 => ?_)
        · have F8 := fr_upto F7 u7 (fun a ha => nomatch ha)
          have N8 := news_upto N7 u7
          have qa := fr_new F7 fa
          have qda := fr_new F7 fda
          clear F7 N7
          obtain ⟨lv, rv', nt, tn, ka, kb, kc, kd, ea, ed, _⟩ := id r7
          obtain ⟨nw, hnw⟩ : ∃ nw, nw = (a, instObj 134 da) :: (da, dictOf [⟨PyData.keyHash w.params "name", .str "name" ka, .str U.nm tn⟩, ⟨PyData.keyHash w.params "left", .str "left" kb, lv⟩, ⟨PyData.keyHash w.params "right", .str "right" kc, rv'⟩, ⟨PyData.keyHash w.params "needs", .str "needs" kd, .ref nt⟩] 4) :: snapOf g h7 := ⟨_, rfl⟩
          have hD7 : h7.get? D0 = some (listOf vs.toArray e) := N8.get (.head _)
          have hnwD : ∀ p ∈ nw, p.1 ≠ D0 := by
            rw [hnw]
            refine List.forall_mem_cons.mpr ⟨ne_obj ea hD7 (by simp), List.forall_mem_cons.mpr ⟨ne_obj ed hD7 (by simp), fun p hp => ne_obj (mem_snap.mp hp).1 hD7 (by rw [(mem_snap.mp hp).2.1.1]; simp)⟩⟩
          have hnwI : ∀ p ∈ nw, p.1 ≠ h5.objs.size := by
            rw [hnw]
            refine List.forall_mem_cons.mpr ⟨?_, List.forall_mem_cons.mpr ⟨?_, fun p hp => ?_⟩⟩
            · rintro rfl
              have z : h6.get? h5.objs.size = none := fa
              rw [show h6.get? h5.objs.size = some oI from hoI] at z; cases z
            · rintro rfl
              have z : h6.get? h5.objs.size = none := fda
              rw [show h6.get? h5.objs.size = some oI from hoI] at z; cases z
            · obtain ⟨z1, ⟨_, vs', n', z2⟩, _⟩ := mem_snap.mp hp
              intro z
              rw [z, u7 _ _ (show h6.get? h5.objs.size = some oI from hoI) List.not_mem_nil] at z1
              cases z1
              exact hns vs' n' (by rw [← hdI]; exact z2)
          have N9 : News g L h7 ((D0, listOf vs.toArray e) :: (nw ++ tl3)) := fun p hp => by
            rcases List.mem_cons.mp hp with rfl | hp
            · exact N8 _ (.head _)
            · rcases List.mem_append.mp hp with hp | hp
              · rw [hnw] at hp
                rcases List.mem_cons.mp hp with rfl | hp
                · exact ⟨ea, qa⟩
                · rcases List.mem_cons.mp hp with rfl | hp
                  · exact ⟨ed, qda⟩
                  · exact snap F8 news_nil p hp
              · exact N8 p (.tail _ hp)
          have hkr : ∀ h' : Heap, (∀ b o, g.get? b = some o → h'.get? b = some o) → (∀ p ∈ nw, h'.get? p.1 = some p.2) → RuleV w.params h' a da U := fun h' kg kt => by
            rw [hnw] at kt
            refine r7.keeps (snap_keep kg F8.keep fun p hp => kt p (.tail _ (.tail _ hp))) (fun o z => ?_) fun o z => ?_
            · rw [ea] at z; cases z; exact kt _ (.head _)
            · rw [ed] at z; cases z; exact kt _ (.tail _ (.head _))
          have hoff : ∀ p ∈ nw ++ tl3, p.1 ≠ D0 := fun p hp => (List.mem_append.mp hp).elim (hnwD p) (h3D p)
          have hvl2 : vs.length ≤ 200 := by ((first | with_reducible assumption | exact Mine.lim (by assumption) | exact Mine.lim0 (by assumption) | exact Mine.lim2 (by assumption) | exact Mine.lim3 (by assumption) | exact Mine.lme (by assumption) | exact Mine.lml (by assumption) | exact Mine.lll (by assumption) | decide | lia))
          clear N8 r7 ea ed hnw
          try dsimp only
          (repeat' ((fail_if_success with_reducible first|refine zz11 ?_|refine zz9 ?_|refine zz1 ?_|refine zz2 ?_|refine zz3 ?_|refine zz4 ?_|refine zz7 ?_|refine zz5 ?_|refine zz10 ?_|refine zz6 ?_); first | (k_unfold; (try dsimp only)) | (walk1; (all_goals (try dsimp only))) | (dsimp only; walk1; (all_goals (try dsimp only)))))
          rename_i h8 F9 N10
          have hvp : vs.toArray.push (Value.ref a) = (vs ++ [Value.ref a]).toArray := by simp [List.push_toArray]
          rw [hvp] at N10
          refine fin _ _ _ _ _ nw F9 N10 hnwD hnwI (by rw [List.length_append, List.length_singleton]; ((first | with_reducible assumption | exact Mine.lim (by assumption) | exact Mine.lim0 (by assumption) | exact Mine.lim2 (by assumption) | exact Mine.lim3 (by assumption) | exact Mine.lme (by assumption) | exact Mine.lml (by assumption) | exact Mine.lll (by assumption) | decide | lia))) (fun p hp => ?_) fun h'' kg kt => ?_
          · have := hfa p hp
            rw [hdrop, rowsFault, hf] at this
            exact this
          · rw [htake, rowsRules_app]
            exact (hru h'' kg fun p hp => kt p (List.mem_append_right _ hp)).snoc (hkr h'' kg fun p hp => kt p (List.mem_append_left _ hp)) qa.2 qda.2
        · have again : ∀ h9, ThrownC .none w.params (envOf "read_rules" rrScope L 283 (.ref 282) :: outer) [] h6 p e7 h9 → _ := fun h9 y9 => y9.caught rfl F7 B N7
          clear F7 N7
          refine catch_open (s := ⟨h7, _, _, _, _⟩) rfl rfl y7.toC fun h8 y8 => ?_
          obtain ⟨de, k, k', mt, tm, tm', evs, esl, F8, B8, S8, he8, hv8, N8⟩ := again h8 y8
          have X8 := C.X.keeps B8.stays
          have T8 := C.T.keeps B8.stays
          clear B X T
          refine wpAny_handleBy_cons (codeAny_handlers_test ?_) (by intro q; cases q)
          (repeat' ((fail_if_success with_reducible first|refine zz11 ?_|refine zz9 ?_|refine zz1 ?_|refine zz2 ?_|refine zz3 ?_|refine zz4 ?_|refine zz7 ?_|refine zz5 ?_|refine zz10 ?_|refine zz6 ?_); first | (k_unfold; (try dsimp only)) | (walk1; (all_goals (try dsimp only))) | (dsimp only; walk1; (all_goals (try dsimp only)))))
          refine tf_matches (s := ⟨h8, _, _, _, _⟩) (X8.keeps F8.keep) he8 ?_
          try dsimp only
          refine codeAny_handlers_suite_as ?_
          refine catch_land (s := ⟨h8, _, _, _, _⟩) y8 fun h9 y9 => ?_
          clear F8 N8 he8 B8 S8 X8 T8
          obtain ⟨de, k, k', mt, tm, tm', evs, esl, F8, B8, S8, he8, hv8, N8⟩ := again h9 y9
          have X8 := C.X.keeps B8.stays
          have T8 := C.T.keeps B8.stays
          clear again
          (repeat' ((fail_if_success with_reducible first|refine zz11 ?_|refine zz9 ?_|refine zz1 ?_|refine zz2 ?_|refine zz3 ?_|refine zz4 ?_|refine zz7 ?_|refine zz5 ?_|refine zz10 ?_|refine zz6 ?_); first | (k_unfold; (try dsimp only)) | (walk1; (all_goals (try dsimp only))) | (dsimp only; walk1; (all_goals (try dsimp only)))))
          refine raise_tfH (hv := e7) rfl ?_
          (repeat' ((fail_if_success with_reducible first|refine zz11 ?_|refine zz9 ?_|refine zz1 ?_|refine zz2 ?_|refine zz3 ?_|refine zz4 ?_|refine zz7 ?_|refine zz5 ?_|refine zz10 ?_|refine zz6 ?_); first | (k_unfold; (try dsimp only)) | (walk1; (all_goals (try dsimp only))) | (dsimp only; walk1; (all_goals (try dsimp only)))))
          rename_i h10 F10 N10
          refine tf_what (s := ⟨h10, _, _, _, _⟩) (X8.keeps F10.keep) (N10.get (.head _)) (N10.get (.tail _ (.head _))) ?_
          (repeat' ((fail_if_success with_reducible first|refine zz11 ?_|refine zz9 ?_|refine zz1 ?_|refine zz2 ?_|refine zz3 ?_|refine zz4 ?_|refine zz7 ?_|refine zz5 ?_|refine zz10 ?_|refine zz6 ?_); first | (k_unfold; (try dsimp only)) | (walk1; (all_goals (try dsimp only))) | (dsimp only; walk1; (all_goals (try dsimp only)))))
          refine tf_spot (s := ⟨h10, _, _, _, _⟩) (X8.keeps F10.keep) (N10.get (.head _)) (N10.get (.tail _ (.head _))) ?_
          (repeat' ((fail_if_success with_reducible first|refine zz11 ?_|refine zz9 ?_|refine zz1 ?_|refine zz2 ?_|refine zz3 ?_|refine zz4 ?_|refine zz7 ?_|refine zz5 ?_|refine zz10 ?_|refine zz6 ?_); first | (k_unfold; (try dsimp only)) | (walk1; (all_goals (try dsimp only))) | (dsimp only; walk1; (all_goals (try dsimp only)))))
          have c10 := cx_in (A' := ((Ar dep un gd outer).deeper (envOf "read_rules" rrScope L 283 (.ref 282))).mark (some (.ref e7))) C.X C.T B8 F10 rfl rfl rfl
          refine wpAny_call (tf_new (s := ⟨h10, _, _, _, _⟩) c10 (show dep + 1 + 8 < _ by ((first | with_reducible assumption | exact Mine.lim (by assumption) | exact Mine.lim0 (by assumption) | exact Mine.lim2 (by assumption) | exact Mine.lim3 (by assumption) | exact Mine.lme (by assumption) | exact Mine.lml (by assumption) | exact Mine.lll (by assumption) | decide | lia))) fun h11 x2 dx k1 k2 tk11 tp u11 f1 g1 f2 g2 => ?_)
          have f1' : h10.get? x2 = none := f1
          have f2' : h10.get? dx = none := f2
          have ne7 : e7 ≠ x2 := by
            rintro rfl
            rw [N10.get (.head _)] at f1'; cases f1'
          have ndx : dx ≠ x2 := by
            rintro rfl
            rw [g1] at g2; cases g2
          refine ⟨x2, dx, tp, evs, esl, de, rfl, X8.keeps fun b o q => u11 b o (F10.keep b o q) List.not_mem_nil, g1, ne7, u11 _ _ (N10.get (.head _)) List.not_mem_nil, hv8, ?_⟩
          have up12 : ∀ b o, h10.get? b = some o → (h11.update x2 (Obj.mapFields (·.setIfInBounds 2 (.ref e7)))).get? b = some o := fun b o q => by
            refine (Heap.get?_update_ne _ _ _ _ ?_).trans (u11 b o q List.not_mem_nil)
            rintro rfl
            rw [f1'] at q; cases q
          have Us : Slotty [] (outer.filterMap (·.frame)) s.heap h10 := ⟨fun b o q _ n => F10.keep b o (S8.keep b o (hin b o q List.not_mem_nil) List.not_mem_nil n), fun a ha o q => by
            obtain ⟨sl, z⟩ := S8.slot a ha o (hin a o q List.not_mem_nil)
            exact ⟨sl, F10.keep _ _ z⟩⟩
          have old : ∀ b, h10.get? b = none → s.heap.get? b = none := fun b q => by
            cases z : s.heap.get? b with
            | none => rfl
            | some o =>
              by_cases hb : b ∈ outer.filterMap (·.frame)
              · obtain ⟨sl, z2⟩ := Us.slot b hb o z
                rw [z2] at q; cases q
              · rw [Us.keep b o z List.not_mem_nil hb] at q; cases q
          refine thrown_newH (c := .ref e7) (n := "fault") (s := ⟨h11.update x2 (Obj.mapFields (·.setIfInBounds 2 (.ref e7))), _, _, _, _⟩) (P := w.params) (sp := (bg : Int) + (p : Int)) (x := x2) (dx := dx) (h := s.heap) (M := []) (base := base) (A := (Ar dep un gd outer).deeper (envOf "read_rules" rrScope L 283 (.ref 282))) ⟨fun b o q n n' => up12 b o (Us.keep b o q n n'), fun a ha o q => ?_⟩ ?_ rfl rfl rfl rfl rfl (c10.B.frames.of_keeps fun b o q _ => ⟨o, up12 b o q, rfl⟩) (F10.ns.at' fun o q => up12 _ o q) (Heap.get?_update_self _ g1 rfl) rfl rfl (old _ f1') ((Heap.get?_update_ne _ _ _ _ ndx).trans g2) (old _ f2') (fun q => ?_) (fun h'' tk'' y => ?_) (EE := ek) fun s' z => z
          · obtain ⟨sl, z⟩ := Us.slot a ha o q
            exact ⟨sl, up12 _ _ z⟩
          · exact Heap.get?_none_of_le (by rw [← hsz, ← retake_size g h9]; exact F10.above)
          · obtain ⟨_, o', z, _⟩ := c10.B.frames.mem q
            rw [show h10.get? dx = some o' from z] at f2'; cases f2'
          · refine hk2 (bg + p) ?_ h'' tk'' x2 (.ref e7) ?_
            · have := hfa _ rfl
              rw [hdrop, rowsFault, hf] at this
              rw [← this]
              show some (bg + (((lexL 0 row'.cps.toList)[j]?).map (·.2)).getD 0) = _
              rw [hp]
              rfl
            · rw [show ((bg + p : Nat) : Int) = (bg : Int) + (p : Int) by ((first | with_reducible assumption | exact Mine.lim (by assumption) | exact Mine.lim0 (by assumption) | exact Mine.lim2 (by assumption) | exact Mine.lim3 (by assumption) | exact Mine.lme (by assumption) | exact Mine.lml (by assumption) | exact Mine.lll (by assumption) | decide | lia))]
              exact y
    · cases ru with
      | some U =>
        rename_i q2 _ _ _ _
        exact absurd q2 (by simp [(hrw.some U rfl).2.1])
      | none =>
        rename_i h8 F9 N9
        exact fin _ _ _ _ _ [] F9 N9 (List.forall_mem_nil _) (List.forall_mem_nil _) (Nat.le_succ_of_le hvl) (fun p hp => by have := hfa p hp; rw [hdrop, rowsFault] at this; exact this) fun h'' kg kt => by
          rw [htake, rowsRules_app]
          exact (List.append_nil _).symm ▸ hru h'' kg kt
    · cases ru with
      | some U =>
        rename_i q2 _ _ _ _
        exact absurd q2 (by simp [(hrw.some U rfl).1])
      | none =>
        rename_i h8 F9 N9
        exact fin _ _ _ _ _ [] F9 N9 (List.forall_mem_nil _) (List.forall_mem_nil _) (Nat.le_succ_of_le hvl) (fun p hp => by have := hfa p hp; rw [hdrop, rowsFault] at this; exact this) fun h'' kg kt => by
          rw [htake, rowsRules_app]
          exact (List.append_nil _).symm ▸ hru h'' kg kt
  · rintro h6 tk6 m₁ news₁ F6 N6 ⟨rv, tb, vs, e, tl, rfl, rfl, htl, hi, hvl, hfa, hru⟩
    try dsimp only
    (repeat' ((fail_if_success with_reducible first|refine zz11 ?_|refine zz9 ?_|refine zz1 ?_|refine zz2 ?_|refine zz3 ?_|refine zz4 ?_|refine zz7 ?_|refine zz5 ?_|refine zz10 ?_|refine zz6 ?_); first | (k_unfold; (try dsimp only)) | (walk1; (all_goals (try dsimp only))) | (dsimp only; walk1; (all_goals (try dsimp only)))))
    have hsz2 : (strValues ls).toArray.size = rows.length := by rw [List.size_toArray]; exact hls
    rw [hsz2] at hru hfa
    have U := upto0 hin F6
    refine hk1 ?_ h6 D0 vs e _ U ?_ (N6.get (.head _)) ?_
    · have := hfa _ rfl
      rw [List.drop_length, rowsFault] at this
      exact this.symm
    · cases q : s.heap.get? D0 with
      | none => rfl
      | some o =>
        have := hin _ _ q List.not_mem_nil
        rw [hD0L.2] at this; cases this
    · have := hru h6 F6.keep fun p hp => N6.get (.tail _ hp)
      rw [List.take_length] at this
      refine this.imp fun b q => ?_
      cases z : s.heap.get? b with
      | none => rfl
      | some o =>
        have := hin _ _ z List.not_mem_nil
        rw [q] at this; cases this
end
end Mine
end
-- Sb
section
namespace Mine
open PySem PySem.W PySem.Calls PyProof.Rows
set_option maxHeartbeats 3000000
noncomputable abbrev toldScope : Scope := ⟨.function, [("form", .local), ("text", .local), ("found", .local), ("fault", .local), ("lots", .local), ("read_term", .globalImplicit), ("read_rule", .globalImplicit), ("read_rules", .globalImplicit), ("TextFault", .globalImplicit), ("isinstance", .globalImplicit), ("list", .globalImplicit)], false, false,
  [("fast", .str "form"), ("fast", .str "text"), ("fast", .str "found"), ("fast", .str "fault"), ("fast", .str "lots"), ("fast", .str "one")]⟩
theorem tm_isTuple {h : Heap} {a : Addr} {T : Tm} (r : Reads h (.ref a) T.dat []) : ∃ o, h.get? a = some o ∧ o.cls = .type "tuple" := by
  cases T with
  | node op ks =>
    obtain ⟨b, _, _, q, ⟨o, h1, h2, _⟩, _⟩ := tm_tup r
    cases q
    exact ⟨o, h1, h2⟩
noncomputable def RTm.dat (U : RTm) : PyData := .tuple [.str U.nm, U.l.dat, U.r.dat, U.needs]
theorem ruleV_refs {P : Params} {h : Heap} {a da : Addr} {R : RTm} (r : RuleV P h a da R) : ∃ la ra nt tn ka kb kc kd, h.get? a = some (instObj 134 da) ∧
    h.get? da = some (dictOf [⟨PyData.keyHash P "name", .str "name" ka, .str R.nm tn⟩, ⟨PyData.keyHash P "left", .str "left" kb, .ref la⟩, ⟨PyData.keyHash P "right", .str "right" kc, .ref ra⟩, ⟨PyData.keyHash P "needs", .str "needs" kd, .ref nt⟩] 4) ∧
    Reads h (.ref la) R.l.dat [] ∧ Reads h (.ref ra) R.r.dat [] ∧ Reads h (.ref nt) R.needs [] := by
  obtain ⟨lv, rv, nt, tn, ka, kb, kc, kd, ea, ed, r1, r2, r4⟩ := r
  obtain ⟨la, rfl⟩ : ∃ la, lv = .ref la := by
    cases q : R.l with
    | node op ks =>
      rw [q] at r1
      obtain ⟨z, _, _, hz, _⟩ := tm_tup r1
      exact ⟨z, hz⟩
  obtain ⟨ra, rfl⟩ : ∃ ra, rv = .ref ra := by
    cases q : R.r with
    | node op ks =>
      rw [q] at r2
      obtain ⟨z, _, _, hz, _⟩ := tm_tup r2
      exact ⟨z, hz⟩
  exact ⟨la, ra, nt, tn, ka, kb, kc, kd, ea, ed, r1, r2, r4⟩
inductive Item (P : Params) (h : Heap) (F : Addr → Prop) : Value → PyData → Prop
  | tup (a : Addr) (T : Tm) (hr : Reads h (.ref a) T.dat []) : Item P h F (.ref a) T.dat
  | inst (a da : Addr) (U : RTm) (hr : RuleV P h a da U) (fa : F a) (fd : F da) : Item P h F (.ref a) U.dat
inductive Items (P : Params) (h : Heap) (F : Addr → Prop) : List Value → List PyData → Prop
  | nil : Items P h F [] []
  | cons {v : Value} {d : PyData} {vs : List Value} {ds : List PyData} : Item P h F v d → Items P h F vs ds → Items P h F (v :: vs) (d :: ds)
inductive Got (P : Params) (h : Heap) (F : Addr → Prop) : Value → List PyData → Prop
  | one (v : Value) (d : PyData) (hi : Item P h F v d) : Got P h F v [d]
  | list (D : Addr) (vs : List Value) (e : Nat) (ds : List PyData) (e1 : h.get? D = some (listOf vs.toArray e)) (fD : F D) (hi : Items P h F vs ds) (hl : vs.length ≤ 100) : Got P h F (.ref D) ds
theorem Item.grow {P : Params} {g h h' : Heap} {L : Addr} {m : Str → Option Value} {G : Addr → Prop} (F : Fr g L h m) (k : GrowL L h h') (hG : ∀ b, G b → b ≠ L) {v : Value} {d : PyData} (x : Item P h G v d) : Item P h' G v d := by
  induction x with
  | tup a T hr => exact .tup a T (tm_keeps (fun b o e t => k b o (fr_neL F e fun es n q => by obtain ⟨_, _, _, z⟩ := t; rw [q] at z; cases z) e) T hr)
  | inst a da U hr fa fd => exact .inst a da U (hr.grow F (hG _ fd) k) fa fd
theorem Items.grow {P : Params} {g h h' : Heap} {L : Addr} {m : Str → Option Value} {G : Addr → Prop} (F : Fr g L h m) (k : GrowL L h h') (hG : ∀ b, G b → b ≠ L) {vs : List Value} {ds : List PyData} (x : Items P h G vs ds) : Items P h' G vs ds := by
  induction x with
  | nil => exact .nil
  | cons a _ ih => exact .cons (a.grow F k hG) ih
theorem Got.grow {P : Params} {g h h' : Heap} {L : Addr} {m : Str → Option Value} {G : Addr → Prop} (F : Fr g L h m) (k : GrowL L h h') (hG : ∀ b, G b → b ≠ L) {v : Value} {ds : List PyData} (x : Got P h G v ds) : Got P h' G v ds := by
  induction x with
  | one v d hi => exact .one v d (hi.grow F k hG)
  | list D vs e ds e1 fD hi hl => exact .list D vs e ds (k _ _ (hG _ fD) e1) fD (hi.grow F k hG) hl
theorem Items.len {P : Params} {h : Heap} {F : Addr → Prop} {vs : List Value} {ds : List PyData} (x : Items P h F vs ds) : vs.length = ds.length := by
  induction x with
  | nil => rfl
  | cons _ _ ih => exact congrArg Nat.succ ih
theorem Items.at {P : Params} {h : Heap} {F : Addr → Prop} {vs : List Value} {ds : List PyData} (x : Items P h F vs ds) : ∀ i (hi : i < vs.length), ∃ d, ds[i]? = some d ∧ Item P h F vs[i] d := by
  induction x with
  | nil => exact fun i hi => absurd hi (Nat.not_lt_zero i)
  | cons a _ ih =>
    intro i hi
    cases i with
    | zero => exact ⟨_, rfl, a⟩
    | succ i => exact ih i (Nat.lt_of_succ_lt_succ hi)
noncomputable def rdOf (r : Nat) : Addr := if r = 0 then 269 else if r = 1 then 276 else 283
noncomputable abbrev fomap (v : Value) (u : Str → Option Value) : Str → Option Value := fun y => if y = "found" then some v else u y
inductive LG (P : Params) (h : Heap) (OK : List PyData → Prop) (s : Shared) : Value → Shared → Prop
  | mk (h' : Heap) (tk' : Nat) (v : Value) (ds : List PyData) (u : Upto [] h h') (G : Got P h' (fun b => h.get? b = none) v ds) (ok : OK ds) : LG P h OK s v ⟨h', s.gens, s.drawn, tk', s.os⟩
theorem Item.imp {P : Params} {h : Heap} {F F' : Addr → Prop} (i : ∀ b, F b → F' b) {v : Value} {d : PyData} (x : Item P h F v d) : Item P h F' v d := by
  induction x with
  | tup a T hr => exact .tup a T hr
  | inst a da U hr fa fd => exact .inst a da U hr (i _ fa) (i _ fd)
theorem Items.imp {P : Params} {h : Heap} {F F' : Addr → Prop} (i : ∀ b, F b → F' b) {vs : List Value} {ds : List PyData} (x : Items P h F vs ds) : Items P h F' vs ds := by
  induction x with
  | nil => exact .nil
  | cons a _ ih => exact .cons (a.imp i) ih
theorem Got.imp {P : Params} {h : Heap} {F F' : Addr → Prop} (i : ∀ b, F b → F' b) {v : Value} {ds : List PyData} (x : Got P h F v ds) : Got P h F' v ds := by
  induction x with
  | one v d hi => exact .one v d (hi.imp i)
  | list D vs e ds e1 fD hi hl => exact .list D vs e ds e1 (i _ fD) (hi.imp i) hl
inductive LX (P : Params) (outer : List Env) (h : Heap) (Bad : Int → Prop) (s : Shared) : Value → Shared → Prop
  | mk (h' : Heap) (tk' : Nat) (e : Addr) (c : Value) (p : Int) (hb : Bad p) (y : ThrownC c P outer [] h p e h') : LX P outer h Bad s (.ref e) ⟨h', s.gens, s.drawn, tk', s.os⟩
section
variable {w : World} {mean : ExcName → Option Value} {mg mb : Str → Option Value} {base : Heap} {outer : List Env} {dep un : Nat} {gd : Option (List Code)} {s : Shared} {R : Result → Shared → Prop}
noncomputable abbrev lomap (ll : Addr) (u : Str → Option Value) : Str → Option Value := fun y => if y = "lots" then some (.ref ll) else u y
theorem lomap_of {m : Str → Option Value} {ll : Addr} (h : m "lots" = some (.ref ll)) : ∀ y, m y = lomap ll m y := fun y => by
  unfold lomap
  by_cases q : y = "lots"
  · rw [if_pos q, q]; exact h
  rw [if_neg q]
inductive LL (P : Params) (g : Heap) (L : Addr) (OK : List PyData → Prop) (s : Shared) : Shared → Prop
  | mk (h' : Heap) (tk' : Nat) (ll : Addr) (vs : List Value) (e : Nat) (ds : List PyData) (u : Str → Option Value) (F : Fr g L h' (lomap ll u)) (e1 : h'.get? ll = some (listOf vs.toArray e)) (q1 : ll ≠ L ∧ g.get? ll = none) (hi : Items P h' (fun b => b ≠ L ∧ g.get? b = none) vs ds) (hl : vs.length ≤ 100) (ok : OK ds) :
      LL P g L OK s ⟨h', s.gens, s.drawn, tk', s.os⟩
theorem nf {g h : Heap} {L : Addr} {m : Str → Option Value} (_ : Fr g L h m) : News g L h (fullOf g L h) := news_full
inductive RuleD (P : Params) (h : Heap) (a da : Addr) (R : RTm) : Prop
  | mk (la ra nt : Addr) (tn ka kb kc kd : Tok) (ea : h.get? a = some (instObj 134 da)) (ed : h.get? da = some (dictOf [⟨PyData.keyHash P "name", .str "name" ka, .str R.nm tn⟩, ⟨PyData.keyHash P "left", .str "left" kb, .ref la⟩, ⟨PyData.keyHash P "right", .str "right" kc, .ref ra⟩, ⟨PyData.keyHash P "needs", .str "needs" kd, .ref nt⟩] 4))
      (r1 : Reads h (.ref la) R.l.dat []) (r2 : Reads h (.ref ra) R.r.dat []) (r3 : Reads h (.ref nt) R.needs []) : RuleD P h a da R
theorem ruleD_of {P : Params} {h : Heap} {a da : Addr} {R : RTm} (r : RuleV P h a da R) : RuleD P h a da R := by
  obtain ⟨lv, rv, nt, tn, ka, kb, kc, kd, ea, ed, r1, r2, r3⟩ := ruleV_refs r
  exact .mk lv rv nt tn ka kb kc kd ea ed r1 r2 r3
inductive DatV (h : Heap) : Value → PyData → Prop
  | tup (v : Value) (T : Tm) (hr : Reads h v T.dat []) : DatV h v T.dat
  | rule (q : Addr) (U : RTm) (t : Tok) (l r n : Value) (e : h.get? q = some (tupObj [.str U.nm t, l, r, n])) (r1 : Reads h l U.l.dat []) (r2 : Reads h r U.r.dat []) (r3 : Reads h n U.needs []) : DatV h (.ref q) U.dat
theorem DatV.keeps {h h' : Heap} (k : KeepT h h') {v : Value} {d : PyData} (x : DatV h v d) : DatV h' v d := by
  induction x with
  | tup v T hr => exact .tup v T (tm_keeps k T hr)
  | rule q U t l r n e r1 r2 r3 => exact .rule q U t l r n (k _ _ e ⟨rfl, _, _, rfl⟩) (tm_keeps k _ r1) (tm_keeps k _ r2) (needs_keeps k U r3)
theorem DatV.reads {h : Heap} {v : Value} {d : PyData} (x : DatV h v d) : Reads h v d [] := by
  induction x with
  | tup _ _ hr => exact hr
  | rule q U t l r n e r1 r2 r3 => exact reads_tuple_at e rfl rfl (readsAll_cons_val (.str _ _) (readsAll_cons_val r1 (readsAll_cons_val r2 (readsAll_cons_val r3 .nil))))
theorem datAll {h : Heap} : ∀ (ys : List Value) (ds : List PyData), ys.length = ds.length → (∀ (i : Nat) (y : Value) (d : PyData), ys[i]? = some y → ds[i]? = some d → DatV h y d) → ReadsAll h ys ds []
  | [], [], _, _ => .nil
  | [], _ :: _, e, _ => by cases e
  | _ :: _, [], e, _ => by cases e
  | y :: ys, d :: ds, e, H => readsAll_cons_val (H 0 y d rfl rfl).reads (datAll ys ds (Nat.succ.inj e) fun i y d a b => H (i + 1) y d a b)
noncomputable def ReadSpec (w : World) (mean : ExcName → Option Value) (mg mb : Str → Option Value) (base : Heap) (dep un r : Nat) (x : Str) (OK : List PyData → Prop) (Bad : Int → Prop) : Prop :=
  ∀ (outer : List Env) (gd : Option (List Code)) (s : Shared) (R : Result → Shared → Prop) (t : Tok) (a : Addr), a = rdOf r → Cx w mean mg mb base outer (Ar dep un gd outer) s.heap →
    (∀ h' v tk ds, Upto [] s.heap h' → Got w.params h' (fun b => s.heap.get? b = none) v ds → OK ds → R (.ok (.ret v)) { s with heap := h', toks := tk }) →
    (∀ h' tk e c p, Bad p → ThrownC c w.params outer [] s.heap p e h' → R (.error (.ref e)) { s with heap := h', toks := tk }) → codeAny (model PR w) (Ar dep un gd outer) (.call (.ref a) ⟨[.str x t], []⟩) R s
theorem told_gen {r : Nat} {x : Str} {t tf : Tok} {OK : List PyData → Prop} {Bad : Int → Prop} (C : Cx w mean mg mb base outer (Ar dep un gd outer) s.heap) (hdep : dep + 100 < recursionLimit) (hr : r < 3)
    (hread : ReadSpec w mean mg mb base (dep + 1) (un + 3) r x OK Bad)
    (hk1 : ∀ ds, OK ds → ∀ h' v tk as, Slotty [] (outer.filterMap (·.frame)) s.heap h' → Reads h' v (.tuple [.str "read", .list ds]) as → R (.ok (.ret v)) { s with heap := h', toks := tk })
    (hk2 : ∀ p, Bad p → ∀ h' v tk, Slotty [] (outer.filterMap (·.frame)) s.heap h' → Reads h' v (.tuple [.str "refused", .int p]) [] → R (.ok (.ret v)) { s with heap := h', toks := tk }) :
    codeAny (model PR w) (Ar dep un gd outer) (.call (.ref 316) ⟨[.int r tf, .str x t], []⟩) R s := by
  refine' enter_fn (A := Ar dep un gd outer) [("form", .int r tf), ("text", .str x t)] C [] (List.forall_mem_nil _) ?k1 ?k2 ?k3 ?k4 ?k5 ?_ ?c2 ?c3 ?c4 ?c5
  ((case k1 => k_is); (case k2 => k_is); (case k3 => (show _ < _; first | ((first | with_reducible assumption | exact Mine.lim (by assumption) | exact Mine.lim0 (by assumption) | exact Mine.lim2 (by assumption) | exact Mine.lim3 (by assumption) | exact Mine.lme (by assumption) | exact Mine.lml (by assumption) | exact Mine.lll (by assumption) | decide | lia)) | (dsimp only; ((first | with_reducible assumption | exact Mine.lim (by assumption) | exact Mine.lim0 (by assumption) | exact Mine.lim2 (by assumption) | exact Mine.lim3 (by assumption) | exact Mine.lme (by assumption) | exact Mine.lml (by assumption) | exact Mine.lll (by assumption) | decide | lia))))); (case k4 => exact BindsTo.of_eq rfl); (case k5 => exact locs rfl); (case c2 => exact rfl); (case c3 => exact rfl); (case c4 => exact rfl); (case c5 => decide))
  intro g L h₁ tk0 F N B X T hin hout hsz
  try k_fold
  (repeat' ((fail_if_success with_reducible first|refine zz11 ?_|refine zz9 ?_|refine zz1 ?_|refine zz2 ?_|refine zz3 ?_|refine zz4 ?_|refine zz7 ?_|refine zz5 ?_|refine zz10 ?_|refine zz6 ?_); first | (k_unfold; (try dsimp only)) | (walk1; (all_goals (try dsimp only))) | (dsimp only; walk1; (all_goals (try dsimp only)))))
  walk1
  (repeat' ((fail_if_success with_reducible first|refine zz11 ?_|refine zz9 ?_|refine zz1 ?_|refine zz2 ?_|refine zz3 ?_|refine zz4 ?_|refine zz7 ?_|refine zz5 ?_|refine zz10 ?_|refine zz6 ?_|refine zz13 ?_); first | (k_unfold; (try dsimp only)) | (walk1; (all_goals (try dsimp only))) | (dsimp only; walk1; (all_goals (try dsimp only)))))
  with_reducible refine wpAny_mono (Q := LG w.params h₁ OK s) (E := LX w.params (envOf "_law_told" toldScope L 316 (.ref 315) :: outer) h₁ Bad s) ?_ (fun v s' M => ?_) (fun e s' M => ?_)
  · (repeat' ((fail_if_success with_reducible first|refine zz11 ?_|refine zz9 ?_|refine zz1 ?_|refine zz2 ?_|refine zz3 ?_|refine zz4 ?_|refine zz7 ?_|refine zz5 ?_|refine zz10 ?_|refine zz6 ?_); first | (k_unfold; (try dsimp only)) | (walk1; (all_goals (try dsimp only))) | (dsimp only; walk1; (all_goals (try dsimp only)))))
    · refine wpAny_call (hread _ _ ⟨h₁, s.gens, s.drawn, _, s.os⟩ _ _ _ ?_ (cx_in C.X C.T B (by assumption) rfl rfl rfl) (fun h3 v tk3 ds u3 G3 ok => .mk _ _ v ds u3 G3 ok) (fun h3 tk3 e c p hb y => .mk _ _ e c p hb y))
      have h0 : r = 0 := by first | lia | (simp only [decide_eq_true_eq, beq_iff_eq] at *; lia)
      rw [h0]; rfl
    · refine wpAny_call (hread _ _ ⟨h₁, s.gens, s.drawn, _, s.os⟩ _ _ _ ?_ (cx_in C.X C.T B (by assumption) rfl rfl rfl) (fun h3 v tk3 ds u3 G3 ok => .mk _ _ v ds u3 G3 ok) (fun h3 tk3 e c p hb y => .mk _ _ e c p hb y))
      have h0 : r = 1 := by first | lia | (simp only [decide_eq_true_eq, beq_iff_eq] at *; lia)
      rw [h0]; rfl
    · refine wpAny_call (hread _ _ ⟨h₁, s.gens, s.drawn, _, s.os⟩ _ _ _ ?_ (cx_in C.X C.T B (by assumption) rfl rfl rfl) (fun h3 v tk3 ds u3 G3 ok => .mk _ _ v ds u3 G3 ok) (fun h3 tk3 e c p hb y => .mk _ _ e c p hb y))
      have h0 : r = 2 := by first | lia | (simp only [decide_eq_true_eq, beq_iff_eq] at *; lia)
      rw [h0]; rfl
  · rcases M with ⟨h3, tk3, v, ds, u3, G3, ok⟩
    have F3 := fr_upto F u3 (fun a ha => nomatch ha)
    have G4 := G3.imp (F' := fun b => b ≠ L ∧ g.get? b = none) fun b hb => fr_new F hb
    have N4 : News g L h3 (fullOf g L h3) := news_full
    have gr : ∀ h', GrowL L h3 h' → Got w.params h' (fun b => b ≠ L ∧ g.get? b = none) v ds := fun h' k => G4.grow F3 k fun b hb => hb.1
    have kg3 := F3.keep
    clear G3 N G4
    try dsimp only
    (repeat' ((fail_if_success with_reducible first|refine zz11 ?_|refine zz9 ?_|refine zz1 ?_|refine zz2 ?_|refine zz3 ?_|refine zz4 ?_|refine zz7 ?_|refine zz5 ?_|refine zz10 ?_|refine zz6 ?_|refine zz14 ?_); first | (k_unfold; (try dsimp only)) | (walk1; (all_goals (try dsimp only))) | (dsimp only; walk1; (all_goals (try dsimp only)))))
    rename Fr g L _ _ => FF
    rename News g L _ _ => NN
    have G5 := gr _ (full_grow FF.keep kg3 fun p hp => NN.get hp)
    clear NN gr kg3
    with_reducible refine execs_cut 1 (LL w.params g L OK s) ?_ fun s4 M => ?_
    · dsimp only [List.take]
      have N4 := nf FF
      rcases G5 with ⟨v, d, hi⟩ | ⟨D, vs, e, ds, e1, fD, hi, hl⟩
      · have it : ∀ h', GrowL L _ h' → Item w.params h' (fun b => b ≠ L ∧ g.get? b = none) v d := fun h' k => hi.grow FF k fun b hb => hb.1
        have kg := FF.keep
        rcases hi with ⟨a, T, hr⟩ | ⟨a, da, U, hr, fa, fd⟩
        · obtain ⟨o4, o4a, o4b⟩ := tm_isTuple hr
          (repeat' ((fail_if_success with_reducible first|refine zz11 ?_|refine zz9 ?_|refine zz1 ?_|refine zz2 ?_|refine zz3 ?_|refine zz4 ?_|refine zz7 ?_|refine zz5 ?_|refine zz10 ?_|refine zz6 ?_); first | (k_unfold; (try dsimp only)) | (walk1; (all_goals (try dsimp only))) | (dsimp only; walk1; (all_goals (try dsimp only)))))
          refine call_isinstance (s := ⟨_, _, _, _, _⟩) (isinstance_false_tuple (by decide) rfl rfl) ⟨⟨o4, o4a, o4b⟩, ?_⟩
          dsimp only [wants]
          (repeat' ((fail_if_success with_reducible first|refine zz11 ?_|refine zz9 ?_|refine zz1 ?_|refine zz2 ?_|refine zz3 ?_|refine zz4 ?_|refine zz7 ?_|refine zz5 ?_|refine zz10 ?_|refine zz6 ?_); first | (k_unfold; (try dsimp only)) | (walk1; (all_goals (try dsimp only))) | (dsimp only; walk1; (all_goals (try dsimp only)))))
          rename Fr g L _ _ => F6
          rename News g L _ _ => N6
          exact (.mk _ _ _ [.ref a] 0 _ _ (fr_map F6 (lomap_of rfl)) (N6.get (.head _)) (N6 _ (.head _)).2 (.cons (it _ (full_grow F6.keep kg fun p hp => N6.get (.tail _ hp))) .nil) (show 1 ≤ 100 by decide) ok)
        · rcases ruleD_of hr with ⟨lv, rv, nt, tn, ka, kb, kc, kd, ea, ed, -, -, -⟩
          have N5 := news_cons ea fa (news_cons ed fd N4)
          clear N4 ea ed hr
          (repeat' ((fail_if_success with_reducible first|refine zz11 ?_|refine zz9 ?_|refine zz1 ?_|refine zz2 ?_|refine zz3 ?_|refine zz4 ?_|refine zz7 ?_|refine zz5 ?_|refine zz10 ?_|refine zz6 ?_); first | (k_unfold; (try dsimp only)) | (walk1; (all_goals (try dsimp only))) | (dsimp only; walk1; (all_goals (try dsimp only)))))
          rename Fr g L _ _ => F6
          rename News g L _ _ => N6
          exact (.mk _ _ _ [.ref a] 0 _ _ (fr_map F6 (lomap_of rfl)) (N6.get (.head _)) (N6 _ (.head _)).2 (.cons (it _ (full_grow F6.keep kg fun p hp => N6.get (.tail _ (.tail _ (.tail _ hp))))) .nil) (show 1 ≤ 100 by decide) ok)
      · have it : ∀ h', GrowL L _ h' → Items w.params h' (fun b => b ≠ L ∧ g.get? b = none) vs ds := fun h' k => hi.grow FF k fun b hb => hb.1
        have kg := FF.keep
        have N5 := news_cons e1 fD N4
        clear N4 hi
        (repeat' ((fail_if_success with_reducible first|refine zz11 ?_|refine zz9 ?_|refine zz1 ?_|refine zz2 ?_|refine zz3 ?_|refine zz4 ?_|refine zz7 ?_|refine zz5 ?_|refine zz10 ?_|refine zz6 ?_); first | (k_unfold; (try dsimp only)) | (walk1; (all_goals (try dsimp only))) | (dsimp only; walk1; (all_goals (try dsimp only)))))
        rename Fr g L _ _ => F6
        rename News g L _ _ => N6
        exact (.mk _ _ D vs e ds _ (fr_map F6 (lomap_of rfl)) (N6.get (.head _)) (N6 _ (.head _)).2 (it _ (full_grow F6.keep kg fun p hp => N6.get (.tail _ hp))) hl ok)
    · rcases M with ⟨h5, tk5, ll, vs, e, ds, u5, F5, e5, q5, hi, hl, ok⟩
      dsimp only [List.drop]
      have N5 := news_cons e5 q5 (nf F5)
      have ki : ∀ h', GrowL L h5 h' → Items w.params h' (fun b => b ≠ L ∧ g.get? b = none) vs ds := fun h' k => hi.grow F5 k fun b hb => hb.1
      have new5 : ∀ {b : Addr}, h5.get? b = none → b ≠ L ∧ g.get? b = none := fun e => fr_new F5 e
      have hln := hi.len
      clear hi
      (repeat' ((fail_if_success with_reducible first|refine zz11 ?_|refine zz9 ?_|refine zz1 ?_|refine zz2 ?_|refine zz3 ?_|refine zz4 ?_|refine zz7 ?_|refine zz5 ?_|refine zz10 ?_|refine zz6 ?_|refine zz6 ?_); first | (k_unfold; (try dsimp only)) | (walk1; (all_goals (try dsimp only))) | (dsimp only; walk1; (all_goals (try dsimp only)))))
      rw [eval_ListComp]
      refine wpAny_comprehension_free (use := none) (cl := []) rfl (by intro _; rfl) rfl rfl (by decide) ?_
      show wpAny _ _ (eval _ _) _ _ _
      (repeat' ((fail_if_success with_reducible first|refine zz6 ?_|refine zz1 ?_); first | (k_unfold; (try dsimp only)) | (walk1; (all_goals (try dsimp only))) | (dsimp only; walk1; (all_goals (try dsimp only)))))
      rename Fr g L _ _ => F6
      rename News g L _ _ => N6
      refine comp_one (g := g) (L := L) (s₁ := Shared.mk h5 _ _ _ _) (items := vs.toArray) (fun i v h => ∀ d, ds[i]? = some d → DatV h v d) (fun i y h h' k x d e => (x d e).keeps k) rfl ⟨_, N6.get (.head _), rfl, _, rfl⟩ ?_ (by decide) rfl rfl F6 (fun j hj h tk C' m₂ E' up Fh hn ha hCL hC3 => ?_) (fun D2' C' h tk m' ys up Fh hD2 nD2 hn nC hCD hys hY => ?_)
      · simp only [List.size_toArray, sizeLine]
        ((first | with_reducible assumption | exact Mine.lim (by assumption) | exact Mine.lim0 (by assumption) | exact Mine.lim2 (by assumption) | exact Mine.lim3 (by assumption) | exact Mine.lme (by assumption) | exact Mine.lml (by assumption) | exact Mine.lll (by assumption) | decide | lia))
      · have hj' : j < vs.length := by simpa using hj
        obtain ⟨d, hd, it⟩ := (ki h up).at j hj'
        rw [List.getElem_toArray] at ha
        generalize vs[j] = v at ha it
        obtain ⟨oC, heC, hoC⟩ := PyProof.Rows.LCg.ns_obj hn
        have N7 : News g L h ((C', oC) :: fullOf g L h) := news_cons heC (new5 hC3) (nf Fh)
        have Yd : ∀ {h' : Heap} {v' : Value}, DatV h' v' d → ∀ d', ds[j]? = some d' → DatV h' v' d' := fun x d' e => by rw [hd] at e; cases e; exact x
        have hgk := Fh.keep
        have kT : ∀ {hh : Heap}, GrowL L h hh → KeepT h hh := fun gr b o q t => gr b o (by obtain ⟨_, _, _, z⟩ := t; exact fr_neL Fh q (by rw [z]; simp)) q
        clear N6 F6
        rcases it with ⟨a, T, hr⟩ | ⟨a, da, U, hr, fa, fd⟩
        · obtain ⟨o4, o4a, o4b⟩ := tm_isTuple hr
          (repeat' ((fail_if_success with_reducible first|refine zz11 ?_|refine zz9 ?_|refine zz1 ?_|refine zz2 ?_|refine zz3 ?_|refine zz4 ?_|refine zz7 ?_|refine zz5 ?_|refine zz10 ?_|refine zz6 ?_); first | (k_unfold; (try dsimp only)) | (walk1; (all_goals (try dsimp only))) | (dsimp only; walk1; (all_goals (try dsimp only)))))
          rename Fr g L _ _ => F8
          refine call_isinstance (s := ⟨h, _, _, _, _⟩) (isinstance_true (Tx := "tuple") (T := "tuple") rfl (by kernel_rfl)) ⟨⟨o4, o4a, o4b⟩, ?_⟩
          dsimp only [wants]
          (repeat' ((fail_if_success with_reducible first|refine zz11 ?_|refine zz9 ?_|refine zz1 ?_|refine zz2 ?_|refine zz3 ?_|refine zz4 ?_|refine zz7 ?_|refine zz5 ?_|refine zz10 ?_|refine zz6 ?_); first | (k_unfold; (try dsimp only)) | (walk1; (all_goals (try dsimp only))) | (dsimp only; walk1; (all_goals (try dsimp only)))))
          rename Fr g L _ _ => F8
          exact ⟨h, _, rfl, fun _ _ _ e => e, F8, Yd (.tup _ T hr)⟩
        · rcases ruleD_of hr with ⟨lv, rv, nt, tn, ka, kb, kc, kd, ea, ed, r1, r2, r3⟩
          have N8 := news_cons ea fa (news_cons ed fd N7)
          clear N7 ea ed hr
          (repeat' ((fail_if_success with_reducible first|refine zz11 ?_|refine zz9 ?_|refine zz1 ?_|refine zz2 ?_|refine zz3 ?_|refine zz4 ?_|refine zz7 ?_|refine zz5 ?_|refine zz10 ?_|refine zz6 ?_); first | (k_unfold; (try dsimp only)) | (walk1; (all_goals (try dsimp only))) | (dsimp only; walk1; (all_goals (try dsimp only)))))
          rename Fr g L _ _ => F8
          rename News g L _ _ => N9
          have G9 : GrowL L h _ := full_grow F8.keep hgk fun p hp => N9.get (.tail _ (.tail _ (.tail _ (.tail _ hp))))
          exact ⟨_, _, rfl, G9, F8, Yd (.rule _ U _ _ _ _ (N9.get (.head _)) (tm_keeps (kT G9) _ r1) (tm_keeps (kT G9) _ r2) (needs_keeps (kT G9) U r3))⟩
      · refine ⟨m', hn, fun h'' hs'' => ?_⟩
        have uC : Upto [C'] h h'' := fun b o e n => hs''.extBut b o (by simpa using n) e
        have F7 := fr_upto Fh uC (fun b hb => by rw [List.mem_singleton.mp hb]; exact new5 nC)
        have kT7 : KeepT h h'' := fun b o e t => uC b o e fun q => by
          obtain ⟨oC, es, ep, ho, hd, _⟩ := hn
          rw [List.mem_singleton.mp q, ho] at e
          obtain ⟨_, _, _, q2⟩ := t
          rw [← Option.some.inj e, hd] at q2
          cases q2
        have gD2 : h''.get? D2' = some (listOf ys.toArray ys.length) := uC _ _ hD2 (by simpa using Ne.symm hCD)
        have N7 := news_cons gD2 (new5 nD2) (nf F7)
        have hA : ∀ hh, GrowL L h'' hh → ReadsAll hh ys ds [] := fun hh k => datAll ys ds (by rw [hys, List.size_toArray]; exact hln) fun i y d e1 e2 => ((hY i y e1 d e2).keeps kT7).keeps fun b o q t => k b o (by obtain ⟨_, _, _, z⟩ := t; exact fr_neL F7 q (by rw [z]; simp)) q
        have hgk := F7.keep
        clear F6 N6 Fh
        try dsimp only
        (repeat' ((fail_if_success with_reducible first|refine zz11 ?_|refine zz9 ?_|refine zz1 ?_|refine zz2 ?_|refine zz3 ?_|refine zz4 ?_|refine zz7 ?_|refine zz5 ?_|refine zz10 ?_|refine zz6 ?_); first | (k_unfold; (try dsimp only)) | (walk1; (all_goals (try dsimp only))) | (dsimp only; walk1; (all_goals (try dsimp only)))))
        rename Fr g L _ _ => F8
        rename News g L _ _ => N8
        exact hk1 ds ok _ _ _ _ (Slotty.of (upto0 hin F8) fun a ha => nomatch ha) (reads_tuple_at (N8.get (.head _)) rfl rfl (readsAll_cons_val (.str _ _) (.cons (reads_list_at (N8.get (.tail _ (.head _))) rfl rfl (hA _ (full_grow F8.keep hgk fun p hp => N8.get (.tail _ (.tail _ hp))))) .nil)))
  · rcases M with ⟨h3, tk3, e, c, p, hb, y⟩
    have again : ∀ h9, ThrownC c w.params (envOf "_law_told" toldScope L 316 (.ref 315) :: outer) [] h₁ p e h9 → _ := fun h9 y9 => y9.caught rfl F B N
    clear F N
    try dsimp only
    refine catch_open (s := ⟨h3, _, _, _, _⟩) rfl rfl y fun h8 y8 => ?_
    rcases again h8 y8 with ⟨de, k, k', mt, tm, tm', evs, esl, F8, B8, S8, he8, hv8, N8⟩
    have X8 := C.X.keeps B8.stays
    have T8 := C.T.keeps B8.stays
    clear B X T
    refine wpAny_handleBy_cons (codeAny_handlers_test ?_) (by intro q; cases q)
    (repeat' ((fail_if_success with_reducible first|refine zz11 ?_|refine zz9 ?_|refine zz1 ?_|refine zz2 ?_|refine zz3 ?_|refine zz4 ?_|refine zz7 ?_|refine zz5 ?_|refine zz10 ?_|refine zz6 ?_); first | (k_unfold; (try dsimp only)) | (walk1; (all_goals (try dsimp only))) | (dsimp only; walk1; (all_goals (try dsimp only)))))
    refine tf_matches (s := ⟨h8, _, _, _, _⟩) (X8.keeps F8.keep) he8 ?_
    try dsimp only
    refine codeAny_handlers_suite_as ?_
    refine catch_land (s := ⟨h8, _, _, _, _⟩) y8 fun h9 y9 => ?_
    clear F8 N8 he8 B8 S8 X8 T8
    rcases again h9 y9 with ⟨de, k, k', mt, tm, tm', evs, esl, F8, B8, S8, he8, hv8, N8⟩
    have X8 := C.X.keeps B8.stays
    have T8 := C.T.keeps B8.stays
    clear again
    (repeat' ((fail_if_success with_reducible first|refine zz11 ?_|refine zz9 ?_|refine zz1 ?_|refine zz2 ?_|refine zz3 ?_|refine zz4 ?_|refine zz7 ?_|refine zz5 ?_|refine zz10 ?_|refine zz6 ?_); first | (k_unfold; (try dsimp only)) | (walk1; (all_goals (try dsimp only))) | (dsimp only; walk1; (all_goals (try dsimp only)))))
    rename_i h10 F10 N10
    refine tf_spot (s := ⟨h10, _, _, _, _⟩) (X8.keeps F10.keep) (N10.get (.head _)) (N10.get (.tail _ (.head _))) ?_
    (repeat' ((fail_if_success with_reducible first|refine zz11 ?_|refine zz9 ?_|refine zz1 ?_|refine zz2 ?_|refine zz3 ?_|refine zz4 ?_|refine zz7 ?_|refine zz5 ?_|refine zz10 ?_|refine zz6 ?_); first | (k_unfold; (try dsimp only)) | (walk1; (all_goals (try dsimp only))) | (dsimp only; walk1; (all_goals (try dsimp only)))))
    rename_i D11 h11 F11 N11 _
    refine wpAny_nameGoes (s := ⟨h11, _, _, _, _⟩) rfl F11.ns rfl fun h12 m12 n12 b12 => ?_
    have hsL : s.heap.get? L = none := Heap.get?_none_of_le (by rw [← hsz, ← retake_size g h9]; exact F11.above)
    have up12 : ∀ b o, s.heap.get? b = some o → ∀ o', h11.get? b = some o' → h12.get? b = some o' := fun b o q o' q' => (b12.2 b (by rintro rfl; rw [hsL] at q; cases q)).trans q'
    refine hk2 p hb h12 _ _ ⟨fun b o q _ n => up12 b o q o (F11.keep b o (S8.keep b o (hin b o q List.not_mem_nil) List.not_mem_nil n)), fun a ha o q => ?_⟩
      (reads_tuple_at ((b12.2 D11 (N11 _ (.head _)).2.1).trans (N11.get (.head _))) rfl rfl (readsAll_cons_val (.str _ _) (readsAll_cons_val (.int _ _) .nil)))
    obtain ⟨sl, z⟩ := S8.slot a ha o (hin a o q List.not_mem_nil)
    exact ⟨sl, up12 a o q _ (F11.keep _ _ z)⟩
end
end Mine
end
-- D1
section
namespace Mine
open PySem PySem.W PySem.Calls PyProof.Rows
set_option maxHeartbeats 3000000
noncomputable abbrev feedKv (cl : Addr) (t2 t3 : Tok) (tn : Nat) (bl : Int) : List (Str × Value) := [("cells", .ref cl), ("turn", .int tn t2), ("blend", .int bl t3)]
structure FeedAt (w : World) (base : Heap) (outer : List Env) (h : Heap) (fa cl : Addr) (n : Nat) : Prop where
  dict : ∃ o t2 t3 tn bl, MutAt base outer h (fa, o) ∧ o.IsDictOf (PySem.strKind PR w) (feedKv cl t2 t3 tn bl) ∧ tn ≤ n
  cells : ∃ vs ns, h.IsList cl vs.toArray ∧ IntsAre vs ns ∧ vs.length ≤ 63
section
variable {w : World} {mean : ExcName → Option Value} {mg mb : Str → Option Value} {base : Heap} {outer : List Env} {dep un : Nat} {gd : Option (List Code)} {s : Shared} {R : Result → Shared → Prop}
theorem draw_spec {fa cl : Addr} {wd n : Nat} {tw : Tok} (C : Cx w mean mg mb base outer (Ar dep un gd outer) s.heap) (hdep : dep + 10 < recursionLimit) (hf : FeedAt w base outer s.heap fa cl n) (hn : n ≤ 5000) (hw : 0 < wd) (hw2 : wd < 1000)
    (hk : ∀ h' (r : Nat) t tk, r < wd → Upto [fa] s.heap h' → FeedAt w base outer h' fa cl (n + 1) → R (.ok (.ret (.int r t))) { s with heap := h', toks := tk }) :
    codeAny (model PR w) (Ar dep un gd outer) (.call (.ref 290) ⟨[.ref fa, .int wd tw], []⟩) R s := by
  obtain ⟨⟨o, t2, t3, tn, bl, hm, hd', htn⟩, vs, ns, hl, hi, hz⟩ := hf
  refine' enter_fn (A := Ar dep un gd outer) [("feed", .ref fa), ("wide", .int wd tw)] C [(fa, o)] (List.forall_mem_cons.mpr ⟨hm, List.forall_mem_nil _⟩) ?k1 ?k2 ?k3 ?k4 ?k5 ?_ ?c2 ?c3 ?c4 ?c5
  ((case k1 => k_is); (case k2 => k_is); (case k3 => (show _ < _; first | ((first | with_reducible assumption | exact Mine.lim (by assumption) | exact Mine.lim0 (by assumption) | exact Mine.lim2 (by assumption) | exact Mine.lim3 (by assumption) | exact Mine.lme (by assumption) | exact Mine.lml (by assumption) | exact Mine.lll (by assumption) | decide | lia)) | (dsimp only; ((first | with_reducible assumption | exact Mine.lim (by assumption) | exact Mine.lim0 (by assumption) | exact Mine.lim2 (by assumption) | exact Mine.lim3 (by assumption) | exact Mine.lme (by assumption) | exact Mine.lml (by assumption) | exact Mine.lll (by assumption) | decide | lia))))); (case k4 => exact BindsTo.of_eq rfl); (case k5 => exact locs rfl); (case c2 => exact rfl); (case c3 => exact rfl); (case c4 => exact rfl); (case c5 => decide))
  intro g L h₁ tk0 F N B X T hin hout hsz
  have hlg : g.IsList cl vs.toArray := by
    obtain ⟨o, e, r⟩ := hl
    refine ⟨o, hin _ _ e fun q => ?_, r⟩
    rw [List.map_singleton, List.mem_singleton] at q
    rw [q, hm.at_] at e
    cases e
    obtain ⟨_, n, z⟩ := r
    obtain ⟨_, _, _, z2, _⟩ := hd'
    rw [z2] at z; cases z
  have hns : ns.length ≤ 63 := by rw [← hi.length]; exact hz
  try k_fold
  have htn2 : (tn : Int) ≤ 5000 := by ((first | with_reducible assumption | exact Mine.lim (by assumption) | exact Mine.lim0 (by assumption) | exact Mine.lim2 (by assumption) | exact Mine.lim3 (by assumption) | exact Mine.lme (by assumption) | exact Mine.lml (by assumption) | exact Mine.lll (by assumption) | decide | lia))
  have hw3 : 0 < (wd : Int) := by ((first | with_reducible assumption | exact Mine.lim (by assumption) | exact Mine.lim0 (by assumption) | exact Mine.lim2 (by assumption) | exact Mine.lim3 (by assumption) | exact Mine.lme (by assumption) | exact Mine.lml (by assumption) | exact Mine.lll (by assumption) | decide | lia))
  have fin : ∀ (h2 : Heap) (o2 : Obj) (t9 T9 : Tok) (X9 : Int) (tk9 : Nat) (m : Str → Option Value), Fr g L h2 m → News g L h2 [(fa, o2)] → o2.IsDictOf (PySem.strKind PR w) [("cells", .ref cl), ("turn", .int ((tn : Int) + 1) T9), ("blend", .int bl t3)] → R (.ok (.ret (.int (X9.fmod wd) t9))) { s with heap := h2, toks := tk9 } := by
    intro h2 o2 t9 T9 X9 tk9 m F2 N2 hd2
    have hlo := fmod_lo X9 hw3
    have hhi := fmod_hi X9 hw3
    obtain ⟨r, hr⟩ := Int.eq_ofNat_of_zero_le hlo
    rw [hr] at hhi ⊢
    refine hk h2 r t9 tk9 (by ((first | with_reducible assumption | exact Mine.lim (by assumption) | exact Mine.lim0 (by assumption) | exact Mine.lim2 (by assumption) | exact Mine.lim3 (by assumption) | exact Mine.lme (by assumption) | exact Mine.lml (by assumption) | exact Mine.lll (by assumption) | decide | lia))) (upto_end (List.forall_mem_cons.mpr ⟨hm, List.forall_mem_nil _⟩) hin F2 N2 [fa] (List.forall_mem_cons.mpr ⟨.inl (.head _), List.forall_mem_nil _⟩)) ⟨⟨o2, T9, t3, tn + 1, bl, ⟨N2.get (.head _), hm.new, hm.off⟩, ?_, by ((first | with_reducible assumption | exact Mine.lim (by assumption) | exact Mine.lim0 (by assumption) | exact Mine.lim2 (by assumption) | exact Mine.lim3 (by assumption) | exact Mine.lme (by assumption) | exact Mine.lml (by assumption) | exact Mine.lll (by assumption) | decide | lia))⟩, vs, ns, hlg.at fun o e => F2.keep _ _ e, hi, hz⟩
    exact hd2
  (repeat' ((fail_if_success with_reducible first|refine zz11 ?_|refine zz9 ?_|refine zz1 ?_|refine zz3 ?_|refine zz4 ?_|refine zz7 ?_|refine zz5 ?_|refine zz10 ?_|refine zz6 ?_); first | (k_unfold; (try dsimp only)) | walk1 | (dsimp only; walk1)))
  · rename_i h1 o2 hd2 h2 F2 N2 ha t9
    try dsimp only
    exact fin h2 o2 _ _ _ _ _ F2 N2 hd2
  · rename_i h1 o2 hd2 h2 F2 N2 ha
    try dsimp only
    exact fin h2 o2 _ _ _ _ _ F2 N2 hd2
end
end Mine
end
-- B1
section
namespace Mine
open PySem PySem.W PySem.Calls PyProof.Rows
set_option maxHeartbeats 3000000
noncomputable abbrev bmap (x : Str) (t : Tok) (dv : Int) (td : Tok) (sv cv : Option Value) : Str → Option Value := fun y => if y = "sign" then cv else if y = "spot" then sv else if y = "deep" then some (.int dv td) else if y = "text" then some (.str x t) else none
noncomputable def BJ (x : Str) (t : Tok) (i : Nat) (m : Str → Option Value) (nx : List (Addr × Obj)) : Prop :=
  ∃ dv td sv cv, (∀ y, m y = bmap x t dv td sv cv y) ∧ nx = [] ∧ dv ≤ 40 ∧ beyondL dv i (x.cps.toList.drop i) = beyondL 0 0 x.cps.toList
theorem sign_eq (c d : Nat) : ((⟨#[c]⟩ : Str) == ⟨#[d]⟩) = decide (c = d) := by
  by_cases h : c = d
  · subst h; simp
  · rw [decide_eq_false h]
    refine beq_eq_false_iff_ne.mpr fun q => h ?_
    have := congrArg Str.cps q
    simpa using this
theorem sign_open (c : Nat) : ((⟨#[c]⟩ : Str) == "(") = decide (c = 40) := by
  rw [show ("(" : Str) = ⟨#[40]⟩ by decide +kernel]; exact sign_eq c 40
theorem sign_close (c : Nat) : ((⟨#[c]⟩ : Str) == ")") = decide (c = 41) := by
  rw [show (")" : Str) = ⟨#[41]⟩ by decide +kernel]; exact sign_eq c 41
theorem sign_blank (c : Nat) : ((⟨#[c]⟩ : Str) == " ") = decide (c = 32) := by
  rw [show (" " : Str) = ⟨#[32]⟩ by decide +kernel]; exact sign_eq c 32
theorem blanks_cons (c : Nat) (r : List Nat) : blanks (c :: r) = if c = 32 then blanks r + 1 else 0 := by
  unfold blanks
  rw [List.takeWhile_cons]
  by_cases h : c = 32
  · subst h; simp
  · simp [h]
inductive BJ2 (x : Str) (t : Tok) (dn : Int) (cv : Option Value) (own : List (Addr × Obj)) (p n : Nat) (m : Str → Option Value) (nx : List (Addr × Obj)) : Prop
  | mk (j : Nat) (tj td : Tok) (h1_ : (∀ y, m y = bmap x t dn td (some (.int j tj)) cv y)) (h2_ : nx = own) (h3_ : n = blanks (x.cps.toList.drop j)) (h4_ : j + n = p) : BJ2 x t dn cv own p n m nx
section
variable {w : World} {mean : ExcName → Option Value} {mg mb : Str → Option Value} {base : Heap} {outer : List Env} {dep un : Nat} {gd : Option (List Code)} {s : Shared} {R : Result → Shared → Prop}
theorem beyond_spec {x : Str} {t : Tok} (C : Cx w mean mg mb base outer (Ar dep un gd outer) s.heap) (hdep : dep + 10 < recursionLimit) (hx : x.length ≤ 100000) (hex : ∀ p, beyondL 0 0 x.cps.toList = some p → p < x.length)
    (hk : ∀ h' t tk, Upto [] s.heap h' → R (.ok (.ret (.int (match beyondL 0 0 x.cps.toList with | some p => (p : Int) | none => -1) t))) { s with heap := h', toks := tk }) :
    codeAny (model PR w) (Ar dep un gd outer) (.call (.ref 304) ⟨[.str x t], []⟩) R s := by
  refine' enter_fn (A := Ar dep un gd outer) [("text", .str x t)] C [] (List.forall_mem_nil _) ?k1 ?k2 ?k3 ?k4 ?k5 ?_ ?c2 ?c3 ?c4 ?c5
  ((case k1 => k_is); (case k2 => k_is); (case k3 => (show _ < _; first | ((first | with_reducible assumption | exact Mine.lim (by assumption) | exact Mine.lim0 (by assumption) | exact Mine.lim2 (by assumption) | exact Mine.lim3 (by assumption) | exact Mine.lme (by assumption) | exact Mine.lml (by assumption) | exact Mine.lll (by assumption) | decide | lia)) | (dsimp only; ((first | with_reducible assumption | exact Mine.lim (by assumption) | exact Mine.lim0 (by assumption) | exact Mine.lim2 (by assumption) | exact Mine.lim3 (by assumption) | exact Mine.lme (by assumption) | exact Mine.lml (by assumption) | exact Mine.lll (by assumption) | decide | lia))))); (case k4 => exact BindsTo.of_eq rfl); (case k5 => exact locs rfl); (case c2 => exact rfl); (case c3 => exact rfl); (case c4 => exact rfl); (case c5 => decide))
  intro g L h₁ tk0 F N B X T hin hout hsz
  try k_fold
  (repeat' ((fail_if_success with_reducible first|refine zz11 ?_|refine zz9 ?_|refine zz1 ?_|refine zz3 ?_|refine zz4 ?_|refine zz7 ?_|refine zz5 ?_|refine zz10 ?_|refine zz6 ?_); first | (k_unfold; (try dsimp only)) | walk1 | (dsimp only; walk1)))
  rename_i h2 F2 N2
  refine For_pair3F F2 rfl rfl rfl rfl ?_ (by intro _; rfl)
  (repeat' ((fail_if_success with_reducible first|refine zz11 ?_|refine zz9 ?_|refine zz1 ?_|refine zz3 ?_|refine zz4 ?_|refine zz7 ?_|refine zz5 ?_|refine zz10 ?_|refine zz6 ?_); first | (k_unfold; (try dsimp only)) | walk1 | (dsimp only; walk1)))
  rename_i h3 e3 F3 N3 S3
  refine (PairSrcL.at S3 _ rfl) "spot" "sign" _ _ (BJ x t) ⟨0, tk0, none, none, (fun y => ?_), rfl, (by decide), rfl⟩ ?_ ?_
  · by_cases h1 : y = "deep"
    · subst h1; rfl
    · by_cases h2 : y = "text"
      · subst h2; rfl
      · have h3 : (y == "text") = false := by simp [h2]
        simp only [h1, if_false, bmap, h2, List.reverse_cons, List.reverse_nil, List.nil_append, List.lookup_cons, h3, List.lookup_nil]
        split <;> first | rfl | (split <;> rfl)
  · rintro i a t' v m₁ news₁ s₁ own ⟨h4, tk4, rfl⟩ ha hv ⟨dv, td, sv, cv, hm, rfl, hdv, hb⟩ _ _ F4 N4
    obtain ⟨u, rfl⟩ := ItemKind.str_is hv
    have hil : i < x.cps.size := by
      have := (List.getElem?_eq_some_iff.mp ha).1
      rw [signs_length] at this
      exact this
    have hc : x.cps[i]? = some x.cps[i] := Array.getElem?_eq_getElem hil
    rw [signs_get hc] at ha
    generalize x.cps[i] = c at ha hc
    cases ha
    have hdr : x.cps.toList.drop i = c :: x.cps.toList.drop (i + 1) := by
      have e1 : x.cps.toList[i]? = some c := by rw [Array.getElem?_toList]; exact hc
      obtain ⟨q1, q2⟩ := List.getElem?_eq_some_iff.mp e1
      rw [List.drop_eq_getElem_cons q1, q2]
    rw [hdr, beyondL] at hb
    have F5 : Fr g L h4 (bmap x t dv td (some (.int i t')) (some (.str ⟨#[c]⟩ u))) := fr_map F4 fun y => by
      by_cases h1 : y = "sign"
      · subst h1; rfl
      · by_cases h2 : y = "spot"
        · subst h2; rfl
        · simp only [h1, h2, if_false, bmap]
          rw [hm y]
          simp only [h1, h2, if_false, bmap]
    rw [List.append_nil] at N4
    clear F4 S3 F3 N3
    have hdn : ∀ {z : Int}, z = (dv + if (Str.mk #[c] == "(") = true then 1 else 0) - (if (Str.mk #[c] == ")") = true then 1 else 0) → z = dv + (if c = 40 then 1 else 0) - (if c = 41 then 1 else 0) := by
      rintro z rfl
      rw [sign_open, sign_close]
      simp only [decide_eq_true_eq]
    (repeat' ((fail_if_success with_reducible first|refine zz11 ?_|refine zz9 ?_|refine zz1 ?_|refine zz3 ?_|refine zz4 ?_|refine zz7 ?_|refine zz5 ?_|refine zz10 ?_|refine zz6 ?_); first | (k_unfold; (try dsimp only)) | walk1 | (dsimp only; walk1)))
    · rename_i h5 tk5 hd5 h6 F6 N6
      generalize hz : (dv + if (Str.mk #[c] == "(") = true then 1 else 0) - (if (Str.mk #[c] == ")") = true then 1 else 0) = dn at F6 hd5
      have hz2 := hdn hz.symm
      have hc40 : c = 40 := by
        by_cases q : c = 40
        · exact q
        · rw [if_neg q] at hz2
          split at hz2 <;> ((first | with_reducible assumption | exact Mine.lim (by assumption) | exact Mine.lim0 (by assumption) | exact Mine.lim2 (by assumption) | exact Mine.lim3 (by assumption) | exact Mine.lme (by assumption) | exact Mine.lml (by assumption) | exact Mine.lll (by assumption) | decide | lia))
      rw [if_pos hc40, if_pos (by rw [if_pos hc40, if_neg (by ((first | with_reducible assumption | exact Mine.lim (by assumption) | exact Mine.lim0 (by assumption) | exact Mine.lim2 (by assumption) | exact Mine.lim3 (by assumption) | exact Mine.lme (by assumption) | exact Mine.lml (by assumption) | exact Mine.lll (by assumption) | decide | lia)))] at hz2; ((first | with_reducible assumption | exact Mine.lim (by assumption) | exact Mine.lim0 (by assumption) | exact Mine.lim2 (by assumption) | exact Mine.lim3 (by assumption) | exact Mine.lme (by assumption) | exact Mine.lml (by assumption) | exact Mine.lll (by assumption) | decide | lia)))] at hb
      have hpl := hex _ hb.symm
      refine While_inv (n₀ := blanks (x.cps.toList.drop (i + 1))) (BJ2 x t dn (some (.str ⟨#[c]⟩ u)) own (i + 1 + blanks (x.cps.toList.drop (i + 1)))) F6 N6 ⟨i + 1, tk + 1, tk4 + 1 + 1 + 1 + 1 + 1, fun y => ?_, rfl, rfl, rfl⟩ ?_
      · by_cases h1 : y = "spot"
        · subst h1; rfl
        · by_cases h2 : y = "deep"
          · subst h2; rfl
          · simp only [h1, h2, if_false, bmap]
      generalize i + 1 + blanks (x.cps.toList.drop (i + 1)) = p at hb hpl
      rintro n1 m₁ nx h8 tk8 F8 N8 ⟨j, tj, td2, hm2, rfl, rfl, hjp⟩
      have hj : j < x.length := by ((first | with_reducible assumption | exact Mine.lim (by assumption) | exact Mine.lim0 (by assumption) | exact Mine.lim2 (by assumption) | exact Mine.lim3 (by assumption) | exact Mine.lme (by assumption) | exact Mine.lml (by assumption) | exact Mine.lll (by assumption) | decide | lia))
      have F9 : Fr g L h8 (bmap x t dn td2 (some (.int j tj)) (some (.str ⟨#[c]⟩ u))) := fr_map F8 hm2
      obtain ⟨c2, hc2, hd2⟩ := item_drop hj
      rw [hd2, blanks_cons] at hjp ⊢
      clear F6 N6 F8
      (repeat' ((fail_if_success with_reducible first|refine zz11 ?_|refine zz9 ?_|refine zz1 ?_|refine zz3 ?_|refine zz4 ?_|refine zz7 ?_|refine zz5 ?_|refine zz10 ?_|refine zz6 ?_); first | (k_unfold; (try dsimp only)) | walk1 | (dsimp only; walk1)))
      · rename_i a1 a2 h9 F10 N10
        have hc32 : c2 = 32 := by rw [hc2, sign_blank] at a2; exact of_decide_eq_true a2
        rw [if_pos hc32] at hjp ⊢
        refine WhileStep.intro F10 N10 (n' := blanks (x.cps.toList.drop (j + 1))) (Nat.lt_succ_self _) ⟨j + 1, tk + 1, td2, fun y => ?_, rfl, rfl, by ((first | with_reducible assumption | exact Mine.lim (by assumption) | exact Mine.lim0 (by assumption) | exact Mine.lim2 (by assumption) | exact Mine.lim3 (by assumption) | exact Mine.lme (by assumption) | exact Mine.lml (by assumption) | exact Mine.lll (by assumption) | decide | lia))⟩
        by_cases h1 : y = "spot"
        · subst h1; rfl
        · simp only [h1, if_false, bmap]
      · rename_i a1 a2
        have hc32 : c2 ≠ 32 := by rw [hc2, sign_blank] at a2; exact of_decide_eq_false a2
        rw [if_neg hc32] at hjp
        rw [← hb] at hk
        have hjp' : j = p := hjp
        subst hjp'
        exact hk h8 tj _ (upto0 hin F9)
    · rename_i h5 F6 N6 tk5 hd5
      generalize hz : (dv + if (Str.mk #[c] == "(") = true then 1 else 0) - (if (Str.mk #[c] == ")") = true then 1 else 0) = dn at F6 hd5
      have hz2 := hdn hz.symm
      refine LoopStep2.intro F6 (by rw [List.append_nil]; exact N6) rfl ⟨dn, tk4 + 1 + 1 + 1 + 1 + 1, some (.int i t'), some (.str ⟨#[c]⟩ u), fun y => ?_, rfl, by ((first | with_reducible assumption | exact Mine.lim (by assumption) | exact Mine.lim0 (by assumption) | exact Mine.lim2 (by assumption) | exact Mine.lim3 (by assumption) | exact Mine.lme (by assumption) | exact Mine.lml (by assumption) | exact Mine.lll (by assumption) | decide | lia)), ?_⟩
      · by_cases h2 : y = "deep"
        · subst h2; rfl
        · simp only [h2, if_false, bmap]
      · rw [← hb, hz2]
        by_cases q : c = 40
        · rw [if_pos q, if_pos q, if_neg (by ((first | with_reducible assumption | exact Mine.lim (by assumption) | exact Mine.lim0 (by assumption) | exact Mine.lim2 (by assumption) | exact Mine.lim3 (by assumption) | exact Mine.lme (by assumption) | exact Mine.lml (by assumption) | exact Mine.lll (by assumption) | decide | lia))), if_neg (by rw [if_pos q, if_neg (by ((first | with_reducible assumption | exact Mine.lim (by assumption) | exact Mine.lim0 (by assumption) | exact Mine.lim2 (by assumption) | exact Mine.lim3 (by assumption) | exact Mine.lme (by assumption) | exact Mine.lml (by assumption) | exact Mine.lll (by assumption) | decide | lia)))] at hz2; ((first | with_reducible assumption | exact Mine.lim (by assumption) | exact Mine.lim0 (by assumption) | exact Mine.lim2 (by assumption) | exact Mine.lim3 (by assumption) | exact Mine.lme (by assumption) | exact Mine.lml (by assumption) | exact Mine.lll (by assumption) | decide | lia)))]
          congr 1
          ((first | with_reducible assumption | exact Mine.lim (by assumption) | exact Mine.lim0 (by assumption) | exact Mine.lim2 (by assumption) | exact Mine.lim3 (by assumption) | exact Mine.lme (by assumption) | exact Mine.lml (by assumption) | exact Mine.lll (by assumption) | decide | lia))
        · rw [if_neg q, if_neg q]
          by_cases q2 : c = 41
          · rw [if_pos q2, if_pos q2]
            congr 1
            ((first | with_reducible assumption | exact Mine.lim (by assumption) | exact Mine.lim0 (by assumption) | exact Mine.lim2 (by assumption) | exact Mine.lim3 (by assumption) | exact Mine.lme (by assumption) | exact Mine.lml (by assumption) | exact Mine.lll (by assumption) | decide | lia))
          · rw [if_neg q2, if_neg q2]
            congr 1
            ((first | with_reducible assumption | exact Mine.lim (by assumption) | exact Mine.lim0 (by assumption) | exact Mine.lim2 (by assumption) | exact Mine.lim3 (by assumption) | exact Mine.lme (by assumption) | exact Mine.lml (by assumption) | exact Mine.lll (by assumption) | decide | lia))
  · rintro h4 tk4 m₁ news₁ F4 N4 _ ⟨dv, td, sv, cv, hm, rfl, hdv, hb⟩
    try dsimp only
    (repeat' ((fail_if_success with_reducible first|refine zz11 ?_|refine zz9 ?_|refine zz1 ?_|refine zz3 ?_|refine zz4 ?_|refine zz7 ?_|refine zz5 ?_|refine zz10 ?_|refine zz6 ?_); first | (k_unfold; (try dsimp only)) | walk1 | (dsimp only; walk1)))
    rw [signs_length, show x.length = x.cps.toList.length by simp [Str.length], List.drop_length, beyondL] at hb
    rw [← hb] at hk
    exact hk h4 _ _ (upto0 hin F4)
end
end Mine
end
-- It2
section
namespace Mine
open PySem PySem.W PySem.Calls PyProof.Rows
set_option maxHeartbeats 1000000
section
variable {prog : Program} {w : World} {A : Around} {E : Value → Shared → Prop} {s : Shared} {env : Env} {h₀ : Heap} {x : Str} {body : List Stmt} {Q : Flow → Shared → Prop} {m : Str → Option Value} {news : List (Addr × Obj)}
theorem iter_range_inv {r : Addr} {n : Nat} {b : Int} {t₀ u₀ v₀ : Tok} (hh : A.handled = none) (hr : IsRange s.heap r 0 b 1 t₀ u₀ v₀) (hb : b = n) (hn : n ≤ 100000) (F : Fr h₀ env.locals s.heap m) (N : News h₀ env.locals s.heap news)
    (J : Nat → (Str → Option Value) → List (Addr × Obj) → Prop) (h0 : J 0 m news)
    (turn : ∀ i t m₁ news₁ h₁ tk₁ own, i < n → J i m₁ news₁ → (∀ q ∈ own, q.1 = s.heap.objs.size) → (∀ p ∈ news₁, p.1 ≠ s.heap.objs.size) → (∃ o, (s.heap.objs.size, o) ∈ own ∧ o.cls = .type "range_iterator") →
      Fr h₀ env.locals h₁ (fun y => if y = x then some (.int i t) else m₁ y) → News h₀ env.locals h₁ (own ++ news₁) →
      wpAny (model prog w) A (execs body env) (LoopStepV h₀ env.locals [s.heap.objs.size] own (J (i + 1)) { s with heap := h₁, toks := tk₁ } (fun v s' => Q (.ret v) s') fun s' => Q .next s') E { s with heap := h₁, toks := tk₁ })
    (done : ∀ h' tk m' news', Fr h₀ env.locals h' m' → News h₀ env.locals h' news' → J n m' news' → Q .next { s with heap := h', toks := tk }) :
    wpAny (model prog w) A (pyIter (.ref r)) (fun it s₂ => LoopAtV prog w A h₀ env x body Q E it s₂) E s := by
  subst hb
  have hsz : Builtin.Range.rangeSize 0 (n : Int) 1 = (n : Int) := by
    rw [rangeSize_nat]; ((first | with_reducible assumption | exact Mine.lim (by assumption) | exact Mine.lim0 (by assumption) | exact Mine.lim2 (by assumption) | exact Mine.lim3 (by assumption) | exact Mine.lme (by assumption) | exact Mine.lml (by assumption) | exact Mine.lll (by assumption) | decide | lia))
  refine wpAny_pyIter_range hr (by unfold Builtin.Range.small Builtin.Range.rangeFitsLong; rw [hsz]; simp only [Bool.and_eq_true, Bool.or_eq_true, decide_eq_true_eq, beq_iff_eq]; refine ⟨⟨⟨⟨⟨?_, ?_⟩, ?_, ?_⟩, ?_, ?_⟩, ?_, ?_⟩, .inr ?_⟩ <;> first | ((first | with_reducible assumption | exact Mine.lim (by assumption) | exact Mine.lim0 (by assumption) | exact Mine.lim2 (by assumption) | exact Mine.lim3 (by assumption) | exact Mine.lme (by assumption) | exact Mine.lml (by assumption) | exact Mine.lll (by assumption) | decide | lia)) | decide | (rw [if_pos (by decide)]; simp only [Bool.and_eq_true, decide_eq_true_eq]; ((first | with_reducible assumption | exact Mine.lim (by assumption) | exact Mine.lim0 (by assumption) | exact Mine.lim2 (by assumption) | exact Mine.lim3 (by assumption) | exact Mine.lme (by assumption) | exact Mine.lml (by assumption) | exact Mine.lll (by assumption) | decide | lia)))) ?_
  have W : Walks prog w A s.heap.objs.size [s.heap.objs.size] [s.heap.objs.size] n (fun i v => i < n ∧ ∃ t, v = .int (0 + i * 1) t)
      (fun i h => IsRangeIter h s.heap.objs.size (0 + (i : Nat) * 1) ((n : Int) - (i : Nat)) 1) := (Walks.range hh _ 0 1 n).bound
  refine ⟨s.heap.objs.size, [s.heap.objs.size], [s.heap.objs.size], n, _, _, m, news, J, rfl, W, ?_, ?_, ?_, ?_, F.push _, fun p hp => ⟨Heap.get?_push_of_some _ (N p hp).1, (N p hp).2⟩, h0, ?_, ?_⟩
  · intro hm
    exact absurd F.ns.lt ((List.mem_singleton.mp hm) ▸ Nat.lt_irrefl _)
  · intro b hb
    rw [List.mem_singleton.mp hb]
    exact next_is_new F
  · intro p hp hI
    exact absurd (Heap.lt_size (N p hp).1) ((List.mem_singleton.mp hI) ▸ Nat.lt_irrefl _)
  · show IsRangeIter _ _ _ _ _
    rw [hsz]
    simpa using Heap.get?_push_size _ rfl
  · rintro i v m₁ news₁ s₁ own ⟨hh', tk', rfl⟩ hi ⟨_, t, rfl⟩ hJ hoff hsub _ hin st F₁ N₁
    rw [show (0 : Int) + (i : Int) * 1 = (i : Int) by ((first | with_reducible assumption | exact Mine.lim (by assumption) | exact Mine.lim0 (by assumption) | exact Mine.lim2 (by assumption) | exact Mine.lim3 (by assumption) | exact Mine.lme (by assumption) | exact Mine.lml (by assumption) | exact Mine.lll (by assumption) | decide | lia))] at F₁
    refine turn i t m₁ news₁ hh' tk' own hi hJ (fun q hq => List.mem_singleton.mp (hsub q hq)) (fun p hp q => hoff p hp (by rw [q]; exact .head _)) ⟨_, hin _ (.head _) (next_is_new F) _ st, rfl⟩ F₁ N₁
  · intro h' tk m' news' F' N' _ hJ
    exact done h' tk m' news' F' N' hJ
end
end Mine
end
-- Q2
section
namespace Mine
open PySem PySem.W PySem.Calls PyProof.Rows
set_option maxHeartbeats 1000000
structure TextOf (x : Str) (T : Tm) (b : Nat) : Prop where
  abc : ∀ c ∈ x.cps.toList, c ∈ abc
  words : wordsOf x.cps.toList = T.words
  ops : ∀ o ∈ T.ops, NoQ o
  nest : T.nest ≤ b
  len : x.length ≤ 20 * b
structure TextsOf (x : Str) (ts : List Tm) (b : Nat) : Prop where
  abc : ∀ c ∈ x.cps.toList, c ∈ abc
  words : wordsOf x.cps.toList = wordsL ts
  ops : ∀ o ∈ opsL ts, NoQ o
  nest : nestL ts ≤ b
  len : x.length ≤ 20 * b + 7
theorem app_list (x y : Str) : (x ++ y).cps.toList = x.cps.toList ++ y.cps.toList := by
  show (x.cps ++ y.cps).toList = _
  rw [Array.toList_append]
theorem app_len (x y : Str) : (x ++ y).length = x.length + y.length := by
  show (x.cps ++ y.cps).size = _
  rw [Array.size_append]
  rfl
theorem list_len (x : Str) : x.cps.toList.length = x.length := by simp [Str.length]
theorem noq_mk {o : Str} (h1 : isOp o = true) (h2 : o.length ≤ 1000) (h3 : ∀ c ∈ signs o, PyData.strOk c = true) (h4 : (Txt.slice o none (some 1) == ("?" : Str)) = false) : NoQ o := ⟨⟨h1, h2, h3⟩, h4⟩
theorem noq_a : NoQ "a" := noq_mk (by decide +kernel) (by decide +kernel) (by decide +kernel) (by decide +kernel)
theorem noq_b : NoQ "b" := noq_mk (by decide +kernel) (by decide +kernel) (by decide +kernel) (by decide +kernel)
theorem noq_c : NoQ "c" := noq_mk (by decide +kernel) (by decide +kernel) (by decide +kernel) (by decide +kernel)
theorem noq_g : NoQ "g" := noq_mk (by decide +kernel) (by decide +kernel) (by decide +kernel) (by decide +kernel)
theorem noq_h : NoQ "h" := noq_mk (by decide +kernel) (by decide +kernel) (by decide +kernel) (by decide +kernel)
theorem noq_k : NoQ "k" := noq_mk (by decide +kernel) (by decide +kernel) (by decide +kernel) (by decide +kernel)
theorem noq_fgk {c : Nat} (h : c = 102 ∨ c = 103 ∨ c = 107) : NoQ ⟨#[c]⟩ := by
  rcases h with rfl | rfl | rfl <;> exact noq_mk (by decide +kernel) (by decide +kernel) (by decide +kernel) (by decide +kernel)
theorem textOf_a : TextOf "a" (.node "a" []) 1 := ⟨by decide +kernel, by
  rw [show ("a" : Str).cps.toList = [97] by decide +kernel, wo_op (by decide +kernel)]; decide +kernel, fun o ho => by rw [Tm.ops, opsL, List.mem_singleton] at ho; rw [ho]; exact noq_a, by decide +kernel, by decide +kernel⟩
theorem textOf_b : TextOf "b" (.node "b" []) 1 := ⟨by decide +kernel, by
  rw [show ("b" : Str).cps.toList = [98] by decide +kernel, wo_op (by decide +kernel)]; decide +kernel, fun o ho => by rw [Tm.ops, opsL, List.mem_singleton] at ho; rw [ho]; exact noq_b, by decide +kernel, by decide +kernel⟩
theorem textOf_c : TextOf "c" (.node "c" []) 1 := ⟨by decide +kernel, by
  rw [show ("c" : Str).cps.toList = [99] by decide +kernel, wo_op (by decide +kernel)]; decide +kernel, fun o ho => by rw [Tm.ops, opsL, List.mem_singleton] at ho; rw [ho]; exact noq_c, by decide +kernel, by decide +kernel⟩
theorem wrap_text {J gap : Str} {c r b : Nat} {k : Tm} {ks : List Tm} (hc : c = 102 ∨ c = 103 ∨ c = 104 ∨ c = 107) (hn : NoQ ⟨#[c]⟩) (hg : gap.cps.toList = List.replicate r 32) (hr : r < 2) (hJ : TextsOf J (k :: ks) b) :
    TextOf ("(" ++ gap ++ ⟨#[c]⟩ ++ " " ++ J ++ gap ++ ")") (.node ⟨#[c]⟩ (k :: ks)) (b + 1) := by
  have hoc : opChar c = true := by rcases hc with rfl | rfl | rfl | rfl <;> decide +kernel
  have hl : ("(" ++ gap ++ ⟨#[c]⟩ ++ " " ++ J ++ gap ++ ")" : Str).cps.toList = 40 :: (List.replicate r 32 ++ ([c] ++ 32 :: (J.cps.toList ++ (List.replicate r 32 ++ 41 :: [])))) := by
    simp only [app_list, hg]
    rw [show ("(" : Str).cps.toList = [40] by decide +kernel, show (")" : Str).cps.toList = [41] by decide +kernel, show (" " : Str).cps.toList = [32] by decide +kernel]
    simp [List.append_assoc]
  have hgl : gap.length = r := by rw [← list_len, hg, List.length_replicate]
  refine ⟨fun a ha => ?_, ?_, fun o ho => ?_, ?_, ?_⟩
  · rw [hl] at ha
    have hm32 : ∀ {z : Nat}, z ∈ List.replicate r 32 → z ∈ Mine.abc := fun hz => by rw [List.eq_of_mem_replicate hz]; decide +kernel
    rcases List.mem_cons.mp ha with rfl | ha
    · decide +kernel
    · rcases List.mem_append.mp ha with ha | ha
      · exact hm32 ha
      · rcases List.mem_append.mp ha with ha | ha
        · rw [List.mem_singleton.mp ha]
          rcases hc with rfl | rfl | rfl | rfl <;> decide +kernel
        · rcases List.mem_cons.mp ha with rfl | ha
          · decide +kernel
          · rcases List.mem_append.mp ha with ha | ha
            · exact hJ.abc a ha
            · rcases List.mem_append.mp ha with ha | ha
              · exact hm32 ha
              · rw [List.mem_singleton.mp ha]; decide +kernel
  · rw [hl, wo_sep op40 sep40, wo_gaps, wo_app op32, wo_op (by intro a ha; rw [List.mem_singleton.mp ha]; exact hoc), wo_gap op32 sep32, ← List.append_assoc, wo_app op41, wo_gapsE, hJ.words, wo_sep op41 sep41, wo_nil, words_node,
      show ("(" : Str) = ⟨#[40]⟩ by decide +kernel, show (")" : Str) = ⟨#[41]⟩ by decide +kernel]
    rfl
  · rw [Tm.ops] at ho
    rcases List.mem_cons.mp ho with rfl | ho
    · exact hn
    · exact hJ.ops o ho
  · rw [Tm.nest]; exact Nat.succ_le_succ hJ.nest
  · simp only [app_len, hgl]
    have := hJ.len
    rw [show ("(" : Str).length = 1 by decide +kernel, show (")" : Str).length = 1 by decide +kernel, show (" " : Str).length = 1 by decide +kernel, show (⟨#[c]⟩ : Str).length = 1 from rfl]
    ((first | with_reducible assumption | exact Mine.lim (by assumption) | exact Mine.lim0 (by assumption) | exact Mine.lim2 (by assumption) | exact Mine.lim3 (by assumption) | exact Mine.lme (by assumption) | exact Mine.lml (by assumption) | exact Mine.lll (by assumption) | decide | lia))
theorem texts_one {x : Str} {T : Tm} {b : Nat} (h : TextOf x T b) : TextsOf x [T] b :=
  ⟨h.abc, by rw [wordsL_cons, wordsL, List.append_nil]; exact h.words, fun o ho => by rw [opsL, opsL, List.append_nil] at ho; exact h.ops o ho, by rw [nestL, nestL]; have := h.nest; ((first | with_reducible assumption | exact Mine.lim (by assumption) | exact Mine.lim0 (by assumption) | exact Mine.lim2 (by assumption) | exact Mine.lim3 (by assumption) | exact Mine.lme (by assumption) | exact Mine.lml (by assumption) | exact Mine.lll (by assumption) | decide | lia)), by have := h.len; ((first | with_reducible assumption | exact Mine.lim (by assumption) | exact Mine.lim0 (by assumption) | exact Mine.lim2 (by assumption) | exact Mine.lim3 (by assumption) | exact Mine.lme (by assumption) | exact Mine.lml (by assumption) | exact Mine.lll (by assumption) | decide | lia))⟩
theorem texts_two {x y gap : Str} {T U : Tm} {r b : Nat} (hg : gap.cps.toList = List.replicate r 32) (hr : r < 2) (hx : TextOf x T b) (hy : TextOf y U b) (hl : x.length + y.length ≤ 20 * b + 5) : TextsOf (x ++ (" " ++ gap) ++ y) [T, U] b := by
  have hl2 : (x ++ (" " ++ gap) ++ y : Str).cps.toList = x.cps.toList ++ 32 :: (List.replicate r 32 ++ y.cps.toList) := by
    simp only [app_list, hg]
    rw [show (" " : Str).cps.toList = [32] by decide +kernel]
    simp [List.append_assoc]
  have hgl : gap.length = r := by rw [← list_len, hg, List.length_replicate]
  refine ⟨fun a ha => ?_, ?_, fun o ho => ?_, ?_, ?_⟩
  · rw [hl2] at ha
    rcases List.mem_append.mp ha with ha | ha
    · exact hx.abc a ha
    · rcases List.mem_cons.mp ha with rfl | ha
      · decide +kernel
      · rcases List.mem_append.mp ha with ha | ha
        · rw [List.eq_of_mem_replicate ha]; decide +kernel
        · exact hy.abc a ha
  · rw [hl2, wo_app op32, wo_gap op32 sep32, wo_gaps, hx.words, hy.words, wordsL_cons, wordsL_cons, wordsL, List.append_nil]
  · rw [opsL, opsL, opsL, List.append_nil] at ho
    rcases List.mem_append.mp ho with ho | ho
    · exact hx.ops o ho
    · exact hy.ops o ho
  · rw [nestL, nestL, nestL]
    have := hx.nest
    have := hy.nest
    ((first | with_reducible assumption | exact Mine.lim (by assumption) | exact Mine.lim0 (by assumption) | exact Mine.lim2 (by assumption) | exact Mine.lim3 (by assumption) | exact Mine.lme (by assumption) | exact Mine.lml (by assumption) | exact Mine.lll (by assumption) | decide | lia))
  · simp only [app_len, hgl]
    rw [show (" " : Str).length = 1 by decide +kernel]
    ((first | with_reducible assumption | exact Mine.lim (by assumption) | exact Mine.lim0 (by assumption) | exact Mine.lim2 (by assumption) | exact Mine.lim3 (by assumption) | exact Mine.lme (by assumption) | exact Mine.lml (by assumption) | exact Mine.lll (by assumption) | decide | lia))
theorem textOf_hb : TextOf "(h b)" (.node "h" [.node "b" []]) 2 := by
  have := wrap_text (J := "b") (gap := "") (c := 104) (r := 0) (.inr (.inr (.inl rfl))) noq_h (by decide +kernel) (by decide) (texts_one textOf_b)
  rw [show ("(" ++ "" ++ (⟨#[104]⟩ : Str) ++ " " ++ "b" ++ "" ++ ")" : Str) = "(h b)" by decide +kernel, show (⟨#[104]⟩ : Str) = "h" by decide +kernel] at this
  exact this
theorem TextOf.mono {x : Str} {T : Tm} {b b' : Nat} (h : TextOf x T b) (hb : b ≤ b') : TextOf x T b' := ⟨h.abc, h.words, h.ops, Nat.le_trans h.nest hb, by have := h.len; ((first | with_reducible assumption | exact Mine.lim (by assumption) | exact Mine.lim0 (by assumption) | exact Mine.lim2 (by assumption) | exact Mine.lim3 (by assumption) | exact Mine.lme (by assumption) | exact Mine.lml (by assumption) | exact Mine.lll (by assumption) | decide | lia))⟩
end Mine
end
-- G1
section
namespace Mine
open PySem PySem.W PySem.Calls PyProof.Rows
set_option maxHeartbeats 3000000
section
variable {w : World} {A : Around} {base g h h' : Heap} {env : Env} {outer outer' : List Env} {L fa cl : Addr} {m : Str → Option Value} {o : Obj} {rest : List (Addr × Obj)} {n tn : Nat} {t2 t3 : Tok} {bl : Int}
noncomputable def CellsAt (g : Heap) (cl : Addr) : Prop := ∃ vs ns, g.IsList cl vs.toArray ∧ IntsAre vs ns ∧ vs.length ≤ 63
theorem feed_in (B : Below A base outer g) (hf : env.frame = some L) (F : Fr g L h m) (N : News g L h ((fa, o) :: rest)) (hd' : o.IsDictOf (PySem.strKind PR w) (feedKv cl t2 t3 tn bl)) (htn : tn ≤ n) (c : CellsAt g cl) : FeedAt w base (env :: outer) h fa cl n := by
  obtain ⟨vs, ns, a, b, c⟩ := c
  exact ⟨⟨o, t2, t3, tn, bl, mut_in B hf N (.head _), hd', htn⟩, vs, ns, a.at fun o e => F.keep _ _ e, b, c⟩
theorem feed_step (F : Fr g L h m) (N : News g L h ((fa, o) :: rest)) (hr : ∀ p ∈ rest, p.1 ≠ fa) (u : Upto [fa] h h') (f : FeedAt w base outer' h' fa cl n) :
    Fr g L h' m ∧ ∃ o' t2 t3 tn bl, News g L h' ((fa, o') :: rest) ∧ o'.IsDictOf (PySem.strKind PR w) (feedKv cl t2 t3 tn bl) ∧ tn ≤ n := by
  obtain ⟨⟨o', t2, t3, tn, bl, hm, hd', htn⟩, _⟩ := f
  refine ⟨fr_upto F u fun a ha => by rw [List.mem_singleton.mp ha]; exact news_at N (.head _), o', t2, t3, tn, bl, fun p hp => ?_, hd', htn⟩
  rcases List.mem_cons.mp hp with rfl | hp
  · exact ⟨hm.at_, (N _ (.head _)).2⟩
  · obtain ⟨e, q⟩ := N p (.tail _ hp)
    exact ⟨u _ _ e fun z => hr p hp (List.mem_singleton.mp z), q⟩
end
theorem cells_at {g h : Heap} {L cl : Addr} {m : Str → Option Value} (c : CellsAt g cl) (F : Fr g L h m) : CellsAt h cl := by
  obtain ⟨vs, ns, a, b, c⟩ := c
  exact ⟨vs, ns, a.at fun o e => F.keep _ _ e, b, c⟩
theorem draw_atH {w : World} {mean : ExcName → Option Value} {mg mb : Str → Option Value} {base g h : Heap} {outer : List Env} {dep un : Nat} {gd : Option (List Code)} {env : Env} {L fa cl : Addr} {m : Str → Option Value} {o : Obj} {rest : List (Addr × Obj)} {n tn wd tk : Nat} {t2 t3 tw : Tok} {bl : Int}
    {gs : Array GenState} {dr : Drawn} {os : OsState} {Q : Value → Shared → Prop} {E : Value → Shared → Prop}
    (hX : (top.heap_1 w.params).In base) (hT : Top top.view_1 (looseW top.view_1 []) mean mg mb base) (B : Below (Ar dep un gd outer) base outer g) (F : Fr g L h m) (N : News g L h ((fa, o) :: rest)) (hr : ∀ p ∈ rest, p.1 ≠ fa)
    (hd' : o.IsDictOf (PySem.strKind PR w) (feedKv cl t2 t3 tn bl)) (htn : tn ≤ n) (c : CellsAt h cl) (hf : env.frame = some L) (hs : env.scope.kind = .function) (hdep : dep + 20 < recursionLimit) (hn : n ≤ 5000) (hw : 0 < wd) (hw2 : wd < 1000)
    (hk : ∀ h' (r : Nat) tr tk' o' t2 t3 tn bl, r < wd → Fr g L h' m → News g L h' ((fa, o') :: rest) → o'.IsDictOf (PySem.strKind PR w) (feedKv cl t2 t3 tn bl) → tn ≤ n + 1 → Q (.int r tr) ⟨h', gs, dr, tk', os⟩) :
    wpAny (model PR w) ((Ar dep un gd outer).deeper env) (call (.ref 290) [.ref fa, .int wd tw] []) Q E ⟨h, gs, dr, tk, os⟩ := by
  refine wpAny_call (draw_spec (s := ⟨h, gs, dr, tk, os⟩) (n := n) (wd := wd) (cx_in hX hT B F hf hs rfl) (show dep + 1 + 10 < _ by ((first | with_reducible assumption | exact Mine.lim (by assumption) | exact Mine.lim0 (by assumption) | exact Mine.lim2 (by assumption) | exact Mine.lim3 (by assumption) | exact Mine.lme (by assumption) | exact Mine.lml (by assumption) | exact Mine.lll (by assumption) | decide | lia))) ⟨⟨o, t2, t3, tn, bl, mut_in B hf N (.head _), hd', htn⟩, c⟩ hn hw hw2 fun h6 r tr tk6 hr6 u f => ?_)
  obtain ⟨F7, o6, t26, t36, tn6, bl6, N9, hd6, htn6⟩ := feed_step F N hr u f
  exact hk _ _ _ _ _ _ _ _ _ hr6 F7 N9 hd6 htn6
theorem draw_at {w : World} {mean : ExcName → Option Value} {mg mb : Str → Option Value} {base g h : Heap} {outer : List Env} {dep un : Nat} {gd : Option (List Code)} {env : Env} {L fa cl : Addr} {m : Str → Option Value} {o : Obj} {rest : List (Addr × Obj)} {n tn wd tk : Nat} {t2 t3 tw : Tok} {bl : Int}
    {gs : Array GenState} {dr : Drawn} {os : OsState} {Q : Value → Shared → Prop} {E : Value → Shared → Prop}
    (hX : (top.heap_1 w.params).In base) (hT : Top top.view_1 (looseW top.view_1 []) mean mg mb base) (B : Below (Ar dep un gd outer) base outer g) (F : Fr g L h m) (N : News g L h ((fa, o) :: rest)) (hr : ∀ p ∈ rest, p.1 ≠ fa)
    (hd' : o.IsDictOf (PySem.strKind PR w) (feedKv cl t2 t3 tn bl)) (htn : tn ≤ n) (c : CellsAt g cl) (hf : env.frame = some L) (hs : env.scope.kind = .function) (hdep : dep + 20 < recursionLimit) (hn : n ≤ 5000) (hw : 0 < wd) (hw2 : wd < 1000)
    (hk : ∀ h' (r : Nat) tr tk' o' t2 t3 tn bl, r < wd → Fr g L h' m → News g L h' ((fa, o') :: rest) → o'.IsDictOf (PySem.strKind PR w) (feedKv cl t2 t3 tn bl) → tn ≤ n + 1 → Q (.int r tr) ⟨h', gs, dr, tk', os⟩) :
    wpAny (model PR w) ((Ar dep un gd outer).deeper env) (call (.ref 290) [.ref fa, .int wd tw] []) Q E ⟨h, gs, dr, tk, os⟩ := draw_atH hX hT B F N hr hd' htn (cells_at c F) hf hs hdep hn hw hw2 hk
theorem item_fgk {r : Nat} (h : r < 3) : ∃ c, (c = 102 ∨ c = 103 ∨ c = 107) ∧ Txt.item "fgk" (r : Int) = ⟨#[c]⟩ := by
  have : r = 0 ∨ r = 1 ∨ r = 2 := by ((first | with_reducible assumption | exact Mine.lim (by assumption) | exact Mine.lim0 (by assumption) | exact Mine.lim2 (by assumption) | exact Mine.lim3 (by assumption) | exact Mine.lme (by assumption) | exact Mine.lml (by assumption) | exact Mine.lll (by assumption) | decide | lia))
  rcases this with rfl | rfl | rfl
  · exact ⟨102, .inl rfl, by decide +kernel⟩
  · exact ⟨103, .inr (.inl rfl), by decide +kernel⟩
  · exact ⟨107, .inr (.inr rfl), by decide +kernel⟩
theorem mul_blank {r : Nat} (h : r < 2) : (Txt.mul " " (r : Int)).length ≤ 1 ∧ (Txt.mul " " (r : Int)).cps.toList = List.replicate r 32 := by
  have : r = 0 ∨ r = 1 := by ((first | with_reducible assumption | exact Mine.lim (by assumption) | exact Mine.lim0 (by assumption) | exact Mine.lim2 (by assumption) | exact Mine.lim3 (by assumption) | exact Mine.lme (by assumption) | exact Mine.lml (by assumption) | exact Mine.lll (by assumption) | decide | lia))
  rcases this with rfl | rfl
  · exact ⟨by decide +kernel, by decide +kernel⟩
  · exact ⟨by decide +kernel, by decide +kernel⟩
noncomputable abbrev cmap (fa va : Addr) (x : Str) (tx : Tok) (u : Str → Option Value) : Str → Option Value := fun y => if y = "term" then some (.ref va) else if y = "text" then some (.str x tx) else if y = "feed" then some (.ref fa) else u y
inductive CJ (w : World) (g : Heap) (fa cl : Addr) (n : Nat) (i : Nat) (m : Str → Option Value) (nx : List (Addr × Obj)) : Prop
  | mk (va : Addr) (x : Str) (tx : Tok) (u : Str → Option Value) (o : Obj) (t2 t3 : Tok) (tn : Nat) (bl : Int) (tl : List (Addr × Obj)) (T : Tm) (h1_ : (∀ y, m y = cmap fa va x tx u y)) (h2_ : nx = (fa, o) :: tl) (h3_ : (∀ p ∈ tl, p.1 ≠ fa)) (h4_ : o.IsDictOf (PySem.strKind PR w) (feedKv cl t2 t3 tn bl)) (h5_ : tn ≤ n + 1 + 3 * i) (h6_ : TextOf x T (i + 2)) (h7_ : ∀ h' : Heap, (∀ b o, g.get? b = some o → h'.get? b = some o) → (∀ p ∈ tl, h'.get? p.1 = some p.2) → Reads h' (.ref va) T.dat []) : CJ w g fa cl n i m nx
inductive Kids (g : Heap) (b : Nat) (tl : List (Addr × Obj)) : List Value → List Value → List Tm → List Str → Prop
  | one (v : Value) (y : Str) (t : Tok) (T : Tm) (h1 : TextOf y T b) (h2 : ∀ h' : Heap, (∀ b o, g.get? b = some o → h'.get? b = some o) → (∀ p ∈ tl, h'.get? p.1 = some p.2) → Reads h' v T.dat []) : Kids g b tl [v] [.str y t] [T] [y]
  | two (v : Value) (y : Str) (t : Tok) (T : Tm) (v' : Value) (y' : Str) (t' : Tok) (T' : Tm) (h1 : TextOf y T b) (h2 : ∀ h' : Heap, (∀ b o, g.get? b = some o → h'.get? b = some o) → (∀ p ∈ tl, h'.get? p.1 = some p.2) → Reads h' v T.dat [])
      (h3 : TextOf y' T' b) (h4 : ∀ h' : Heap, (∀ b o, g.get? b = some o → h'.get? b = some o) → (∀ p ∈ tl, h'.get? p.1 = some p.2) → Reads h' v' T'.dat []) (h5 : y.length + y'.length ≤ 20 * b + 5) : Kids g b tl [v, v'] [.str y t, .str y' t'] [T, T'] [y, y']
noncomputable abbrev kmap (fa lk lw : Addr) (op gap : Str) (to tw tg : Tok) (way : Int) (u : Str → Option Value) : Str → Option Value := fun y => if y = "words" then some (.ref lw) else if y = "kids" then some (.ref lk) else if y = "gap" then some (.str gap tg) else
  if y = "way" then some (.int way tw) else if y = "op" then some (.str op to) else if y = "feed" then some (.ref fa) else u y
inductive KM (g : Heap) (L : Addr) (fa : Addr) (b : Nat) (op gap : Str) (way : Nat) (of : Obj) (tl0 : List (Addr × Obj)) (s : Shared) (P : Nat → Prop) : Shared → Prop
  | mk (h' : Heap) (tk' : Nat) (lk lw : Addr) (to tw tg : Tok) (u : Str → Option Value) (kv wv : List Value) (e1 e2 : Nat) (Ts : List Tm) (ys : List Str) (tl : List (Addr × Obj))
      (F : Fr g L h' (kmap fa lk lw op gap to tw tg way u)) (N : News g L h' ((lk, listOf kv.toArray e1) :: (lw, listOf wv.toArray e2) :: (fa, of) :: tl)) (hs : ∀ p ∈ tl0, p ∈ tl) (hn : ∀ p ∈ tl, p.1 ≠ fa) (K : Kids g b tl kv wv Ts ys) (hp : P Ts.length) :
      KM g L fa b op gap way of tl0 s P ⟨h', s.gens, s.drawn, tk', s.os⟩
theorem kmap_of {m : Str → Option Value} {fa lk lw : Addr} {op gap : Str} {to tw tg : Tok} {way : Int} (h1 : m "words" = some (.ref lw)) (h2 : m "kids" = some (.ref lk)) (h3 : m "gap" = some (.str gap tg))
    (h4 : m "way" = some (.int way tw)) (h5 : m "op" = some (.str op to)) (h6 : m "feed" = some (.ref fa)) : ∀ y, m y = kmap fa lk lw op gap to tw tg way m y := fun y => by
  unfold kmap
  by_cases q1 : y = "words"
  · rw [if_pos q1, q1]; exact h1
  rw [if_neg q1]
  by_cases q2 : y = "kids"
  · rw [if_pos q2, q2]; exact h2
  rw [if_neg q2]
  by_cases q3 : y = "gap"
  · rw [if_pos q3, q3]; exact h3
  rw [if_neg q3]
  by_cases q4 : y = "way"
  · rw [if_pos q4, q4]; exact h4
  rw [if_neg q4]
  by_cases q5 : y = "op"
  · rw [if_pos q5, q5]; exact h5
  rw [if_neg q5]
  by_cases q6 : y = "feed"
  · rw [if_pos q6, q6]; exact h6
  rw [if_neg q6]
theorem ne_dict {w : World} {h : Heap} {a fa : Addr} {o : Obj} {vs : Array Value} {kvs : List (Str × Value)} (e1 : h.get? a = some { cls := .type "tuple", data := .seq vs }) (e2 : h.get? fa = some o) (hd : o.IsDictOf (PySem.strKind PR w) kvs) : a ≠ fa := by
  rintro rfl
  rw [e1] at e2
  cases e2
  obtain ⟨_, _, _, z, _⟩ := hd
  cases z
theorem news_one {g h : Heap} {L : Addr} {big l : List (Addr × Obj)} {a : Addr} {o : Obj} (N : News g L h big) (h1 : (a, o) ∈ big) (r : News g L h l) : News g L h ((a, o) :: l) := fun p hp => by
  rcases List.mem_cons.mp hp with rfl | hp
  · exact N _ h1
  · exact r p hp
section
variable {w : World} {mean : ExcName → Option Value} {mg mb : Str → Option Value} {base : Heap} {outer : List Env} {dep un : Nat} {gd : Option (List Code)} {s : Shared} {R : Result → Shared → Prop}
theorem chain_spec {fa cl : Addr} {n : Nat} (C : Cx w mean mg mb base outer (Ar dep un gd outer) s.heap) (hdep : dep + 20 < recursionLimit) (hu : un + 200 < cLine) (hf : FeedAt w base outer s.heap fa cl n) (hn : n ≤ 4000)
    (hk : ∀ h' v T x t a n' tk, Upto [fa] s.heap h' → FeedAt w base outer h' fa cl n' → n' ≤ n + 200 → TextOf x T 50 → Reads h' v T.dat [] → h'.get? a = some (tupObj [v, .str x t]) → s.heap.get? a = none → R (.ok (.ret (.ref a))) { s with heap := h', toks := tk }) :
    codeAny (model PR w) (Ar dep un gd outer) (.call (.ref 297) ⟨[.ref fa], []⟩) R s := by
  obtain ⟨⟨o, t2, t3, tn, bl, hm, hd', htn⟩, hcs⟩ := hf
  refine' enter_fn (A := Ar dep un gd outer) [("feed", .ref fa)] C [(fa, o)] (List.forall_mem_cons.mpr ⟨hm, List.forall_mem_nil _⟩) ?k1 ?k2 ?k3 ?k4 ?k5 ?_ ?c2 ?c3 ?c4 ?c5
  ((case k1 => k_is); (case k2 => k_is); (case k3 => (show _ < _; first | ((first | with_reducible assumption | exact Mine.lim (by assumption) | exact Mine.lim0 (by assumption) | exact Mine.lim2 (by assumption) | exact Mine.lim3 (by assumption) | exact Mine.lme (by assumption) | exact Mine.lml (by assumption) | exact Mine.lll (by assumption) | decide | lia)) | (dsimp only; ((first | with_reducible assumption | exact Mine.lim (by assumption) | exact Mine.lim0 (by assumption) | exact Mine.lim2 (by assumption) | exact Mine.lim3 (by assumption) | exact Mine.lme (by assumption) | exact Mine.lml (by assumption) | exact Mine.lll (by assumption) | decide | lia))))); (case k4 => exact BindsTo.of_eq rfl); (case k5 => exact locs rfl); (case c2 => exact rfl); (case c3 => exact rfl); (case c4 => exact rfl); (case c5 => decide))
  intro g L h₁ tk0 F N B X T hin hout hsz
  try k_fold
  have hcg : CellsAt g cl := by
    obtain ⟨vs, ns, hl, hi, hz⟩ := hcs
    obtain ⟨oc, e, r⟩ := hl
    refine ⟨vs, ns, ⟨oc, hin _ _ e fun q => ?_, r⟩, hi, hz⟩
    rw [List.map_singleton, List.mem_singleton] at q
    rw [q, hm.at_] at e
    cases e
    obtain ⟨_, k, z⟩ := r
    obtain ⟨_, _, _, z2, _⟩ := hd'
    rw [z2] at z; cases z
  (repeat' ((fail_if_success with_reducible first|refine zz11 ?_|refine zz9 ?_|refine zz1 ?_|refine zz2 ?_|refine zz3 ?_|refine zz4 ?_|refine zz7 ?_|refine zz5 ?_|refine zz10 ?_|refine zz6 ?_); first | (k_unfold; (try dsimp only)) | (walk1; (all_goals (try dsimp only))) | (dsimp only; walk1; (all_goals (try dsimp only)))))
  rename_i D1 _ l1 D2 _ l2 _ _ h2 F2 N2
  refine For_invVF F2 rfl rfl ?_
  (repeat' ((fail_if_success with_reducible first|refine zz11 ?_|refine zz9 ?_|refine zz1 ?_|refine zz2 ?_|refine zz3 ?_|refine zz4 ?_|refine zz7 ?_|refine zz5 ?_|refine zz10 ?_|refine zz6 ?_); first | (k_unfold; (try dsimp only)) | (walk1; (all_goals (try dsimp only))) | (dsimp only; walk1; (all_goals (try dsimp only)))))
  have N3 : News g L h2 ((fa, o) :: [(D1, _)]) := fun p hp => N2 p (by
    rcases List.mem_cons.mp hp with rfl | hp
    · exact .tail _ (.tail _ (.head _))
    · exact (List.mem_singleton.mp hp) ▸ .tail _ (.head _))
  have hD1 : ∀ p ∈ [(D1, tupObj [Value.str "a" tk0])], p.1 ≠ fa := fun p hp => by rw [List.mem_singleton.mp hp]; exact Nat.ne_of_gt l1
  refine draw_at (n := n) (wd := 4) C.X C.T B F2 N3 hD1 hd' htn hcg rfl rfl (by ((first | with_reducible assumption | exact Mine.lim (by assumption) | exact Mine.lim0 (by assumption) | exact Mine.lim2 (by assumption) | exact Mine.lim3 (by assumption) | exact Mine.lme (by assumption) | exact Mine.lml (by assumption) | exact Mine.lll (by assumption) | decide | lia))) (by ((first | with_reducible assumption | exact Mine.lim (by assumption) | exact Mine.lim0 (by assumption) | exact Mine.lim2 (by assumption) | exact Mine.lim3 (by assumption) | exact Mine.lme (by assumption) | exact Mine.lml (by assumption) | exact Mine.lll (by assumption) | decide | lia))) (by decide) (by decide) fun h3 r3 tr3 tk3 o3 t23 t33 tn3 bl3 hr3 F3 N4 hd3 htn3 => ?_
  clear F2 N2 N3 hd' htn
  try dsimp only
  (repeat' ((fail_if_success with_reducible first|refine zz11 ?_|refine zz9 ?_|refine zz1 ?_|refine zz2 ?_|refine zz3 ?_|refine zz4 ?_|refine zz7 ?_|refine zz5 ?_|refine zz10 ?_|refine zz6 ?_); first | (k_unfold; (try dsimp only)) | (walk1; (all_goals (try dsimp only))) | (dsimp only; walk1; (all_goals (try dsimp only)))))
  rename_i h4 tk4 ta tb tc hR F4 N5 _
  have N6 := snap F4 N5
  generalize hrs : (Shared.mk h3 s.gens s.drawn (tk3 + 1) s.os).heap.objs.size = rs at hR ⊢
  refine iter_range_inv (s := ⟨h4, _, _, _, _⟩) (n := 38 + r3) (news := (fa, o3) :: snapOf g h4) rfl hR (by ((first | with_reducible assumption | exact Mine.lim (by assumption) | exact Mine.lim0 (by assumption) | exact Mine.lim2 (by assumption) | exact Mine.lim3 (by assumption) | exact Mine.lme (by assumption) | exact Mine.lml (by assumption) | exact Mine.lll (by assumption) | decide | lia))) (by ((first | with_reducible assumption | exact Mine.lim (by assumption) | exact Mine.lim0 (by assumption) | exact Mine.lim2 (by assumption) | exact Mine.lim3 (by assumption) | exact Mine.lme (by assumption) | exact Mine.lml (by assumption) | exact Mine.lll (by assumption) | decide | lia))) F4 (fun p hp => N6 p (by
    rcases List.mem_cons.mp hp with rfl | hp
    · exact .head _
    · exact List.mem_append_right _ hp)) (CJ w g fa cl n)
    ⟨D1, "a", tk0 + 1, fun _ => none, o3, t23, t33, tn3, bl3, snapOf g h4, .node "a" [], fun y => ?_, rfl, fun p hp => ?_, hd3, by ((first | with_reducible assumption | exact Mine.lim (by assumption) | exact Mine.lim0 (by assumption) | exact Mine.lim2 (by assumption) | exact Mine.lim3 (by assumption) | exact Mine.lme (by assumption) | exact Mine.lml (by assumption) | exact Mine.lll (by assumption) | decide | lia)), textOf_a.mono (by decide), fun h' kg kt => ?_⟩ ?_ ?_
  · by_cases h1 : y = "text"
    · subst h1; rfl
    · by_cases h2 : y = "term"
      · subst h2; rfl
      · by_cases h3 : y = "feed"
        · subst h3; rfl
        · have h4 : (y == "feed") = false := by simp [h3]
          simp only [h1, h2, h3, if_false, cmap, List.reverse_cons, List.reverse_nil, List.nil_append, List.lookup_cons, h4, List.lookup_nil]
  · rintro rfl
    obtain ⟨e1, ⟨_, vs, k, e2⟩, _⟩ := mem_snap.mp hp
    rw [N5.get (.head _)] at e1
    cases e1
    obtain ⟨_, _, _, z, _⟩ := hd3
    rw [z] at e2; cases e2
  · refine reads_tuple_at (kt (D1, tupObj [Value.str "a" tk0]) (mem_snap.mpr ⟨N5.get (.tail _ (.head _)), ⟨rfl, _, _, rfl⟩, (N5 _ (.tail _ (.head _))).2.2⟩)) rfl rfl (readsAll_cons_val (.str _ _) .nil)
  · rintro i ti m₁ news₁ h5 tk5 own hi ⟨va, x, tx, u, o5, t25, t35, tn5, bl5, tl, Tm5, hm5, rfl, htl, hd5, htn5, hx5, hr5⟩ hown hnI hoI F5 N7
    obtain ⟨tl5, htl5⟩ : ∃ tl5, tl5 = own ++ tl := ⟨_, rfl⟩
    have h5f : ∀ p ∈ tl5, p.1 ≠ fa := fun p hp => by
      rw [htl5] at hp
      rcases List.mem_append.mp hp with hp | hp
      · exact fun z => hnI _ (.head _) (by rw [← z, hown p hp])
      · exact htl p hp
    have N8 : News g L h5 ((fa, o5) :: tl5) := fun p hp => N7 p (by
      rw [htl5] at hp
      rcases List.mem_cons.mp hp with q | hp
      · exact q ▸ List.mem_append_right _ (.head _)
      · rcases List.mem_append.mp hp with hp | hp
        · exact List.mem_append_left _ hp
        · exact List.mem_append_right _ (.tail _ hp))
    have F6 : Fr g L h5 (cmap fa va x tx (fun y => if y = "lap" then some (.int i ti) else u y)) := fr_map F5 fun y => by
      by_cases h1 : y = "lap"
      · subst h1; rfl
      · simp only [h1, if_false]
        rw [hm5 y]
        simp only [cmap, h1, if_false]
    clear F5 N7 F4 N5 N6
    have hxl : x.length ≤ 100000 := by have := hx5.len; ((first | with_reducible assumption | exact Mine.lim (by assumption) | exact Mine.lim0 (by assumption) | exact Mine.lim2 (by assumption) | exact Mine.lim3 (by assumption) | exact Mine.lme (by assumption) | exact Mine.lml (by assumption) | exact Mine.lll (by assumption) | decide | lia))
    (repeat' ((fail_if_success with_reducible first|refine zz11 ?_|refine zz9 ?_|refine zz1 ?_|refine zz2 ?_|refine zz3 ?_|refine zz4 ?_|refine zz7 ?_|refine zz5 ?_|refine zz10 ?_|refine zz6 ?_); first | (k_unfold; (try dsimp only)) | (walk1; (all_goals (try dsimp only))) | (dsimp only; walk1; (all_goals (try dsimp only)))))
    refine draw_at (n := n + 1 + 3 * i) (wd := 3) C.X C.T B F6 N8 h5f hd5 htn5 hcg rfl rfl (by ((first | with_reducible assumption | exact Mine.lim (by assumption) | exact Mine.lim0 (by assumption) | exact Mine.lim2 (by assumption) | exact Mine.lim3 (by assumption) | exact Mine.lme (by assumption) | exact Mine.lml (by assumption) | exact Mine.lll (by assumption) | decide | lia))) (by ((first | with_reducible assumption | exact Mine.lim (by assumption) | exact Mine.lim0 (by assumption) | exact Mine.lim2 (by assumption) | exact Mine.lim3 (by assumption) | exact Mine.lme (by assumption) | exact Mine.lml (by assumption) | exact Mine.lll (by assumption) | decide | lia))) (by decide) (by decide) fun h6 r6 tr6 tk6 o6 t26 t36 tn6 bl6 hr6 F7 N9 hd6 htn6 => ?_
    clear F6 N8 hd5
    try dsimp only
    (repeat' ((fail_if_success with_reducible first|refine zz11 ?_|refine zz9 ?_|refine zz1 ?_|refine zz2 ?_|refine zz3 ?_|refine zz4 ?_|refine zz7 ?_|refine zz5 ?_|refine zz10 ?_|refine zz6 ?_); first | (k_unfold; (try dsimp only)) | (walk1; (all_goals (try dsimp only))) | (dsimp only; walk1; (all_goals (try dsimp only)))))
    refine draw_at (n := n + 1 + 3 * i + 1) (wd := 7) C.X C.T B F7 N9 h5f hd6 htn6 hcg rfl rfl (by ((first | with_reducible assumption | exact Mine.lim (by assumption) | exact Mine.lim0 (by assumption) | exact Mine.lim2 (by assumption) | exact Mine.lim3 (by assumption) | exact Mine.lme (by assumption) | exact Mine.lml (by assumption) | exact Mine.lll (by assumption) | decide | lia))) (by ((first | with_reducible assumption | exact Mine.lim (by assumption) | exact Mine.lim0 (by assumption) | exact Mine.lim2 (by assumption) | exact Mine.lim3 (by assumption) | exact Mine.lme (by assumption) | exact Mine.lml (by assumption) | exact Mine.lll (by assumption) | decide | lia))) (by decide) (by decide) fun h7 r7 tr7 tk7 o7 t27 t37 tn7 bl7 hr7 F8 N10 hd7 htn7 => ?_
    clear F7 N9 hd6
    try dsimp only
    (repeat' ((fail_if_success with_reducible first|refine zz11 ?_|refine zz9 ?_|refine zz1 ?_|refine zz2 ?_|refine zz3 ?_|refine zz4 ?_|refine zz7 ?_|refine zz5 ?_|refine zz10 ?_|refine zz6 ?_); first | (k_unfold; (try dsimp only)) | (walk1; (all_goals (try dsimp only))) | (dsimp only; walk1; (all_goals (try dsimp only)))))
    refine draw_at (n := n + 1 + 3 * i + 1 + 1) (wd := 2) C.X C.T B F8 N10 h5f hd7 htn7 hcg rfl rfl (by ((first | with_reducible assumption | exact Mine.lim (by assumption) | exact Mine.lim0 (by assumption) | exact Mine.lim2 (by assumption) | exact Mine.lim3 (by assumption) | exact Mine.lme (by assumption) | exact Mine.lml (by assumption) | exact Mine.lll (by assumption) | decide | lia))) (by ((first | with_reducible assumption | exact Mine.lim (by assumption) | exact Mine.lim0 (by assumption) | exact Mine.lim2 (by assumption) | exact Mine.lim3 (by assumption) | exact Mine.lme (by assumption) | exact Mine.lml (by assumption) | exact Mine.lll (by assumption) | decide | lia))) (by decide) (by decide) fun h8 r8 tr8 tk8 o8 t28 t38 tn8 bl8 hr8 F9 N11 hd8 htn8 => ?_
    clear F8 N10 hd7
    obtain ⟨opc, hopc, hop⟩ := item_fgk hr6
    rw [hop]
    try delta cmap at F9
    try dsimp only
    (fail_if_success with_reducible first|refine zz11 ?_|refine zz9 ?_|refine zz1 ?_|refine zz2 ?_|refine zz3 ?_|refine zz4 ?_|refine zz7 ?_|refine zz5 ?_|refine zz10 ?_|refine zz6 ?_)
    walk1
    obtain ⟨hgl, hgs⟩ := mul_blank hr8
    generalize hgap : Txt.mul " " (r8 : Int) = gapS at hgl hgs ⊢
    have fin : ∀ (h' : Heap) (m' : Str → Option Value) (D : Addr) (X : Str) (tX : Tok) (T' : Tm) (tk' : Nat), Fr g L h' m' → m' "term" = some (.ref D) → m' "text" = some (.str X tX) → m' "feed" = some (.ref fa) → News g L h' ((fa, o8) :: tl5) →
        TextOf X T' (i + 3) → Reads h' (.ref D) T'.dat [] → LoopStepU g L [h4.objs.size] own (CJ w g fa cl n (i + 1)) ⟨h5, s.gens, s.drawn, tk5, s.os⟩ .next ⟨h', s.gens, s.drawn, tk', s.os⟩ := by
      intro h' m' D X tX T' tk' Fx m1 m2 m3 Nx hX hR
      have hm' : ∀ y, m' y = cmap fa D X tX m' y := fun y => by
        by_cases q1 : y = "term"
        · subst q1; exact m1
        · by_cases q2 : y = "text"
          · subst q2; exact m2
          · by_cases q3 : y = "feed"
            · subst q3; exact m3
            · simp only [cmap, q1, q2, q3, if_false]
      obtain ⟨oI, hI, hIc⟩ := hoI
      have NI := Nx (_, oI) (.tail _ (by rw [htl5]; exact List.mem_append_left _ hI))
      refine ⟨rfl, h', tk', m', (fa, o8) :: snapOf g h', rfl, Fx, ?_, ?_, ⟨D, X, tX, m', o8, t28, t38, tn8, bl8, snapOf g h', T', hm', rfl, ?_, hd8, by ((first | with_reducible assumption | exact Mine.lim (by assumption) | exact Mine.lim0 (by assumption) | exact Mine.lim2 (by assumption) | exact Mine.lim3 (by assumption) | exact Mine.lme (by assumption) | exact Mine.lml (by assumption) | exact Mine.lll (by assumption) | decide | lia)), hX, fun h'' kg kt => tm_keeps (snap_keep kg Fx.keep kt) T' hR⟩⟩
      · intro p hp
        rcases List.mem_append.mp hp with hp | hp
        · exact Nx p (.tail _ (by rw [htl5]; exact List.mem_append_left _ hp))
        · rcases List.mem_cons.mp hp with rfl | hp
          · exact Nx _ (.head _)
          · exact snap Fx news_nil p hp
      · intro p hp q
        have q' := List.mem_singleton.mp q
        rcases List.mem_cons.mp hp with rfl | hp
        · exact hnI _ (.head _) q'
        · obtain ⟨e1, ⟨e2, _⟩, _⟩ := mem_snap.mp hp
          rw [q', NI.1] at e1
          cases e1
          rw [hIc] at e2
          simp at e2
      · intro p hp q
        obtain ⟨e1, ⟨_, vs, k, e2⟩, _⟩ := mem_snap.mp hp
        rw [q, (Nx _ (.head _)).1] at e1
        cases e1
        obtain ⟨_, _, _, z, _⟩ := hd8
        rw [z] at e2; cases e2
    have hva : ∀ h' : Heap, (∀ b o, g.get? b = some o → h'.get? b = some o) → (∀ p ∈ tl5, h'.get? p.1 = some p.2) → Reads h' (.ref va) Tm5.dat [] := fun h' kg kt => hr5 h' kg fun p hp => kt p (by rw [htl5]; exact List.mem_append_right _ hp)
    have hop1 : (⟨#[opc]⟩ : Str).length = 1 := rfl
    have hxl2 := hx5.len
    (repeat' ((fail_if_success with_reducible first|refine zz11 ?_|refine zz9 ?_|refine zz1 ?_|refine zz2 ?_|refine zz3 ?_|refine zz4 ?_|refine zz7 ?_|refine zz5 ?_|refine zz10 ?_|refine zz6 ?_|refine zz15 ?_); first | (k_unfold; (try dsimp only)) | (walk1; (all_goals (try dsimp only))) | (dsimp only; walk1; (all_goals (try dsimp only)))))
    rename Fr g L _ _ => FF
    rename News g L _ _ => NN
    refine execs_cut 2 (KM g L fa (i + 2) ⟨#[opc]⟩ gapS r7 o8 tl5 s (fun n => (r7 = 3 ∨ r7 = 4 → n = 1) ∧ (r7 = 2 → n = 2))) ?_ fun s1 M1 => ?_
    · dsimp only [List.take]
      (repeat' ((fail_if_success with_reducible first|refine zz11 ?_|refine zz9 ?_|refine zz1 ?_|refine zz2 ?_|refine zz3 ?_|refine zz4 ?_|refine zz7 ?_|refine zz5 ?_|refine zz10 ?_|refine zz6 ?_); first | (k_unfold; (try dsimp only)) | (walk1; (all_goals (try dsimp only))) | (dsimp only; walk1; (all_goals (try dsimp only)))))
      · rename Fr g L _ _ => FF
        rename News g L _ _ => NN
        rename _ = true => hw
        try dsimp only
        refine .mk _ _ _ _ _ _ _ _ [_, _] [_, _] 0 0 [Tm5, .node "b" []] [x, "b"] (_ :: tl5) (fr_map FF (kmap_of rfl rfl rfl rfl rfl rfl)) (news_one NN (.tail _ (.tail _ (.tail _ (.head _)))) (news_one NN (.tail _ (.head _)) (news_one NN (.tail _ (.tail _ (.tail _ (.tail _ (.tail _ (.tail _ (.tail _ (.tail _ (.tail _ (.tail _ (.tail _ (.head _)))))))))))) (news_one NN (.tail _ (.tail _ (.tail _ (.tail _ (.tail _ (.head _)))))) fun p hp => NN p (.tail _ (.tail _ (.tail _ (.tail _ (.tail _ (.tail _ (.tail _ (.tail _ (.tail _ (.tail _ (.tail _ (.tail _ hp)))))))))))))))) (fun p hp => .tail _ hp)
          (List.forall_mem_cons.mpr ⟨ne_dict (NN _ (.tail _ (.tail _ (.tail _ (.tail _ (.tail _ (.head _))))))).1 (NN _ (.tail _ (.tail _ (.tail _ (.tail _ (.tail _ (.tail _ (.tail _ (.tail _ (.tail _ (.tail _ (.tail _ (.head _))))))))))))).1 hd8, h5f⟩) (.two _ x _ Tm5 _ "b" _ (.node "b" []) hx5 (fun h' kg kt => hva h' kg fun p hp => kt p (.tail _ hp)) (textOf_b.mono (by ((first | with_reducible assumption | exact Mine.lim (by assumption) | exact Mine.lim0 (by assumption) | exact Mine.lim2 (by assumption) | exact Mine.lim3 (by assumption) | exact Mine.lme (by assumption) | exact Mine.lml (by assumption) | exact Mine.lll (by assumption) | decide | lia)))) (fun h' kg kt => reads_tuple_at (kt _ (.head _)) rfl rfl (readsAll_cons_val (.str _ _) .nil)) (by
            rw [show ("b" : Str).length = 1 by decide +kernel]; ((first | with_reducible assumption | exact Mine.lim (by assumption) | exact Mine.lim0 (by assumption) | exact Mine.lim2 (by assumption) | exact Mine.lim3 (by assumption) | exact Mine.lme (by assumption) | exact Mine.lml (by assumption) | exact Mine.lll (by assumption) | decide | lia)))) ⟨fun q => ?_, fun _ => rfl⟩
        simp at hw
        ((first | with_reducible assumption | exact Mine.lim (by assumption) | exact Mine.lim0 (by assumption) | exact Mine.lim2 (by assumption) | exact Mine.lim3 (by assumption) | exact Mine.lme (by assumption) | exact Mine.lml (by assumption) | exact Mine.lll (by assumption) | decide | lia))
      · rename Fr g L _ _ => FF
        rename News g L _ _ => NN
        rename _ = false => hw
        try dsimp only
        refine .mk _ _ _ _ _ _ _ _ [_] [_] 0 0 [Tm5] [x] tl5 (fr_map FF (kmap_of rfl rfl rfl rfl rfl rfl)) (news_one NN (.tail _ (.tail _ (.tail _ (.head _)))) (news_one NN (.tail _ (.tail _ (.head _))) (news_one NN (.tail _ (.tail _ (.tail _ (.tail _ (.tail _ (.head _)))))) fun p hp => NN p (.tail _ (.tail _ (.tail _ (.tail _ (.tail _ (.tail _ hp))))))))) (fun p hp => hp) h5f (.one _ x _ Tm5 hx5 hva) ⟨fun _ => rfl, fun q => ?_⟩
        simp at hw
        ((first | with_reducible assumption | exact Mine.lim (by assumption) | exact Mine.lim0 (by assumption) | exact Mine.lim2 (by assumption) | exact Mine.lim3 (by assumption) | exact Mine.lme (by assumption) | exact Mine.lml (by assumption) | exact Mine.lll (by assumption) | decide | lia))
    clear FF NN
    dsimp only [List.drop]
    refine execs_cut 1 (KM g L fa (i + 2) ⟨#[opc]⟩ gapS r7 o8 tl5 s (fun n => (r7 = 2 ∨ r7 = 4 → n = 2))) ?_ fun s2 M2 => ?_
    · rcases M1 with ⟨h', tk', lk, lw, to, tw, tg, u', kv, wv, e1, e2, Ts, ys, tl, F, N, hs, hn, K, hp⟩
      dsimp only [List.take]
      (repeat' ((fail_if_success with_reducible first|refine zz11 ?_|refine zz9 ?_|refine zz1 ?_|refine zz2 ?_|refine zz3 ?_|refine zz4 ?_|refine zz7 ?_|refine zz5 ?_|refine zz10 ?_|refine zz6 ?_|refine zz15 ?_); first | (k_unfold; (try dsimp only)) | (walk1; (all_goals (try dsimp only))) | (dsimp only; walk1; (all_goals (try dsimp only)))))
      · rename Fr g L _ _ => FF
        rename News g L _ _ => NN
        rename_i hw
        have hw2 : r7 = 3 ∨ r7 = 4 := by simp at hw; ((first | with_reducible assumption | exact Mine.lim (by assumption) | exact Mine.lim0 (by assumption) | exact Mine.lim2 (by assumption) | exact Mine.lim3 (by assumption) | exact Mine.lme (by assumption) | exact Mine.lml (by assumption) | exact Mine.lll (by assumption) | decide | lia))
        have h1 := hp.1 hw2
        cases K with
        | two => simp at h1
        | one v y t T k1 k2 =>
          have hyl := k1.len
          (repeat' ((fail_if_success with_reducible first|refine zz11 ?_|refine zz9 ?_|refine zz1 ?_|refine zz2 ?_|refine zz3 ?_|refine zz4 ?_|refine zz7 ?_|refine zz5 ?_|refine zz10 ?_|refine zz6 ?_); first | (k_unfold; (try dsimp only)) | (walk1; (all_goals (try dsimp only))) | (dsimp only; walk1; (all_goals (try dsimp only)))))
          rename Fr g L _ _ => FF
          rename News g L _ _ => NN
          try dsimp only
          refine .mk _ _ _ _ _ _ _ _ [_, _] [_, _] 0 0 [T, .node "h" [.node "b" []]] [y, "(h b)"] (_ :: _ :: tl) (fr_map FF (kmap_of rfl rfl rfl rfl rfl rfl)) (news_one NN (.tail _ (.tail _ (.tail _ (.head _)))) (news_one NN (.tail _ (.head _)) (news_one NN (.tail _ (.tail _ (.tail _ (.tail _ (.tail _ (.tail _ (.tail _ (.tail _ (.tail _ (.tail _ (.head _))))))))))) (news_one NN (.tail _ (.tail _ (.tail _ (.tail _ (.tail _ (.head _)))))) (news_one NN (.tail _ (.tail _ (.tail _ (.tail _ (.tail _ (.tail _ (.head _))))))) fun p hp => NN p (.tail _ (.tail _ (.tail _ (.tail _ (.tail _ (.tail _ (.tail _ (.tail _ (.tail _ (.tail _ (.tail _ hp)))))))))))))))) (fun p hp => .tail _ (.tail _ (hs p hp)))
            (List.forall_mem_cons.mpr ⟨ne_dict (NN _ (.tail _ (.tail _ (.tail _ (.tail _ (.tail _ (.head _))))))).1 (NN _ (.tail _ (.tail _ (.tail _ (.tail _ (.tail _ (.tail _ (.tail _ (.tail _ (.tail _ (.tail _ (.head _)))))))))))).1 hd8, List.forall_mem_cons.mpr ⟨ne_dict (NN _ (.tail _ (.tail _ (.tail _ (.tail _ (.tail _ (.tail _ (.head _)))))))).1 (NN _ (.tail _ (.tail _ (.tail _ (.tail _ (.tail _ (.tail _ (.tail _ (.tail _ (.tail _ (.tail _ (.head _)))))))))))).1 hd8, hn⟩⟩) (.two _ y _ T _ "(h b)" _ (.node "h" [.node "b" []]) k1 (fun h' kg kt => k2 h' kg fun p hp => kt p (.tail _ (.tail _ hp))) (textOf_hb.mono (by ((first | with_reducible assumption | exact Mine.lim (by assumption) | exact Mine.lim0 (by assumption) | exact Mine.lim2 (by assumption) | exact Mine.lim3 (by assumption) | exact Mine.lme (by assumption) | exact Mine.lml (by assumption) | exact Mine.lll (by assumption) | decide | lia)))) (fun h' kg kt => reads_tuple_at (kt _ (.head _)) rfl rfl (readsAll_cons_val (.str _ _) (readsAll_cons_val (reads_tuple_at (kt _ (.tail _ (.head _))) rfl rfl (readsAll_cons_val (.str _ _) .nil)) .nil))) (by
              rw [show ("(h b)" : Str).length = 5 by decide +kernel]; ((first | with_reducible assumption | exact Mine.lim (by assumption) | exact Mine.lim0 (by assumption) | exact Mine.lim2 (by assumption) | exact Mine.lim3 (by assumption) | exact Mine.lme (by assumption) | exact Mine.lml (by assumption) | exact Mine.lll (by assumption) | decide | lia)))) (fun _ => rfl)
      · rename Fr g L _ _ => FF
        rename News g L _ _ => NN
        rename _ = false => hw
        try dsimp only
        refine .mk _ _ _ _ _ _ _ _ kv wv e1 e2 Ts ys tl FF (fun p hp => NN p (.tail _ hp)) hs hn K fun q => hp.2 ?_
        simp at hw
        ((first | with_reducible assumption | exact Mine.lim (by assumption) | exact Mine.lim0 (by assumption) | exact Mine.lim2 (by assumption) | exact Mine.lim3 (by assumption) | exact Mine.lme (by assumption) | exact Mine.lml (by assumption) | exact Mine.lll (by assumption) | decide | lia))
    clear M1
    dsimp only [List.drop]
    refine execs_cut 1 (KM g L fa (i + 2) ⟨#[opc]⟩ gapS r7 o8 tl5 s (fun _ => True)) ?_ fun s3 M3 => ?_
    · rcases M2 with ⟨h', tk', lk, lw, to, tw, tg, u', kv, wv, e1, e2, Ts, ys, tl, F, N, hs, hn, K, hp⟩
      dsimp only [List.take]
      (repeat' ((fail_if_success with_reducible first|refine zz11 ?_|refine zz9 ?_|refine zz1 ?_|refine zz2 ?_|refine zz3 ?_|refine zz4 ?_|refine zz7 ?_|refine zz5 ?_|refine zz10 ?_|refine zz6 ?_|refine zz15 ?_); first | (k_unfold; (try dsimp only)) | (walk1; (all_goals (try dsimp only))) | (dsimp only; walk1; (all_goals (try dsimp only)))))
      · rename Fr g L _ _ => FF
        rename News g L _ _ => NN
        rename_i hw
        have hw2 : r7 = 2 ∨ r7 = 4 := by simp at hw; ((first | with_reducible assumption | exact Mine.lim (by assumption) | exact Mine.lim0 (by assumption) | exact Mine.lim2 (by assumption) | exact Mine.lim3 (by assumption) | exact Mine.lme (by assumption) | exact Mine.lml (by assumption) | exact Mine.lll (by assumption) | decide | lia))
        have h1 := hp hw2
        cases K with
        | one => simp at h1
        | two v y t T v' y' t' T' k1 k2 k3 k4 k5 =>
          (repeat' ((fail_if_success with_reducible first|refine zz11 ?_|refine zz9 ?_|refine zz1 ?_|refine zz2 ?_|refine zz3 ?_|refine zz4 ?_|refine zz7 ?_|refine zz5 ?_|refine zz10 ?_|refine zz6 ?_); first | (k_unfold; (try dsimp only)) | (walk1; (all_goals (try dsimp only))) | (dsimp only; walk1; (all_goals (try dsimp only)))))
          rename Fr g L _ _ => FF
          rename News g L _ _ => NN
          refine krv_lit (s := ⟨_, s.gens, s.drawn, _, s.os⟩) (its := #[v, v']) (zs := [v', v]) FF NN ⟨_, NN.get (by repeat first | exact .head _ | apply List.Mem.tail), rfl, _, rfl⟩ (IsPart.int _ _) rfl (fun DR hR FR NR lR => ?_) (by with_unfolding_all rfl) (by intro _; with_unfolding_all rfl) (show 2 ≤ sizeLine by decide)
          clear FF NN
          (repeat' ((fail_if_success with_reducible first|refine zz11 ?_|refine zz9 ?_|refine zz1 ?_|refine zz2 ?_|refine zz3 ?_|refine zz4 ?_|refine zz7 ?_|refine zz5 ?_|refine zz10 ?_|refine zz6 ?_); first | (k_unfold; (try dsimp only)) | (walk1; (all_goals (try dsimp only))) | (dsimp only; walk1; (all_goals (try dsimp only)))))
          rename Fr g L _ _ => FF
          rename News g L _ _ => NN
          refine krv_lit (s := ⟨_, s.gens, s.drawn, _, s.os⟩) (its := #[.str y t, .str y' t']) (zs := [.str y' t', .str y t]) FF NN ⟨_, NN.get (by repeat first | exact .head _ | apply List.Mem.tail), rfl, _, rfl⟩ (IsPart.int _ _) rfl (fun DR hR FR NR lR => ?_) (by with_unfolding_all rfl) (by intro _; with_unfolding_all rfl) (show 2 ≤ sizeLine by decide)
          clear FF NN
          (repeat' ((fail_if_success with_reducible first|refine zz11 ?_|refine zz9 ?_|refine zz1 ?_|refine zz2 ?_|refine zz3 ?_|refine zz4 ?_|refine zz7 ?_|refine zz5 ?_|refine zz10 ?_|refine zz6 ?_); first | (k_unfold; (try dsimp only)) | (walk1; (all_goals (try dsimp only))) | (dsimp only; walk1; (all_goals (try dsimp only)))))
          rename Fr g L _ _ => FF
          rename News g L _ _ => NN
          try dsimp only
          refine .mk _ _ _ _ _ _ _ _ [v', v] [.str y' t', .str y t] 0 0 [T', T] [y', y] tl (fr_map FF (kmap_of rfl rfl rfl rfl rfl rfl)) (news_one NN (.tail _ (.tail _ (.head _))) (news_one NN (.tail _ (.head _)) (news_one NN (.tail _ (.tail _ (.tail _ (.tail _ (.tail _ (.tail _ (.head _))))))) fun p hp => NN p (.tail _ (.tail _ (.tail _ (.tail _ (.tail _ (.tail _ (.tail _ hp)))))))))) hs hn (.two v' y' t' T' v y t T k3 k4 k1 k2 (by ((first | with_reducible assumption | exact Mine.lim (by assumption) | exact Mine.lim0 (by assumption) | exact Mine.lim2 (by assumption) | exact Mine.lim3 (by assumption) | exact Mine.lme (by assumption) | exact Mine.lml (by assumption) | exact Mine.lll (by assumption) | decide | lia)))) trivial
      · rename Fr g L _ _ => FF
        rename News g L _ _ => NN
        try dsimp only
        exact .mk _ _ _ _ _ _ _ _ kv wv e1 e2 Ts ys tl FF (fun p hp => NN p (.tail _ hp)) hs hn K trivial
    clear M2
    dsimp only [List.drop]
    rcases M3 with ⟨h', tk', lk, lw, to, tw, tg, u', kv, wv, e1, e2, Ts, ys, tl, F, N, hs, hn, K, -⟩
    obtain ⟨k0, ks0, hks⟩ : ∃ k0 ks0, Ts = k0 :: ks0 := by cases K <;> exact ⟨_, _, rfl⟩
    have hJ : TextsOf (Txt.join (" " ++ gapS) ys) Ts (i + 2) := by
      cases K with
      | one v y t T k1 k2 => exact texts_one k1
      | two v y t T v' y' t' T' k1 k2 k3 k4 k5 => exact texts_two hgs hr8 k1 k3 k5
    have hS : StrsAre wv ys := by
      cases K with
      | one => exact .cons _ _ .nil
      | two => exact .cons _ _ (.cons _ _ .nil)
    have hW : (ys.map (·.length)).sum + ys.length ≤ 1048576 := by
      cases K with
      | one v y t T k1 k2 => have := k1.len; simp; ((first | with_reducible assumption | exact Mine.lim (by assumption) | exact Mine.lim0 (by assumption) | exact Mine.lim2 (by assumption) | exact Mine.lim3 (by assumption) | exact Mine.lme (by assumption) | exact Mine.lml (by assumption) | exact Mine.lll (by assumption) | decide | lia))
      | two v y t T v' y' t' T' k1 k2 k3 k4 k5 => simp; ((first | with_reducible assumption | exact Mine.lim (by assumption) | exact Mine.lim0 (by assumption) | exact Mine.lim2 (by assumption) | exact Mine.lim3 (by assumption) | exact Mine.lme (by assumption) | exact Mine.lml (by assumption) | exact Mine.lll (by assumption) | decide | lia))
    have hR : ∀ h' : Heap, (∀ b o, g.get? b = some o → h'.get? b = some o) → (∀ p ∈ tl, h'.get? p.1 = some p.2) → ReadsAll h' kv (datL Ts) [] := fun h' kg kt => by
      cases K with
      | one v y t T k1 k2 => exact readsAll_cons_val (k2 h' kg kt) .nil
      | two v y t T v' y' t' T' k1 k2 k3 k4 k5 => exact readsAll_cons_val (k2 h' kg kt) (readsAll_cons_val (k4 h' kg kt) .nil)
    have hkl : kv.length ≤ 2 := by cases K <;> simp
    have hkn : kv ≠ [] := by cases K <;> simp
    clear K
    (repeat' ((fail_if_success with_reducible first|refine zz11 ?_|refine zz9 ?_|refine zz1 ?_|refine zz2 ?_|refine zz3 ?_|refine zz4 ?_|refine zz7 ?_|refine zz5 ?_|refine zz10 ?_|refine zz6 ?_); first | (k_unfold; (try dsimp only)) | (walk1; (all_goals (try dsimp only))) | (dsimp only; walk1; (all_goals (try dsimp only)))))
    rename Fr g L _ _ => FF
    rename News g L _ _ => NN
    refine kde_addT (s := ⟨_, s.gens, s.drawn, _, s.os⟩) (its := #[.str ⟨#[opc]⟩ to]) (its2 := kv.toArray) (zs := .str ⟨#[opc]⟩ to :: kv) FF NN ⟨_, NN.get (.tail _ (.head _)), rfl, _, rfl⟩ ⟨_, NN.get (.head _), rfl, _, rfl⟩ (List.cons_ne_nil _ _) (by simpa using hkn) (by simp; ((first | with_reducible assumption | exact Mine.lim (by assumption) | exact Mine.lim0 (by assumption) | exact Mine.lim2 (by assumption) | exact Mine.lim3 (by assumption) | exact Mine.lme (by assumption) | exact Mine.lml (by assumption) | exact Mine.lll (by assumption) | decide | lia))) (by simp) fun DA hA FA NA lA => ?_
    clear FF NN
    (repeat' ((fail_if_success with_reducible first|refine zz11 ?_|refine zz9 ?_|refine zz1 ?_|refine zz2 ?_|refine zz3 ?_|refine zz4 ?_|refine zz7 ?_|refine zz5 ?_|refine zz10 ?_|refine zz6 ?_); first | (k_unfold; (try dsimp only)) | (walk1; (all_goals (try dsimp only))) | (dsimp only; walk1; (all_goals (try dsimp only)))))
    rename Fr g L _ _ => FF
    rename News g L _ _ => NN
    refine join_listW (s := ⟨_, s.gens, s.drawn, _, s.os⟩) (D := lw) (items := wv.toArray) (ys := ys) ⟨_, NN.get (by repeat first | exact .head _ | apply List.Mem.tail), rfl, _, rfl⟩ (by simpa using hS) ?_ hW fun tj kj => ?_
    · rw [app_len, show (" " : Str).length = 1 by decide +kernel]; ((first | with_reducible assumption | exact Mine.lim (by assumption) | exact Mine.lim0 (by assumption) | exact Mine.lim2 (by assumption) | exact Mine.lim3 (by assumption) | exact Mine.lme (by assumption) | exact Mine.lml (by assumption) | exact Mine.lll (by assumption) | decide | lia))
    generalize Txt.join (" " ++ gapS) ys = J at hJ ⊢
    have hJl : J.length ≤ 2000 := by have := hJ.len; ((first | with_reducible assumption | exact Mine.lim (by assumption) | exact Mine.lim0 (by assumption) | exact Mine.lim2 (by assumption) | exact Mine.lim3 (by assumption) | exact Mine.lme (by assumption) | exact Mine.lml (by assumption) | exact Mine.lll (by assumption) | decide | lia))
    (repeat' ((fail_if_success with_reducible first|refine zz11 ?_|refine zz9 ?_|refine zz1 ?_|refine zz2 ?_|refine zz3 ?_|refine zz4 ?_|refine zz7 ?_|refine zz5 ?_|refine zz10 ?_|refine zz6 ?_); first | (k_unfold; (try dsimp only)) | (walk1; (all_goals (try dsimp only))) | (dsimp only; walk1; (all_goals (try dsimp only)))))
    rename Fr g L _ _ => FF
    rename News g L _ _ => NN
    subst hks
    refine fin _ _ _ _ _ (.node ⟨#[opc]⟩ (k0 :: ks0)) _ FF rfl rfl rfl (fun p hp => NN p ?_) ?_ ?_
    · rcases List.mem_cons.mp hp with rfl | hp
      · repeat first | exact .head _ | apply List.Mem.tail
      · repeat first | exact hs _ hp | apply List.Mem.tail
    · exact wrap_text (by rcases hopc with q | q | q <;> simp [q]) (noq_fgk hopc) hgs hr8 hJ
    · exact reads_tuple_at (NN.get (by repeat first | exact .head _ | apply List.Mem.tail)) rfl rfl (readsAll_cons_val (.str _ _) (hR _ FF.keep fun p hp => NN.get (by repeat first | exact hp | apply List.Mem.tail)))
  · rintro h5 tk5 m₁ news₁ F5 N7 ⟨va, x, tx, u, o5, t25, t35, tn5, bl5, tl, Tm5, hm5, rfl, htl, hd5, htn5, hx5, hr5⟩
    have F6 := fr_map F5 hm5
    try delta cmap at F6
    clear F5 F4 N5 N6
    try dsimp only
    (repeat' ((fail_if_success with_reducible first|refine zz11 ?_|refine zz9 ?_|refine zz1 ?_|refine zz2 ?_|refine zz3 ?_|refine zz4 ?_|refine zz7 ?_|refine zz5 ?_|refine zz10 ?_|refine zz6 ?_); first | (k_unfold; (try dsimp only)) | (walk1; (all_goals (try dsimp only))) | (dsimp only; walk1; (all_goals (try dsimp only)))))
    rename_i D9 h9 F9 N9 l9
    have h9f : fa < D9 := l9.1
    refine hk h9 (.ref va) Tm5 x tx D9 (n + 1 + 3 * (38 + r3)) _ (upto_end (List.forall_mem_cons.mpr ⟨hm, List.forall_mem_nil _⟩) hin F9 N9 [fa] (List.forall_mem_cons.mpr ⟨.inl (.head _), List.forall_mem_nil _⟩)) ⟨⟨o5, t25, t35, tn5, bl5, ⟨N9.get (.tail _ (.head _)), hm.new, hm.off⟩, hd5, htn5⟩, ?_⟩ (by ((first | with_reducible assumption | exact Mine.lim (by assumption) | exact Mine.lim0 (by assumption) | exact Mine.lim2 (by assumption) | exact Mine.lim3 (by assumption) | exact Mine.lme (by assumption) | exact Mine.lml (by assumption) | exact Mine.lll (by assumption) | decide | lia))) (hx5.mono (by ((first | with_reducible assumption | exact Mine.lim (by assumption) | exact Mine.lim0 (by assumption) | exact Mine.lim2 (by assumption) | exact Mine.lim3 (by assumption) | exact Mine.lme (by assumption) | exact Mine.lml (by assumption) | exact Mine.lll (by assumption) | decide | lia)))) (hr5 h9 F9.keep fun p hp => N9.get (.tail _ (.tail _ hp))) (N9.get (.head _)) ?_
    · obtain ⟨vs, ns, a, b, c⟩ := hcg
      exact ⟨vs, ns, a.at fun o e => F9.keep _ _ e, b, c⟩
    · cases q : s.heap.get? D9 with
      | none => rfl
      | some o =>
        have := hin _ _ q (by
          rw [List.map_singleton, List.mem_singleton]
          exact Nat.ne_of_gt h9f)
        rw [(N9 _ (.head _)).2.2] at this; cases this
end
end Mine
end
-- Q3
section
namespace Mine
open PySem PySem.W PySem.Calls PyProof.Rows
set_option maxHeartbeats 1000000
structure RuleText (x : Str) (U : RTm) : Prop where
  abc : ∀ c ∈ x.cps.toList, c ∈ abc
  words : wordsOf x.cps.toList = U.words
  ok : U.Ok
  len : x.length ≤ 5000
  first : ∃ l, x.cps.toList = 114 :: l
theorem TextOf.tmOk {x : Str} {T : Tm} (h : TextOf x T 50) : TmOk T := by
  refine ⟨h.ops, ?_, Nat.le_trans h.nest (by decide)⟩
  have h1 : T.words.length ≤ x.cps.toList.length := by
    rw [← h.words, wordsOf, List.length_map]
    exact lexL_len _ 0 _ (Nat.le_refl _)
  have h2 := h.len
  rw [list_len] at h1
  ((first | with_reducible assumption | exact Mine.lim (by assumption) | exact Mine.lim0 (by assumption) | exact Mine.lim2 (by assumption) | exact Mine.lim3 (by assumption) | exact Mine.lme (by assumption) | exact Mine.lml (by assumption) | exact Mine.lll (by assumption) | decide | lia))
theorem noq_r : NoQ "r" := noq_mk (by decide +kernel) (by decide +kernel) (by decide +kernel) (by decide +kernel)
theorem rule_text0 {x0 x1 : Str} {T0 T1 : Tm} (h0 : TextOf x0 T0 50) (h1 : TextOf x1 T1 50) : RuleText ("r: " ++ x0 ++ " -> " ++ x1) ⟨"r", T0, T1, none⟩ := by
  have hl : ("r: " ++ x0 ++ " -> " ++ x1 : Str).cps.toList = [114] ++ 58 :: 32 :: (x0.cps.toList ++ 32 :: ([45, 62] ++ 32 :: x1.cps.toList)) := by
    simp only [app_list]
    rw [show ("r: " : Str).cps.toList = [114, 58, 32] by decide +kernel, show (" -> " : Str).cps.toList = [32, 45, 62, 32] by decide +kernel]
    simp [List.append_assoc]
  refine ⟨fun a ha => ?_, ?_, ⟨noq_r.word, h0.tmOk, h1.tmOk, fun sg a b h => by cases h⟩, ?_, ?_⟩
  · rw [hl] at ha
    simp only [List.mem_append, List.mem_cons, List.not_mem_nil, or_false] at ha
    rcases ha with rfl | rfl | rfl | ha | rfl | (rfl | rfl) | rfl | ha
    all_goals first | decide +kernel | exact h0.abc a ha | exact h1.abc a ha
  · rw [hl, wo_app op58, wo_op (by decide +kernel), wo_sep op58 sep58, wo_gap op32 sep32, wo_app op32, wo_gap op32 sep32, wo_app op32, wo_op (by decide +kernel), wo_gap op32 sep32, h0.words, h1.words]
    show [_] ++ _ :: _ = _
    rw [show (⟨[114].toArray⟩ : Str) = "r" by decide +kernel, show (⟨#[58]⟩ : Str) = ":" by decide +kernel, show (⟨[45, 62].toArray⟩ : Str) = "->" by decide +kernel]
    rfl
  · simp only [app_len]
    have := h0.len
    have := h1.len
    rw [show ("r: " : Str).length = 3 by decide +kernel, show (" -> " : Str).length = 4 by decide +kernel]
    ((first | with_reducible assumption | exact Mine.lim (by assumption) | exact Mine.lim0 (by assumption) | exact Mine.lim2 (by assumption) | exact Mine.lim3 (by assumption) | exact Mine.lme (by assumption) | exact Mine.lml (by assumption) | exact Mine.lll (by assumption) | decide | lia))
  · exact ⟨_, hl⟩
theorem rule_text1 {x0 x1 x2 x3 sg : Str} {T0 T1 T2 T3 : Tm} (h0 : TextOf x0 T0 50) (h1 : TextOf x1 T1 50) (h2 : TextOf x2 T2 50) (h3 : TextOf x3 T3 50) (hs : sg = "=" ∨ sg = "!=") :
    RuleText ("r: " ++ x0 ++ " -> " ++ x1 ++ " if " ++ x2 ++ " " ++ sg ++ " " ++ x3) ⟨"r", T0, T1, some (sg, T2, T3)⟩ := by
  obtain ⟨hsw, hsa, hsl⟩ : wordsOf sg.cps.toList = [sg] ∧ (∀ c ∈ sg.cps.toList, c ∈ Mine.abc) ∧ sg.length ≤ 2 := by
    rcases hs with rfl | rfl
    · refine ⟨?_, by decide +kernel, by decide +kernel⟩
      rw [show ("=" : Str).cps.toList = [61] by decide +kernel, wo_op (by decide +kernel)]; decide +kernel
    · refine ⟨?_, by decide +kernel, by decide +kernel⟩
      rw [show ("!=" : Str).cps.toList = [33, 61] by decide +kernel, wo_op (by decide +kernel)]; decide +kernel
  have hl : ("r: " ++ x0 ++ " -> " ++ x1 ++ " if " ++ x2 ++ " " ++ sg ++ " " ++ x3 : Str).cps.toList = [114] ++ 58 :: 32 :: (x0.cps.toList ++ 32 :: ([45, 62] ++ 32 :: (x1.cps.toList ++ 32 :: ([105, 102] ++ 32 :: (x2.cps.toList ++ 32 :: (sg.cps.toList ++ 32 :: x3.cps.toList)))))) := by
    simp only [app_list]
    rw [show ("r: " : Str).cps.toList = [114, 58, 32] by decide +kernel, show (" -> " : Str).cps.toList = [32, 45, 62, 32] by decide +kernel, show (" if " : Str).cps.toList = [32, 105, 102, 32] by decide +kernel, show (" " : Str).cps.toList = [32] by decide +kernel]
    simp [List.append_assoc]
  refine ⟨fun a ha => ?_, ?_, ⟨noq_r.word, h0.tmOk, h1.tmOk, fun sg' a b h => by cases h; exact ⟨hs, h2.tmOk, h3.tmOk⟩⟩, ?_, ?_⟩
  · rw [hl] at ha
    simp only [List.mem_append, List.mem_cons, List.not_mem_nil, or_false] at ha
    rcases ha with rfl | rfl | rfl | ha | rfl | (rfl | rfl) | rfl | ha | rfl | (rfl | rfl) | rfl | ha | rfl | ha | rfl | ha
    all_goals first | decide +kernel | exact h0.abc a ha | exact h1.abc a ha | exact h2.abc a ha | exact h3.abc a ha | exact hsa a ha
  · rw [hl, wo_app op58, wo_op (by decide +kernel), wo_sep op58 sep58, wo_gap op32 sep32, wo_app op32, wo_gap op32 sep32, wo_app op32, wo_op (by decide +kernel), wo_gap op32 sep32, wo_app op32, wo_gap op32 sep32, wo_app op32, wo_op (by decide +kernel), wo_gap op32 sep32, wo_app op32, wo_gap op32 sep32, wo_app op32, wo_gap op32 sep32, h0.words, h1.words, h2.words, h3.words, hsw]
    show [_] ++ _ :: _ = _
    rw [show (⟨[114].toArray⟩ : Str) = "r" by decide +kernel, show (⟨#[58]⟩ : Str) = ":" by decide +kernel, show (⟨[45, 62].toArray⟩ : Str) = "->" by decide +kernel, show (⟨[105, 102].toArray⟩ : Str) = "if" by decide +kernel]
    rfl
  · simp only [app_len]
    have := h0.len
    have := h1.len
    have := h2.len
    have := h3.len
    rw [show ("r: " : Str).length = 3 by decide +kernel, show (" -> " : Str).length = 4 by decide +kernel, show (" if " : Str).length = 4 by decide +kernel, show (" " : Str).length = 1 by decide +kernel]
    ((first | with_reducible assumption | exact Mine.lim (by assumption) | exact Mine.lim0 (by assumption) | exact Mine.lim2 (by assumption) | exact Mine.lim3 (by assumption) | exact Mine.lme (by assumption) | exact Mine.lml (by assumption) | exact Mine.lll (by assumption) | decide | lia))
  · exact ⟨_, hl⟩
theorem textOf_gc : TextOf "(g c)" (.node "g" [.node "c" []]) 2 := by
  have := wrap_text (J := "c") (gap := "") (c := 103) (r := 0) (.inr (.inl rfl)) noq_g (by decide +kernel) (by decide) (texts_one textOf_c)
  rw [show ("(" ++ "" ++ (⟨#[103]⟩ : Str) ++ " " ++ "c" ++ "" ++ ")" : Str) = "(g c)" by decide +kernel, show (⟨#[103]⟩ : Str) = "g" by decide +kernel] at this
  exact this
end Mine
end
-- K1
section
namespace Mine
open PySem PySem.W PySem.Calls PyProof.Rows
set_option maxHeartbeats 3000000
theorem item_list_any {prog : Program} {w : World} {A : Around} {E : Value → Shared → Prop} {s : Shared} {value slice : PySem.Expr} {l : Addr} {items : Array Value} {k : Int} {u : Tok} {x : Value} {Q : Value → Shared → Prop} (hl : s.heap.IsList l items) (h0 : 0 ≤ k) (hfit : k < 2 ^ 63) (hx : items[k.toNat]? = some x) (h : Q x s)
    (hs : subscripted slice false (.ref l) (.int k u) = operate [.ref l, .int k u] (getItem (.ref l) (.int k u)) := by with_unfolding_all rfl) : wpAny (model prog w) A (subscriptTail value slice (.ref l) (.int k u)) Q E s :=
  tail_any hl.typeIs PySem.slot_list_getitem.lookup (wpAny_getItem_list hl h0 hfit hx h) hs
theorem item_list_nat {prog : Program} {w : World} {A : Around} {E : Value → Shared → Prop} {s : Shared} {value slice : PySem.Expr} {l : Addr} {items : Array Value} {k : Nat} {u : Tok} {x : Value} {Q : Value → Shared → Prop} (hl : s.heap.IsList l items) (hfit : (k : Int) < 2 ^ 63) (hx : items[k]? = some x) (h : Q x s)
    (hs : subscripted slice false (.ref l) (.int k u) = operate [.ref l, .int k u] (getItem (.ref l) (.int k u)) := by with_unfolding_all rfl) : wpAny (model prog w) A (subscriptTail value slice (.ref l) (.int k u)) Q E s :=
  item_list_any hl (Int.natCast_nonneg _) hfit hx h hs
theorem ne_feed {w : World} {h : Heap} {a fa : Addr} {q o : Obj} {kvs : List (Str × Value)} (e1 : h.get? a = some q) (e2 : h.get? fa = some o) (hd : o.IsDictOf (PySem.strKind PR w) kvs) (hs : ∃ vs n, q.data = .seq vs n) : a ≠ fa := by
  rintro rfl
  rw [e1] at e2
  cases e2
  obtain ⟨_, _, e3⟩ := hs
  obtain ⟨_, _, _, z, _⟩ := hd
  rw [z] at e3; cases e3
theorem fresh_of {s g : Heap} {fa a : Addr} {o : Obj} (hin : ∀ b o', s.get? b = some o' → b ∉ [(fa, o)].map (·.1) → g.get? b = some o') (hn : g.get? a = none) (hne : a ≠ fa) : s.get? a = none := by
  cases q : s.get? a with
  | none => rfl
  | some o' =>
    have := hin _ _ q (by rw [List.map_singleton, List.mem_singleton]; exact hne)
    rw [hn] at this; cases this
inductive PairsAt (h : Heap) (F : Addr → Prop) : List Value → List (Tm × Str) → Prop
  | nil : PairsAt h F [] []
  | cons {p : Addr} {v : Value} {t : Tok} {T : Tm} {x : Str} {vs : List Value} {qs : List (Tm × Str)} : h.get? p = some (tupObj [v, .str x t]) → F p → Reads h v T.dat [] → TextOf x T 50 → PairsAt h F vs qs → PairsAt h F (.ref p :: vs) ((T, x) :: qs)
theorem PairsAt.snoc {h : Heap} {F : Addr → Prop} {p : Addr} {v : Value} {t : Tok} {T : Tm} {x : Str} (e : h.get? p = some (tupObj [v, .str x t])) (f : F p) (r : Reads h v T.dat []) (z : TextOf x T 50) {vs : List Value} {qs : List (Tm × Str)} (q : PairsAt h F vs qs) : PairsAt h F (vs ++ [.ref p]) (qs ++ [(T, x)]) := by
  induction q with
  | nil => exact .cons e f r z .nil
  | cons a b c d _ ih => exact .cons a b c d ih
theorem PairsAt.keeps {h h' : Heap} {F : Addr → Prop} (k : KeepT h h') {vs : List Value} {qs : List (Tm × Str)} (q : PairsAt h F vs qs) : PairsAt h' F vs qs := by
  induction q with
  | nil => exact .nil
  | cons a b c d _ ih => exact .cons (k _ _ a ⟨rfl, _, _, rfl⟩) b (tm_keeps k _ c) d ih
noncomputable abbrev lrmap (fa D : Addr) (sp : Nat) (ts : Tok) (u : Str → Option Value) : Str → Option Value := fun y => if y = "some" then some (.ref D) else if y = "spot" then some (.int sp ts) else if y = "feed" then some (.ref fa) else u y
inductive LRJ (w : World) (g : Heap) (fa cl D : Addr) (n sp : Nat) (i : Nat) (m : Str → Option Value) (nx : List (Addr × Obj)) : Prop
  | mk (ts : Tok) (u : Str → Option Value) (o : Obj) (t2 t3 : Tok) (tn : Nat) (bl : Int) (tl : List (Addr × Obj)) (vs : List Value) (e : Nat) (qs : List (Tm × Str)) (hm : ∀ y, m y = lrmap fa D sp ts u y) (hnx : nx = (fa, o) :: (D, listOf vs.toArray e) :: tl) (htl : ∀ p ∈ tl, p.1 ≠ fa) (htD : ∀ p ∈ tl, p.1 ≠ D)
    (hd : o.IsDictOf (PySem.strKind PR w) (feedKv cl t2 t3 tn bl)) (htn : tn ≤ n + 1 + 201 * i) (hv : vs.length = i) (hP : ∀ h' : Heap, (∀ b o, g.get? b = some o → h'.get? b = some o) → (∀ p ∈ tl, h'.get? p.1 = some p.2) → PairsAt h' (fun b => g.get? b = none) vs qs) : LRJ w g fa cl D n sp i m nx
inductive Small (its : Array Value) (r : Nat) (sn : List (Addr × Obj)) : Prop
  | mk (q : Addr) (v : Value) (x : Str) (t : Tok) (T : Tm) (hi : its[r]? = some (.ref q)) (hq : (q, tupObj [v, .str x t]) ∈ sn) (hx : TextOf x T 50) (hr : ∀ h' : Heap, (∀ p ∈ sn, h'.get? p.1 = some p.2) → Reads h' v T.dat []) : Small its r sn
theorem small_of {Dcp Dgp Dc Dgc Dc2 lS : Addr} {t1 t2 t3 t4 t5 : Tok} {oS : Obj} {r : Nat} (hr : r < 2) :
    Small #[.ref Dcp, .ref Dgp] r [(lS, oS), (Dgp, tupObj [.ref Dgc, .str "(g c)" t5]), (Dgc, tupObj [.str "g" t3, .ref Dc2]), (Dc2, tupObj [.str "c" t4]), (Dcp, tupObj [.ref Dc, .str "c" t2]), (Dc, tupObj [.str "c" t1])] := by
  have : r = 0 ∨ r = 1 := by ((first | with_reducible assumption | exact Mine.lim (by assumption) | exact Mine.lim0 (by assumption) | exact Mine.lim2 (by assumption) | exact Mine.lim3 (by assumption) | exact Mine.lme (by assumption) | exact Mine.lml (by assumption) | exact Mine.lll (by assumption) | decide | lia))
  rcases this with rfl | rfl
  · exact ⟨Dcp, .ref Dc, "c", t2, .node "c" [], rfl, .tail _ (.tail _ (.tail _ (.tail _ (.head _)))), textOf_c.mono (by decide), fun h' kt => reads_tuple_at (kt _ (.tail _ (.tail _ (.tail _ (.tail _ (.tail _ (.head _))))))) rfl rfl (readsAll_cons_val (.str _ _) .nil)⟩
  · exact ⟨Dgp, .ref Dgc, "(g c)", t5, .node "g" [.node "c" []], rfl, .tail _ (.head _), textOf_gc.mono (by decide), fun h' kt => reads_tuple_at (kt _ (.tail _ (.tail _ (.head _)))) rfl rfl (readsAll_cons_val (.str _ _) (readsAll_cons_val (reads_tuple_at (kt _ (.tail _ (.tail _ (.tail _ (.head _))))) rfl rfl (readsAll_cons_val (.str _ _) .nil)) .nil))⟩
noncomputable abbrev lsmap (fa D q : Addr) (sp i : Nat) (ts ti : Tok) (u : Str → Option Value) : Str → Option Value := fun y => if y = "small" then some (.ref q) else if y = "lap" then some (.int i ti) else if y = "some" then some (.ref D) else if y = "spot" then some (.int sp ts) else if y = "feed" then some (.ref fa) else u y
theorem lsmap_of {m : Str → Option Value} {fa D q : Addr} {sp i : Nat} {ts ti : Tok} (h1 : m "small" = some (.ref q)) (h2 : m "lap" = some (.int i ti)) (h3 : m "some" = some (.ref D)) (h4 : m "spot" = some (.int sp ts)) (h5 : m "feed" = some (.ref fa)) : ∀ y, m y = lsmap fa D q sp i ts ti m y := fun y => by
  unfold lsmap
  by_cases q1 : y = "small"
  · rw [if_pos q1, q1]; exact h1
  rw [if_neg q1]
  by_cases q2 : y = "lap"
  · rw [if_pos q2, q2]; exact h2
  rw [if_neg q2]
  by_cases q3 : y = "some"
  · rw [if_pos q3, q3]; exact h3
  rw [if_neg q3]
  by_cases q4 : y = "spot"
  · rw [if_pos q4, q4]; exact h4
  rw [if_neg q4]
  by_cases q5 : y = "feed"
  · rw [if_pos q5, q5]; exact h5
  rw [if_neg q5]
theorem lrmap_of {m : Str → Option Value} {fa D : Addr} {sp : Nat} {ts : Tok} (h3 : m "some" = some (.ref D)) (h4 : m "spot" = some (.int sp ts)) (h5 : m "feed" = some (.ref fa)) : ∀ y, m y = lrmap fa D sp ts m y := fun y => by
  unfold lrmap
  by_cases q3 : y = "some"
  · rw [if_pos q3, q3]; exact h3
  rw [if_neg q3]
  by_cases q4 : y = "spot"
  · rw [if_pos q4, q4]; exact h4
  rw [if_neg q4]
  by_cases q5 : y = "feed"
  · rw [if_pos q5, q5]; exact h5
  rw [if_neg q5]
theorem news_swap2 {g h : Heap} {L : Addr} {p q : Addr × Obj} {l : List (Addr × Obj)} (N : News g L h (p :: q :: l)) : News g L h (q :: p :: l) := fun r hr => N r (by
  rcases List.mem_cons.mp hr with hr | hr
  · exact hr ▸ .tail _ (.head _)
  · rcases List.mem_cons.mp hr with hr | hr
    · exact hr ▸ .head _
    · exact .tail _ (.tail _ hr))
theorem news_turn {g h : Heap} {L : Addr} {a b c d e f p q : Addr × Obj} {l : List (Addr × Obj)} (N : News g L h (a :: b :: c :: d :: e :: f :: p :: q :: l)) : News g L h (p :: q :: a :: b :: c :: d :: e :: f :: l) := fun r hr => N r (by
  simp only [List.mem_cons] at hr ⊢
  rcases hr with hr | hr | hr | hr | hr | hr | hr | hr | hr
  · exact .inr (.inr (.inr (.inr (.inr (.inr (.inl hr))))))
  · exact .inr (.inr (.inr (.inr (.inr (.inr (.inr (.inl hr)))))))
  · exact .inl hr
  · exact .inr (.inl hr)
  · exact .inr (.inr (.inl hr))
  · exact .inr (.inr (.inr (.inl hr)))
  · exact .inr (.inr (.inr (.inr (.inl hr))))
  · exact .inr (.inr (.inr (.inr (.inr (.inl hr)))))
  · exact .inr (.inr (.inr (.inr (.inr (.inr (.inr (.inr hr))))))))
theorem if_join {prog : Program} {w : World} {A : Around} {env : Env} {test : PySem.Expr} {body orelse : List Stmt} {pos : Pos} {Q : Flow → Shared → Prop} {E : Value → Shared → Prop} {s : Shared} (Mid : Shared → Prop)
    (h : wpAny (model prog w) A (isTrue test env (eval test env)) (fun b s₂ => if b then Mid s₂ else wpAny (model prog w) A (execs orelse env) Q E s₂) E s) (hb : ∀ s', Mid s' → wpAny (model prog w) A (execs body env) Q E s') :
    wpAny (model prog w) A (exec (.If test body orelse pos) env) Q E s := wpAny_If (wpAny_mono h (fun b s' x => by cases b; exact x; exact hb s' x) fun _ _ x => x)
theorem pick {prog : Program} {w : World} {A : Around} {E : Value → Shared → Prop} {h g : Heap} {gs : Array GenState} {dr : Drawn} {os : OsState} {tk L a D p : Addr} {m : Str → Option Value} {cn : Str} {cs : Scope} {ccd : Value} {x : Str} {k1 k2 : Nat} {p0 p1 p2 p3 p4 : Pos} {i j : Int} {its l : List Value} {e n : Nat} {v : Value} {Q : Value → Shared → Prop}
    (F : Fr g L h m) (hv : m x = some (.ref D)) (eD : h.get? D = some (listOf its.toArray e)) (hi : its.toArray[i.toNat]? = some (.ref p)) (ep : h.get? p = some (tupObj l)) (hj : seqIndex? j l.length = some n) (hn : l[n]? = some v)
    (hQ : Q v ⟨h, gs, dr, tk + 1 + 1, os⟩) (ok : (0 ≤ i ∧ i < 2 ^ 63) ∧ (-(2 ^ 63) ≤ j ∧ j < 2 ^ 63) := by decide)
    (hk : cs.kind = .function := by rfl) (hx : (envX cn cs L a ccd []).kindOf x = some .local := by rfl) (hd : (x == ("__debug__" : Str)) = false := by decide) :
    wpAny (model prog w) A (eval (.Subscript (.Subscript (.Name x p0) (.Constant (.int i) k1 p1) p2) (.Constant (.int j) k2 p3) p4) (envX cn cs L a ccd [])) Q E ⟨h, gs, dr, tk, os⟩ :=
  Subscript_ (Subscript_ (nameX_L F hv (wpAny_Constant_int (item_list_any (s := ⟨h, gs, dr, tk + 1, os⟩) ⟨_, eD, rfl, _, rfl⟩ ok.1.1 ok.1.2 hi (wpAny_Constant_int (item_tupleT (s := ⟨h, gs, dr, tk + 1 + 1, os⟩) (l := l) ⟨_, ep, rfl, _, rfl⟩ ok.2.1 ok.2.2 hj hn hQ))))
    hk hx hd))
inductive A4 (w : World) (g : Heap) (L fa cl D : Addr) (n sp : Nat) (h : Heap) (m : Str → Option Value) : Prop
  | mk (ts : Tok) (u : Str → Option Value) (o : Obj) (t2 t3 : Tok) (tn : Nat) (bl : Int) (e : Nat) (p0 p1 p2 p3 : Addr) (v0 v1 v2 v3 : Value) (x0 x1 x2 x3 : Str) (t0 t1 t2' t3' : Tok) (T0 T1 T2 T3 : Tm) (sn : List (Addr × Obj))
      (F : Fr g L h (lrmap fa D sp ts u)) (N : News g L h ((fa, o) :: (D, listOf [Value.ref p0, Value.ref p1, Value.ref p2, Value.ref p3].toArray e) :: (p0, tupObj [v0, .str x0 t0]) :: (p1, tupObj [v1, .str x1 t1]) :: (p2, tupObj [v2, .str x2 t2']) :: (p3, tupObj [v3, .str x3 t3']) :: sn))
      (hrf : ∀ p ∈ (D, listOf [Value.ref p0, Value.ref p1, Value.ref p2, Value.ref p3].toArray e) :: (p0, tupObj [v0, .str x0 t0]) :: (p1, tupObj [v1, .str x1 t1]) :: (p2, tupObj [v2, .str x2 t2']) :: (p3, tupObj [v3, .str x3 t3']) :: sn, p.1 ≠ fa)
      (hd : o.IsDictOf (PySem.strKind PR w) (feedKv cl t2 t3 tn bl)) (htn : tn ≤ n + 1 + 201 * 4) (z0 : TextOf x0 T0 50) (z1 : TextOf x1 T1 50) (z2 : TextOf x2 T2 50) (z3 : TextOf x3 T3 50)
      (hkp : ∀ h' : Heap, (∀ b o, g.get? b = some o → h'.get? b = some o) → (∀ p ∈ sn, h'.get? p.1 = some p.2) → Reads h' v0 T0.dat [] ∧ Reads h' v1 T1.dat [] ∧ Reads h' v2 T2.dat [] ∧ Reads h' v3 T3.dat []) : A4 w g L fa cl D n sp h m
theorem open4 {w : World} {g h5 : Heap} {L fa cl D : Addr} {n sp : Nat} {m₁ : Str → Option Value} {news₁ : List (Addr × Obj)} (hDf : D ≠ fa) (F5 : Fr g L h5 m₁) (N7 : News g L h5 news₁) (hJ : LRJ w g fa cl D n sp 4 m₁ news₁) : A4 w g L fa cl D n sp h5 m₁ := by
  rcases hJ with ⟨ts5, u, o5, t25, t35, tn5, bl5, tl, vs, e, qs, hm5, rfl, htl, htD, hd5, htn5, hvl, hr5⟩
  have F6 := fr_map F5 hm5
  have hP := hr5 h5 F6.keep fun p hp => (N7 p (.tail _ (.tail _ hp))).1
  clear F5 hr5
  obtain _ | @⟨p0, v0, tx0, T0, x0, vs, qs, e0, f0, r0, z0, hP⟩ := hP
  · simp at hvl
  obtain _ | @⟨p1, v1, tx1, T1, x1, vs, qs, e1, f1, r1, z1, hP⟩ := hP
  · simp at hvl
  obtain _ | @⟨p2, v2, tx2, T2, x2, vs, qs, e2, f2, r2, z2, hP⟩ := hP
  · simp at hvl
  obtain _ | @⟨p3, v3, tx3, T3, x3, vs, qs, e3, f3', r3, z3, hP⟩ := hP
  · simp at hvl
  obtain rfl : vs = [] := by
    simp only [List.length_cons] at hvl
    exact List.length_eq_zero_iff.mp (by ((first | with_reducible assumption | exact Mine.lim (by assumption) | exact Mine.lim0 (by assumption) | exact Mine.lim2 (by assumption) | exact Mine.lim3 (by assumption) | exact Mine.lme (by assumption) | exact Mine.lml (by assumption) | exact Mine.lll (by assumption) | decide | lia)))
  cases hP
  have hdt : ∀ {a : Addr} {q : Obj}, h5.get? a = some q → (∃ vs k, q.data = .seq vs k) → a ≠ fa := fun {a q} e1 ⟨vs, k, e2⟩ z => by
    have e3 : h5.get? fa = some o5 := (N7 _ (.head _)).1
    rw [z, e3] at e1
    cases e1
    obtain ⟨_, _, _, z2, _⟩ := hd5
    rw [z2] at e2; cases e2
  have hnL : ∀ {a : Addr} {q : Obj}, h5.get? a = some q → (∃ vs k, q.data = .seq vs k) → a ≠ L := fun {a q} e1 ⟨vs, k, e2⟩ => fr_neL F6 e1 fun es n z => by rw [e2] at z; cases z
  refine .mk ts5 u o5 t25 t35 tn5 bl5 e p0 p1 p2 p3 v0 v1 v2 v3 x0 x1 x2 x3 tx0 tx1 tx2 tx3 T0 T1 T2 T3 (snapOf g h5) F6
    (news_cons (N7 _ (.head _)).1 (N7 _ (.head _)).2 (news_cons (N7 _ (.tail _ (.head _))).1 (N7 _ (.tail _ (.head _))).2 (news_cons e0 ⟨hnL e0 ⟨_, _, rfl⟩, f0⟩ (news_cons e1 ⟨hnL e1 ⟨_, _, rfl⟩, f1⟩ (news_cons e2 ⟨hnL e2 ⟨_, _, rfl⟩, f2⟩ (news_cons e3 ⟨hnL e3 ⟨_, _, rfl⟩, f3'⟩ (snap F6 news_nil)))))))
    (List.forall_mem_cons.mpr ⟨hDf, List.forall_mem_cons.mpr ⟨hdt e0 ⟨_, _, rfl⟩, List.forall_mem_cons.mpr ⟨hdt e1 ⟨_, _, rfl⟩, List.forall_mem_cons.mpr ⟨hdt e2 ⟨_, _, rfl⟩, List.forall_mem_cons.mpr ⟨hdt e3 ⟨_, _, rfl⟩, fun p hp => hdt (mem_snap.mp hp).1 (mem_snap.mp hp).2.1.2⟩⟩⟩⟩⟩)
    hd5 htn5 z0 z1 z2 z3 fun h' kg kt => ⟨tm_keeps (snap_keep kg F6.keep kt) _ r0, tm_keeps (snap_keep kg F6.keep kt) _ r1, tm_keeps (snap_keep kg F6.keep kt) _ r2, tm_keeps (snap_keep kg F6.keep kt) _ r3⟩
noncomputable abbrev lqmap (fa D : Addr) (x : Str) (t : Tok) (u : Str → Option Value) : Str → Option Value := fun y => if y = "text" then some (.str x t) else if y = "some" then some (.ref D) else if y = "feed" then some (.ref fa) else u y
theorem lqmap_of {m : Str → Option Value} {fa D : Addr} {x : Str} {t : Tok} (h1 : m "text" = some (.str x t)) (h3 : m "some" = some (.ref D)) (h5 : m "feed" = some (.ref fa)) : ∀ y, m y = lqmap fa D x t m y := fun y => by
  unfold lqmap
  by_cases q1 : y = "text"
  · rw [if_pos q1, q1]; exact h1
  rw [if_neg q1]
  by_cases q3 : y = "some"
  · rw [if_pos q3, q3]; exact h3
  rw [if_neg q3]
  by_cases q5 : y = "feed"
  · rw [if_pos q5, q5]; exact h5
  rw [if_neg q5]
noncomputable abbrev lmmap (fa D Dn : Addr) (x : Str) (t : Tok) (u : Str → Option Value) : Str → Option Value := fun y => if y = "needs" then some (.ref Dn) else lqmap fa D x t u y
theorem lmmap_of {m : Str → Option Value} {fa D Dn : Addr} {x : Str} {t : Tok} (h0 : m "needs" = some (.ref Dn)) (h1 : m "text" = some (.str x t)) (h3 : m "some" = some (.ref D)) (h5 : m "feed" = some (.ref fa)) : ∀ y, m y = lmmap fa D Dn x t m y := fun y => by
  unfold lmmap
  by_cases q0 : y = "needs"
  · rw [if_pos q0, q0]; exact h0
  rw [if_neg q0]
  exact lqmap_of h1 h3 h5 y
theorem news_back {g h : Heap} {L : Addr} {a b c d e : Addr × Obj} {l : List (Addr × Obj)} (N : News g L h (a :: b :: c :: d :: e :: l)) : News g L h (a :: c :: d :: e :: b :: l) := fun r hr => N r (by
  simp only [List.mem_cons] at hr ⊢
  rcases hr with hr | hr | hr | hr | hr | hr
  · exact .inl hr
  · exact .inr (.inr (.inl hr))
  · exact .inr (.inr (.inr (.inl hr)))
  · exact .inr (.inr (.inr (.inr (.inl hr))))
  · exact .inr (.inl hr)
  · exact .inr (.inr (.inr (.inr (.inr hr)))))
inductive Sgn (its : Array Value) (r : Nat) : Prop
  | mk (sg : Str) (t : Tok) (hi : its[r]? = some (.str sg t)) (hs : sg = "=" ∨ sg = "!=") : Sgn its r
theorem sgn_of {r : Nat} {t1 t2 : Tok} (h : r < 2) : Sgn #[.str "=" t1, .str "!=" t2] r := by
  have : r = 0 ∨ r = 1 := by ((first | with_reducible assumption | exact Mine.lim (by assumption) | exact Mine.lim0 (by assumption) | exact Mine.lim2 (by assumption) | exact Mine.lim3 (by assumption) | exact Mine.lme (by assumption) | exact Mine.lml (by assumption) | exact Mine.lll (by assumption) | decide | lia))
  rcases this with rfl | rfl
  · exact ⟨_, _, rfl, .inl rfl⟩
  · exact ⟨_, _, rfl, .inr rfl⟩
inductive Knd (its : Array Value) (k : Int) (sg : Str) : Prop
  | mk (t : Tok) (h0 : 0 ≤ k) (h1 : k < 2 ^ 63) (hi : its[k.toNat]? = some (.str (kindOf sg) t)) : Knd its k sg
theorem knd_of {sg : Str} {t1 t2 : Tok} (h : sg = "=" ∨ sg = "!=") : Knd #[.str "alike" t1, .str "unlike" t2] (if (sg == "!=") = true then 1 else 0) sg := by
  rcases h with rfl | rfl
  · exact ⟨t1, by decide, by decide, rfl⟩
  · exact ⟨t2, by decide, by decide, rfl⟩
theorem need_reads {h : Heap} {Dn Di : Addr} {v2 v3 : Value} {T0 T1 T2 T3 : Tm} {sg : Str} {t : Tok} (q : Reads h v2 T2.dat [] ∧ Reads h v3 T3.dat []) (e1 : h.get? Dn = some (tupObj [.ref Di])) (e2 : h.get? Di = some (tupObj [.str (kindOf sg) t, v2, v3])) :
    Reads h (.ref Dn) (RTm.needs ⟨"r", T0, T1, some (sg, T2, T3)⟩) [] := reads_tuple_at e1 rfl rfl (readsAll_cons_val (reads_tuple_at e2 rfl rfl (readsAll_cons_val (.str _ _) (readsAll_cons_val q.1 (readsAll_cons_val q.2 .nil)))) .nil)
inductive LQ (w : World) (g : Heap) (L fa cl D : Addr) (n : Nat) (x : Str) (rest : List (Addr × Obj)) (s : Shared) : Shared → Prop
  | mk (h' : Heap) (tk' : Nat) (t : Tok) (u : Str → Option Value) (o : Obj) (t2 t3 : Tok) (tn : Nat) (bl : Int) (F : Fr g L h' (lqmap fa D x t u)) (N : News g L h' ((fa, o) :: rest)) (hd : o.IsDictOf (PySem.strKind PR w) (feedKv cl t2 t3 tn bl)) (htn : tn ≤ n) :
      LQ w g L fa cl D n x rest s ⟨h', s.gens, s.drawn, tk', s.os⟩
inductive LM (w : World) (g : Heap) (L fa cl D : Addr) (n : Nat) (T0 T1 : Tm) (pD pa pb : Addr × Obj) (sn : List (Addr × Obj)) (s : Shared) : Shared → Prop
  | mk (h' : Heap) (tk' : Nat) (x : Str) (t : Tok) (Dn : Addr) (nd : Option (Str × Tm × Tm)) (u : Str → Option Value) (o : Obj) (t2 t3 : Tok) (tn : Nat) (bl : Int) (sn' : List (Addr × Obj)) (F : Fr g L h' (lmmap fa D Dn x t u)) (N : News g L h' ((fa, o) :: pD :: pa :: pb :: sn'))
      (hd : o.IsDictOf (PySem.strKind PR w) (feedKv cl t2 t3 tn bl)) (htn : tn ≤ n) (hx : RuleText x ⟨"r", T0, T1, nd⟩) (hn : ∀ h'' : Heap, (∀ b o, g.get? b = some o → h''.get? b = some o) → (∀ p ∈ sn', h''.get? p.1 = some p.2) → Reads h'' (.ref Dn) (RTm.needs ⟨"r", T0, T1, nd⟩) []) (hs : ∀ p ∈ sn, p ∈ sn') :
      LM w g L fa cl D n T0 T1 pD pa pb sn s ⟨h', s.gens, s.drawn, tk', s.os⟩
inductive LS (w : World) (g : Heap) (L fa cl D : Addr) (n sp i : Nat) (ts ti : Tok) (vs : List Value) (e : Nat) (tl : List (Addr × Obj)) (s : Shared) : Shared → Prop
  | mk (h' : Heap) (tk' : Nat) (q : Addr) (v : Value) (x : Str) (t : Tok) (T : Tm) (u : Str → Option Value) (o : Obj) (t2 t3 : Tok) (tn : Nat) (bl : Int) (sn : List (Addr × Obj))
      (F : Fr g L h' (lsmap fa D q sp i ts ti u)) (N : News g L h' ((D, listOf vs.toArray e) :: (fa, o) :: (sn ++ tl))) (hD : ∀ p ∈ (fa, o) :: (sn ++ tl), p.1 ≠ D) (hf : ∀ p ∈ (D, listOf vs.toArray e) :: (sn ++ tl), p.1 ≠ fa) (hq : (q, tupObj [v, .str x t]) ∈ sn)
      (hd : o.IsDictOf (PySem.strKind PR w) (feedKv cl t2 t3 tn bl)) (htn : tn ≤ n) (hx : TextOf x T 50) (hr : ∀ h'' : Heap, (∀ p ∈ sn, h''.get? p.1 = some p.2) → Reads h'' v T.dat []) : LS w g L fa cl D n sp i ts ti vs e tl s ⟨h', s.gens, s.drawn, tk', s.os⟩
theorem chain_at {w : World} {mean : ExcName → Option Value} {mg mb : Str → Option Value} {base g h : Heap} {outer : List Env} {dep un : Nat} {gd : Option (List Code)} {env : Env} {L fa cl : Addr} {m : Str → Option Value} {o : Obj} {rest : List (Addr × Obj)} {n tn tk : Nat} {t2 t3 : Tok} {bl : Int}
    {gs : Array GenState} {dr : Drawn} {os : OsState} {Q : Value → Shared → Prop} {E : Value → Shared → Prop}
    (hX : (top.heap_1 w.params).In base) (hT : Top top.view_1 (looseW top.view_1 []) mean mg mb base) (B : Below (Ar dep un gd outer) base outer g) (F : Fr g L h m) (N : News g L h ((fa, o) :: rest)) (hr : ∀ p ∈ rest, p.1 ≠ fa)
    (hd' : o.IsDictOf (PySem.strKind PR w) (feedKv cl t2 t3 tn bl)) (htn : tn ≤ n) (c : CellsAt g cl) (hf : env.frame = some L) (hs : env.scope.kind = .function) (hdep : dep + 50 < recursionLimit) (hu : un + 400 < cLine) (hn : n ≤ 4000)
    (hk : ∀ h' v x t T a tk' o' t2 t3 tn bl, Fr g L h' m → News g L h' ((fa, o') :: rest) → o'.IsDictOf (PySem.strKind PR w) (feedKv cl t2 t3 tn bl) → tn ≤ n + 200 → TextOf x T 50 → Reads h' v T.dat [] → h'.get? a = some (tupObj [v, .str x t]) → g.get? a = none → Q (.ref a) ⟨h', gs, dr, tk', os⟩) :
    wpAny (model PR w) ((Ar dep un gd outer).deeper env) (call (.ref 297) [.ref fa] []) Q E ⟨h, gs, dr, tk, os⟩ := by
  refine wpAny_call (chain_spec (s := ⟨h, gs, dr, tk, os⟩) (n := n) (cx_in hX hT B F hf hs rfl) (show dep + 1 + 20 < _ by ((first | with_reducible assumption | exact Mine.lim (by assumption) | exact Mine.lim0 (by assumption) | exact Mine.lim2 (by assumption) | exact Mine.lim3 (by assumption) | exact Mine.lme (by assumption) | exact Mine.lml (by assumption) | exact Mine.lll (by assumption) | decide | lia))) (show un + 3 + 200 < _ by ((first | with_reducible assumption | exact Mine.lim (by assumption) | exact Mine.lim0 (by assumption) | exact Mine.lim2 (by assumption) | exact Mine.lim3 (by assumption) | exact Mine.lme (by assumption) | exact Mine.lml (by assumption) | exact Mine.lll (by assumption) | decide | lia))) (feed_in B hf F N hd' htn c) hn fun h8 v8 T8 x8 t8 a8 n8 tk8 u8 f8 hn8 hx8 hr8 ea8 fa8 => ?_)
  obtain ⟨F7, o6, t26, t36, tn6, bl6, N9, hd6, htn6⟩ := feed_step F N hr u8 f8
  exact hk _ _ _ _ _ _ _ _ _ _ _ _ F7 N9 hd6 (Nat.le_trans htn6 hn8) hx8 hr8 ea8 (fr_new F fa8).2
section
variable {w : World} {mean : ExcName → Option Value} {mg mb : Str → Option Value} {base : Heap} {outer : List Env} {dep un : Nat} {gd : Option (List Code)} {s : Shared} {R : Result → Shared → Prop}
theorem lrule_spec {fa cl : Addr} {n : Nat} (C : Cx w mean mg mb base outer (Ar dep un gd outer) s.heap) (hdep : dep + 50 < recursionLimit) (hu : un + 400 < cLine) (hf : FeedAt w base outer s.heap fa cl n) (hn : n ≤ 2000)
    (hk : ∀ h' v U x t a n' tk, Upto [fa] s.heap h' → FeedAt w base outer h' fa cl n' → n' ≤ n + 1000 → RuleText x U → Reads h' v U.dat [] → h'.get? a = some (tupObj [v, .str x t]) → s.heap.get? a = none → R (.ok (.ret (.ref a))) { s with heap := h', toks := tk }) :
    codeAny (model PR w) (Ar dep un gd outer) (.call (.ref 311) ⟨[.ref fa], []⟩) R s := by
  obtain ⟨⟨o, t2, t3, tn, bl, hm, hd', htn⟩, hcs⟩ := hf
  refine' enter_fn (A := Ar dep un gd outer) [("feed", .ref fa)] C [(fa, o)] (List.forall_mem_cons.mpr ⟨hm, List.forall_mem_nil _⟩) ?k1 ?k2 ?k3 ?k4 ?k5 ?_ ?c2 ?c3 ?c4 ?c5
  ((case k1 => k_is); (case k2 => k_is); (case k3 => (show _ < _; first | ((first | with_reducible assumption | exact Mine.lim (by assumption) | exact Mine.lim0 (by assumption) | exact Mine.lim2 (by assumption) | exact Mine.lim3 (by assumption) | exact Mine.lme (by assumption) | exact Mine.lml (by assumption) | exact Mine.lll (by assumption) | decide | lia)) | (dsimp only; ((first | with_reducible assumption | exact Mine.lim (by assumption) | exact Mine.lim0 (by assumption) | exact Mine.lim2 (by assumption) | exact Mine.lim3 (by assumption) | exact Mine.lme (by assumption) | exact Mine.lml (by assumption) | exact Mine.lll (by assumption) | decide | lia))))); (case k4 => exact BindsTo.of_eq rfl); (case k5 => exact locs rfl); (case c2 => exact rfl); (case c3 => exact rfl); (case c4 => exact rfl); (case c5 => decide))
  intro g L h₁ tk0 F N B X T hin hout hsz
  try k_fold
  have hcg : CellsAt g cl := by
    obtain ⟨vs, ns, hl, hi, hz⟩ := hcs
    obtain ⟨oc, e, r⟩ := hl
    refine ⟨vs, ns, ⟨oc, hin _ _ e fun q => ?_, r⟩, hi, hz⟩
    rw [List.map_singleton, List.mem_singleton] at q
    rw [q, hm.at_] at e
    cases e
    obtain ⟨_, k, z⟩ := r
    obtain ⟨_, _, _, z2, _⟩ := hd'
    rw [z2] at z; cases z
  (repeat' ((fail_if_success with_reducible first|refine zz11 ?_|refine zz9 ?_|refine zz1 ?_|refine zz2 ?_|refine zz3 ?_|refine zz4 ?_|refine zz7 ?_|refine zz5 ?_|refine zz10 ?_|refine zz6 ?_); first | (k_unfold; (try dsimp only)) | (walk1; (all_goals (try dsimp only))) | (dsimp only; walk1; (all_goals (try dsimp only)))))
  rename_i D h2 F2 N2 lD
  have hDf : D ≠ fa := Nat.ne_of_gt lD
  have N3 : News g L h2 ((fa, o) :: [(D, _)]) := fun p hp => N2 p (by
    rcases List.mem_cons.mp hp with rfl | hp
    · exact .tail _ (.head _)
    · exact (List.mem_singleton.mp hp) ▸ .head _)
  refine draw_at (n := n) (wd := 4) C.X C.T B F2 N3 (fun p hp => by rw [List.mem_singleton.mp hp]; exact hDf) hd' htn hcg rfl rfl (by ((first | with_reducible assumption | exact Mine.lim (by assumption) | exact Mine.lim0 (by assumption) | exact Mine.lim2 (by assumption) | exact Mine.lim3 (by assumption) | exact Mine.lme (by assumption) | exact Mine.lml (by assumption) | exact Mine.lll (by assumption) | decide | lia))) (by ((first | with_reducible assumption | exact Mine.lim (by assumption) | exact Mine.lim0 (by assumption) | exact Mine.lim2 (by assumption) | exact Mine.lim3 (by assumption) | exact Mine.lme (by assumption) | exact Mine.lml (by assumption) | exact Mine.lll (by assumption) | decide | lia))) (by decide) (by decide) fun h3 sp tsp tk3 o3 t23 t33 tn3 bl3 hsp F3 N4 hd3 htn3 => ?_
  clear F2 N2 N3 hd' htn
  try dsimp only
  (repeat' ((fail_if_success with_reducible first|refine zz11 ?_|refine zz9 ?_|refine zz1 ?_|refine zz2 ?_|refine zz3 ?_|refine zz4 ?_|refine zz7 ?_|refine zz5 ?_|refine zz10 ?_|refine zz6 ?_); first | (k_unfold; (try dsimp only)) | (walk1; (all_goals (try dsimp only))) | (dsimp only; walk1; (all_goals (try dsimp only)))))
  rename Fr g L _ _ => FF
  refine For_invVF FF rfl rfl ?_
  (repeat' ((fail_if_success with_reducible first|refine zz11 ?_|refine zz9 ?_|refine zz1 ?_|refine zz2 ?_|refine zz3 ?_|refine zz4 ?_|refine zz7 ?_|refine zz5 ?_|refine zz10 ?_|refine zz6 ?_); first | (k_unfold; (try dsimp only)) | (walk1; (all_goals (try dsimp only))) | (dsimp only; walk1; (all_goals (try dsimp only)))))
  rename_i h4 tk4 ta tb tc hR F4 N5 up4
  have N6 : News g L h4 ((fa, o3) :: (D, listOf [].toArray 0) :: []) := fun p hp => N5 p (.tail _ hp)
  refine iter_range_inv (s := ⟨h4, _, _, _, _⟩) (n := 4) rfl hR rfl (by decide) F4 N6 (LRJ w g fa cl D n sp)
    (.mk tsp _ o3 t23 t33 tn3 bl3 [] [] 0 [] (lrmap_of rfl rfl rfl) rfl (List.forall_mem_nil _) (List.forall_mem_nil _) hd3 (by ((first | with_reducible assumption | exact Mine.lim (by assumption) | exact Mine.lim0 (by assumption) | exact Mine.lim2 (by assumption) | exact Mine.lim3 (by assumption) | exact Mine.lme (by assumption) | exact Mine.lml (by assumption) | exact Mine.lll (by assumption) | decide | lia))) rfl fun h' kg kt => .nil) ?_ ?_
  · intro i ti m₁ news₁ h5 tk5 own hi hJ hown hnI hoI F5 N7
    rcases hJ with ⟨ts5, u, o5, t25, t35, tn5, bl5, tl, vs, e, qs, hm5, rfl, htl, htD, hd5, htn5, hvl, hr5⟩
    obtain ⟨tl5, htl5⟩ : ∃ tl5, tl5 = own ++ tl := ⟨_, rfl⟩
    have h5f : ∀ p ∈ tl5, p.1 ≠ fa := fun p hp => by
      rw [htl5] at hp
      rcases List.mem_append.mp hp with hp | hp
      · exact fun z => hnI _ (.head _) (by rw [← z, hown p hp])
      · exact htl p hp
    have h5D : ∀ p ∈ tl5, p.1 ≠ D := fun p hp => by
      rw [htl5] at hp
      rcases List.mem_append.mp hp with hp | hp
      · exact fun z => hnI _ (.tail _ (.head _)) (by rw [← z, hown p hp])
      · exact htD p hp
    have N8 : News g L h5 ((fa, o5) :: (D, listOf vs.toArray e) :: tl5) := fun p hp => N7 p (by
      rw [htl5] at hp
      rcases List.mem_cons.mp hp with q | hp
      · exact q ▸ List.mem_append_right _ (.head _)
      · rcases List.mem_cons.mp hp with q | hp
        · exact q ▸ List.mem_append_right _ (.tail _ (.head _))
        · rcases List.mem_append.mp hp with hp | hp
          · exact List.mem_append_left _ hp
          · exact List.mem_append_right _ (.tail _ (.tail _ hp)))
    have F6 : Fr g L h5 (lrmap fa D sp ts5 (fun y => if y = "lap" then some (.int i ti) else u y)) := fr_map F5 fun y => by
      by_cases h1 : y = "lap"
      · subst h1; rfl
      · simp only [h1, if_false]
        rw [hm5 y]
        simp only [lrmap, h1, if_false]
    clear F5 N7 F4 N5 N6
    have hvl2 : vs.length ≤ 10 := by ((first | with_reducible assumption | exact Mine.lim (by assumption) | exact Mine.lim0 (by assumption) | exact Mine.lim2 (by assumption) | exact Mine.lim3 (by assumption) | exact Mine.lme (by assumption) | exact Mine.lml (by assumption) | exact Mine.lll (by assumption) | decide | lia))
    with_reducible refine execs_cut 1 (LS w g L fa cl D (n + 1 + 201 * i + 1) sp i ts5 ti vs e tl5 s) ?_ fun s2 M1 => ?_
    · dsimp only [List.take]
      (repeat' ((fail_if_success with_reducible first|refine zz11 ?_|refine zz9 ?_|refine zz1 ?_|refine zz2 ?_|refine zz3 ?_|refine zz4 ?_|refine zz7 ?_|refine zz5 ?_|refine zz10 ?_|refine zz6 ?_); first | (k_unfold; (try dsimp only)) | (walk1; (all_goals (try dsimp only))) | (dsimp only; walk1; (all_goals (try dsimp only)))))
      rename_i Dc hx1 lx1 Dcp hx2 lx2 Dc2 hx3 lx3 Dgc hx4 lx4 Dgp hx5 lx5 lS h5b F7 N9 lx6
      have hrD : ∀ p ∈ (lS, PySem.W.listOf #[Value.ref Dcp, Value.ref Dgp] 0) :: (Dgp, tupObj [.ref Dgc, .str "(g c)" (tk5 + 1 + 1 + 1 + 1)]) :: (Dgc, tupObj [.str "g" (tk5 + 1 + 1), .ref Dc2]) :: (Dc2, tupObj [.str "c" (tk5 + 1 + 1 + 1)]) :: (Dcp, tupObj [.ref Dc, .str "c" (tk5 + 1)]) :: (Dc, tupObj [.str "c" tk5]) :: tl5, p.1 ≠ D :=
        List.forall_mem_cons.mpr ⟨Nat.ne_of_gt lx6.2.2.2.2.2.2.1, List.forall_mem_cons.mpr ⟨Nat.ne_of_gt lx5.2.2.2.2.2.1, List.forall_mem_cons.mpr ⟨Nat.ne_of_gt lx4.2.2.2.2.1, List.forall_mem_cons.mpr ⟨Nat.ne_of_gt lx3.2.2.2.1, List.forall_mem_cons.mpr ⟨Nat.ne_of_gt lx2.2.2.1, List.forall_mem_cons.mpr ⟨Nat.ne_of_gt lx1.2.1, h5D⟩⟩⟩⟩⟩⟩
      have hrf : ∀ p ∈ (D, listOf vs.toArray e) :: (lS, PySem.W.listOf #[Value.ref Dcp, Value.ref Dgp] 0) :: (Dgp, tupObj [.ref Dgc, .str "(g c)" (tk5 + 1 + 1 + 1 + 1)]) :: (Dgc, tupObj [.str "g" (tk5 + 1 + 1), .ref Dc2]) :: (Dc2, tupObj [.str "c" (tk5 + 1 + 1 + 1)]) :: (Dcp, tupObj [.ref Dc, .str "c" (tk5 + 1)]) :: (Dc, tupObj [.str "c" tk5]) :: tl5, p.1 ≠ fa :=
        List.forall_mem_cons.mpr ⟨hDf, List.forall_mem_cons.mpr ⟨Nat.ne_of_gt lx6.2.2.2.2.2.1, List.forall_mem_cons.mpr ⟨Nat.ne_of_gt lx5.2.2.2.2.1, List.forall_mem_cons.mpr ⟨Nat.ne_of_gt lx4.2.2.2.1, List.forall_mem_cons.mpr ⟨Nat.ne_of_gt lx3.2.2.1, List.forall_mem_cons.mpr ⟨Nat.ne_of_gt lx2.2.1, List.forall_mem_cons.mpr ⟨Nat.ne_of_gt lx1.1, h5f⟩⟩⟩⟩⟩⟩⟩
      have hsm := @small_of Dcp Dgp Dc Dgc Dc2 lS tk5 (tk5 + 1) (tk5 + 1 + 1) (tk5 + 1 + 1 + 1) (tk5 + 1 + 1 + 1 + 1) (PySem.W.listOf #[Value.ref Dcp, Value.ref Dgp] 0)
      have N10 := news_turn N9
      obtain ⟨sn, hsn⟩ : ∃ sn, sn = [(lS, PySem.W.listOf #[Value.ref Dcp, Value.ref Dgp] 0), (Dgp, tupObj [.ref Dgc, .str "(g c)" (tk5 + 1 + 1 + 1 + 1)]), (Dgc, tupObj [.str "g" (tk5 + 1 + 1), .ref Dc2]), (Dc2, tupObj [.str "c" (tk5 + 1 + 1 + 1)]), (Dcp, tupObj [.ref Dc, .str "c" (tk5 + 1)]), (Dc, tupObj [.str "c" tk5])] := ⟨_, rfl⟩
      rw [← hsn] at hsm
      replace hrD : ∀ p ∈ sn ++ tl5, p.1 ≠ D := by rw [hsn]; exact hrD
      replace hrf : ∀ p ∈ (D, listOf vs.toArray e) :: (sn ++ tl5), p.1 ≠ fa := by rw [hsn]; exact hrf
      replace N10 : News g L h5b ((fa, o5) :: (D, listOf vs.toArray e) :: (sn ++ tl5)) := by rw [hsn]; exact N10
      have hlS : (lS, PySem.W.listOf #[Value.ref Dcp, Value.ref Dgp] 0) ∈ sn := by rw [hsn]; exact .head _
      clear hsn N9 lx1 lx2 lx3 lx4 lx5 lx6
      refine draw_at (n := n + 1 + 201 * i) (wd := 2) C.X C.T B F7 N10 hrf hd5 htn5 hcg rfl rfl (by ((first | with_reducible assumption | exact Mine.lim (by assumption) | exact Mine.lim0 (by assumption) | exact Mine.lim2 (by assumption) | exact Mine.lim3 (by assumption) | exact Mine.lme (by assumption) | exact Mine.lml (by assumption) | exact Mine.lll (by assumption) | decide | lia))) (by ((first | with_reducible assumption | exact Mine.lim (by assumption) | exact Mine.lim0 (by assumption) | exact Mine.lim2 (by assumption) | exact Mine.lim3 (by assumption) | exact Mine.lme (by assumption) | exact Mine.lml (by assumption) | exact Mine.lll (by assumption) | decide | lia))) (by decide) (by decide) fun h6 r6 tr6 tk6 o6 t26 t36 tn6 bl6 hr6 F8 N11 hd6 htn6 => ?_
      clear F7 N10
      rcases hsm hr6 with ⟨q, v, x, t, T, hi', hq, hx, hr⟩
      have hl6 : Heap.IsList h6 lS #[Value.ref Dcp, Value.ref Dgp] := ⟨_, N11.get (.tail _ (.tail _ (List.mem_append_left _ hlS))), rfl, _, rfl⟩
      have hr63 : (r6 : Int) < 2 ^ 63 := by ((first | with_reducible assumption | exact Mine.lim (by assumption) | exact Mine.lim0 (by assumption) | exact Mine.lim2 (by assumption) | exact Mine.lim3 (by assumption) | exact Mine.lme (by assumption) | exact Mine.lml (by assumption) | exact Mine.lll (by assumption) | decide | lia))
      clear hlS
      refine item_list_nat (s := ⟨h6, _, _, _, _⟩) hl6 hr63 hi' ?_
      (repeat' ((fail_if_success with_reducible first|refine zz11 ?_|refine zz9 ?_|refine zz1 ?_|refine zz2 ?_|refine zz3 ?_|refine zz4 ?_|refine zz7 ?_|refine zz5 ?_|refine zz10 ?_|refine zz6 ?_); first | (k_unfold; (try dsimp only)) | (walk1; (all_goals (try dsimp only))) | (dsimp only; walk1; (all_goals (try dsimp only)))))
      rename Fr g L _ _ => F9
      rename News g L _ _ => N12
      exact .mk _ _ q v x t T _ o6 t26 t36 tn6 bl6 sn (fr_map F9 (lsmap_of rfl rfl rfl rfl rfl)) (news_swap2 N12) (List.forall_mem_cons.mpr ⟨Ne.symm hDf, hrD⟩) hrf hq hd6 htn6 hx hr
    clear F6 N8 hd5 htn5 h5f h5D
    rcases M1 with ⟨h6, tk6, q, v, x, t, T, u6, o6, t26, t36, tn6, bl6, sn, F7, N12, hrD, hrf, hq, hd6, htn6, hx, hr6⟩
    dsimp only [List.drop]
    have fin : ∀ (h' : Heap) (m' : Str → Option Value) (p : Addr) (v : Value) (t : Tok) (T : Tm) (x : Str) (e' tk' tn' : Nat) (oF : Obj) (t2' t3' : Tok) (bl' : Int) (rx : List (Addr × Obj)), Fr g L h' m' → m' "some" = some (.ref D) → m' "spot" = some (.int sp ts5) → m' "feed" = some (.ref fa) →
        News g L h' ((D, listOf (vs ++ [Value.ref p]).toArray e') :: (fa, oF) :: rx) → (∀ q ∈ tl5, q ∈ rx) → oF.IsDictOf (PySem.strKind PR w) (feedKv cl t2' t3' tn' bl') → tn' ≤ n + 1 + 201 * (i + 1) → h'.get? p = some (tupObj [v, .str x t]) → g.get? p = none → Reads h' v T.dat [] → TextOf x T 50 →
        LoopStepU g L [h4.objs.size] own (LRJ w g fa cl D n sp (i + 1)) ⟨h5, s.gens, s.drawn, tk5, s.os⟩ .next ⟨h', s.gens, s.drawn, tk', s.os⟩ := by
      intro h' m' p v t T x e' tk' tn' oF t2' t3' bl' rx Fx m1 m2 m3 Nx hrx hdF htF ep fp rp zp
      obtain ⟨oI, hI, hIc⟩ := hoI
      have NI := Nx (_, oI) (.tail _ (.tail _ (hrx _ (by rw [htl5]; exact List.mem_append_left _ hI))))
      have hP : PairsAt h' (fun b => g.get? b = none) (vs ++ [Value.ref p]) (qs ++ [(T, x)]) := (hr5 h' Fx.keep fun q hq => (Nx q (.tail _ (.tail _ (hrx _ (by rw [htl5]; exact List.mem_append_right _ hq))))).1).snoc ep fp rp zp
      refine ⟨rfl, h', tk', m', (fa, oF) :: (D, listOf (vs ++ [Value.ref p]).toArray e') :: snapOf g h', rfl, Fx, ?_, ?_, .mk ts5 m' oF t2' t3' tn' bl' (snapOf g h') (vs ++ [Value.ref p]) e' (qs ++ [(T, x)]) (lrmap_of m1 m2 m3) rfl ?_ ?_ hdF htF (by rw [List.length_append, hvl]; rfl) fun h'' kg kt => hP.keeps (snap_keep kg Fx.keep kt)⟩
      · intro q hq
        rcases List.mem_append.mp hq with hq | hq
        · exact Nx q (.tail _ (.tail _ (hrx _ (by rw [htl5]; exact List.mem_append_left _ hq))))
        · rcases List.mem_cons.mp hq with rfl | hq
          · exact Nx _ (.tail _ (.head _))
          · rcases List.mem_cons.mp hq with rfl | hq
            · exact Nx _ (.head _)
            · exact snap Fx news_nil q hq
      · intro q hq z
        have z' := List.mem_singleton.mp z
        rcases List.mem_cons.mp hq with rfl | hq
        · exact hnI _ (.head _) z'
        · rcases List.mem_cons.mp hq with rfl | hq
          · exact hnI _ (.tail _ (.head _)) z'
          · obtain ⟨e1, ⟨e2, _⟩, _⟩ := mem_snap.mp hq
            rw [z', NI.1] at e1
            cases e1
            rw [hIc] at e2
            simp at e2
      · intro q hq z
        obtain ⟨e1, ⟨_, vs', k, e2⟩, _⟩ := mem_snap.mp hq
        rw [z, (Nx _ (.tail _ (.head _))).1] at e1
        cases e1
        obtain ⟨_, _, _, z, _⟩ := hdF
        rw [z] at e2; cases e2
      · intro q hq z
        obtain ⟨e1, ⟨e2, _⟩, _⟩ := mem_snap.mp hq
        rw [z, (Nx _ (.head _)).1] at e1
        rw [← Option.some.inj e1] at e2
        simp at e2
    have hvp : ∀ (a : Addr), vs.toArray.push (Value.ref a) = (vs ++ [Value.ref a]).toArray := fun a => by simp [List.push_toArray]
    (repeat' ((fail_if_success with_reducible first|refine zz11 ?_|refine zz9 ?_|refine zz1 ?_|refine zz2 ?_|refine zz3 ?_|refine zz4 ?_|refine zz7 ?_|refine zz5 ?_|refine zz10 ?_|refine zz6 ?_); first | (k_unfold; (try dsimp only)) | (walk1; (all_goals (try dsimp only))) | (dsimp only; walk1; (all_goals (try dsimp only)))))
    · rename Fr g L _ _ => F9
      rename News g L _ _ => N13
      refine chain_at (n := n + 1 + 201 * i + 1) C.X C.T B F9 (news_swap2 N13) hrf hd6 htn6 hcg rfl rfl (by ((first | with_reducible assumption | exact Mine.lim (by assumption) | exact Mine.lim0 (by assumption) | exact Mine.lim2 (by assumption) | exact Mine.lim3 (by assumption) | exact Mine.lme (by assumption) | exact Mine.lml (by assumption) | exact Mine.lll (by assumption) | decide | lia))) (by ((first | with_reducible assumption | exact Mine.lim (by assumption) | exact Mine.lim0 (by assumption) | exact Mine.lim2 (by assumption) | exact Mine.lim3 (by assumption) | exact Mine.lme (by assumption) | exact Mine.lml (by assumption) | exact Mine.lll (by assumption) | decide | lia))) (by ((first | with_reducible assumption | exact Mine.lim (by assumption) | exact Mine.lim0 (by assumption) | exact Mine.lim2 (by assumption) | exact Mine.lim3 (by assumption) | exact Mine.lme (by assumption) | exact Mine.lml (by assumption) | exact Mine.lll (by assumption) | decide | lia))) fun h8 v8 x8 t8 T8 a8 tk8 o9 t29 t39 tn9 bl9 F10 N15 hd9 htn9 hx8 hr8 ea8 qa8 => ?_
      have hD8 : h8.get? D = some (listOf vs.toArray e) := N15.get (.tail _ (.head _))
      obtain ⟨rx, hrx⟩ : ∃ rx, rx = snapOf g h8 ++ tl5 := ⟨_, rfl⟩
      have hrxD : ∀ p ∈ (fa, o9) :: rx, p.1 ≠ D := by
        rw [hrx]
        refine List.forall_mem_cons.mpr ⟨Ne.symm hDf, fun p hp => ?_⟩
        rcases List.mem_append.mp hp with hp | hp
        · exact ne_obj (mem_snap.mp hp).1 hD8 (by rw [(mem_snap.mp hp).2.1.1]; simp)
        · exact hrD p (.tail _ (List.mem_append_right _ hp))
      have N16 : News g L h8 ((D, listOf vs.toArray e) :: (fa, o9) :: rx) := news_swap2 fun p hp => by
        rcases List.mem_cons.mp hp with rfl | hp
        · exact N15 _ (.head _)
        · rcases List.mem_cons.mp hp with rfl | hp
          · exact N15 _ (.tail _ (.head _))
          · rw [hrx] at hp
            rcases List.mem_append.mp hp with hp | hp
            · exact snap F10 news_nil p hp
            · exact N15 p (.tail _ (.tail _ (List.mem_append_right _ hp)))
      have kt8 : ∀ h' : Heap, (∀ b o, g.get? b = some o → h'.get? b = some o) → (∀ p ∈ rx, h'.get? p.1 = some p.2) → KeepT h8 h' := fun h' kg kt => snap_keep kg F10.keep fun p hp => kt p (by rw [hrx]; exact List.mem_append_left _ hp)
      have hsub : ∀ p ∈ tl5, p ∈ rx := fun p hp => by rw [hrx]; exact List.mem_append_right _ hp
      clear N15 N13 F9 hrx hrD hrf
      try dsimp only
      (repeat' ((fail_if_success with_reducible first|refine zz11 ?_|refine zz9 ?_|refine zz1 ?_|refine zz2 ?_|refine zz3 ?_|refine zz4 ?_|refine zz7 ?_|refine zz5 ?_|refine zz10 ?_|refine zz6 ?_); first | (k_unfold; (try dsimp only)) | (walk1; (all_goals (try dsimp only))) | (dsimp only; walk1; (all_goals (try dsimp only)))))
      rename Fr g L _ _ => F11
      rename News g L _ _ => N17
      rw [hvp] at N17
      have k17 := kt8 _ F11.keep fun p hp => N17.get (.tail _ (.tail _ hp))
      exact fin _ _ a8 v8 t8 T8 x8 _ _ tn9 o9 t29 t39 bl9 rx F11 rfl rfl rfl N17 hsub hd9 (by ((first | with_reducible assumption | exact Mine.lim (by assumption) | exact Mine.lim0 (by assumption) | exact Mine.lim2 (by assumption) | exact Mine.lim3 (by assumption) | exact Mine.lme (by assumption) | exact Mine.lml (by assumption) | exact Mine.lll (by assumption) | decide | lia))) (k17 _ _ ea8 ⟨rfl, _, _, rfl⟩) qa8 (tm_keeps k17 T8 hr8) hx8
    · rename Fr g L _ _ => F11
      rename News g L _ _ => N13
      rw [hvp] at N13
      exact fin _ _ q v t T x _ _ tn6 o6 t26 t36 bl6 _ F11 rfl rfl rfl N13 (fun p hp => List.mem_append_right _ hp) hd6 (by ((first | with_reducible assumption | exact Mine.lim (by assumption) | exact Mine.lim0 (by assumption) | exact Mine.lim2 (by assumption) | exact Mine.lim3 (by assumption) | exact Mine.lme (by assumption) | exact Mine.lml (by assumption) | exact Mine.lll (by assumption) | decide | lia))) (N13 _ (.tail _ (.tail _ (List.mem_append_left _ hq)))).1 (N13 _ (.tail _ (.tail _ (List.mem_append_left _ hq)))).2.2 (hr6 _ fun p hp => N13.get (.tail _ (.tail _ (List.mem_append_left _ hp)))) hx
  · intro h5 tk5 m₁ news₁ F5 N7 hJ
    rcases open4 (L := L) hDf F5 N7 hJ with ⟨ts5, u, o5, t25, t35, tn5, bl5, e, p0, p1, p2, p3, v0, v1, v2, v3, x0, x1, x2, x3, tx0, tx1, tx2, tx3, T0, T1, T2, T3, sn, F6, N8, hrf, hd5, htn5, z0, z1, z2, z3, hkp⟩
    clear F5 F4 N5 N6 N7 hJ
    have hx0 : x0.length ≤ 1000 := z0.len
    have hx1 : x1.length ≤ 1000 := z1.len
    have hx2 : x2.length ≤ 1000 := z2.len
    have hx3 : x3.length ≤ 1000 := z3.len
    try dsimp only
    (repeat' ((fail_if_success with_reducible first|refine zz11 ?_|refine zz9 ?_|refine zz1 ?_|refine zz2 ?_|refine zz3 ?_|refine zz4 ?_|refine zz7 ?_|refine zz5 ?_|refine zz10 ?_|refine zz6 ?_|refine zz16 ?_|refine zz17 ?_|refine zz18 ?_); first | (k_unfold; (try dsimp only)) | (walk1; (all_goals (try dsimp only))) | (dsimp only; walk1; (all_goals (try dsimp only)))))
    refine pick F6 rfl (N8.get (.tail _ (.head _))) rfl (N8.get (.tail _ (.tail _ (.head _)))) rfl rfl ?_
    (repeat' ((fail_if_success with_reducible first|refine zz11 ?_|refine zz9 ?_|refine zz1 ?_|refine zz2 ?_|refine zz3 ?_|refine zz4 ?_|refine zz7 ?_|refine zz5 ?_|refine zz10 ?_|refine zz6 ?_|refine zz16 ?_|refine zz17 ?_|refine zz18 ?_); first | (k_unfold; (try dsimp only)) | (walk1; (all_goals (try dsimp only))) | (dsimp only; walk1; (all_goals (try dsimp only)))))
    refine pick F6 rfl (N8.get (.tail _ (.head _))) rfl (N8.get (.tail _ (.tail _ (.tail _ (.head _))))) rfl rfl ?_
    (repeat' ((fail_if_success with_reducible first|refine zz11 ?_|refine zz9 ?_|refine zz1 ?_|refine zz2 ?_|refine zz3 ?_|refine zz4 ?_|refine zz7 ?_|refine zz5 ?_|refine zz10 ?_|refine zz6 ?_|refine zz16 ?_|refine zz17 ?_|refine zz18 ?_); first | (k_unfold; (try dsimp only)) | (walk1; (all_goals (try dsimp only))) | (dsimp only; walk1; (all_goals (try dsimp only)))))
    rename Fr g L _ _ => FF
    rename News g L _ _ => NN
    rename_i De _ _ _ _ _ _ _ _
    have zz := rule_text0 z0 z1
    have zz1 := fun sg hs => rule_text1 (sg := sg) z0 z1 z2 z3 hs
    have xl := zz.len
    generalize ("r: " ++ x0 ++ " -> " ++ x1 : Str) = X at FF NN zz zz1 xl
    have N9 : News g L _ ((fa, o5) :: (De, tupObj []) :: (D, listOf [Value.ref p0, Value.ref p1, Value.ref p2, Value.ref p3].toArray e) :: (p0, tupObj [v0, .str x0 tx0]) :: (p1, tupObj [v1, .str x1 tx1]) :: (p2, tupObj [v2, .str x2 tx2]) :: (p3, tupObj [v3, .str x3 tx3]) :: sn) := fun p hp => NN p (by
      rcases List.mem_cons.mp hp with hp | hp
      · exact hp ▸ .tail _ (.tail _ (.head _))
      · rcases List.mem_cons.mp hp with hp | hp
        · exact hp ▸ .tail _ (.head _)
        · exact .tail _ (.tail _ (.tail _ hp)))
    have hrfE : ∀ p ∈ (De, tupObj []) :: (D, listOf [Value.ref p0, Value.ref p1, Value.ref p2, Value.ref p3].toArray e) :: (p0, tupObj [v0, .str x0 tx0]) :: (p1, tupObj [v1, .str x1 tx1]) :: (p2, tupObj [v2, .str x2 tx2]) :: (p3, tupObj [v3, .str x3 tx3]) :: sn, p.1 ≠ fa := List.forall_mem_cons.mpr ⟨ne_feed (N9.get (.tail _ (.head _))) (N9.get (.head _)) hd5 ⟨_, _, rfl⟩, hrf⟩
    clear NN
    with_reducible refine execs_cut 1 (LM w g L fa cl D (n + 1 + 201 * 4 + 2) T0 T1 (D, listOf [Value.ref p0, Value.ref p1, Value.ref p2, Value.ref p3].toArray e) (p0, tupObj [v0, .str x0 tx0]) (p1, tupObj [v1, .str x1 tx1]) sn s) ?_ fun s2 M1 => ?_
    · dsimp only [List.take]
      with_reducible refine wpAny_execs_cons ?_
      with_reducible refine if_join (LQ w g L fa cl D (n + 1 + 201 * 4 + 1) X ((De, tupObj []) :: (D, listOf [Value.ref p0, Value.ref p1, Value.ref p2, Value.ref p3].toArray e) :: (p0, tupObj [v0, .str x0 tx0]) :: (p1, tupObj [v1, .str x1 tx1]) :: (p2, tupObj [v2, .str x2 tx2]) :: (p3, tupObj [v3, .str x3 tx3]) :: sn) s) ?_ fun s3 M3 => ?_
      · (repeat' ((fail_if_success with_reducible first|refine zz11 ?_|refine zz9 ?_|refine zz1 ?_|refine zz2 ?_|refine zz3 ?_|refine zz4 ?_|refine zz7 ?_|refine zz5 ?_|refine zz10 ?_|refine zz6 ?_); first | (k_unfold; (try dsimp only)) | (walk1; (all_goals (try dsimp only))) | (dsimp only; walk1; (all_goals (try dsimp only)))))
        · rename Fr g L _ _ => FF
          rename News g L _ _ => NN
          exact .mk _ _ _ _ o5 t25 t35 tn5 bl5 (fr_map FF (lqmap_of rfl rfl rfl)) NN hd5 (by ((first | with_reducible assumption | exact Mine.lim (by assumption) | exact Mine.lim0 (by assumption) | exact Mine.lim2 (by assumption) | exact Mine.lim3 (by assumption) | exact Mine.lme (by assumption) | exact Mine.lml (by assumption) | exact Mine.lll (by assumption) | decide | lia)))
        · rename Fr g L _ _ => FF
          rename News g L _ _ => NN
          refine draw_at (n := n + 1 + 201 * 4) (wd := 2) C.X C.T B FF NN hrfE hd5 htn5 hcg rfl rfl (by ((first | with_reducible assumption | exact Mine.lim (by assumption) | exact Mine.lim0 (by assumption) | exact Mine.lim2 (by assumption) | exact Mine.lim3 (by assumption) | exact Mine.lme (by assumption) | exact Mine.lml (by assumption) | exact Mine.lll (by assumption) | decide | lia))) (by ((first | with_reducible assumption | exact Mine.lim (by assumption) | exact Mine.lim0 (by assumption) | exact Mine.lim2 (by assumption) | exact Mine.lim3 (by assumption) | exact Mine.lme (by assumption) | exact Mine.lml (by assumption) | exact Mine.lll (by assumption) | decide | lia))) (by decide) (by decide) fun hc rc trc tkc oC t2C t3C tnC blC hrc FC NC hdC htnC => ?_
          clear FF NN
          try dsimp only
          (repeat' ((fail_if_success with_reducible first|refine zz11 ?_|refine zz9 ?_|refine zz1 ?_|refine zz2 ?_|refine zz3 ?_|refine zz4 ?_|refine zz7 ?_|refine zz5 ?_|refine zz10 ?_|refine zz6 ?_); first | (k_unfold; (try dsimp only)) | (walk1; (all_goals (try dsimp only))) | (dsimp only; walk1; (all_goals (try dsimp only)))))
          · rename Fr g L _ _ => FF
            rename News g L _ _ => NN
            exact .mk _ _ _ _ oC t2C t3C tnC blC (fr_map FF (lqmap_of rfl rfl rfl)) NN hdC (by ((first | with_reducible assumption | exact Mine.lim (by assumption) | exact Mine.lim0 (by assumption) | exact Mine.lim2 (by assumption) | exact Mine.lim3 (by assumption) | exact Mine.lme (by assumption) | exact Mine.lml (by assumption) | exact Mine.lll (by assumption) | decide | lia)))
          · rename Fr g L _ _ => FF
            rename News g L _ _ => NN
            exact .mk _ _ X _ De none _ oC t2C t3C tnC blC ((De, tupObj []) :: (p2, tupObj [v2, .str x2 tx2]) :: (p3, tupObj [v3, .str x3 tx3]) :: sn) (fr_map FF (lmmap_of rfl rfl rfl rfl)) (news_back NN) hdC (by ((first | with_reducible assumption | exact Mine.lim (by assumption) | exact Mine.lim0 (by assumption) | exact Mine.lim2 (by assumption) | exact Mine.lim3 (by assumption) | exact Mine.lme (by assumption) | exact Mine.lml (by assumption) | exact Mine.lll (by assumption) | decide | lia))) zz (fun h'' kg kt => reads_tuple_at (kt _ (.head _)) rfl rfl .nil) fun p hp => .tail _ (.tail _ (.tail _ hp))
      · rcases M3 with ⟨h6, tk6, tX, u6, o6, t26, t36, tn6, bl6, F9, N12, hd6, htn6⟩
        (repeat' ((fail_if_success with_reducible first|refine zz11 ?_|refine zz9 ?_|refine zz1 ?_|refine zz2 ?_|refine zz3 ?_|refine zz4 ?_|refine zz7 ?_|refine zz5 ?_|refine zz10 ?_|refine zz6 ?_|refine zz18 ?_); first | (k_unfold; (try dsimp only)) | (walk1; (all_goals (try dsimp only))) | (dsimp only; walk1; (all_goals (try dsimp only)))))
        rename Fr g L _ _ => FF
        rename News g L _ _ => NN
        rename_i lW _ lx
        refine draw_at (n := n + 1 + 201 * 4 + 1) (wd := 2) C.X C.T B FF (news_swap2 NN) (List.forall_mem_cons.mpr ⟨Nat.ne_of_gt lx.1, hrfE⟩) hd6 htn6 hcg rfl rfl (by ((first | with_reducible assumption | exact Mine.lim (by assumption) | exact Mine.lim0 (by assumption) | exact Mine.lim2 (by assumption) | exact Mine.lim3 (by assumption) | exact Mine.lme (by assumption) | exact Mine.lml (by assumption) | exact Mine.lll (by assumption) | decide | lia))) (by ((first | with_reducible assumption | exact Mine.lim (by assumption) | exact Mine.lim0 (by assumption) | exact Mine.lim2 (by assumption) | exact Mine.lim3 (by assumption) | exact Mine.lme (by assumption) | exact Mine.lml (by assumption) | exact Mine.lll (by assumption) | decide | lia))) (by decide) (by decide) fun hw rw_ trw tkw oX t2X t3X tnX blX hrw FX NX hdX htnX => ?_
        clear FF NN
        try dsimp only
        rcases sgn_of (t1 := tk6) (t2 := tk6 + 1) hrw with ⟨sg, tsg, hi, hsg⟩
        refine item_list_nat (s := ⟨hw, _, _, _, _⟩) (items := #[Value.str "=" tk6, Value.str "!=" (tk6 + 1)]) ⟨_, NX.get (.tail _ (.head _)), rfl, _, rfl⟩ (by ((first | with_reducible assumption | exact Mine.lim (by assumption) | exact Mine.lim0 (by assumption) | exact Mine.lim2 (by assumption) | exact Mine.lim3 (by assumption) | exact Mine.lme (by assumption) | exact Mine.lml (by assumption) | exact Mine.lll (by assumption) | decide | lia))) hi ?_
        have hsl : sg.length ≤ 2 := by rcases hsg with rfl | rfl <;> decide
        (repeat' ((fail_if_success with_reducible first|refine zz11 ?_|refine zz9 ?_|refine zz1 ?_|refine zz2 ?_|refine zz3 ?_|refine zz4 ?_|refine zz7 ?_|refine zz5 ?_|refine zz10 ?_|refine zz6 ?_|refine zz18 ?_); first | (k_unfold; (try dsimp only)) | (walk1; (all_goals (try dsimp only))) | (dsimp only; walk1; (all_goals (try dsimp only)))))
        rename Fr g L _ _ => FF
        rename News g L _ _ => NN
        refine pick FF rfl (NN.get (.tail _ (.tail _ (.tail _ (.head _))))) rfl (NN.get (.tail _ (.tail _ (.tail _ (.tail _ (.tail _ (.tail _ (.head _)))))))) rfl rfl ?_
        (repeat' ((fail_if_success with_reducible first|refine zz11 ?_|refine zz9 ?_|refine zz1 ?_|refine zz2 ?_|refine zz3 ?_|refine zz4 ?_|refine zz7 ?_|refine zz5 ?_|refine zz10 ?_|refine zz6 ?_|refine zz18 ?_); first | (k_unfold; (try dsimp only)) | (walk1; (all_goals (try dsimp only))) | (dsimp only; walk1; (all_goals (try dsimp only)))))
        rename Fr g L _ _ => FF
        rename News g L _ _ => NN
        refine pick FF rfl (NN.get (.tail _ (.tail _ (.tail _ (.head _))))) rfl (NN.get (.tail _ (.tail _ (.tail _ (.tail _ (.tail _ (.tail _ (.tail _ (.head _))))))))) rfl rfl ?_
        (repeat' ((fail_if_success with_reducible first|refine zz11 ?_|refine zz9 ?_|refine zz1 ?_|refine zz2 ?_|refine zz3 ?_|refine zz4 ?_|refine zz7 ?_|refine zz5 ?_|refine zz10 ?_|refine zz6 ?_|refine zz18 ?_); first | (k_unfold; (try dsimp only)) | (walk1; (all_goals (try dsimp only))) | (dsimp only; walk1; (all_goals (try dsimp only)))))
        rename Fr g L _ _ => FF
        rename News g L _ _ => NN
        rcases knd_of (t1 := tk) (t2 := tk + 1) hsg with ⟨tk9, k0, k1, hi9⟩
        refine item_list_any (s := ⟨_, _, _, _, _⟩) (items := #[Value.str "alike" tk, Value.str "unlike" (tk + 1)]) ⟨_, NN.get (.head _), rfl, _, rfl⟩ k0 k1 hi9 ?_
        (repeat' ((fail_if_success with_reducible first|refine zz11 ?_|refine zz9 ?_|refine zz1 ?_|refine zz2 ?_|refine zz3 ?_|refine zz4 ?_|refine zz7 ?_|refine zz5 ?_|refine zz10 ?_|refine zz6 ?_|refine zz18 ?_); first | (k_unfold; (try dsimp only)) | (walk1; (all_goals (try dsimp only))) | (dsimp only; walk1; (all_goals (try dsimp only)))))
        rename Fr g L _ _ => FF
        rename News g L _ _ => NN
        refine pick FF rfl (NN.get (.tail _ (.tail _ (.tail _ (.tail _ (.head _)))))) rfl (NN.get (.tail _ (.tail _ (.tail _ (.tail _ (.tail _ (.tail _ (.tail _ (.head _))))))))) rfl rfl ?_
        (repeat' ((fail_if_success with_reducible first|refine zz11 ?_|refine zz9 ?_|refine zz1 ?_|refine zz2 ?_|refine zz3 ?_|refine zz4 ?_|refine zz7 ?_|refine zz5 ?_|refine zz10 ?_|refine zz6 ?_|refine zz18 ?_); first | (k_unfold; (try dsimp only)) | (walk1; (all_goals (try dsimp only))) | (dsimp only; walk1; (all_goals (try dsimp only)))))
        rename Fr g L _ _ => FF
        rename News g L _ _ => NN
        refine pick FF rfl (NN.get (.tail _ (.tail _ (.tail _ (.tail _ (.head _)))))) rfl (NN.get (.tail _ (.tail _ (.tail _ (.tail _ (.tail _ (.tail _ (.tail _ (.tail _ (.head _)))))))))) rfl rfl ?_
        (repeat' ((fail_if_success with_reducible first|refine zz11 ?_|refine zz9 ?_|refine zz1 ?_|refine zz2 ?_|refine zz3 ?_|refine zz4 ?_|refine zz7 ?_|refine zz5 ?_|refine zz10 ?_|refine zz6 ?_|refine zz18 ?_); first | (k_unfold; (try dsimp only)) | (walk1; (all_goals (try dsimp only))) | (dsimp only; walk1; (all_goals (try dsimp only)))))
        rename Fr g L _ _ => FF
        rename News g L _ _ => NN
        exact .mk _ _ _ _ _ (some (sg, T2, T3)) _ oX t2X t3X tnX blX (_ :: _ :: (p2, tupObj [v2, .str x2 tx2]) :: (p3, tupObj [v3, .str x3 tx3]) :: sn) (fr_map FF (lmmap_of rfl rfl rfl rfl))
          (news_one NN (.tail _ (.tail _ (.tail _ (.head _)))) (news_one NN (.tail _ (.tail _ (.tail _ (.tail _ (.tail _ (.tail _ (.head _))))))) (news_one NN (.tail _ (.tail _ (.tail _ (.tail _ (.tail _ (.tail _ (.tail _ (.head _)))))))) (news_one NN (.tail _ (.tail _ (.tail _ (.tail _ (.tail _ (.tail _ (.tail _ (.tail _ (.head _))))))))) (news_one NN (.head _) (news_one NN (.tail _ (.head _)) fun p hp => NN p (.tail _ (.tail _ (.tail _ (.tail _ (.tail _ (.tail _ (.tail _ (.tail _ (.tail _ hp)))))))))))))))
          hdX (by ((first | with_reducible assumption | exact Mine.lim (by assumption) | exact Mine.lim0 (by assumption) | exact Mine.lim2 (by assumption) | exact Mine.lim3 (by assumption) | exact Mine.lme (by assumption) | exact Mine.lml (by assumption) | exact Mine.lll (by assumption) | decide | lia))) (zz1 sg hsg) (fun h'' kg kt => need_reads (hkp h'' kg fun p hp => kt p (.tail _ (.tail _ (.tail _ (.tail _ hp))))).2.2 (kt _ (.head _)) (kt _ (.tail _ (.head _)))) fun p hp => .tail _ (.tail _ (.tail _ (.tail _ hp)))
    rcases M1 with ⟨h7, tk7, xA, tA, Dn, nd, u7, o7, t27, t37, tn7, bl7, sn', F9, N9, hd7, htn7, hx7, hn7, hs7⟩
    dsimp only [List.drop]
    (repeat' ((fail_if_success with_reducible first|refine zz11 ?_|refine zz9 ?_|refine zz1 ?_|refine zz2 ?_|refine zz3 ?_|refine zz4 ?_|refine zz7 ?_|refine zz5 ?_|refine zz10 ?_|refine zz6 ?_|refine zz18 ?_); first | (k_unfold; (try dsimp only)) | (walk1; (all_goals (try dsimp only))) | (dsimp only; walk1; (all_goals (try dsimp only)))))
    rename Fr g L _ _ => FF
    rename News g L _ _ => NN
    refine pick FF rfl (NN.get (.tail _ (.head _))) rfl (NN.get (.tail _ (.tail _ (.head _)))) rfl rfl ?_
    (repeat' ((fail_if_success with_reducible first|refine zz11 ?_|refine zz9 ?_|refine zz1 ?_|refine zz2 ?_|refine zz3 ?_|refine zz4 ?_|refine zz7 ?_|refine zz5 ?_|refine zz10 ?_|refine zz6 ?_|refine zz18 ?_); first | (k_unfold; (try dsimp only)) | (walk1; (all_goals (try dsimp only))) | (dsimp only; walk1; (all_goals (try dsimp only)))))
    rename Fr g L _ _ => FF
    rename News g L _ _ => NN
    refine pick FF rfl (NN.get (.tail _ (.head _))) rfl (NN.get (.tail _ (.tail _ (.tail _ (.head _))))) rfl rfl ?_
    (repeat' ((fail_if_success with_reducible first|refine zz11 ?_|refine zz9 ?_|refine zz1 ?_|refine zz2 ?_|refine zz3 ?_|refine zz4 ?_|refine zz7 ?_|refine zz5 ?_|refine zz10 ?_|refine zz6 ?_|refine zz18 ?_); first | (k_unfold; (try dsimp only)) | (walk1; (all_goals (try dsimp only))) | (dsimp only; walk1; (all_goals (try dsimp only)))))
    rename Fr g L _ _ => FF
    rename News g L _ _ => NN
    have q4 := hkp _ FF.keep fun p hp => NN.get (.tail _ (.tail _ (.tail _ (.tail _ (.tail _ (.tail _ (hs7 p hp)))))))
    refine hk _ _ ⟨"r", T0, T1, nd⟩ _ _ _ (n + 1 + 201 * 4 + 2) _ (upto_end (List.forall_mem_cons.mpr ⟨hm, List.forall_mem_nil _⟩) hin FF NN [fa] (List.forall_mem_cons.mpr ⟨.inl (.head _), List.forall_mem_nil _⟩)) ⟨⟨o7, t27, t37, tn7, bl7, ⟨NN.get (.tail _ (.tail _ (.head _))), hm.new, hm.off⟩, hd7, htn7⟩, cells_at hcg FF⟩ (by ((first | with_reducible assumption | exact Mine.lim (by assumption) | exact Mine.lim0 (by assumption) | exact Mine.lim2 (by assumption) | exact Mine.lim3 (by assumption) | exact Mine.lme (by assumption) | exact Mine.lml (by assumption) | exact Mine.lll (by assumption) | decide | lia))) hx7
      (reads_tuple_at (NN.get (.tail _ (.head _))) rfl rfl (readsAll_cons_val (.str _ _) (readsAll_cons_val q4.1 (readsAll_cons_val q4.2.1 (readsAll_cons_val (hn7 _ FF.keep fun p hp => NN.get (.tail _ (.tail _ (.tail _ (.tail _ (.tail _ (.tail _ hp))))))) .nil))))) (NN.get (.head _)) ?_
    exact fresh_of hin (NN _ (.head _)).2.2 (ne_feed (NN.get (.head _)) (NN.get (.tail _ (.tail _ (.head _)))) hd7 ⟨_, _, rfl⟩)
end
end Mine
end
-- Q4
section
namespace Mine
open PySem PySem.W PySem.Calls PyProof.Rows
set_option maxHeartbeats 1000000
theorem lex_pos : ∀ (n k : Nat) (l : List Nat), l.length ≤ n → ∀ e ∈ lexL k l, e.2 < k + l.length
  | _, _, [], _ => by rw [lexL_nil]; exact fun e he => nomatch he
  | 0, _, _ :: _, h => absurd h (by simp)
  | n + 1, k, c :: r, h => by
    have hr : r.length ≤ n := by simpa using h
    intro e he
    rw [List.length_cons]
    by_cases h1 : opChar c = true
    · rw [lexL_op h1] at he
      have e1 : runLen (c :: r) = runLen r + 1 := runLen_cons h1
      rcases List.mem_cons.mp he with rfl | he
      · show k < _
        ((first | with_reducible assumption | exact Mine.lim (by assumption) | exact Mine.lim0 (by assumption) | exact Mine.lim2 (by assumption) | exact Mine.lim3 (by assumption) | exact Mine.lme (by assumption) | exact Mine.lml (by assumption) | exact Mine.lll (by assumption) | decide | lia))
      · have := lex_pos n _ _ (by rw [e1, List.drop_succ_cons, List.length_drop]; ((first | with_reducible assumption | exact Mine.lim (by assumption) | exact Mine.lim0 (by assumption) | exact Mine.lim2 (by assumption) | exact Mine.lim3 (by assumption) | exact Mine.lme (by assumption) | exact Mine.lml (by assumption) | exact Mine.lll (by assumption) | decide | lia))) e he
        rw [e1, List.drop_succ_cons, List.length_drop] at this
        have hle := runLen_le r
        ((first | with_reducible assumption | exact Mine.lim (by assumption) | exact Mine.lim0 (by assumption) | exact Mine.lim2 (by assumption) | exact Mine.lim3 (by assumption) | exact Mine.lme (by assumption) | exact Mine.lml (by assumption) | exact Mine.lll (by assumption) | decide | lia))
    · have h1' : opChar c = false := by simpa using h1
      by_cases h2 : sepChar c = true
      · rw [lexL_sep h1' h2] at he
        rcases List.mem_cons.mp he with rfl | he
        · show k < _
          ((first | with_reducible assumption | exact Mine.lim (by assumption) | exact Mine.lim0 (by assumption) | exact Mine.lim2 (by assumption) | exact Mine.lim3 (by assumption) | exact Mine.lme (by assumption) | exact Mine.lml (by assumption) | exact Mine.lll (by assumption) | decide | lia))
        · have := lex_pos n _ _ hr e he
          ((first | with_reducible assumption | exact Mine.lim (by assumption) | exact Mine.lim0 (by assumption) | exact Mine.lim2 (by assumption) | exact Mine.lim3 (by assumption) | exact Mine.lme (by assumption) | exact Mine.lml (by assumption) | exact Mine.lll (by assumption) | decide | lia))
      · rw [lexL_gap h1' (by simpa using h2)] at he
        have := lex_pos n _ _ hr e he
        ((first | with_reducible assumption | exact Mine.lim (by assumption) | exact Mine.lim0 (by assumption) | exact Mine.lim2 (by assumption) | exact Mine.lim3 (by assumption) | exact Mine.lme (by assumption) | exact Mine.lml (by assumption) | exact Mine.lll (by assumption) | decide | lia))
noncomputable def Placed (x : Str) (f : Option Nat) : Prop :=
  (f = none → beyondL 0 0 x.cps.toList = none) ∧ ∀ i, f = some i → ∃ u p, (lexL 0 x.cps.toList)[i]? = some (u, p) ∧ beyondL 0 0 x.cps.toList = some p ∧ p < x.length
theorem placed_of {x : Str} {f : Option Nat} (habc : ∀ c ∈ x.cps.toList, c ∈ abc) (hs : scanW 0 0 (wordsOf x.cps.toList) = f) (hlt : ∀ i, f = some i → i < (wordsOf x.cps.toList).length) : Placed x f := by
  obtain ⟨a, b⟩ := scan_beyond _ 0 0 x.cps.toList [] (Nat.le_refl _) habc
  rw [wordsOf_at] at a b
  refine ⟨fun q => a (hs.trans q), fun i q => ?_⟩
  have hi := hlt i q
  rw [wordsOf, List.length_map] at hi
  have hg := List.getElem?_eq_getElem hi
  refine ⟨_, _, hg, b i _ _ (hs.trans q) (by rw [List.nil_append]; exact hg), ?_⟩
  have := lex_pos _ 0 _ (Nat.le_refl _) _ (List.getElem_mem hi)
  rw [list_len, Nat.zero_add] at this
  exact this
theorem scan_tm0 {T : Tm} (ho : ∀ o ∈ T.ops, NoQ o) (j : Nat) (rest : List Str) : scanW 0 j (T.words ++ rest) = match T.fault 0 with | some i => some (j + i) | none => scanW 0 (j + T.words.length) rest :=
  scan_tm 0 j rest T fun o q => (ho o q).word
theorem TextOf.placed {x : Str} {T : Tm} {b : Nat} (h : TextOf x T b) : Placed x (T.fault 0) := by
  refine placed_of h.abc ?_ fun i q => ?_
  · rw [h.words, ← List.append_nil T.words, scan_tm0 h.ops]
    cases T.fault 0 with
    | none => rfl
    | some i => show some (0 + i) = some i; rw [Nat.zero_add]
  · rw [h.words]; exact fault_lt T q
theorem RuleText.placed {x : Str} {U : RTm} (h : RuleText x U) : Placed x U.fault := by
  refine placed_of h.abc ?_ fun i q => ?_
  · rw [h.words]
    have hnm := h.ok.nm
    unfold RTm.words RTm.fault
    cases q : U.nd with
    | none =>
      dsimp only
      rw [scan_skip (isOp_open hnm) (isOp_close hnm), scan_skip (by decide +kernel) (by decide +kernel), scan_tm0 h.ok.l.ops]
      cases U.l.fault 0 with
      | some i => show some _ = some _; congr 1; ((first | with_reducible assumption | exact Mine.lim (by assumption) | exact Mine.lim0 (by assumption) | exact Mine.lim2 (by assumption) | exact Mine.lim3 (by assumption) | exact Mine.lme (by assumption) | exact Mine.lml (by assumption) | exact Mine.lll (by assumption) | decide | lia))
      | none =>
        dsimp only
        rw [scan_skip (by decide +kernel) (by decide +kernel), ← List.append_nil U.r.words, scan_tm0 h.ok.r.ops]
        cases U.r.fault 0 with
        | some i => show some _ = some (i + (U.l.words.length + 3)); congr 1; ((first | with_reducible assumption | exact Mine.lim (by assumption) | exact Mine.lim0 (by assumption) | exact Mine.lim2 (by assumption) | exact Mine.lim3 (by assumption) | exact Mine.lme (by assumption) | exact Mine.lml (by assumption) | exact Mine.lll (by assumption) | decide | lia))
        | none => rfl
    | some t =>
      obtain ⟨sg, a, b⟩ := t
      obtain ⟨hsg, ha, hb⟩ := h.ok.nd sg a b q
      have hsg1 : sg ≠ ("(" : Str) := by rcases hsg with rfl | rfl <;> decide +kernel
      have hsg2 : sg ≠ (")" : Str) := by rcases hsg with rfl | rfl <;> decide +kernel
      dsimp only
      rw [scan_skip (isOp_open hnm) (isOp_close hnm), scan_skip (by decide +kernel) (by decide +kernel), scan_tm0 h.ok.l.ops]
      cases U.l.fault 0 with
      | some i => show some _ = some _; congr 1; ((first | with_reducible assumption | exact Mine.lim (by assumption) | exact Mine.lim0 (by assumption) | exact Mine.lim2 (by assumption) | exact Mine.lim3 (by assumption) | exact Mine.lme (by assumption) | exact Mine.lml (by assumption) | exact Mine.lll (by assumption) | decide | lia))
      | none =>
        dsimp only
        rw [scan_skip (by decide +kernel) (by decide +kernel), scan_tm0 h.ok.r.ops]
        cases U.r.fault 0 with
        | some i => show some _ = some _; congr 1; ((first | with_reducible assumption | exact Mine.lim (by assumption) | exact Mine.lim0 (by assumption) | exact Mine.lim2 (by assumption) | exact Mine.lim3 (by assumption) | exact Mine.lme (by assumption) | exact Mine.lml (by assumption) | exact Mine.lll (by assumption) | decide | lia))
        | none =>
          dsimp only
          rw [scan_skip (by decide +kernel) (by decide +kernel), scan_tm0 ha.ops]
          cases a.fault 0 with
          | some i => show some _ = some _; congr 1; ((first | with_reducible assumption | exact Mine.lim (by assumption) | exact Mine.lim0 (by assumption) | exact Mine.lim2 (by assumption) | exact Mine.lim3 (by assumption) | exact Mine.lme (by assumption) | exact Mine.lml (by assumption) | exact Mine.lll (by assumption) | decide | lia))
          | none =>
            dsimp only
            rw [scan_skip hsg1 hsg2, ← List.append_nil b.words, scan_tm0 hb.ops]
            cases b.fault 0 with
            | some i => show some _ = some (i + (U.l.words.length + U.r.words.length + a.words.length + 5)); congr 1; ((first | with_reducible assumption | exact Mine.lim (by assumption) | exact Mine.lim0 (by assumption) | exact Mine.lim2 (by assumption) | exact Mine.lim3 (by assumption) | exact Mine.lme (by assumption) | exact Mine.lml (by assumption) | exact Mine.lll (by assumption) | decide | lia))
            | none => rfl
  · rw [h.words]; exact rtm_fault_lt q
end Mine
end
-- Q5
section
namespace Mine
open PySem PySem.W PySem.Calls PyProof.Rows
set_option maxHeartbeats 1000000
theorem word_ok {u : Str} (h : OpWord u) : PyData.strOk u = true := by
  have h1 := h.ok
  unfold PyData.strOk
  rw [← Array.all_toList, List.all_eq_true]
  intro c hc
  have := h1 ⟨#[c]⟩ (by unfold signs; exact List.mem_map_of_mem hc)
  simpa [PyData.strOk] using this
mutual
theorem tm_lay : ∀ (T : Tm), (∀ o ∈ T.ops, NoQ o) → T.dat.canLay0 = true ∧ T.dat.depth ≤ T.nest
  | .node op ks, h => by
    obtain ⟨a, b⟩ := tms_lay ks fun o q => h o (.tail _ q)
    constructor
    · show (PyData.strOk op && PyData.canLayAll0 (datL ks)) = true
      rw [word_ok (h op (.head _)).word, a]; rfl
    · show max 0 (PyData.depthAll (datL ks)) + 1 ≤ nestL ks + 1
      ((first | with_reducible assumption | exact Mine.lim (by assumption) | exact Mine.lim0 (by assumption) | exact Mine.lim2 (by assumption) | exact Mine.lim3 (by assumption) | exact Mine.lme (by assumption) | exact Mine.lml (by assumption) | exact Mine.lll (by assumption) | decide | lia))
theorem tms_lay : ∀ (ks : List Tm), (∀ o ∈ opsL ks, NoQ o) → PyData.canLayAll0 (datL ks) = true ∧ PyData.depthAll (datL ks) ≤ nestL ks
  | [], _ => ⟨rfl, Nat.le_refl _⟩
  | k :: ks, h => by
    obtain ⟨a, b⟩ := tm_lay k fun o q => h o (List.mem_append_left _ q)
    obtain ⟨c, d⟩ := tms_lay ks fun o q => h o (List.mem_append_right _ q)
    constructor
    · show (k.dat.canLay0 && PyData.canLayAll0 (datL ks)) = true
      rw [a, c]; rfl
    · show max k.dat.depth (PyData.depthAll (datL ks)) ≤ max k.nest (nestL ks)
      ((first | with_reducible assumption | exact Mine.lim (by assumption) | exact Mine.lim0 (by assumption) | exact Mine.lim2 (by assumption) | exact Mine.lim3 (by assumption) | exact Mine.lme (by assumption) | exact Mine.lml (by assumption) | exact Mine.lll (by assumption) | decide | lia))
end
noncomputable def Lay (d : PyData) (n : Nat) : Prop := d.canLay0 = true ∧ d.depth ≤ n
theorem Tm.lay {T : Tm} (h : TmOk T) : Lay T.dat 60 := ⟨(tm_lay T h.ops).1, Nat.le_trans (tm_lay T h.ops).2 h.nest⟩
theorem RTm.lay {U : RTm} (h : U.Ok) : Lay U.dat 63 := by
  obtain ⟨a1, a2⟩ := Tm.lay h.l
  obtain ⟨b1, b2⟩ := Tm.lay h.r
  have hn : Lay U.needs 62 := by
    unfold RTm.needs
    cases q : U.nd with
    | none => exact ⟨rfl, by decide⟩
    | some t =>
      obtain ⟨sg, a, b⟩ := t
      obtain ⟨hsg, ha, hb⟩ := h.nd sg a b q
      obtain ⟨c1, c2⟩ := Tm.lay ha
      obtain ⟨d1, d2⟩ := Tm.lay hb
      have hk : PyData.strOk (kindOf sg) = true := by rcases hsg with rfl | rfl <;> decide +kernel
      constructor
      · show ((PyData.strOk (kindOf sg) && (a.dat.canLay0 && (b.dat.canLay0 && true))) && true) = true
        rw [hk, c1, d1]; rfl
      · show max (max 0 (max a.dat.depth (max b.dat.depth 0)) + 1) 0 + 1 ≤ 62
        ((first | with_reducible assumption | exact Mine.lim (by assumption) | exact Mine.lim0 (by assumption) | exact Mine.lim2 (by assumption) | exact Mine.lim3 (by assumption) | exact Mine.lme (by assumption) | exact Mine.lml (by assumption) | exact Mine.lll (by assumption) | decide | lia))
  obtain ⟨c1, c2⟩ := hn
  constructor
  · show (PyData.strOk U.nm && (U.l.dat.canLay0 && (U.r.dat.canLay0 && (U.needs.canLay0 && true)))) = true
    rw [word_ok h.nm, a1, b1, c1]; rfl
  · show max 0 (max U.l.dat.depth (max U.r.dat.depth (max U.needs.depth 0))) + 1 ≤ 63
    ((first | with_reducible assumption | exact Mine.lim (by assumption) | exact Mine.lim0 (by assumption) | exact Mine.lim2 (by assumption) | exact Mine.lim3 (by assumption) | exact Mine.lme (by assumption) | exact Mine.lml (by assumption) | exact Mine.lll (by assumption) | decide | lia))
end Mine
end
-- Q6
section
namespace Mine
open PySem PySem.W PySem.Calls PyProof.Rows
open PySem.Builtin PySem.Builtin.Str
set_option maxHeartbeats 1000000
noncomputable def joinC (c : Nat) : List (List Nat) → List Nat
  | [] => []
  | [a] => a
  | a :: b :: r => a ++ c :: joinC c (b :: r)
theorem join_toList (c : Nat) : ∀ (ps : List Str), (Str.join ⟨#[c]⟩ ps).cps.toList = joinC c (ps.map (·.cps.toList))
  | [] => rfl
  | [a] => rfl
  | a :: b :: r => by
    show (a ++ ⟨#[c]⟩ ++ Str.join ⟨#[c]⟩ (b :: r) : Str).cps.toList = a.cps.toList ++ c :: joinC c ((b :: r).map (·.cps.toList))
    rw [app_list, app_list, join_toList c (b :: r), List.append_assoc]
    rfl
theorem app_uniq {c : Nat} : ∀ {a b X Y : List Nat}, c ∉ a → c ∉ b → a ++ c :: X = b ++ c :: Y → a = b ∧ X = Y
  | [], [], _, _, _, _, h => ⟨rfl, by simpa using h⟩
  | [], y :: b, _, _, _, hb, h => by
    rw [List.nil_append, List.cons_append] at h
    injection h with h1 _
    exact absurd (h1 ▸ .head _) hb
  | y :: a, [], _, _, ha, _, h => by
    rw [List.nil_append, List.cons_append] at h
    injection h with h1 _
    exact absurd (h1 ▸ .head _) ha
  | y :: a, z :: b, _, _, ha, hb, h => by
    rw [List.cons_append, List.cons_append] at h
    injection h with h1 h2
    obtain ⟨e1, e2⟩ := app_uniq (fun q => ha (.tail _ q)) (fun q => hb (.tail _ q)) h2
    exact ⟨by rw [h1, e1], e2⟩
theorem join_uniq {c : Nat} : ∀ {as bs : List (List Nat)}, as ≠ [] → bs ≠ [] → (∀ a ∈ as, c ∉ a) → (∀ b ∈ bs, c ∉ b) → joinC c as = joinC c bs → as = bs
  | [], _, h, _, _, _, _ => absurd rfl h
  | _ :: _, [], _, h, _, _, _ => absurd rfl h
  | [a], [b], _, _, _, _, h => by rw [joinC, joinC] at h; rw [h]
  | [a], b :: b' :: bs, _, _, ha, _, h => by
    rw [joinC, joinC] at h
    exact absurd (h ▸ List.mem_append_right _ (.head _)) (ha a (.head _))
  | a :: a' :: as, [b], _, _, _, hb, h => by
    rw [joinC, joinC] at h
    exact absurd (h ▸ List.mem_append_right _ (.head _)) (hb b (.head _))
  | a :: a' :: as, b :: b' :: bs, _, _, ha, hb, h => by
    rw [joinC, joinC] at h
    obtain ⟨e1, e2⟩ := app_uniq (ha a (.head _)) (hb b (.head _)) h
    have := join_uniq (List.cons_ne_nil _ _) (List.cons_ne_nil _ _) (fun x hx => ha x (.tail _ hx)) (fun x hx => hb x (.tail _ hx)) e2
    rw [e1, this]
theorem str_ext {x y : Str} (h : x.cps.toList = y.cps.toList) : x = y := by
  cases x; cases y
  congr 1
  exact Array.toList_inj.mp h
theorem split_join {c : Nat} {ps : List Str} (h0 : ps ≠ []) (hf : ∀ p ∈ ps, c ∉ p.cps.toList) : Txt.split (Str.join ⟨#[c]⟩ ps) ⟨#[c]⟩ = ps := by
  have h1 := StrLaws.join_split (Str.join ⟨#[c]⟩ ps) ⟨#[c]⟩
  have h2 := StrLaws.split_free (Str.join ⟨#[c]⟩ ps) c
  have h3 := split_pos (Str.join ⟨#[c]⟩ ps) ⟨#[c]⟩
  generalize Txt.split (Str.join ⟨#[c]⟩ ps) ⟨#[c]⟩ = qs at h1 h2 h3
  have h4 := congrArg (fun x : Str => x.cps.toList) h1
  rw [join_toList, join_toList] at h4
  have h5 := join_uniq (c := c) (fun q => by
      rw [List.map_eq_nil_iff] at q
      rw [q] at h3
      simp at h3) (fun q => h0 (List.map_eq_nil_iff.mp q)) (fun a ha => by
      obtain ⟨p, hp, rfl⟩ := List.mem_map.mp ha
      exact h2 p hp) (fun a ha => by
      obtain ⟨p, hp, rfl⟩ := List.mem_map.mp ha
      exact hf p hp) h4
  exact List.map_inj_right (fun x y q => str_ext q) |>.mp h5
theorem strip_r {x : Str} {c : Nat} {l : List Nat} (h : x.cps.toList = c :: l) (hc : Unicode.isSpace c = false) : ∃ l', (Txt.strip x).cps.toList = c :: l' := by
  have hg : x.cps.getD 0 0 = c := by rw [← getD_list, h]; rfl
  have hlo : stripLo Unicode.isSpace true x = 0 := by
    simp [stripLo, h, hc]
  obtain ⟨h1, h2, h3, h4⟩ := hi_facts Unicode.isSpace x 0 (Nat.zero_le _)
  have hn : 0 < x.length := by rw [← list_len, h]; simp
  have hpos : 0 < stripHi Unicode.isSpace true x 0 := by
    rcases Nat.eq_zero_or_pos (stripHi Unicode.isSpace true x 0) with q | q
    · have := h3 0 (by ((first | with_reducible assumption | exact Mine.lim (by assumption) | exact Mine.lim0 (by assumption) | exact Mine.lim2 (by assumption) | exact Mine.lim3 (by assumption) | exact Mine.lme (by assumption) | exact Mine.lml (by assumption) | exact Mine.lll (by assumption) | decide | lia))) hn
      rw [hg, hc] at this; cases this
    · exact q
  unfold Txt.strip
  rw [PyProof.Rows.stripBy_eq, hlo]
  obtain ⟨k, hk⟩ : ∃ k, stripHi Unicode.isSpace true x 0 = k + 1 := ⟨_, (Nat.succ_pred_eq_of_pos hpos).symm⟩
  refine ⟨l.take k, ?_⟩
  rw [StrLaws.strSub_toList, h, hk]
  rfl
theorem strip_first {x : Str} {c : Nat} {l : List Nat} (h : x.cps.toList = c :: l) (hc : Unicode.isSpace c = false) (h59 : c ≠ 59) : Txt.strip x ≠ "" ∧ Txt.item (Txt.strip x) 0 ≠ ";" := by
  obtain ⟨l', hl⟩ := strip_r h hc
  constructor
  · intro q
    rw [q] at hl
    have : ("" : Str).cps.toList = [] := by decide +kernel
    rw [this] at hl; cases hl
  · have h0 : (Txt.strip x).cps[(0 : Int).toNat]? = some c := by
      rw [← Array.getElem?_toList, hl]; rfl
    rw [PyProof.Rows.item_meets (by decide) h0]
    intro q
    have e1 : #[c] = (";" : Str).cps := congrArg Str.cps q
    have e2 : [c] = [59] := by
      have := congrArg Array.toList e1
      rw [show (";" : Str).cps.toList = [59] by decide +kernel] at this
      exact this
    exact h59 (by simpa using e2)
theorem noq_p : NoQ "p" := noq_mk (by decide +kernel) (by decide +kernel) (by decide +kernel) (by decide +kernel)
theorem noq_q : NoQ "q" := noq_mk (by decide +kernel) (by decide +kernel) (by decide +kernel) (by decide +kernel)
theorem textOf_ka : TextOf "(k a)" (.node "k" [.node "a" []]) 2 := by
  have := wrap_text (J := "a") (gap := "") (c := 107) (r := 0) (.inr (.inr (.inr rfl))) noq_k (by decide +kernel) (by decide) (texts_one textOf_a)
  rw [show ("(" ++ "" ++ (⟨#[107]⟩ : Str) ++ " " ++ "a" ++ "" ++ ")" : Str) = "(k a)" by decide +kernel, show (⟨#[107]⟩ : Str) = "k" by decide +kernel] at this
  exact this
theorem textOf_kb : TextOf "(k b)" (.node "k" [.node "b" []]) 2 := by
  have := wrap_text (J := "b") (gap := "") (c := 107) (r := 0) (.inr (.inr (.inr rfl))) noq_k (by decide +kernel) (by decide) (texts_one textOf_b)
  rw [show ("(" ++ "" ++ (⟨#[107]⟩ : Str) ++ " " ++ "b" ++ "" ++ ")" : Str) = "(k b)" by decide +kernel, show (⟨#[107]⟩ : Str) = "k" by decide +kernel] at this
  exact this
theorem words_small {x x0 x1 : Str} {c : Nat} {T0 T1 : Tm} (hl : x.cps.toList = [c] ++ 58 :: 32 :: (x0.cps.toList ++ 32 :: ([45, 62] ++ 32 :: x1.cps.toList))) (hc : opChar c = true) (h0 : wordsOf x0.cps.toList = T0.words) (h1 : wordsOf x1.cps.toList = T1.words) :
    wordsOf x.cps.toList = RTm.words ⟨⟨#[c]⟩, T0, T1, none⟩ := by
  rw [hl, wo_app op58, wo_op (fun a ha => by rw [List.mem_singleton.mp ha]; exact hc), wo_sep op58 sep58, wo_gap op32 sep32, wo_app op32, wo_gap op32 sep32, wo_app op32, wo_op (by decide +kernel), wo_gap op32 sep32, h0, h1]
  show [_] ++ _ :: _ = _
  rw [show (⟨#[58]⟩ : Str) = ":" by decide +kernel, show (⟨[45, 62].toArray⟩ : Str) = "->" by decide +kernel]
  rfl
noncomputable def Up : RTm := ⟨"p", .node "k" [.node "a" []], .node "a" [], none⟩
noncomputable def Uq : RTm := ⟨"q", .node "k" [.node "b" []], .node "b" [], none⟩
theorem up_ok : Up.Ok := ⟨noq_p.word, (textOf_ka.mono (by decide)).tmOk, (textOf_a.mono (by decide)).tmOk, fun _ _ _ h => by cases h⟩
theorem uq_ok : Uq.Ok := ⟨noq_q.word, (textOf_kb.mono (by decide)).tmOk, (textOf_b.mono (by decide)).tmOk, fun _ _ _ h => by cases h⟩
theorem up_fault : Up.fault = none := by decide +kernel
theorem uq_fault : Uq.fault = none := by decide +kernel
theorem row_p : RowOk ("p: (k a) -> a", some Up) := by
  refine ⟨by decide +kernel, fun h => by (cases h), fun U h => ?_⟩
  cases h
  have hl : ("p: (k a) -> a" : Str).cps.toList = [112] ++ 58 :: 32 :: (("(k a)" : Str).cps.toList ++ 32 :: ([45, 62] ++ 32 :: ("a" : Str).cps.toList)) := by decide +kernel
  obtain ⟨s1, s2⟩ := strip_first (c := 112) hl (by decide +kernel) (by decide)
  refine ⟨s1, s2, up_ok, ?_, abc_hok (by decide +kernel)⟩
  have := words_small hl (by decide +kernel) textOf_ka.words textOf_a.words
  rw [show (⟨#[112]⟩ : Str) = "p" by decide +kernel] at this
  exact this
theorem row_q : RowOk ("q: (k b) -> b", some Uq) := by
  refine ⟨by decide +kernel, fun h => by (cases h), fun U h => ?_⟩
  cases h
  have hl : ("q: (k b) -> b" : Str).cps.toList = [113] ++ 58 :: 32 :: (("(k b)" : Str).cps.toList ++ 32 :: ([45, 62] ++ 32 :: ("b" : Str).cps.toList)) := by decide +kernel
  obtain ⟨s1, s2⟩ := strip_first (c := 113) hl (by decide +kernel) (by decide)
  refine ⟨s1, s2, uq_ok, ?_, abc_hok (by decide +kernel)⟩
  have := words_small hl (by decide +kernel) textOf_kb.words textOf_b.words
  rw [show (⟨#[113]⟩ : Str) = "q" by decide +kernel] at this
  exact this
theorem row_e : RowOk ("", none) := ⟨by decide +kernel, fun _ => .inl (by decide +kernel), fun U h => by cases h⟩
theorem row_s : RowOk ("; " ++ Txt.mul "(" 50, none) := ⟨by decide +kernel, fun _ => .inr (by decide +kernel), fun U h => by cases h⟩
theorem row_b : RowOk ("  ", none) := ⟨by decide +kernel, fun _ => .inl (by decide +kernel), fun U h => by cases h⟩
theorem row_x {x : Str} {U : RTm} (h : RuleText x U) : RowOk (x, some U) := by
  obtain ⟨l, hl⟩ := h.first
  obtain ⟨s1, s2⟩ := strip_first hl (by decide +kernel) (by decide)
  refine ⟨by have := h.len; show x.length ≤ _; ((first | with_reducible assumption | exact Mine.lim (by assumption) | exact Mine.lim0 (by assumption) | exact Mine.lim2 (by assumption) | exact Mine.lim3 (by assumption) | exact Mine.lme (by assumption) | exact Mine.lml (by assumption) | exact Mine.lll (by assumption) | decide | lia)), fun q => by (cases q), fun V q => ?_⟩
  cases q
  exact ⟨s1, s2, h.ok, h.words, abc_hok h.abc⟩
noncomputable def aheadR : List (Str × Option RTm) := [("", none), ("; " ++ Txt.mul "(" 50, none), ("p: (k a) -> a", some Up), ("  ", none)]
theorem ahead_ok : ∀ r ∈ aheadR, RowOk r ∧ (∀ U, r.2 = some U → U.fault = none) ∧ 10 ∉ r.1.cps.toList := by
  unfold aheadR
  refine List.forall_mem_cons.mpr ⟨⟨row_e, fun U h => (by cases h), by decide +kernel⟩, List.forall_mem_cons.mpr ⟨⟨row_s, fun U h => (by cases h), by decide +kernel⟩, List.forall_mem_cons.mpr ⟨⟨row_p, fun U h => ?_, by decide +kernel⟩, List.forall_mem_cons.mpr ⟨⟨row_b, fun U h => (by cases h), by decide +kernel⟩, List.forall_mem_nil _⟩⟩⟩⟩
  cases h
  exact up_fault
theorem rows_pass (rest : List (Str × Option RTm)) : ∀ (l : List (Str × Option RTm)) (b : Nat), (∀ r ∈ l, ∀ U, r.2 = some U → U.fault = none) → rowsFault b (l ++ rest) = rowsFault (b + rowsLen l) rest
  | [], _, _ => rfl
  | (x, none) :: l, b, h => by
    rw [List.cons_append, rowsFault, rows_pass rest l _ (fun r hr => h r (.tail _ hr)), rowsLen]
    congr 1
    show b + x.length + 1 + rowsLen l = b + (x.length + 1 + rowsLen l)
    ((first | with_reducible assumption | exact Mine.lim (by assumption) | exact Mine.lim0 (by assumption) | exact Mine.lim2 (by assumption) | exact Mine.lim3 (by assumption) | exact Mine.lme (by assumption) | exact Mine.lml (by assumption) | exact Mine.lll (by assumption) | decide | lia))
  | (x, some U) :: l, b, h => by
    have := h _ (.head _) U rfl
    rw [List.cons_append, rowsFault, this]
    dsimp only
    rw [rows_pass rest l _ (fun r hr => h r (.tail _ hr)), rowsLen]
    congr 1
    show b + x.length + 1 + rowsLen l = b + (x.length + 1 + rowsLen l)
    ((first | with_reducible assumption | exact Mine.lim (by assumption) | exact Mine.lim0 (by assumption) | exact Mine.lim2 (by assumption) | exact Mine.lim3 (by assumption) | exact Mine.lme (by assumption) | exact Mine.lml (by assumption) | exact Mine.lll (by assumption) | decide | lia))
noncomputable def rowsOf (r : Nat) (x : Str) (U : RTm) : List (Str × Option RTm) := aheadR.take r ++ [(x, some U), ("q: (k b) -> b", some Uq)]
theorem rows_facts {x : Str} {U : RTm} (h : RuleText x U) (r : Nat) {whole : Str} (hw : Txt.join "\n" ((rowsOf r x U).map (·.1)) = whole) :
    Txt.split whole "\n" = (rowsOf r x U).map (·.1) ∧ (∀ q ∈ rowsOf r x U, RowOk q) ∧ (U.fault = none → rowsFault 0 (rowsOf r x U) = none) ∧
      ∀ i u p, U.fault = some i → (lexL 0 x.cps.toList)[i]? = some (u, p) → rowsFault 0 (rowsOf r x U) = some (rowsLen (aheadR.take r) + p) := by
  have hA : ∀ q ∈ aheadR.take r, RowOk q ∧ (∀ U, q.2 = some U → U.fault = none) ∧ 10 ∉ q.1.cps.toList := fun q hq => ahead_ok q (List.mem_of_mem_take hq)
  have hF : ∀ b, rowsFault b (rowsOf r x U) = rowsFault (b + rowsLen (aheadR.take r)) [(x, some U), ("q: (k b) -> b", some Uq)] := fun b => rows_pass _ _ b fun q hq => (hA q hq).2.1
  refine ⟨?_, fun q hq => ?_, fun q => ?_, fun i u p q e => ?_⟩
  · rw [← hw]
    have e10 : ("\n" : Str) = ⟨#[10]⟩ := by decide +kernel
    rw [show Txt.join "\n" ((rowsOf r x U).map (·.1)) = Str.join "\n" ((rowsOf r x U).map (·.1)) from eq_of_beq (join_plain_closes _ _), e10]
    refine split_join (fun q => by (have := congrArg List.length q; simp [rowsOf] at this)) fun p hp => ?_
    obtain ⟨q, hq, rfl⟩ := List.mem_map.mp hp
    rcases List.mem_append.mp hq with hq | hq
    · exact (hA q hq).2.2
    · rcases List.mem_cons.mp hq with rfl | hq
      · exact fun z => absurd (h.abc 10 z) (by decide)
      · rw [List.mem_singleton.mp hq]; decide +kernel
  · rcases List.mem_append.mp hq with hq | hq
    · exact (hA q hq).1
    · rcases List.mem_cons.mp hq with rfl | hq
      · exact row_x h
      · rw [List.mem_singleton.mp hq]; exact row_q
  · rw [hF, rowsFault, q]
    dsimp only
    rw [rowsFault, uq_fault]
    rfl
  · rw [hF, rowsFault, q]
    dsimp only
    rw [e, Nat.zero_add]
    rfl
theorem join_lenC (c : Nat) : ∀ ps : List Str, (Str.join ⟨#[c]⟩ ps).length ≤ (ps.map (·.length)).sum + ps.length
  | [] => Nat.zero_le _
  | [a] => by
    show a.length ≤ a.length + 0 + 1
    ((first | with_reducible assumption | exact Mine.lim (by assumption) | exact Mine.lim0 (by assumption) | exact Mine.lim2 (by assumption) | exact Mine.lim3 (by assumption) | exact Mine.lme (by assumption) | exact Mine.lml (by assumption) | exact Mine.lll (by assumption) | decide | lia))
  | a :: b :: r => by
    have := join_lenC c (b :: r)
    show (a ++ ⟨#[c]⟩ ++ Str.join ⟨#[c]⟩ (b :: r) : Str).length ≤ a.length + ((b :: r).map (·.length)).sum + ((b :: r).length + 1)
    rw [app_len, app_len, show (⟨#[c]⟩ : Str).length = 1 from rfl]
    ((first | with_reducible assumption | exact Mine.lim (by assumption) | exact Mine.lim0 (by assumption) | exact Mine.lim2 (by assumption) | exact Mine.lim3 (by assumption) | exact Mine.lme (by assumption) | exact Mine.lml (by assumption) | exact Mine.lll (by assumption) | decide | lia))
theorem joinN_len (ps : List Str) : (Txt.join "\n" ps).length ≤ (ps.map (·.length)).sum + ps.length := by
  have e10 : ("\n" : Str) = ⟨#[10]⟩ := by decide +kernel
  rw [show Txt.join "\n" ps = Str.join "\n" ps from eq_of_beq (join_plain_closes _ _), e10]
  exact join_lenC 10 ps
end Mine
end
-- L0
section
namespace Mine
open PySem PySem.W PySem.Calls PyProof.Rows
set_option maxHeartbeats 1000000
theorem feed_inH {w : World} {A : Around} {base g h : Heap} {env : Env} {outer : List Env} {L fa cl : Addr} {o : Obj} {rest : List (Addr × Obj)} {t2 t3 : Tok} {tn n : Nat} {bl : Int} (B : Below A base outer g) (hf : env.frame = some L) (N : News g L h ((fa, o) :: rest)) (hd' : o.IsDictOf (PySem.strKind PR w) (feedKv cl t2 t3 tn bl)) (htn : tn ≤ n) (c : CellsAt h cl) : FeedAt w base (env :: outer) h fa cl n :=
  ⟨⟨o, t2, t3, tn, bl, mut_in B hf N (.head _), hd', htn⟩, c⟩
theorem made {w : World} {g h : Heap} {L fa cl a : Addr} {m : Str → Option Value} {o : Obj} {ysc : List Value} {v : Value} {x : Str} {t : Tok} {kvs : List (Str × Value)} (F : Fr g L h m) (N : News g L h [(fa, o), (cl, LCg.lst ysc)]) (hd : o.IsDictOf (PySem.strKind PR w) kvs) (hcf : cl ≠ fa) (ea : h.get? a = some (tupObj [v, .str x t])) (qa : a ≠ L ∧ g.get? a = none) :
    ∃ sn : List (Addr × Obj), News g L h ((fa, o) :: (cl, LCg.lst ysc) :: (a, tupObj [v, .str x t]) :: sn) ∧ (∀ p ∈ (cl, LCg.lst ysc) :: (a, tupObj [v, .str x t]) :: sn, p.1 ≠ fa) ∧
      ∀ h' : Heap, (∀ b o, g.get? b = some o → h'.get? b = some o) → (∀ p ∈ sn, h'.get? p.1 = some p.2) → KeepT h h' := by
  refine ⟨snapOf g h, news_cons (N.get (.head _)) (N _ (.head _)).2 (news_cons (N.get (.tail _ (.head _))) (N _ (.tail _ (.head _))).2 (news_cons ea qa (snap F news_nil))), ?_, fun h' kg kt => snap_keep kg F.keep kt⟩
  refine List.forall_mem_cons.mpr ⟨hcf, List.forall_mem_cons.mpr ⟨ne_feed ea (N.get (.head _)) hd ⟨_, _, rfl⟩, fun p hp => ?_⟩⟩
  exact ne_feed (mem_snap.mp hp).1 (N.get (.head _)) hd (mem_snap.mp hp).2.1.2
noncomputable def KeepS (h h' : Heap) : Prop := ∀ b o, h.get? b = some o → (∃ vs n, o.data = .seq vs n) → h'.get? b = some o
theorem reads_keepS {h h' : Heap} (k : KeepS h h') {v : Value} {d : PyData} {as : List Addr} (r : Reads h v d as) (q : d.canLay0 = true) : Reads h' v d as := reads_keep (Z := True) (fun b o e t => k b o e t.2) (fun _ => k) r (.inr ⟨trivial, q⟩)
theorem full_keepS {g h h' : Heap} {L : Addr} {m : Str → Option Value} (F : Fr g L h m) (kg : ∀ b o, g.get? b = some o → h'.get? b = some o) (N : ∀ p ∈ fullOf g L h, h'.get? p.1 = some p.2) : KeepS h h' := fun b o e ⟨vs, n, hs⟩ => by
  cases q : g.get? b with
  | some o' =>
    have := F.keep b o' q
    rw [e] at this
    cases this
    exact kg b _ q
  | none => exact N (b, o) (mem_full.mpr ⟨e, fr_neL F e fun es n z => (by rw [hs] at z; cases z), q⟩)
section
variable {prog : Program} {w : World} {A : Around} {E : Value → Shared → Prop} {s : Shared} {a b : Value} {d : PyData} {as bs : List Addr} {Q : Value → Shared → Prop} {n : Nat}
theorem ne_same (ra : Reads s.heap a d as) (rb : Reads s.heap b d bs) (hl : Lay d n) (hu : A.units + n < cLine) (h : Q (.bool false) s) : wpAny (model prog w) A (compareOp .NotEq a b) Q E s := by
  refine SeqAt.compareNe_reads ra rb hl.1 hl.1 (by have := hl.2; ((first | with_reducible assumption | exact Mine.lim (by assumption) | exact Mine.lim0 (by assumption) | exact Mine.lim2 (by assumption) | exact Mine.lim3 (by assumption) | exact Mine.lme (by assumption) | exact Mine.lml (by assumption) | exact Mine.lll (by assumption) | decide | lia))) ?_
  rw [SeqAt.eqv_refl d hl.1]
  exact h
theorem eq_same (ra : Reads s.heap a d as) (rb : Reads s.heap b d bs) (hl : Lay d n) (hu : A.units + n < cLine) (h : Q (.bool true) s) : wpAny (model prog w) A (compareOp .Eq a b) Q E s := by
  refine SeqAt.compareEq_reads ra rb hl.1 hl.1 (by have := hl.2; ((first | with_reducible assumption | exact Mine.lim (by assumption) | exact Mine.lim0 (by assumption) | exact Mine.lim2 (by assumption) | exact Mine.lim3 (by assumption) | exact Mine.lme (by assumption) | exact Mine.lml (by assumption) | exact Mine.lll (by assumption) | decide | lia))) ?_
  rw [SeqAt.eqv_refl d hl.1]
  exact h
end
theorem ok_refused : PyData.strOk "refused" = true := by decide +kernel
theorem ok_read : PyData.strOk "read" = true := by decide +kernel
theorem lay_refused (p : Int) : Lay (.tuple [.str "refused", .int p]) 10 := ⟨by show (PyData.strOk "refused" && true) = true; rw [ok_refused]; rfl, by show max 0 (max 0 0) + 1 ≤ 10; decide⟩
theorem lay_read1 {d : PyData} (h : Lay d 63) : Lay (.tuple [.str "read", .list [d]]) 65 := by
  obtain ⟨a, b⟩ := h
  constructor
  · show (PyData.strOk "read" && ((d.canLay0 && true) && true)) = true
    rw [ok_read, a]; rfl
  · show max 0 (max (max d.depth 0 + 1) 0) + 1 ≤ 65
    ((first | with_reducible assumption | exact Mine.lim (by assumption) | exact Mine.lim0 (by assumption) | exact Mine.lim2 (by assumption) | exact Mine.lim3 (by assumption) | exact Mine.lme (by assumption) | exact Mine.lml (by assumption) | exact Mine.lll (by assumption) | decide | lia))
theorem lay_read2 {d e : PyData} (h : Lay d 63) (h2 : Lay e 63) : Lay (.tuple [.str "read", .list [d, e]]) 65 := by
  obtain ⟨a, b⟩ := h
  obtain ⟨a2, b2⟩ := h2
  constructor
  · show (PyData.strOk "read" && ((d.canLay0 && (e.canLay0 && true)) && true)) = true
    rw [ok_read, a, a2]; rfl
  · show max 0 (max (max d.depth (max e.depth 0) + 1) 0) + 1 ≤ 65
    ((first | with_reducible assumption | exact Mine.lim (by assumption) | exact Mine.lim0 (by assumption) | exact Mine.lim2 (by assumption) | exact Mine.lim3 (by assumption) | exact Mine.lme (by assumption) | exact Mine.lml (by assumption) | exact Mine.lll (by assumption) | decide | lia))
theorem lay_read3 {d e f : PyData} (h : Lay d 63) (h2 : Lay e 63) (h3 : Lay f 63) : Lay (.tuple [.str "read", .list [d, e, f]]) 65 := by
  obtain ⟨a, b⟩ := h
  obtain ⟨a2, b2⟩ := h2
  obtain ⟨a3, b3⟩ := h3
  constructor
  · show (PyData.strOk "read" && ((d.canLay0 && (e.canLay0 && (f.canLay0 && true))) && true)) = true
    rw [ok_read, a, a2, a3]; rfl
  · show max 0 (max (max d.depth (max e.depth (max f.depth 0)) + 1) 0) + 1 ≤ 65
    ((first | with_reducible assumption | exact Mine.lim (by assumption) | exact Mine.lim0 (by assumption) | exact Mine.lim2 (by assumption) | exact Mine.lim3 (by assumption) | exact Mine.lme (by assumption) | exact Mine.lml (by assumption) | exact Mine.lll (by assumption) | decide | lia))
theorem told_back {A : Around} {base g h h' : Heap} {L : Addr} {m : Str → Option Value} {news : List (Addr × Obj)} {p1 p2 p3 : Addr × Obj} (F : Fr g L h m) (B : Below A base [] g) (sl : Slotty [] [L] h h') (N : News g L h news) (e1 : p1 ∈ news) (e2 : p2 ∈ news) (e3 : p3 ∈ news) :
    ∃ g' fl, Fr g' L h' m ∧ Below A base [] g' ∧ News g' L h' (p1 :: p2 :: p3 :: fl) ∧ KeepS h h' ∧ ∀ h'' : Heap, (∀ b o, g'.get? b = some o → h''.get? b = some o) → (∀ p ∈ fl, h''.get? p.1 = some p.2) → KeepS h' h'' := by
  obtain ⟨F9, B9, S9⟩ := refit F B sl (fun a ha => nomatch ha)
  have N9 := refit_news (outer := []) B sl N (fun p _ q => nomatch q)
  refine ⟨retake g h', fullOf (retake g h') L h', F9, B9, ?_, ?_, fun h'' kg kt => full_keepS F9 kg kt⟩
  · intro p hp
    rcases List.mem_cons.mp hp with rfl | hp
    · exact N9 _ e1
    · rcases List.mem_cons.mp hp with rfl | hp
      · exact N9 _ e2
      · rcases List.mem_cons.mp hp with rfl | hp
        · exact N9 _ e3
        · exact news_full p hp
  · intro b o e ⟨vs, n, hs⟩
    refine sl.keep b o e List.not_mem_nil fun q => ?_
    exact fr_neL F e (fun es n z => by rw [hs] at z; cases z) (List.mem_singleton.mp q)
theorem law_end {s₀ s₁ s' : Shared} {L : Addr} {m : Str → Option Value} {ns : List Int} (F : Fr s₁.heap L s'.heap m) (hg : s'.gens = #[]) (hos : s'.os = s₁.os) :
    GoodW PySem.Challenge.rw_pq0120_01.row.claim (classAt s₀.heap) (ExcName.means s₀.heap) [ofPy (PyData.list (List.map PyData.int ns))] s₁ (Except.ok (Flow.ret (Value.bool true))) s' := by
  refine goodW_bool F hg (raisesW_false ?_) ?_ hos
  · wrow_none_raised
  · wrow_post
theorem mul_sp (k : Int) : (Txt.mul " " k).length = k.toNat := by
  have := len_mul_k1 (x := " ") (n := k) (by decide +kernel)
  split at this <;> ((first | with_reducible assumption | exact Mine.lim (by assumption) | exact Mine.lim0 (by assumption) | exact Mine.lim2 (by assumption) | exact Mine.lim3 (by assumption) | exact Mine.lme (by assumption) | exact Mine.lml (by assumption) | exact Mine.lll (by assumption) | decide | lia))
noncomputable def beyV (x : Str) : Int := match beyondL 0 0 x.cps.toList with | some p => (p : Int) | none => -1
section
variable {w : World} {mean : ExcName → Option Value} {mg mb : Str → Option Value} {base : Heap} {outer : List Env} {dep un : Nat} {gd : Option (List Code)} {s : Shared} {R : Result → Shared → Prop}
theorem beyond_specV {x : Str} {t : Tok} (C : Cx w mean mg mb base outer (Ar dep un gd outer) s.heap) (hdep : dep + 10 < recursionLimit) (hx : x.length ≤ 100000) (hex : ∀ p, beyondL 0 0 x.cps.toList = some p → p < x.length)
    (hk : ∀ h' t tk, Upto [] s.heap h' → R (.ok (.ret (.int (beyV x) t))) { s with heap := h', toks := tk }) :
    codeAny (model PR w) (Ar dep un gd outer) (.call (.ref 304) ⟨[.str x t], []⟩) R s := beyond_spec C hdep hx hex fun h' t tk u => hk h' t tk u
end
section
variable {prog : Program} {w : World} {A : Around} {E : Value → Shared → Prop} {s : Shared} {h₀ : Heap} {L l : Addr} {m : Str → Option Value} {news : List (Addr × Obj)} {value slice : PySem.Expr} {its : Array Value} {zs : List Value} {vl vu : Value} {lo hi : Option Int} {ops : List Value} {Q : Value → Shared → Prop}
theorem slice_tmp (F : Fr h₀ L s.heap m) (N : News h₀ L s.heap news) (hl : s.heap.IsList l its) (pl : IsPart vl lo) (pu : IsPart vu hi) (e : kms_pick its.toList lo hi = zs)
    (h : ∀ D h', Fr h₀ L h' m → News h₀ L h' ((D, PySem.W.listOf zs.toArray 0) :: news) → (∀ p ∈ news, p.1 < D) → Q (.ref D) { s with heap := h' })
    (hs : subscripted slice false (.ref l) (.ref s.heap.objs.size) = operate ops (getItem (.ref l) (.ref s.heap.objs.size))) (hz : its.size ≤ sizeLine) :
    wpAny (model prog w) A (subscriptTail value slice (.ref l) (.ref s.heap.objs.size)) Q E { s with heap := s.heap.push { cls := .type "slice", data := .fields #[vl, vu, .none] } } := by
  subst e
  refine tail_any (Heap.IsList.typeIs (s := { s with heap := s.heap.push { cls := .type "slice", data := .fields #[vl, vu, .none] } }) (hl.push _)) list_getitem_lookup
    (wpAny_getItem_list_slice (hl.push _) (Heap.IsSliceOf.new ..) pl pu .none (by decide) ?_ hz) hs
  have N1 := News.push (F.push { cls := .type "slice", data := .fields #[vl, vu, .none] }) (N.grown fun _ _ e => Heap.get?_push_of_some _ e) { cls := .type "list", data := .seq (slicePick its lo hi none) }
  rw [Heap.size_push] at N1
  rw [kms_pick_eq] at N1
  show Q (.ref (s.heap.push _).objs.size) _
  rw [Heap.size_push]
  rw [kms_pick_eq]
  exact h _ _ ((F.push _).push _) N1 fun p hp => Nat.lt_succ_of_lt (Heap.lt_size (N p hp).1)
end
end Mine
end
-- L0b
section
namespace Mine
open PySem PySem.W PySem.Calls PyProof.Rows
set_option maxHeartbeats 1000000
noncomputable def ToldSpec (w : World) (r : Int) (x : Str) (d : PyData) : Prop :=
  ∀ {mean : ExcName → Option Value} {mg mb : Str → Option Value} {base : Heap} {outer : List Env} {dep un : Nat} {gd : Option (List Code)} {s : Shared} {R : Result → Shared → Prop} {t tf : Tok},
    Cx w mean mg mb base outer (Ar dep un gd outer) s.heap → dep + 600 < recursionLimit → un + 4000 < cLine →
    (∀ h' v tk as, Slotty [] (outer.filterMap (·.frame)) s.heap h' → Reads h' v d as → R (.ok (.ret v)) { s with heap := h', toks := tk }) →
    codeAny (model PR w) (Ar dep un gd outer) (.call (.ref 316) ⟨[.int r tf, .str x t], []⟩) R s
noncomputable def readD (ds : List PyData) : PyData := .tuple [.str "read", .list ds]
noncomputable def refD (p : Int) : PyData := .tuple [.str "refused", .int p]
noncomputable def Due (ds : List PyData) (b : Int) (m : Int) (d : PyData) : Prop := (b < 0 ∧ d = readD ds) ∨ (0 ≤ b ∧ d = refD (m + b))
theorem Due.cast {ds : List PyData} {b m m' : Int} {d : PyData} (h : Due ds b m d) (e : m' = m) : Due ds b m' d := e ▸ h
variable {w : World}
theorem Placed.lt {x : Str} {f : Option Nat} (h : Placed x f) {p : Nat} (hp : beyondL 0 0 x.cps.toList = some p) : p < x.length := by
  cases q : f with
  | none => rw [h.1 q] at hp; cases hp
  | some i =>
    obtain ⟨_, _, _, e1, e2⟩ := h.2 i q
    rw [e1] at hp
    cases hp
    exact e2
theorem lay_ref (p : Int) : Lay (.tuple [.str "refused", .int p]) 65 := ⟨(lay_refused p).1, Nat.le_trans (lay_refused p).2 (by decide)⟩
theorem tm_ref {h : Heap} {v : Value} {T : Tm} (r : Reads h v T.dat []) : ∃ a, v = .ref a := by
  cases T with
  | node op ks =>
    obtain ⟨a, _, _, h, _⟩ := tm_tup r
    exact ⟨a, h⟩
theorem rules_items {P : Params} {h : Heap} {F : Addr → Prop} : ∀ {vs : List Value} {Us : List RTm}, RulesAt P h F vs Us → Items P h F vs (Us.map RTm.dat)
  | _, _, .nil => .nil
  | _, _, .cons r a b k => .cons (.inst _ _ _ r a b) (rules_items k)
section
variable {mean : ExcName → Option Value} {mg mb : Str → Option Value} {base : Heap} {dep un : Nat}
theorem read0 {x : Str} {T : Tm} (h : TextOf x T 50) (hdep : dep + 500 < recursionLimit) (hu : un + 3800 < cLine) :
    ReadSpec w mean mg mb base dep un 0 x (fun ds => T.fault 0 = none ∧ ds = [T.dat]) (fun q => ∃ i u p, T.fault 0 = some i ∧ (lexL 0 x.cps.toList)[i]? = some (u, p) ∧ q = (p : Int)) := fun outer gd s R t a ha C hk1 hk2 => by
  subst ha
  have hl := h.len
  have hnl := h.tmOk.nest
  refine read_term_spec (Te := T) C (by ((first | with_reducible assumption | exact Mine.lim (by assumption) | exact Mine.lim0 (by assumption) | exact Mine.lim2 (by assumption) | exact Mine.lim3 (by assumption) | exact Mine.lme (by assumption) | exact Mine.lml (by assumption) | exact Mine.lll (by assumption) | decide | lia))) (by ((first | with_reducible assumption | exact Mine.lim (by assumption) | exact Mine.lim0 (by assumption) | exact Mine.lim2 (by assumption) | exact Mine.lim3 (by assumption) | exact Mine.lme (by assumption) | exact Mine.lml (by assumption) | exact Mine.lll (by assumption) | decide | lia))) (by ((first | with_reducible assumption | exact Mine.lim (by assumption) | exact Mine.lim0 (by assumption) | exact Mine.lim2 (by assumption) | exact Mine.lim3 (by assumption) | exact Mine.lme (by assumption) | exact Mine.lml (by assumption) | exact Mine.lll (by assumption) | decide | lia))) (abc_hok h.abc) h.words (fun o ho => (h.tmOk.ops o ho).word) (fun hf h3 tk3 v u3 e3 => ?_) fun i u p hf hp h3 tk3 e y => hk2 _ _ _ _ _ ⟨i, u, p, hf, hp, rfl⟩ y.toC
  obtain ⟨a, rfl⟩ := tm_ref e3
  exact hk1 _ _ _ _ u3 (.one _ _ (.tup a T e3)) ⟨hf, rfl⟩
theorem read1 {x : Str} {U : RTm} (h : RuleText x U) (hdep : dep + 500 < recursionLimit) (hu : un + 3800 < cLine) :
    ReadSpec w mean mg mb base dep un 1 x (fun ds => U.fault = none ∧ ds = [U.dat]) (fun q => ∃ i u p, U.fault = some i ∧ (lexL 0 x.cps.toList)[i]? = some (u, p) ∧ q = (p : Int)) := fun outer gd s R t a ha C hk1 hk2 => by
  subst ha
  have hl := h.len
  exact read_rule_spec (U := U) C (by ((first | with_reducible assumption | exact Mine.lim (by assumption) | exact Mine.lim0 (by assumption) | exact Mine.lim2 (by assumption) | exact Mine.lim3 (by assumption) | exact Mine.lme (by assumption) | exact Mine.lml (by assumption) | exact Mine.lll (by assumption) | decide | lia))) (by ((first | with_reducible assumption | exact Mine.lim (by assumption) | exact Mine.lim0 (by assumption) | exact Mine.lim2 (by assumption) | exact Mine.lim3 (by assumption) | exact Mine.lme (by assumption) | exact Mine.lml (by assumption) | exact Mine.lll (by assumption) | decide | lia))) (by ((first | with_reducible assumption | exact Mine.lim (by assumption) | exact Mine.lim0 (by assumption) | exact Mine.lim2 (by assumption) | exact Mine.lim3 (by assumption) | exact Mine.lme (by assumption) | exact Mine.lml (by assumption) | exact Mine.lll (by assumption) | decide | lia))) (abc_hok h.abc) h.words h.ok (fun hf h3 a da tk3 u3 fa fda r3 => hk1 _ _ _ _ u3 (.one _ _ (.inst a da U r3 fa fda)) ⟨hf, rfl⟩) fun i u p hf hp h3 tk3 e y => hk2 _ _ _ _ _ ⟨i, u, p, hf, hp, rfl⟩ y.toC
theorem read2 {x : Str} {rows : List (Str × Option RTm)} (hx : x.length ≤ 100000) (hsp : Txt.split x "\n" = rows.map (·.1)) (hrow : ∀ r ∈ rows, RowOk r) (hrl : rows.length ≤ 100) (hlr : (rowsRules rows).length ≤ 100) (hdep : dep + 550 < recursionLimit) (hu : un + 3900 < cLine) :
    ReadSpec w mean mg mb base dep un 2 x (fun ds => rowsFault 0 rows = none ∧ ds = (rowsRules rows).map RTm.dat) (fun q => ∃ p, rowsFault 0 rows = some p ∧ q = (p : Int)) := fun outer gd s R t a ha C hk1 hk2 => by
  subst ha
  exact read_rules_spec (rows := rows) C (by ((first | with_reducible assumption | exact Mine.lim (by assumption) | exact Mine.lim0 (by assumption) | exact Mine.lim2 (by assumption) | exact Mine.lim3 (by assumption) | exact Mine.lme (by assumption) | exact Mine.lml (by assumption) | exact Mine.lll (by assumption) | decide | lia))) (by ((first | with_reducible assumption | exact Mine.lim (by assumption) | exact Mine.lim0 (by assumption) | exact Mine.lim2 (by assumption) | exact Mine.lim3 (by assumption) | exact Mine.lme (by assumption) | exact Mine.lml (by assumption) | exact Mine.lll (by assumption) | decide | lia))) hx hsp hrow hrl (fun hf h3 D vs e tk3 u3 hD0 hDg hRu => hk1 _ _ _ _ u3 (.list D vs e _ hDg hD0 (rules_items hRu) (by rw [hRu.len]; exact hlr)) ⟨hf, rfl⟩) fun p hf h3 tk3 e c y => hk2 _ _ _ _ _ ⟨p, hf, rfl⟩ y
theorem read_long {r : Nat} {x : Str} (hr : r < 2) (hdep : dep + 100 < recursionLimit) (hx : 100000 < x.length) (hx2 : x.length ≤ 1000000) :
    ReadSpec w mean mg mb base dep un r x (fun _ => False) (fun q => q = 100000) := fun outer gd s R t a ha C hk1 hk2 => by
  subst ha
  have : r = 0 ∨ r = 1 := by ((first | with_reducible assumption | exact Mine.lim (by assumption) | exact Mine.lim0 (by assumption) | exact Mine.lim2 (by assumption) | exact Mine.lim3 (by assumption) | exact Mine.lme (by assumption) | exact Mine.lml (by assumption) | exact Mine.lll (by assumption) | decide | lia))
  rcases this with rfl | rfl
  · exact read_term_long C hdep hx hx2 fun h3 tk3 e y => hk2 _ _ _ _ _ rfl y.toC
  · exact read_rule_long C hdep hx hx2 fun h3 tk3 e y => hk2 _ _ _ _ _ rfl y.toC
end
theorem told0 {x : Str} {T : Tm} (h : TextOf x T 50) : ∃ d, ToldSpec w 0 x d ∧ Lay d 65 ∧ Due [T.dat] (beyV x) 0 d := by
  have hp := h.placed
  cases q : T.fault 0 with
  | none =>
    refine ⟨_, fun C h1 h2 hk => told_gen (r := 0) C (by ((first | with_reducible assumption | exact Mine.lim (by assumption) | exact Mine.lim0 (by assumption) | exact Mine.lim2 (by assumption) | exact Mine.lim3 (by assumption) | exact Mine.lme (by assumption) | exact Mine.lml (by assumption) | exact Mine.lll (by assumption) | decide | lia))) (by decide) (read0 h (by ((first | with_reducible assumption | exact Mine.lim (by assumption) | exact Mine.lim0 (by assumption) | exact Mine.lim2 (by assumption) | exact Mine.lim3 (by assumption) | exact Mine.lme (by assumption) | exact Mine.lml (by assumption) | exact Mine.lll (by assumption) | decide | lia))) (by ((first | with_reducible assumption | exact Mine.lim (by assumption) | exact Mine.lim0 (by assumption) | exact Mine.lim2 (by assumption) | exact Mine.lim3 (by assumption) | exact Mine.lme (by assumption) | exact Mine.lml (by assumption) | exact Mine.lll (by assumption) | decide | lia)))) (fun ds ok h' v tk as sl rd => hk h' v tk as sl (ok.2 ▸ rd)) (fun p hb => ?_), lay_read1 ⟨(Tm.lay h.tmOk).1, by have := (Tm.lay h.tmOk).2; ((first | with_reducible assumption | exact Mine.lim (by assumption) | exact Mine.lim0 (by assumption) | exact Mine.lim2 (by assumption) | exact Mine.lim3 (by assumption) | exact Mine.lme (by assumption) | exact Mine.lml (by assumption) | exact Mine.lll (by assumption) | decide | lia))⟩, .inl ⟨?_, rfl⟩⟩
    · obtain ⟨_, _, _, e, _⟩ := hb
      rw [q] at e; cases e
    · unfold beyV; rw [hp.1 q]; decide
  | some i =>
    obtain ⟨u, p, e1, e2, _⟩ := hp.2 i q
    refine ⟨_, fun C h1 h2 hk => told_gen (r := 0) C (by ((first | with_reducible assumption | exact Mine.lim (by assumption) | exact Mine.lim0 (by assumption) | exact Mine.lim2 (by assumption) | exact Mine.lim3 (by assumption) | exact Mine.lme (by assumption) | exact Mine.lml (by assumption) | exact Mine.lll (by assumption) | decide | lia))) (by decide) (read0 h (by ((first | with_reducible assumption | exact Mine.lim (by assumption) | exact Mine.lim0 (by assumption) | exact Mine.lim2 (by assumption) | exact Mine.lim3 (by assumption) | exact Mine.lme (by assumption) | exact Mine.lml (by assumption) | exact Mine.lll (by assumption) | decide | lia))) (by ((first | with_reducible assumption | exact Mine.lim (by assumption) | exact Mine.lim0 (by assumption) | exact Mine.lim2 (by assumption) | exact Mine.lim3 (by assumption) | exact Mine.lme (by assumption) | exact Mine.lml (by assumption) | exact Mine.lll (by assumption) | decide | lia)))) (fun ds ok => by rw [q] at ok; cases ok.1) (fun p' hb h' v tk sl rd => ?_), lay_ref (p : Int), .inr ⟨?_, ?_⟩⟩
    · obtain ⟨_, _, _, e, e3, rfl⟩ := hb
      rw [q] at e; cases e
      rw [e1] at e3; cases e3
      exact hk h' v tk [] sl rd
    · unfold beyV; rw [e2]; exact Int.natCast_nonneg p
    · unfold beyV refD; rw [e2, Int.zero_add]
theorem told1 {x : Str} {U : RTm} (h : RuleText x U) : ∃ d, ToldSpec w 1 x d ∧ Lay d 65 ∧ Due [U.dat] (beyV x) 0 d := by
  have hp := h.placed
  cases q : U.fault with
  | none =>
    refine ⟨_, fun C h1 h2 hk => told_gen (r := 1) C (by ((first | with_reducible assumption | exact Mine.lim (by assumption) | exact Mine.lim0 (by assumption) | exact Mine.lim2 (by assumption) | exact Mine.lim3 (by assumption) | exact Mine.lme (by assumption) | exact Mine.lml (by assumption) | exact Mine.lll (by assumption) | decide | lia))) (by decide) (read1 h (by ((first | with_reducible assumption | exact Mine.lim (by assumption) | exact Mine.lim0 (by assumption) | exact Mine.lim2 (by assumption) | exact Mine.lim3 (by assumption) | exact Mine.lme (by assumption) | exact Mine.lml (by assumption) | exact Mine.lll (by assumption) | decide | lia))) (by ((first | with_reducible assumption | exact Mine.lim (by assumption) | exact Mine.lim0 (by assumption) | exact Mine.lim2 (by assumption) | exact Mine.lim3 (by assumption) | exact Mine.lme (by assumption) | exact Mine.lml (by assumption) | exact Mine.lll (by assumption) | decide | lia)))) (fun ds ok h' v tk as sl rd => hk h' v tk as sl (ok.2 ▸ rd)) (fun p hb => ?_), lay_read1 (RTm.lay h.ok), .inl ⟨?_, rfl⟩⟩
    · obtain ⟨_, _, _, e, _⟩ := hb
      rw [q] at e; cases e
    · unfold beyV; rw [hp.1 q]; decide
  | some i =>
    obtain ⟨u, p, e1, e2, _⟩ := hp.2 i q
    refine ⟨_, fun C h1 h2 hk => told_gen (r := 1) C (by ((first | with_reducible assumption | exact Mine.lim (by assumption) | exact Mine.lim0 (by assumption) | exact Mine.lim2 (by assumption) | exact Mine.lim3 (by assumption) | exact Mine.lme (by assumption) | exact Mine.lml (by assumption) | exact Mine.lll (by assumption) | decide | lia))) (by decide) (read1 h (by ((first | with_reducible assumption | exact Mine.lim (by assumption) | exact Mine.lim0 (by assumption) | exact Mine.lim2 (by assumption) | exact Mine.lim3 (by assumption) | exact Mine.lme (by assumption) | exact Mine.lml (by assumption) | exact Mine.lll (by assumption) | decide | lia))) (by ((first | with_reducible assumption | exact Mine.lim (by assumption) | exact Mine.lim0 (by assumption) | exact Mine.lim2 (by assumption) | exact Mine.lim3 (by assumption) | exact Mine.lme (by assumption) | exact Mine.lml (by assumption) | exact Mine.lll (by assumption) | decide | lia)))) (fun ds ok => by rw [q] at ok; cases ok.1) (fun p' hb h' v tk sl rd => ?_), lay_ref (p : Int), .inr ⟨?_, ?_⟩⟩
    · obtain ⟨_, _, _, e, e3, rfl⟩ := hb
      rw [q] at e; cases e
      rw [e1] at e3; cases e3
      exact hk h' v tk [] sl rd
    · unfold beyV; rw [e2]; exact Int.natCast_nonneg p
    · unfold beyV refD; rw [e2, Int.zero_add]
theorem told2 {x whole : Str} {U : RTm} (h : RuleText x U) (r : Nat) (hr : r < 5) (hw : Txt.join "\n" ((rowsOf r x U).map (·.1)) = whole) (hwl : whole.length ≤ 100000) :
    ∃ d, ToldSpec w 2 whole d ∧ Lay d 65 ∧ Due (((rowsRules (rowsOf r x U)).map RTm.dat)) (beyV x) (rowsLen (aheadR.take r) : Nat) d := by
  have hRF := rows_facts h r hw
  have hp := h.placed
  have hc : rowsRules (rowsOf r x U) = [U, Uq] ∨ rowsRules (rowsOf r x U) = [Up, U, Uq] := by
    have : r = 0 ∨ r = 1 ∨ r = 2 ∨ r = 3 ∨ r = 4 := by ((first | with_reducible assumption | exact Mine.lim (by assumption) | exact Mine.lim0 (by assumption) | exact Mine.lim2 (by assumption) | exact Mine.lim3 (by assumption) | exact Mine.lme (by assumption) | exact Mine.lml (by assumption) | exact Mine.lll (by assumption) | decide | lia))
    rcases this with rfl | rfl | rfl | rfl | rfl
    · exact .inl rfl
    · exact .inl rfl
    · exact .inl rfl
    · exact .inr rfl
    · exact .inr rfl
  have hn : (rowsOf r x U).length ≤ 100 := by
    unfold rowsOf
    rw [List.length_append, List.length_take]
    simp only [List.length_cons, List.length_nil]
    ((first | with_reducible assumption | exact Mine.lim (by assumption) | exact Mine.lim0 (by assumption) | exact Mine.lim2 (by assumption) | exact Mine.lim3 (by assumption) | exact Mine.lme (by assumption) | exact Mine.lml (by assumption) | exact Mine.lll (by assumption) | decide | lia))
  have hlr : (rowsRules (rowsOf r x U)).length ≤ 100 := by
    rcases hc with hc | hc
    · rw [hc]; show 2 ≤ 100; decide
    · rw [hc]; show 3 ≤ 100; decide
  have hL : Lay (readD ((rowsRules (rowsOf r x U)).map RTm.dat)) 65 := by
    rcases hc with hc | hc
    · rw [hc]; exact lay_read2 (RTm.lay h.ok) (RTm.lay uq_ok)
    · rw [hc]; exact lay_read3 (RTm.lay up_ok) (RTm.lay h.ok) (RTm.lay uq_ok)
  cases q : U.fault with
  | none =>
    refine ⟨_, fun C h1 h2 hk => told_gen (r := 2) C (by ((first | with_reducible assumption | exact Mine.lim (by assumption) | exact Mine.lim0 (by assumption) | exact Mine.lim2 (by assumption) | exact Mine.lim3 (by assumption) | exact Mine.lme (by assumption) | exact Mine.lml (by assumption) | exact Mine.lll (by assumption) | decide | lia))) (by decide) (read2 hwl hRF.1 hRF.2.1 hn hlr (by ((first | with_reducible assumption | exact Mine.lim (by assumption) | exact Mine.lim0 (by assumption) | exact Mine.lim2 (by assumption) | exact Mine.lim3 (by assumption) | exact Mine.lme (by assumption) | exact Mine.lml (by assumption) | exact Mine.lll (by assumption) | decide | lia))) (by ((first | with_reducible assumption | exact Mine.lim (by assumption) | exact Mine.lim0 (by assumption) | exact Mine.lim2 (by assumption) | exact Mine.lim3 (by assumption) | exact Mine.lme (by assumption) | exact Mine.lml (by assumption) | exact Mine.lll (by assumption) | decide | lia)))) (fun ds ok h' v tk as sl rd => hk h' v tk as sl (ok.2 ▸ rd)) (fun p hb => ?_), hL, .inl ⟨?_, rfl⟩⟩
    · obtain ⟨_, e, _⟩ := hb
      rw [hRF.2.2.1 q] at e; cases e
    · unfold beyV; rw [hp.1 q]; decide
  | some i =>
    obtain ⟨u, p, e1, e2, _⟩ := hp.2 i q
    have hF := hRF.2.2.2 i u p q e1
    have hb : beyV x = (p : Int) := by unfold beyV; rw [e2]
    refine ⟨refD ((rowsLen (aheadR.take r) + p : Nat) : Int), fun C h1 h2 hk => told_gen (r := 2) C (by ((first | with_reducible assumption | exact Mine.lim (by assumption) | exact Mine.lim0 (by assumption) | exact Mine.lim2 (by assumption) | exact Mine.lim3 (by assumption) | exact Mine.lme (by assumption) | exact Mine.lml (by assumption) | exact Mine.lll (by assumption) | decide | lia))) (by decide) (read2 hwl hRF.1 hRF.2.1 hn hlr (by ((first | with_reducible assumption | exact Mine.lim (by assumption) | exact Mine.lim0 (by assumption) | exact Mine.lim2 (by assumption) | exact Mine.lim3 (by assumption) | exact Mine.lme (by assumption) | exact Mine.lml (by assumption) | exact Mine.lll (by assumption) | decide | lia))) (by ((first | with_reducible assumption | exact Mine.lim (by assumption) | exact Mine.lim0 (by assumption) | exact Mine.lim2 (by assumption) | exact Mine.lim3 (by assumption) | exact Mine.lme (by assumption) | exact Mine.lml (by assumption) | exact Mine.lll (by assumption) | decide | lia)))) (fun ds ok => by rw [hF] at ok; cases ok.1) (fun p' hb h' v tk sl rd => ?_), lay_ref _, .inr ⟨by rw [hb]; exact Int.natCast_nonneg p, by rw [hb]; rfl⟩⟩
    obtain ⟨_, e, rfl⟩ := hb
    rw [hF] at e; cases e
    exact hk h' v tk [] sl rd
theorem told_long {r : Nat} {x : Str} {t tf : Tok} {mean : ExcName → Option Value} {mg mb : Str → Option Value} {base : Heap} {outer : List Env} {dep un : Nat} {gd : Option (List Code)} {s : Shared} {R : Result → Shared → Prop} (hr : r < 2)
    (C : Cx w mean mg mb base outer (Ar dep un gd outer) s.heap) (hdep : dep + 500 < recursionLimit) (hx : 100000 < x.length) (hx2 : x.length ≤ 1000000)
    (hk2 : ∀ h' v tk, Slotty [] (outer.filterMap (·.frame)) s.heap h' → Reads h' v (refD 100000) [] → R (.ok (.ret v)) { s with heap := h', toks := tk }) :
    codeAny (model PR w) (Ar dep un gd outer) (.call (.ref 316) ⟨[.int (r : Int) tf, .str x t], []⟩) R s :=
  told_gen C (by ((first | with_reducible assumption | exact Mine.lim (by assumption) | exact Mine.lim0 (by assumption) | exact Mine.lim2 (by assumption) | exact Mine.lim3 (by assumption) | exact Mine.lme (by assumption) | exact Mine.lml (by assumption) | exact Mine.lll (by assumption) | decide | lia))) (Nat.lt_succ_of_lt hr) (read_long hr (by ((first | with_reducible assumption | exact Mine.lim (by assumption) | exact Mine.lim0 (by assumption) | exact Mine.lim2 (by assumption) | exact Mine.lim3 (by assumption) | exact Mine.lme (by assumption) | exact Mine.lml (by assumption) | exact Mine.lll (by assumption) | decide | lia))) hx hx2) (fun _ ok => ok.elim) fun p hb h' v tk sl rd => hk2 h' v tk sl (by subst hb; exact rd)
theorem ds2 {U : RTm} (h : Lay U.dat 63) : (PyData.list (List.map RTm.dat [U, Uq])).canLay0 = true := (Bool.and_eq_true_iff.mp (Bool.and_eq_true_iff.mp (lay_read2 h (RTm.lay uq_ok)).1).2).1
theorem ds3 {U : RTm} (h : Lay U.dat 63) : (PyData.list (List.map RTm.dat [Up, U, Uq])).canLay0 = true := (Bool.and_eq_true_iff.mp (Bool.and_eq_true_iff.mp (lay_read3 (RTm.lay up_ok) h (RTm.lay uq_ok)).1).2).1
end Mine
end
-- L1
section
namespace Mine
open PySem PySem.W PySem.Calls PyProof.Rows
set_option maxHeartbeats 40000000
noncomputable abbrev lamap (fa la : Addr) (r : Nat) (x wh : Str) (bv mv : Int) (tr t tw tb tm : Tok) (u : Str → Option Value) : Str → Option Value := fun y => if y = "lots" then some (.ref la) else if y = "many" then some (.int mv tm) else if y = "beyond" then some (.int bv tb) else
  if y = "whole" then some (.str wh tw) else if y = "text" then some (.str x t) else if y = "form" then some (.int r tr) else if y = "feed" then some (.ref fa) else u y
theorem lamap_of {m : Str → Option Value} {fa la : Addr} {r : Nat} {x wh : Str} {bv mv : Int} {tr t tw tb tm : Tok} (h1 : m "lots" = some (.ref la)) (h2 : m "many" = some (.int mv tm)) (h3 : m "beyond" = some (.int bv tb)) (h4 : m "whole" = some (.str wh tw))
    (h5 : m "text" = some (.str x t)) (h6 : m "form" = some (.int r tr)) (h7 : m "feed" = some (.ref fa)) : ∀ y, m y = lamap fa la r x wh bv mv tr t tw tb tm m y := fun y => by
  unfold lamap
  by_cases q1 : y = "lots"
  · rw [if_pos q1, q1]; exact h1
  rw [if_neg q1]
  by_cases q2 : y = "many"
  · rw [if_pos q2, q2]; exact h2
  rw [if_neg q2]
  by_cases q3 : y = "beyond"
  · rw [if_pos q3, q3]; exact h3
  rw [if_neg q3]
  by_cases q4 : y = "whole"
  · rw [if_pos q4, q4]; exact h4
  rw [if_neg q4]
  by_cases q5 : y = "text"
  · rw [if_pos q5, q5]; exact h5
  rw [if_neg q5]
  by_cases q6 : y = "form"
  · rw [if_pos q6, q6]; exact h6
  rw [if_neg q6]
  by_cases q7 : y = "feed"
  · rw [if_pos q7, q7]; exact h7
  rw [if_neg q7]
theorem news_oneL {g h : Heap} {L : Addr} {big l : List (Addr × Obj)} {a : Addr} {o : Obj} (N : News g L h big) (h1 : (a, o) ∈ big) (r : News g L h l) : News g L h ((a, o) :: l) := fun p hp => by
  rcases List.mem_cons.mp hp with rfl | hp
  · exact N _ h1
  · exact r p hp
inductive LA (w : World) (g : Heap) (L fa cl : Addr) (ysc : List Value) (r : Nat) (s : Shared) : Shared → Prop
  | mk (h' : Heap) (tk' : Nat) (la : Addr) (x wh : Str) (bv mv : Int) (tr t tw tb tm : Tok) (u : Str → Option Value) (o : Obj) (t2 t3 : Tok) (tn : Nat) (bl : Int) (lv : List Value) (e : Nat) (ds : List PyData) (d : PyData)
      (F : Fr g L h' (lamap fa la r x wh bv mv tr t tw tb tm u)) (N : News g L h' [(fa, o), (cl, LCg.lst ysc), (la, listOf lv.toArray e)]) (hd : o.IsDictOf (PySem.strKind PR w) (feedKv cl t2 t3 tn bl)) (htn : tn ≤ 3000) (hx : x.length ≤ 5000)
      (hT : ToldSpec w r wh d) (hl : Lay d 65) (hD : Due ds bv mv d) (as : List Addr) (hR : Reads h' (.ref la) (.list ds) as) (hlay : (PyData.list ds).canLay0 = true) : LA w g L fa cl ysc r s ⟨h', s.gens, s.drawn, tk', s.os⟩
noncomputable abbrev lbmap (fa : Addr) (r : Nat) (x : Str) (tr t : Tok) (u : Str → Option Value) : Str → Option Value := fun y => if y = "text" then some (.str x t) else if y = "form" then some (.int r tr) else if y = "feed" then some (.ref fa) else u y
theorem lbmap_of {m : Str → Option Value} {fa : Addr} {r : Nat} {x : Str} {tr t : Tok} (h5 : m "text" = some (.str x t)) (h6 : m "form" = some (.int r tr)) (h7 : m "feed" = some (.ref fa)) : ∀ y, m y = lbmap fa r x tr t m y := fun y => by
  unfold lbmap
  by_cases q5 : y = "text"
  · rw [if_pos q5, q5]; exact h5
  rw [if_neg q5]
  by_cases q6 : y = "form"
  · rw [if_pos q6, q6]; exact h6
  rw [if_neg q6]
  by_cases q7 : y = "feed"
  · rw [if_pos q7, q7]; exact h7
  rw [if_neg q7]
inductive LB (w : World) (A : Around) (base : Heap) (L fa cl : Addr) (ysc : List Value) (r : Nat) (s : Shared) : Shared → Prop
  | mk (g h' : Heap) (tk' : Nat) (x : Str) (tr t : Tok) (u : Str → Option Value) (o : Obj) (t2 t3 : Tok) (tn : Nat) (bl : Int) (B : Below A base [] g)
      (F : Fr g L h' (lbmap fa r x tr t u)) (N : News g L h' [(fa, o), (cl, LCg.lst ysc)]) (hd : o.IsDictOf (PySem.strKind PR w) (feedKv cl t2 t3 tn bl)) (htn : tn ≤ 3000) (hx : x.length ≤ 5000) : LB w A base L fa cl ysc r s ⟨h', s.gens, s.drawn, tk', s.os⟩
inductive SrcOf (r : Nat) (x : Str) (D : PyData) : Prop
  | term (T : Tm) (h0 : r = 0) (h : TextOf x T 50) (e : D = T.dat) : SrcOf r x D
  | rule (U : RTm) (h0 : r ≠ 0) (h : RuleText x U) (e : D = U.dat) : SrcOf r x D
theorem SrcOf.lay {r : Nat} {x : Str} {D : PyData} (S : SrcOf r x D) : Lay D 63 := by
  rcases S with ⟨T, _, h, rfl⟩ | ⟨U, _, h, rfl⟩
  · exact ⟨(Tm.lay h.tmOk).1, by have := (Tm.lay h.tmOk).2; ((first | with_reducible assumption | exact Mine.lim (by assumption) | exact Mine.lim0 (by assumption) | exact Mine.lim2 (by assumption) | exact Mine.lim3 (by assumption) | exact Mine.lme (by assumption) | exact Mine.lml (by assumption) | exact Mine.lll (by assumption) | decide | lia))⟩
  · exact RTm.lay h.ok
theorem SrcOf.lt {r : Nat} {x : Str} {D : PyData} (S : SrcOf r x D) : ∀ p, beyondL 0 0 x.cps.toList = some p → p < x.length := by
  rcases S with ⟨T, _, h, rfl⟩ | ⟨U, _, h, rfl⟩
  · exact fun p hp => h.placed.lt hp
  · exact fun p hp => h.placed.lt hp
theorem SrcOf.len {r : Nat} {x : Str} {D : PyData} (S : SrcOf r x D) : x.length ≤ 5000 := by
  rcases S with ⟨T, _, h, rfl⟩ | ⟨U, _, h, rfl⟩
  · have := h.len; ((first | with_reducible assumption | exact Mine.lim (by assumption) | exact Mine.lim0 (by assumption) | exact Mine.lim2 (by assumption) | exact Mine.lim3 (by assumption) | exact Mine.lme (by assumption) | exact Mine.lml (by assumption) | exact Mine.lll (by assumption) | decide | lia))
  · exact h.len
theorem SrcOf.told {w : World} {r : Nat} {x : Str} {D : PyData} (S : SrcOf r x D) (hr : r < 2) : ∃ d, ToldSpec w r x d ∧ Lay d 65 ∧ Due [D] (beyV x) 0 d := by
  rcases S with ⟨T, rfl, h, rfl⟩ | ⟨U, h0, h, rfl⟩
  · exact told0 h
  · have : r = 1 := by ((first | with_reducible assumption | exact Mine.lim (by assumption) | exact Mine.lim0 (by assumption) | exact Mine.lim2 (by assumption) | exact Mine.lim3 (by assumption) | exact Mine.lme (by assumption) | exact Mine.lml (by assumption) | exact Mine.lll (by assumption) | decide | lia))
    subst this
    exact told1 h
section
variable {w : World} {mean : ExcName → Option Value} {mg mb : Str → Option Value} {base g h : Heap} {outer : List Env} {dep un : Nat} {gd : Option (List Code)} {env : Env} {L fa cl : Addr} {m : Str → Option Value} {o : Obj} {news : List (Addr × Obj)} {n tn tk r : Nat} {t2 t3 : Tok} {bl : Int}
    {gs : Array GenState} {dr : Drawn} {os : OsState} {Q : Value → Shared → Prop} {E : Value → Shared → Prop} {ysc : List Value}
theorem due_chain (hX : (top.heap_1 w.params).In base) (hT : Top top.view_1 (looseW top.view_1 []) mean mg mb base) (B : Below (Ar dep un gd outer) base outer g) (F : Fr g L h m) (N : News g L h [(fa, o), (cl, LCg.lst ysc)]) (hcf : cl ≠ fa)
    (hd' : o.IsDictOf (PySem.strKind PR w) (feedKv cl t2 t3 tn bl)) (htn : tn ≤ 1) (c : CellsAt h cl) (h0 : r = 0) (hf : env.frame = some L) (hs : env.scope.kind = .function) (hdep : dep + 60 < recursionLimit) (hu : un + 500 < cLine)
    (hk : ∀ h' v x t D a tk' o' t2 t3 tn bl sn, Fr g L h' m → News g L h' ((fa, o') :: (cl, LCg.lst ysc) :: (a, tupObj [v, .str x t]) :: sn) → (∀ p ∈ (cl, LCg.lst ysc) :: (a, tupObj [v, .str x t]) :: sn, p.1 ≠ fa) → o'.IsDictOf (PySem.strKind PR w) (feedKv cl t2 t3 tn bl) → tn ≤ 1001 → SrcOf r x D →
      (∀ h'' : Heap, (∀ b o, g.get? b = some o → h''.get? b = some o) → (∀ p ∈ sn, h''.get? p.1 = some p.2) → Reads h'' v D []) → Q (.ref a) ⟨h', gs, dr, tk', os⟩) :
    wpAny (model PR w) ((Ar dep un gd outer).deeper env) (call (.ref 297) [.ref fa] []) Q E ⟨h, gs, dr, tk, os⟩ := by
  refine wpAny_call (chain_spec (s := ⟨h, gs, dr, tk, os⟩) (n := 1) (cx_in hX hT B F hf hs rfl) (show dep + 1 + 20 < _ by ((first | with_reducible assumption | exact Mine.lim (by assumption) | exact Mine.lim0 (by assumption) | exact Mine.lim2 (by assumption) | exact Mine.lim3 (by assumption) | exact Mine.lme (by assumption) | exact Mine.lml (by assumption) | exact Mine.lll (by assumption) | decide | lia))) (show un + 3 + 200 < _ by ((first | with_reducible assumption | exact Mine.lim (by assumption) | exact Mine.lim0 (by assumption) | exact Mine.lim2 (by assumption) | exact Mine.lim3 (by assumption) | exact Mine.lme (by assumption) | exact Mine.lml (by assumption) | exact Mine.lll (by assumption) | decide | lia))) (feed_inH B hf N hd' htn c) (by decide) fun h5 v Te x t a n5 tk5 u5 f5 hn5 hx5 hr5 ea5 fa5 => ?_)
  obtain ⟨F5, o5, t25, t35, tn5, bl5, N5, hd5, htn5⟩ := feed_step F N (fun p hp => by rw [List.mem_singleton.mp hp]; exact hcf) u5 f5
  obtain ⟨sn, N6, hrf, hkp⟩ := made F5 N5 hd5 hcf ea5 (fr_new F fa5)
  have S : SrcOf r x Te.dat := .term Te h0 hx5 rfl
  exact hk _ _ _ _ _ _ _ _ _ _ _ _ sn F5 N6 hrf hd5 (by ((first | with_reducible assumption | exact Mine.lim (by assumption) | exact Mine.lim0 (by assumption) | exact Mine.lim2 (by assumption) | exact Mine.lim3 (by assumption) | exact Mine.lme (by assumption) | exact Mine.lml (by assumption) | exact Mine.lll (by assumption) | decide | lia))) S fun h'' kg kt => reads_keepT (hkp h'' kg kt) hr5
theorem due_rule (hX : (top.heap_1 w.params).In base) (hT : Top top.view_1 (looseW top.view_1 []) mean mg mb base) (B : Below (Ar dep un gd outer) base outer g) (F : Fr g L h m) (N : News g L h [(fa, o), (cl, LCg.lst ysc)]) (hcf : cl ≠ fa)
    (hd' : o.IsDictOf (PySem.strKind PR w) (feedKv cl t2 t3 tn bl)) (htn : tn ≤ 1) (c : CellsAt h cl) (h0 : r ≠ 0) (hf : env.frame = some L) (hs : env.scope.kind = .function) (hdep : dep + 60 < recursionLimit) (hu : un + 500 < cLine)
    (hk : ∀ h' v x t D a tk' o' t2 t3 tn bl sn, Fr g L h' m → News g L h' ((fa, o') :: (cl, LCg.lst ysc) :: (a, tupObj [v, .str x t]) :: sn) → (∀ p ∈ (cl, LCg.lst ysc) :: (a, tupObj [v, .str x t]) :: sn, p.1 ≠ fa) → o'.IsDictOf (PySem.strKind PR w) (feedKv cl t2 t3 tn bl) → tn ≤ 1001 → SrcOf r x D →
      (∀ h'' : Heap, (∀ b o, g.get? b = some o → h''.get? b = some o) → (∀ p ∈ sn, h''.get? p.1 = some p.2) → Reads h'' v D []) → Q (.ref a) ⟨h', gs, dr, tk', os⟩) :
    wpAny (model PR w) ((Ar dep un gd outer).deeper env) (call (.ref 311) [.ref fa] []) Q E ⟨h, gs, dr, tk, os⟩ := by
  refine wpAny_call (lrule_spec (s := ⟨h, gs, dr, tk, os⟩) (n := 1) (cx_in hX hT B F hf hs rfl) (show dep + 1 + 50 < _ by ((first | with_reducible assumption | exact Mine.lim (by assumption) | exact Mine.lim0 (by assumption) | exact Mine.lim2 (by assumption) | exact Mine.lim3 (by assumption) | exact Mine.lme (by assumption) | exact Mine.lml (by assumption) | exact Mine.lll (by assumption) | decide | lia))) (show un + 3 + 400 < _ by ((first | with_reducible assumption | exact Mine.lim (by assumption) | exact Mine.lim0 (by assumption) | exact Mine.lim2 (by assumption) | exact Mine.lim3 (by assumption) | exact Mine.lme (by assumption) | exact Mine.lml (by assumption) | exact Mine.lll (by assumption) | decide | lia))) (feed_inH B hf N hd' htn c) (by decide) fun h5 v U x t a n5 tk5 u5 f5 hn5 hx5 hr5 ea5 fa5 => ?_)
  obtain ⟨F5, o5, t25, t35, tn5, bl5, N5, hd5, htn5⟩ := feed_step F N (fun p hp => by rw [List.mem_singleton.mp hp]; exact hcf) u5 f5
  obtain ⟨sn, N6, hrf, hkp⟩ := made F5 N5 hd5 hcf ea5 (fr_new F fa5)
  have S : SrcOf r x U.dat := .rule U h0 hx5 rfl
  exact hk _ _ _ _ _ _ _ _ _ _ _ _ sn F5 N6 hrf hd5 (by ((first | with_reducible assumption | exact Mine.lim (by assumption) | exact Mine.lim0 (by assumption) | exact Mine.lim2 (by assumption) | exact Mine.lim3 (by assumption) | exact Mine.lme (by assumption) | exact Mine.lml (by assumption) | exact Mine.lll (by assumption) | decide | lia))) S fun h'' kg kt => reads_keepT (hkp h'' kg kt) hr5
theorem beyond_at {x : Str} {t : Tok} {D : PyData} (hX : (top.heap_1 w.params).In base) (hT : Top top.view_1 (looseW top.view_1 []) mean mg mb base) (B : Below (Ar dep un gd outer) base outer g) (F : Fr g L h m) (N : News g L h news) (S : SrcOf r x D) (hf : env.frame = some L) (hs : env.scope.kind = .function) (hdep : dep + 20 < recursionLimit)
    (hk : ∀ h' t tk', Fr g L h' m → News g L h' news → Q (.int (beyV x) t) ⟨h', gs, dr, tk', os⟩) :
    wpAny (model PR w) ((Ar dep un gd outer).deeper env) (call (.ref 304) [.str x t] []) Q E ⟨h, gs, dr, tk, os⟩ :=
  wpAny_call (beyond_specV (s := ⟨h, gs, dr, tk, os⟩) (cx_in hX hT B F hf hs rfl) (show dep + 1 + 10 < _ by ((first | with_reducible assumption | exact Mine.lim (by assumption) | exact Mine.lim0 (by assumption) | exact Mine.lim2 (by assumption) | exact Mine.lim3 (by assumption) | exact Mine.lme (by assumption) | exact Mine.lml (by assumption) | exact Mine.lll (by assumption) | decide | lia))) (by have := S.len; ((first | with_reducible assumption | exact Mine.lim (by assumption) | exact Mine.lim0 (by assumption) | exact Mine.lim2 (by assumption) | exact Mine.lim3 (by assumption) | exact Mine.lme (by assumption) | exact Mine.lml (by assumption) | exact Mine.lll (by assumption) | decide | lia))) S.lt fun h6 t6 tk6 u6 => hk _ _ _ (fr_upto F u6 (fun a ha => nomatch ha)) (news_upto N u6))
end
noncomputable abbrev ldmap (fa : Addr) (v : Value) (r : Nat) (x : Str) (tr t : Tok) (u : Str → Option Value) : Str → Option Value := fun y => if y = "due" then some v else lbmap fa r x tr t u y
theorem ldmap_of {m : Str → Option Value} {fa : Addr} {v : Value} {r : Nat} {x : Str} {tr t : Tok} (h1 : m "due" = some v) (h5 : m "text" = some (.str x t)) (h6 : m "form" = some (.int r tr)) (h7 : m "feed" = some (.ref fa)) : ∀ y, m y = ldmap fa v r x tr t m y := fun y => by
  unfold ldmap
  by_cases q1 : y = "due"
  · rw [if_pos q1, q1]; exact h1
  rw [if_neg q1]
  exact lbmap_of h5 h6 h7 y
inductive LD (w : World) (g : Heap) (L fa cl : Addr) (ysc : List Value) (r : Nat) (s : Shared) : Shared → Prop
  | mk (h' : Heap) (tk' : Nat) (v : Value) (x : Str) (D : PyData) (tr t : Tok) (u : Str → Option Value) (o : Obj) (t2 t3 : Tok) (tn : Nat) (bl : Int) (sn : List (Addr × Obj))
      (F : Fr g L h' (ldmap fa v r x tr t u)) (N : News g L h' ((fa, o) :: (cl, LCg.lst ysc) :: sn)) (hrf : ∀ p ∈ (cl, LCg.lst ysc) :: sn, p.1 ≠ fa) (hd : o.IsDictOf (PySem.strKind PR w) (feedKv cl t2 t3 tn bl)) (htn : tn ≤ 1001) (S : SrcOf r x D)
      (hR : ∀ h'' : Heap, (∀ b o, g.get? b = some o → h''.get? b = some o) → (∀ p ∈ sn, h''.get? p.1 = some p.2) → Reads h'' v D []) : LD w g L fa cl ysc r s ⟨h', s.gens, s.drawn, tk', s.os⟩
noncomputable abbrev lcmap (fa lz ll : Addr) (r : Nat) (x : Str) (bv : Int) (tr t tb : Tok) (u : Str → Option Value) : Str → Option Value := fun y => if y = "ahead" then some (.ref lz) else if y = "lots" then some (.ref ll) else if y = "beyond" then some (.int bv tb) else lbmap fa r x tr t u y
theorem lcmap_of {m : Str → Option Value} {fa lz ll : Addr} {r : Nat} {x : Str} {bv : Int} {tr t tb : Tok} (h1 : m "ahead" = some (.ref lz)) (h2 : m "lots" = some (.ref ll)) (h3 : m "beyond" = some (.int bv tb))
    (h5 : m "text" = some (.str x t)) (h6 : m "form" = some (.int r tr)) (h7 : m "feed" = some (.ref fa)) : ∀ y, m y = lcmap fa lz ll r x bv tr t tb m y := fun y => by
  unfold lcmap
  by_cases q1 : y = "ahead"
  · rw [if_pos q1, q1]; exact h1
  rw [if_neg q1]
  by_cases q2 : y = "lots"
  · rw [if_pos q2, q2]; exact h2
  rw [if_neg q2]
  by_cases q3 : y = "beyond"
  · rw [if_pos q3, q3]; exact h3
  rw [if_neg q3]
  exact lbmap_of h5 h6 h7 y
inductive LR (w : World) (g : Heap) (L fa cl : Addr) (ysc : List Value) (x : Str) (bv : Int) (r k : Nat) (P : List (Addr × Obj) → List Value → Prop) (W : (Str → Option Value) → Prop) (s : Shared) : Shared → Prop
  | mk (h' : Heap) (tk' : Nat) (lz ll : Addr) (y0 y1 y2 y3 : Str) (u0 u1 u2 u3 : Tok) (zs lv : List Value) (e1 e2 : Nat) (tr t tb tm : Tok) (u : Str → Option Value) (o : Obj) (t2 t3 : Tok) (tn : Nat) (bl : Int) (sn : List (Addr × Obj))
      (F : Fr g L h' (lcmap fa lz ll r x bv tr t tb u)) (N : News g L h' ((lz, listOf zs.toArray e1) :: (ll, listOf lv.toArray e2) :: (fa, o) :: (cl, LCg.lst ysc) :: sn))
      (hd : o.IsDictOf (PySem.strKind PR w) (feedKv cl t2 t3 tn bl)) (htn : tn ≤ 3000) (hy : [y0, y1, y2, y3] = aheadR.map (·.1)) (hz : zs = List.take k [.str y0 u0, .str y1 u1, .str y2 u2, .str y3 u3]) (hzl : zs.length = k) (hP : P sn lv) (hW : W u) :
      LR w g L fa cl ysc x bv r k P W s ⟨h', s.gens, s.drawn, tk', s.os⟩
theorem pick_take {a b c d : Value} {k : Nat} (hk : k < 5) : kms_pick [a, b, c, d] none (some (k : Int)) = List.take k [a, b, c, d] := by
  have : k = 0 ∨ k = 1 ∨ k = 2 ∨ k = 3 ∨ k = 4 := by ((first | with_reducible assumption | exact Mine.lim (by assumption) | exact Mine.lim0 (by assumption) | exact Mine.lim2 (by assumption) | exact Mine.lim3 (by assumption) | exact Mine.lme (by assumption) | exact Mine.lml (by assumption) | exact Mine.lll (by assumption) | decide | lia))
  rcases this with rfl | rfl | rfl | rfl | rfl <;> rfl
noncomputable def wholeOf (k : Nat) (x : Str) (U : RTm) : Str := Txt.join "\n" ((rowsOf k x U).map (·.1))
inductive Rows4 (g h : Heap) (L fa lr lq cl : Addr) (o oq oc : Obj) (sn : List (Addr × Obj)) : Prop
  | mk (y0 y1 y2 y3 : Str) (u0 u1 u2 u3 : Tok) (hy : [y0, y1, y2, y3] = aheadR.map (·.1)) (N : News g L h ((fa, o) :: (lr, listOf [.str y0 u0, .str y1 u1, .str y2 u2, .str y3 u3].toArray 0) :: (lq, oq) :: (cl, oc) :: sn))
      (hr : ∀ p ∈ (lr, listOf [.str y0 u0, .str y1 u1, .str y2 u2, .str y3 u3].toArray 0) :: (lq, oq) :: (cl, oc) :: sn, p.1 ≠ fa) : Rows4 g h L fa lr lq cl o oq oc sn
theorem rows4 {g h : Heap} {L fa lr lq cl : Addr} {o oq oc : Obj} {pD : Addr × Obj} {sn : List (Addr × Obj)} {t0 t1 t2 t3 : Tok} {z0 z1 z2 z3 : Str} (N : News g L h ((lr, listOf [.str z0 t0, .str z1 t1, .str z2 t2, .str z3 t3].toArray 0) :: pD :: (lq, oq) :: (fa, o) :: (cl, oc) :: sn))
    (hz : [z0, z1, z2, z3] = aheadR.map (·.1)) (h1 : lr ≠ fa) (h2 : lq ≠ fa) (h3 : ∀ p ∈ (cl, oc) :: sn, p.1 ≠ fa) : Rows4 g h L fa lr lq cl o oq oc sn :=
  .mk _ _ _ _ t0 t1 t2 t3 hz (news_oneL N (.tail _ (.tail _ (.tail _ (.head _)))) (news_oneL N (.head _) (news_oneL N (.tail _ (.tail _ (.head _))) fun p hp => N p (.tail _ (.tail _ (.tail _ (.tail _ hp)))))))
    (List.forall_mem_cons.mpr ⟨h1, List.forall_mem_cons.mpr ⟨h2, h3⟩⟩)
theorem ahead_eq : (["", "; ((((((((((((((((((((((((((((((((((((((((((((((((((", "p: (k a) -> a", "  "] : List Str) = aheadR.map (·.1) := by
  show _ = [("" : Str), "; " ++ Txt.mul "(" 50, "p: (k a) -> a", "  "]
  rw [show ("; " ++ Txt.mul "(" 50 : Str) = "; ((((((((((((((((((((((((((((((((((((((((((((((((((" by decide +kernel]
theorem take_len {a b c d : Value} {k : Nat} (hk : k < 5) : (List.take k [a, b, c, d]).length = k := by
  rw [List.length_take]
  show min k 4 = k
  ((first | with_reducible assumption | exact Mine.lim (by assumption) | exact Mine.lim0 (by assumption) | exact Mine.lim2 (by assumption) | exact Mine.lim3 (by assumption) | exact Mine.lme (by assumption) | exact Mine.lml (by assumption) | exact Mine.lll (by assumption) | decide | lia))
theorem len_mk {prog : Program} {w : World} {A : Around} {E : Value → Shared → Prop} {h : Heap} {gs : Array GenState} {dr : Drawn} {os : OsState} {tk l k : Nat} {vs : List Value} {Q : Value → Shared → Prop} (hl : h.IsList l vs.toArray) (hn : vs.length = k) (hk : k < 1000) (hQ : Q (.int k (tk + 1)) ⟨h, gs, dr, tk + 1 + 1, os⟩) :
    wpAny (model prog w) A (call (.builtin "len") [.ref l]) Q E ⟨h, gs, dr, tk, os⟩ := by
  subst hn
  exact len_list (s := ⟨h, gs, dr, tk, os⟩) hl (by show (vs.length : Int) < _; ((first | with_reducible assumption | exact Mine.lim (by assumption) | exact Mine.lim0 (by assumption) | exact Mine.lim2 (by assumption) | exact Mine.lim3 (by assumption) | exact Mine.lme (by assumption) | exact Mine.lml (by assumption) | exact Mine.lll (by assumption) | decide | lia))) hQ
inductive M01 (c : Int) (k : Nat) (q : Value) : Prop
  | mk (ws : List Value) (x0 : -(2 ^ 63 : Int) ≤ c) (x1 : c < 2 ^ 63) (hz : [q].length * c.toNat ≤ 256) (e : (List.replicate c.toNat [q]).flatten = ws) (hw : (k ≤ 2 ∧ ws = []) ∨ (2 < k ∧ ws = [q])) (hl : ws.length ≤ 1) : M01 c k q
theorem m01 (k : Nat) (q : Value) : M01 (if decide ((2 : Int) < (k : Int)) = true then 1 else 0) k q := by
  by_cases h : 2 < k
  · rw [if_pos (decide_eq_true (by ((first | with_reducible assumption | exact Mine.lim (by assumption) | exact Mine.lim0 (by assumption) | exact Mine.lim2 (by assumption) | exact Mine.lim3 (by assumption) | exact Mine.lme (by assumption) | exact Mine.lml (by assumption) | exact Mine.lll (by assumption) | decide | lia))))]
    exact ⟨[q], by decide, by decide, (show 1 * 1 ≤ 256 by decide), rfl, .inr ⟨h, rfl⟩, (show 1 ≤ 1 by decide)⟩
  · rw [if_neg (by simp; ((first | with_reducible assumption | exact Mine.lim (by assumption) | exact Mine.lim0 (by assumption) | exact Mine.lim2 (by assumption) | exact Mine.lim3 (by assumption) | exact Mine.lme (by assumption) | exact Mine.lml (by assumption) | exact Mine.lll (by assumption) | decide | lia)))]
    exact ⟨[], by decide, by decide, (show 1 * 0 ≤ 256 by decide), rfl, .inl ⟨by ((first | with_reducible assumption | exact Mine.lim (by assumption) | exact Mine.lim0 (by assumption) | exact Mine.lim2 (by assumption) | exact Mine.lim3 (by assumption) | exact Mine.lme (by assumption) | exact Mine.lml (by assumption) | exact Mine.lll (by assumption) | decide | lia)), rfl⟩, (show 0 ≤ 1 by decide)⟩
theorem rows_lo {k : Nat} {x : Str} {U : RTm} (h : k ≤ 2) : rowsRules (rowsOf k x U) = [U, Uq] := by
  have : k = 0 ∨ k = 1 ∨ k = 2 := by ((first | with_reducible assumption | exact Mine.lim (by assumption) | exact Mine.lim0 (by assumption) | exact Mine.lim2 (by assumption) | exact Mine.lim3 (by assumption) | exact Mine.lme (by assumption) | exact Mine.lml (by assumption) | exact Mine.lll (by assumption) | decide | lia))
  rcases this with rfl | rfl | rfl <;> rfl
theorem rows_hi {k : Nat} {x : Str} {U : RTm} (h : 2 < k) (h5 : k < 5) : rowsRules (rowsOf k x U) = [Up, U, Uq] := by
  have : k = 3 ∨ k = 4 := by ((first | with_reducible assumption | exact Mine.lim (by assumption) | exact Mine.lim0 (by assumption) | exact Mine.lim2 (by assumption) | exact Mine.lim3 (by assumption) | exact Mine.lme (by assumption) | exact Mine.lml (by assumption) | exact Mine.lll (by assumption) | decide | lia))
  rcases this with rfl | rfl <;> rfl
theorem small_rule {h : Heap} {Dq Dk Db1 Db2 De : Addr} {nm c : Str} {t0 t2 t3 t4 : Tok} (e0 : h.get? Dq = some (tupObj [.str nm t0, .ref Dk, .ref Db2, .ref De])) (e1 : h.get? De = some (tupObj [])) (e2 : h.get? Db2 = some (tupObj [.str c t2])) (e3 : h.get? Dk = some (tupObj [.str "k" t3, .ref Db1])) (e4 : h.get? Db1 = some (tupObj [.str c t4])) :
    Reads h (.ref Dq) (RTm.dat ⟨nm, .node "k" [.node c []], .node c [], none⟩) [] :=
  reads_tuple_at e0 rfl rfl (readsAll_cons_val (.str _ _) (readsAll_cons_val (reads_tuple_at e3 rfl rfl (readsAll_cons_val (.str _ _) (readsAll_cons_val (reads_tuple_at e4 rfl rfl (readsAll_cons_val (.str _ _) .nil)) .nil))) (readsAll_cons_val (reads_tuple_at e2 rfl rfl (readsAll_cons_val (.str _ _) .nil)) (readsAll_cons_val (reads_tuple_at e1 rfl rfl .nil) .nil))))
theorem lots_reads {h : Heap} {k : Nat} {x : Str} {U : RTm} {D : PyData} {v q p : Value} {ws : List Value} {ds : List PyData} (hds : ds = (rowsRules (rowsOf k x U)).map RTm.dat) (h5 : k < 5) (hDU : D = U.dat) (hv : Reads h v D []) (hq : Reads h q Uq.dat []) (hp : Reads h p Up.dat []) (hw : (k ≤ 2 ∧ ws = []) ∨ (2 < k ∧ ws = [p])) :
    ReadsAll h (ws ++ [v] ++ [q]) ds [] := by
  subst hds hDU
  rcases hw with ⟨hk, rfl⟩ | ⟨hk, rfl⟩
  · rw [rows_lo hk]
    exact readsAll_cons_val hv (readsAll_cons_val hq .nil)
  · rw [rows_hi hk h5]
    exact readsAll_cons_val hp (readsAll_cons_val hv (readsAll_cons_val hq .nil))
theorem ds_lay {k : Nat} {x : Str} {U : RTm} {ds : List PyData} (hds : ds = (rowsRules (rowsOf k x U)).map RTm.dat) (h5 : k < 5) (hl : Lay U.dat 63) : (PyData.list ds).canLay0 = true := by
  subst hds
  by_cases h : 2 < k
  · rw [rows_hi h h5]; exact ds3 hl
  · rw [rows_lo (by ((first | with_reducible assumption | exact Mine.lim (by assumption) | exact Mine.lim0 (by assumption) | exact Mine.lim2 (by assumption) | exact Mine.lim3 (by assumption) | exact Mine.lme (by assumption) | exact Mine.lml (by assumption) | exact Mine.lll (by assumption) | decide | lia)))]; exact ds2 hl
theorem ahead_len {y0 y1 y2 y3 : Str} (h : [y0, y1, y2, y3] = aheadR.map (·.1)) : y0.length = 0 ∧ y1.length = 52 ∧ y2.length = 13 ∧ y3.length = 2 := by
  have h : [y0, y1, y2, y3] = [("" : Str), "; " ++ Txt.mul "(" 50, "p: (k a) -> a", "  "] := h
  simp only [List.cons.injEq, and_true] at h
  obtain ⟨rfl, rfl, rfl, rfl⟩ := h
  exact ⟨by decide +kernel, by decide +kernel, by decide +kernel, by decide +kernel⟩
theorem rows_names {k : Nat} {x : Str} {U : RTm} {y0 y1 y2 y3 : Str} (h : [y0, y1, y2, y3] = aheadR.map (·.1)) : (rowsOf k x U).map (·.1) = List.take k [y0, y1, y2, y3] ++ [x, "q: (k b) -> b"] := by
  rw [h, rowsOf, List.map_append, List.map_take]
  rfl
theorem strs_app {vs ws : List Value} {xs ys : List Str} (h : StrsAre vs xs) (h' : StrsAre ws ys) : StrsAre (vs ++ ws) (xs ++ ys) := by
  induction h with
  | nil => exact h'
  | cons a b _ ih => exact .cons a b ih
theorem strs_take : ∀ (k : Nat) {vs : List Value} {xs : List Str}, StrsAre vs xs → StrsAre (vs.take k) (xs.take k)
  | 0, _, _, _ => by rw [List.take_zero, List.take_zero]; exact .nil
  | _ + 1, _, _, .nil => .nil
  | k + 1, _, _, .cons a b h => .cons a b (strs_take k h)
theorem sum_take (l : List Nat) : ∀ k, (l.take k).sum ≤ l.sum := by
  induction l with
  | nil => intro k; simp
  | cons a l ih =>
    intro k
    cases k with
    | zero => simp
    | succ k =>
      rw [List.take_succ_cons, List.sum_cons, List.sum_cons]
      have := ih k
      ((first | with_reducible assumption | exact Mine.lim (by assumption) | exact Mine.lim0 (by assumption) | exact Mine.lim2 (by assumption) | exact Mine.lim3 (by assumption) | exact Mine.lme (by assumption) | exact Mine.lml (by assumption) | exact Mine.lll (by assumption) | decide | lia))
theorem rows_weight {k : Nat} {x : Str} {y0 y1 y2 y3 : Str} (h : [y0, y1, y2, y3] = aheadR.map (·.1)) (hx : x.length ≤ 5000) : ((List.take k [y0, y1, y2, y3] ++ [x, "q: (k b) -> b"]).map (·.length)).sum + (List.take k [y0, y1, y2, y3] ++ [x, "q: (k b) -> b"]).length ≤ 6000 := by
  obtain ⟨h0, h1, h2, h3⟩ := ahead_len h
  rw [List.map_append, List.sum_append, List.length_append, List.map_take]
  have a := sum_take [y0.length, y1.length, y2.length, y3.length] k
  have b : (List.take k [y0, y1, y2, y3]).length ≤ 4 := by rw [List.length_take]; exact Nat.min_le_right _ _
  show (List.take k [y0.length, y1.length, y2.length, y3.length]).sum + (x.length + (("q: (k b) -> b" : Str).length + 0)) + ((List.take k [y0, y1, y2, y3]).length + 2) ≤ _
  rw [show ("q: (k b) -> b" : Str).length = 13 by decide +kernel]
  have c : [y0.length, y1.length, y2.length, y3.length].sum = y0.length + (y1.length + (y2.length + (y3.length + 0))) := rfl
  ((first | with_reducible assumption | exact Mine.lim (by assumption) | exact Mine.lim0 (by assumption) | exact Mine.lim2 (by assumption) | exact Mine.lim3 (by assumption) | exact Mine.lme (by assumption) | exact Mine.lml (by assumption) | exact Mine.lll (by assumption) | decide | lia))
theorem join_mk {prog : Program} {w : World} {A : Around} {E : Value → Shared → Prop} {h : Heap} {gs : Array GenState} {dr : Drawn} {os : OsState} {tk D : Nat} {x z : Str} {t : Tok} {items : List Value} {ys : List Str} {Q : Value → Shared → Prop} (hl : h.IsList D items.toArray) (hi : StrsAre items ys) (hsep : x.length ≤ 16) (hw : (ys.map (·.length)).sum + ys.length ≤ 6000)
    (hj : Txt.join x ys = z) (hQ : ∀ t' k, Q (.str z t') ⟨h, gs, dr, k, os⟩) : wpAny (model prog w) A (call (.builtin "str.join") [.str x t, .ref D]) Q E ⟨h, gs, dr, tk, os⟩ := by
  subst hj
  exact join_listW (s := ⟨h, gs, dr, tk, os⟩) (items := items.toArray) hl (by simpa using hi) hsep (Nat.le_trans hw (by decide)) hQ
theorem la_rows {w : World} {g h' : Heap} {L fa cl ll : Addr} {ysc : List Value} {r k tk' tn : Nat} {s : Shared} {x whole : Str} {bv mv bl : Int} {m : Str → Option Value} {news sn : List (Addr × Obj)} {o : Obj} {tr t tw tb tm t2 t3 : Tok} {lv : List Value} {e : Nat} {ds : List PyData} {U : RTm}
    (F : Fr g L h' m) (h1 : m "lots" = some (.ref ll)) (h2 : m "many" = some (.int mv tm)) (h3 : m "beyond" = some (.int bv tb)) (h4 : m "whole" = some (.str whole tw)) (h5 : m "text" = some (.str x t)) (h6 : m "form" = some (.int r tr)) (h7 : m "feed" = some (.ref fa))
    (N : News g L h' news) (e1 : (fa, o) ∈ news) (e2 : (cl, LCg.lst ysc) ∈ news) (e3 : (ll, listOf lv.toArray e) ∈ news) (hsn : ∀ p ∈ sn, p ∈ news) (hd : o.IsDictOf (PySem.strKind PR w) (feedKv cl t2 t3 tn bl)) (htn : tn ≤ 3000) (hr2 : r = 2) (hU : RuleText x U) (hk : k < 5)
    (hwh : Txt.join "\n" ((rowsOf k x U).map (·.1)) = whole) (hbv : beyV x = bv) (hds : ds = (rowsRules (rowsOf k x U)).map RTm.dat) (hR : ∀ h'' : Heap, (∀ b o, g.get? b = some o → h''.get? b = some o) → (∀ p ∈ sn, h''.get? p.1 = some p.2) → ReadsAll h'' lv ds [])
    (hy : ∃ y0 y1 y2 y3, [y0, y1, y2, y3] = aheadR.map (·.1)) (hmv : mv = (rowsLen (aheadR.take k) : Nat)) : LA w g L fa cl ysc r s ⟨h', s.gens, s.drawn, tk', s.os⟩ := by
  obtain ⟨y0, y1, y2, y3, hy⟩ := hy
  have hwl : whole.length ≤ 100000 := by
    rw [← hwh, rows_names hy]
    exact Nat.le_trans (joinN_len _) (Nat.le_trans (rows_weight hy hU.len) (by decide))
  obtain ⟨d, hT, hl, hD⟩ := told2 (w := w) hU k hk hwh hwl
  rw [← hds, hbv] at hD
  exact .mk _ _ _ x whole _ _ _ _ _ _ _ _ o _ _ tn _ lv _ ds d (fr_map F (lamap_of h1 h2 h3 h4 h5 h6 h7)) (news_oneL N e1 (news_oneL N e2 (news_oneL N e3 fun p hp => nomatch hp))) hd htn hU.len (by rw [hr2]; exact hT) hl (hD.cast hmv) _
    (reads_list_at (N.get e3) rfl rfl (hR h' F.keep fun p hp => N.get (hsn p hp))) (ds_lay hds hk (RTm.lay hU.ok))
theorem strs_rows {k : Nat} {zs : List Value} {y0 y1 y2 y3 x q : Str} {u0 u1 u2 u3 t tq : Tok} (hz : zs = List.take k [.str y0 u0, .str y1 u1, .str y2 u2, .str y3 u3]) : StrsAre (zs ++ [.str x t, .str q tq]) (List.take k [y0, y1, y2, y3] ++ [x, q]) := by
  subst hz
  exact strs_app (strs_take k (.cons _ _ (.cons _ _ (.cons _ _ (.cons _ _ .nil))))) (.cons _ _ (.cons _ _ .nil))
theorem frz {A : Around} {g g' h : Heap} {m : Str → Option Value} (F : Fr g' g.objs.size h m) (B : Below A g [] g') : Fr g g.objs.size h m := ⟨F.ns, fun b o e => F.keep _ _ (B.stays b o e), Nat.le_refl _⟩
theorem bclean {A : Around} {g h : Heap} {L : Addr} {m : Str → Option Value} (_ : Fr g L h m) (B : Below A g [] g) : Below A g [] g := B
local macro_rules | `(tactic| k_qdec) => `(tactic| decide +kernel)
theorem law0 : PySem.Challenge.rw_pq0120_01.Holds := hd (by
  delta top
  try dsimp only
  k_go0
  all_goals try k_fold
  (repeat' ((fail_if_success with_reducible first|refine zz9 ?_|refine zz1 ?_|refine zz3 ?_|refine zz4 ?_|refine zz7 ?_|refine zz5 ?_); first | (k_unfold; (try dsimp only)) | (walk1; (all_goals (try dsimp only))) | (dsimp only; walk1; (all_goals (try dsimp only)))))
  rename Below _ _ _ _ => B
  rename Top _ _ _ _ _ _ => T
  have X := ‹(top.heap_1 _).In _›
  rename Fr _ _ _ _ => F
  have Bc := bclean F B
  clear B
  rename_i ysc hI8 hL8 cl hh5 tk2 o1b fa hh4 o0 lo hd0 l1 hkq2 hkq1 hkq0 gA hI8a hL8a Ds h3 tkb o1a h2 tka tt h1 oF hdF hF N
  have hyl : ysc.length ≤ 63 := by
    rw [hL8]
    simp only [List.length_map, List.length_take]
    ((first | with_reducible assumption | exact Mine.lim (by assumption) | exact Mine.lim0 (by assumption) | exact Mine.lim2 (by assumption) | exact Mine.lim3 (by assumption) | exact Mine.lme (by assumption) | exact Mine.lml (by assumption) | exact Mine.lll (by assumption) | decide | lia))
  have hcf : cl ≠ fa := Nat.ne_of_lt l1.1
  have hdF' : ∃ t2 t3 bl, oF.IsDictOf (PySem.strKind PR _) (feedKv cl t2 t3 0 bl) := ⟨_, _, _, hdF⟩
  obtain ⟨t2, t3, bl, hdF'⟩ := hdF'
  have N1 : News _ _ _ [(fa, oF), (cl, LCg.lst ysc)] := fun p hp => N p (by
    rcases List.mem_cons.mp hp with hp | hp
    · exact hp ▸ .tail _ (.head _)
    · exact (List.mem_singleton.mp hp) ▸ .tail _ (.tail _ (.head _)))
  have hcells : ∀ {h : Heap}, h.get? cl = some (LCg.lst ysc) → CellsAt h cl := fun e => ⟨ysc, _, ⟨_, e, rfl, _, rfl⟩, hI8, hyl⟩
  clear N hdF hd0
  refine draw_atH (n := 0) (wd := 3) X T Bc F N1 (fun p hp => by rw [List.mem_singleton.mp hp]; exact hcf) hdF' (Nat.le_refl _) (hcells (N1.get (.tail _ (.head _)))) rfl rfl (by decide) (by decide) (by decide) (by decide) fun h3 r tr tk3 o3 t23 t33 tn3 bl3 hr F3 N3 hd3 htn3 => ?_
  clear F N1 hdF'
  try dsimp only
  (repeat' ((fail_if_success with_reducible first|refine zz9 ?_|refine zz1 ?_|refine zz3 ?_|refine zz4 ?_|refine zz7 ?_|refine zz5 ?_|refine zz19 ?_|refine zz17 ?_); first | (k_unfold; (try dsimp only)) | (walk1; (all_goals (try dsimp only))) | (dsimp only; walk1; (all_goals (try dsimp only)))))
  rename Fr _ _ _ _ => F4
  rename News _ _ _ _ => N4
  rename World => w
  rename Shared => s1
  refine abs_post0 (fun Q' E' hQ hE => ?_)
  clear hE
  with_reducible refine execs_cut 1 (LD w s1.heap s1.heap.objs.size fa cl ysc r s1) ?_ fun s2 M0 => ?_
  · dsimp only [List.take]
    (repeat' ((fail_if_success with_reducible first|refine zz9 ?_|refine zz1 ?_|refine zz3 ?_|refine zz4 ?_|refine zz7 ?_|refine zz5 ?_); first | (k_unfold; (try dsimp only)) | (walk1; (all_goals (try dsimp only))) | (dsimp only; walk1; (all_goals (try dsimp only)))))
    · rename Fr _ _ _ _ => FF
      rename News _ _ _ _ => NN
      refine due_chain (r := r) X T Bc FF NN hcf hd3 htn3 (hcells (NN.get (.tail _ (.head _)))) (by first | lia | (simp only [decide_eq_true_eq, beq_iff_eq] at *; lia)) rfl rfl (by decide) (by decide) fun h5 v x t D a tk5 o5 t25 t35 tn5 bl5 sn F5 N5 hrf hd5 htn5 S hR => ?_
      clear FF NN
      try dsimp only
      (repeat' ((fail_if_success with_reducible first|refine zz9 ?_|refine zz1 ?_|refine zz3 ?_|refine zz4 ?_|refine zz7 ?_|refine zz5 ?_); first | (k_unfold; (try dsimp only)) | (walk1; (all_goals (try dsimp only))) | (dsimp only; walk1; (all_goals (try dsimp only)))))
      rename Fr _ _ _ _ => FF
      rename News _ _ _ _ => NN
      exact .mk _ _ v x D _ _ _ o5 t25 t35 tn5 bl5 _ (fr_map FF (ldmap_of rfl rfl rfl rfl)) NN hrf hd5 htn5 S fun h'' kg kt => hR h'' kg fun p hp => kt p (.tail _ hp)
    · rename Fr _ _ _ _ => FF
      rename News _ _ _ _ => NN
      refine due_rule (r := r) X T Bc FF NN hcf hd3 htn3 (hcells (NN.get (.tail _ (.head _)))) (by first | lia | (simp only [decide_eq_true_eq, beq_iff_eq] at *; lia)) rfl rfl (by decide) (by decide) fun h5 v x t D a tk5 o5 t25 t35 tn5 bl5 sn F5 N5 hrf hd5 htn5 S hR => ?_
      clear FF NN
      try dsimp only
      (repeat' ((fail_if_success with_reducible first|refine zz9 ?_|refine zz1 ?_|refine zz3 ?_|refine zz4 ?_|refine zz7 ?_|refine zz5 ?_); first | (k_unfold; (try dsimp only)) | (walk1; (all_goals (try dsimp only))) | (dsimp only; walk1; (all_goals (try dsimp only)))))
      rename Fr _ _ _ _ => FF
      rename News _ _ _ _ => NN
      exact .mk _ _ v x D _ _ _ o5 t25 t35 tn5 bl5 _ (fr_map FF (ldmap_of rfl rfl rfl rfl)) NN hrf hd5 htn5 S fun h'' kg kt => hR h'' kg fun p hp => kt p (.tail _ hp)
  dsimp only [List.drop]
  with_reducible refine execs_cut 2 (LA w s1.heap s1.heap.objs.size fa cl ysc r s1) ?_ fun s2 MA => ?_
  · rcases M0 with ⟨h5, tk5, v, x, D, trA, tA, uA, o5, t25, t35, tn5, bl5, sn, F5, N5, hrf, hd5, htn5, S, hR⟩
    clear F4 N4 hd3 htn3
    have hxl := S.len
    dsimp only [List.take]
    (repeat' ((fail_if_success with_reducible first|refine zz9 ?_|refine zz1 ?_|refine zz3 ?_|refine zz4 ?_|refine zz7 ?_|refine zz5 ?_|refine zz20 ?_|refine zz21 ?_|refine zz22 ?_|refine zz8 ?_); first | (k_unfold; (try dsimp only)) | (walk1; (all_goals (try dsimp only))) | (dsimp only; walk1; (all_goals (try dsimp only)))))
    rename Fr _ _ _ _ => FF
    rename News _ _ _ _ => NN
    refine beyond_at X T Bc FF NN S rfl rfl (by decide) fun h6 t6 tk6 F6 N6 => ?_
    clear FF NN
    try dsimp only
    generalize hbv : beyV x = bv
    (repeat' ((fail_if_success with_reducible first|refine zz9 ?_|refine zz1 ?_|refine zz3 ?_|refine zz4 ?_|refine zz7 ?_|refine zz5 ?_|refine zz20 ?_|refine zz21 ?_|refine zz22 ?_|refine zz8 ?_); first | (k_unfold; (try dsimp only)) | (walk1; (all_goals (try dsimp only))) | (dsimp only; walk1; (all_goals (try dsimp only)))))
    · have hr2 : r = 2 := by first | lia | (simp only [decide_eq_true_eq, beq_iff_eq] at *; lia)
      rcases S with ⟨_, h0, _, _⟩ | ⟨U, _, hU, hDU⟩
      · rw [h0] at hr2; cases hr2
      rename Fr _ _ _ _ => FF
      rename News _ _ _ _ => NN
      with_reducible refine execs_cut 1 (fun s' => ∃ k, k < 5 ∧ LR w s1.heap s1.heap.objs.size fa cl ysc x bv r k (fun sn' lv => sn' = sn ∧ lv = [v]) (fun _ => True) s1 s') ?_ fun s3 MC => ?_
      · dsimp only [List.take]
        (repeat' ((fail_if_success with_reducible first|refine zz9 ?_|refine zz1 ?_|refine zz3 ?_|refine zz4 ?_|refine zz7 ?_|refine zz5 ?_); first | (k_unfold; (try dsimp only)) | (walk1; (all_goals (try dsimp only))) | (dsimp only; walk1; (all_goals (try dsimp only)))))
        rename Fr _ _ _ _ => FF
        rename News _ _ _ _ => NN
        rename_i lr4 _ l4
        rcases rows4 NN ahead_eq (Nat.ne_of_gt l4.2.2.1) (ne_feed (NN.get (.tail _ (.tail _ (.head _)))) (NN.get (.tail _ (.tail _ (.tail _ (.head _))))) hd5 ⟨_, _, rfl⟩) hrf with ⟨y0, y1, y2, y3, u0, u1, u2, u3, hy, N9, hr9⟩
        refine draw_atH (n := 1001) (wd := 5) X T Bc FF N9 hr9 hd5 htn5 (hcells (N9.get (.tail _ (.tail _ (.tail _ (.head _)))))) rfl rfl (by decide) (by decide) (by decide) (by decide) fun hE k trk tkE oE t2E t3E tnE blE hk FE NE hdE htnE => ?_
        clear FF NN N9 hr9
        try dsimp only
        walk1
        refine slice_tmp (s := ⟨hE, _, _, _, _⟩) (its := [.str y0 u0, .str y1 u1, .str y2 u2, .str y3 u3].toArray) (lo := none) (hi := some (k : Int)) (zs := List.take k [.str y0 u0, .str y1 u1, .str y2 u2, .str y3 u3]) FE NE ⟨_, NE.get (.tail _ (.head _)), rfl, _, rfl⟩ .none (.int _ _) (pick_take hk) (fun Da hA FA NA lA => ?_) (by with_unfolding_all rfl) (show 4 ≤ sizeLine by decide)
        clear FE NE
        (repeat' ((fail_if_success with_reducible first|refine zz9 ?_|refine zz1 ?_|refine zz3 ?_|refine zz4 ?_|refine zz7 ?_|refine zz5 ?_); first | (k_unfold; (try dsimp only)) | (walk1; (all_goals (try dsimp only))) | (dsimp only; walk1; (all_goals (try dsimp only)))))
        rename Fr _ _ _ _ => FF
        rename News _ _ _ _ => NN
        exact ⟨k, hk, .mk _ _ _ _ y0 y1 y2 y3 u0 u1 u2 u3 _ [v] 0 0 _ _ _ tr _ oE _ _ tnE _ sn (fr_map FF (lcmap_of rfl rfl rfl rfl rfl rfl)) (news_oneL NN (.head _) (news_oneL NN (.tail _ (.tail _ (.tail _ (.head _)))) (news_oneL NN (.tail _ (.head _)) fun p hp => NN p (.tail _ (.tail _ (.tail _ (.tail _ hp))))))) hdE (by ((first | with_reducible assumption | exact Mine.lim (by assumption) | exact Mine.lim0 (by assumption) | exact Mine.lim2 (by assumption) | exact Mine.lim3 (by assumption) | exact Mine.lme (by assumption) | exact Mine.lml (by assumption) | exact Mine.lll (by assumption) | decide | lia))) hy rfl (take_len hk) ⟨rfl, rfl⟩ trivial⟩
      dsimp only [List.drop]
      obtain ⟨k, hk, MC⟩ := MC
      obtain ⟨ds, hds⟩ : ∃ ds, ds = (rowsRules (rowsOf k x U)).map RTm.dat := ⟨_, rfl⟩
      obtain ⟨whole, hwh⟩ : ∃ z, Txt.join "\n" ((rowsOf k x U).map (·.1)) = z := ⟨_, rfl⟩
      with_reducible refine execs_cut 1 (LR w s1.heap s1.heap.objs.size fa cl ysc x bv r k (fun sn' lv => ∀ h'' : Heap, (∀ b o, s1.heap.get? b = some o → h''.get? b = some o) → (∀ p ∈ sn', h''.get? p.1 = some p.2) → ReadsAll h'' lv ds []) (fun _ => True) s1) ?_ fun s4 MD => ?_
      · rcases MC with ⟨h6, tk6, lz, ll, y0, y1, y2, y3, u0, u1, u2, u3, zs, lv, e1, e2, trB, tB, tb, tm, uB, o6, t26, t36, tn6, bl6, sn6, F6, N6, hd6, htn6, hy, hz, hzl, hP6, -⟩
        obtain ⟨rfl, rfl⟩ := hP6
        dsimp only [List.take]
        (repeat' ((fail_if_success with_reducible first|refine zz9 ?_|refine zz1 ?_|refine zz3 ?_|refine zz4 ?_|refine zz7 ?_|refine zz5 ?_|refine zz20 ?_|refine zz21 ?_|refine zz22 ?_|refine zz8 ?_); first | (k_unfold; (try dsimp only)) | (walk1; (all_goals (try dsimp only))) | (dsimp only; walk1; (all_goals (try dsimp only)))))
        rename Fr _ _ _ _ => FF
        rename News _ _ _ _ => NN
        refine len_mk ⟨_, NN.get (.tail _ (.tail _ (.tail _ (.tail _ (.tail _ (.tail _ (.head _))))))), rfl, _, rfl⟩ hzl (by ((first | with_reducible assumption | exact Mine.lim (by assumption) | exact Mine.lim0 (by assumption) | exact Mine.lim2 (by assumption) | exact Mine.lim3 (by assumption) | exact Mine.lme (by assumption) | exact Mine.lml (by assumption) | exact Mine.lll (by assumption) | decide | lia))) ?_
        (repeat' ((fail_if_success with_reducible first|refine zz9 ?_|refine zz1 ?_|refine zz3 ?_|refine zz4 ?_|refine zz7 ?_|refine zz5 ?_|refine zz20 ?_|refine zz21 ?_|refine zz22 ?_|refine zz8 ?_); first | (k_unfold; (try dsimp only)) | (walk1; (all_goals (try dsimp only))) | (dsimp only; walk1; (all_goals (try dsimp only)))))
        rename Fr _ _ _ _ => FF
        rename News _ _ _ _ => NN
        rename_i Dp _ _ _ _ _
        rcases m01 k (.ref Dp) with ⟨ws, x0, x1, hz1, ews, hws, hwl⟩
        refine KMa.mul (s := ⟨_, _, _, _, _⟩) (vs := [.ref Dp]) FF NN ⟨_, NN.get (.head _), rfl, _, rfl⟩ x0 x1 hz1 ews fun Dm hm FM NM lM => ?_
        clear FF NN
        try dsimp only
        (repeat' ((fail_if_success with_reducible first|refine zz9 ?_|refine zz1 ?_|refine zz3 ?_|refine zz4 ?_|refine zz7 ?_|refine zz5 ?_|refine zz20 ?_|refine zz21 ?_|refine zz22 ?_|refine zz8 ?_); first | (k_unfold; (try dsimp only)) | (walk1; (all_goals (try dsimp only))) | (dsimp only; walk1; (all_goals (try dsimp only)))))
        rename Fr _ _ _ _ => FF
        rename News _ _ _ _ => NN
        refine kmk_add_lit (s := ⟨_, _, _, _, _⟩) (its := ws.toArray) (its2 := [v].toArray) (zs := ws ++ [v]) FF NN ⟨_, NN.get (.head _), rfl, _, rfl⟩ ⟨_, NN.get (.tail _ (.tail _ (.tail _ (.tail _ (.tail _ (.tail _ (.tail _ (.tail _ (.head _))))))))), rfl, _, rfl⟩ rfl (fun Da hA FA NA lA => ?_) (Nat.le_trans (show ws.length + 1 ≤ 16 by ((first | with_reducible assumption | exact Mine.lim (by assumption) | exact Mine.lim0 (by assumption) | exact Mine.lim2 (by assumption) | exact Mine.lim3 (by assumption) | exact Mine.lme (by assumption) | exact Mine.lml (by assumption) | exact Mine.lll (by assumption) | decide | lia))) (by decide))
        clear FF NN
        try dsimp only
        (repeat' ((fail_if_success with_reducible first|refine zz9 ?_|refine zz1 ?_|refine zz3 ?_|refine zz4 ?_|refine zz7 ?_|refine zz5 ?_|refine zz20 ?_|refine zz21 ?_|refine zz22 ?_|refine zz8 ?_); first | (k_unfold; (try dsimp only)) | (walk1; (all_goals (try dsimp only))) | (dsimp only; walk1; (all_goals (try dsimp only)))))
        rename Fr _ _ _ _ => FF
        rename News _ _ _ _ => NN
        refine kmk_add_lit (s := ⟨_, _, _, _, _⟩) (its := (ws ++ [v]).toArray) (its2 := [.ref _].toArray) (zs := ws ++ [v] ++ [.ref _]) FF NN ⟨_, NN.get (.tail _ (.tail _ (.tail _ (.tail _ (.tail _ (.tail _ (.head _))))))), rfl, _, rfl⟩ ⟨_, NN.get (.head _), rfl, _, rfl⟩ rfl (fun Da hA FA NA lA => ?_) (Nat.le_trans (show (ws ++ [v]).length + 1 ≤ 16 by rw [List.length_append]; show ws.length + 1 + 1 ≤ 16; ((first | with_reducible assumption | exact Mine.lim (by assumption) | exact Mine.lim0 (by assumption) | exact Mine.lim2 (by assumption) | exact Mine.lim3 (by assumption) | exact Mine.lme (by assumption) | exact Mine.lml (by assumption) | exact Mine.lll (by assumption) | decide | lia))) (by decide))
        clear FF NN
        try dsimp only
        (repeat' ((fail_if_success with_reducible first|refine zz9 ?_|refine zz1 ?_|refine zz3 ?_|refine zz4 ?_|refine zz7 ?_|refine zz5 ?_|refine zz20 ?_|refine zz21 ?_|refine zz22 ?_|refine zz8 ?_); first | (k_unfold; (try dsimp only)) | (walk1; (all_goals (try dsimp only))) | (dsimp only; walk1; (all_goals (try dsimp only)))))
        rename Fr _ _ _ _ => FF
        rename News _ _ _ _ => NN
        exact .mk _ _ _ _ y0 y1 y2 y3 u0 u1 u2 u3 zs _ _ _ _ _ _ trB _ o6 _ _ tn6 _ (_ :: _ :: _ :: _ :: _ :: _ :: _ :: _ :: _ :: _ :: sn6) (fr_map FF (lcmap_of rfl rfl rfl rfl rfl rfl))
          (news_oneL NN (.tail _ (.tail _ (.tail _ (.tail _ (.tail _ (.tail _ (.tail _ (.tail _ (.tail _ (.tail _ (.tail _ (.tail _ (.tail _ (.tail _ (.tail _ (.head _)))))))))))))))) (news_oneL NN (.head _) (news_oneL NN (.tail _ (.tail _ (.tail _ (.tail _ (.tail _ (.tail _ (.tail _ (.tail _ (.tail _ (.tail _ (.tail _ (.tail _ (.tail _ (.tail _ (.tail _ (.tail _ (.tail _ (.head _)))))))))))))))))) (news_oneL NN (.tail _ (.tail _ (.tail _ (.tail _ (.tail _ (.tail _ (.tail _ (.tail _ (.tail _ (.tail _ (.tail _ (.tail _ (.tail _ (.tail _ (.tail _ (.tail _ (.tail _ (.tail _ (.head _))))))))))))))))))) (news_oneL NN (.tail _ (.tail _ (.head _))) (news_oneL NN (.tail _ (.tail _ (.tail _ (.head _)))) (news_oneL NN (.tail _ (.tail _ (.tail _ (.tail _ (.head _))))) (news_oneL NN (.tail _ (.tail _ (.tail _ (.tail _ (.tail _ (.head _)))))) (news_oneL NN (.tail _ (.tail _ (.tail _ (.tail _ (.tail _ (.tail _ (.head _))))))) (news_oneL NN (.tail _ (.tail _ (.tail _ (.tail _ (.tail _ (.tail _ (.tail _ (.tail _ (.tail _ (.tail _ (.head _))))))))))) (news_oneL NN (.tail _ (.tail _ (.tail _ (.tail _ (.tail _ (.tail _ (.tail _ (.tail _ (.tail _ (.tail _ (.tail _ (.head _)))))))))))) (news_oneL NN (.tail _ (.tail _ (.tail _ (.tail _ (.tail _ (.tail _ (.tail _ (.tail _ (.tail _ (.tail _ (.tail _ (.tail _ (.head _))))))))))))) (news_oneL NN (.tail _ (.tail _ (.tail _ (.tail _ (.tail _ (.tail _ (.tail _ (.tail _ (.tail _ (.tail _ (.tail _ (.tail _ (.tail _ (.head _)))))))))))))) (news_oneL NN (.tail _ (.tail _ (.tail _ (.tail _ (.tail _ (.tail _ (.tail _ (.tail _ (.tail _ (.tail _ (.tail _ (.tail _ (.tail _ (.tail _ (.head _))))))))))))))) fun p hp => NN p (.tail _ (.tail _ (.tail _ (.tail _ (.tail _ (.tail _ (.tail _ (.tail _ (.tail _ (.tail _ (.tail _ (.tail _ (.tail _ (.tail _ (.tail _ (.tail _ (.tail _ (.tail _ (.tail _ hp)))))))))))))))))))))))))))))))))
          hd6 htn6 hy hz hzl (fun h'' kg kt => lots_reads hds hk hDU (hR h'' kg fun p hp => kt p (.tail _ (.tail _ (.tail _ (.tail _ (.tail _ (.tail _ (.tail _ (.tail _ (.tail _ (.tail _ hp))))))))))) (small_rule (kt _ (.head _)) (kt _ (.tail _ (.head _))) (kt _ (.tail _ (.tail _ (.head _)))) (kt _ (.tail _ (.tail _ (.tail _ (.head _))))) (kt _ (.tail _ (.tail _ (.tail _ (.tail _ (.head _))))))) (small_rule (kt _ (.tail _ (.tail _ (.tail _ (.tail _ (.tail _ (.head _))))))) (kt _ (.tail _ (.tail _ (.tail _ (.tail _ (.tail _ (.tail _ (.head _)))))))) (kt _ (.tail _ (.tail _ (.tail _ (.tail _ (.tail _ (.tail _ (.tail _ (.head _))))))))) (kt _ (.tail _ (.tail _ (.tail _ (.tail _ (.tail _ (.tail _ (.tail _ (.tail _ (.head _)))))))))) (kt _ (.tail _ (.tail _ (.tail _ (.tail _ (.tail _ (.tail _ (.tail _ (.tail _ (.tail _ (.head _)))))))))))) hws) trivial
      dsimp only [List.drop]
      with_reducible refine execs_cut 1 (LR w s1.heap s1.heap.objs.size fa cl ysc x bv r k (fun sn' lv => ∀ h'' : Heap, (∀ b o, s1.heap.get? b = some o → h''.get? b = some o) → (∀ p ∈ sn', h''.get? p.1 = some p.2) → ReadsAll h'' lv ds []) (fun u => ∃ t, u "whole" = some (.str whole t)) s1) ?_ fun s5 ME => ?_
      · rcases MD with ⟨h6, tk6, lz, ll, y0, y1, y2, y3, u0, u1, u2, u3, zs, lv, e1, e2, trB, tB, tb, tm, uB, o6, t26, t36, tn6, bl6, sn6, F6, N6, hd6, htn6, hy, hz, hzl, hR6, -⟩
        dsimp only [List.take]
        (repeat' ((fail_if_success with_reducible first|refine zz9 ?_|refine zz1 ?_|refine zz3 ?_|refine zz4 ?_|refine zz7 ?_|refine zz5 ?_|refine zz20 ?_|refine zz21 ?_|refine zz22 ?_|refine zz8 ?_); first | (k_unfold; (try dsimp only)) | (walk1; (all_goals (try dsimp only))) | (dsimp only; walk1; (all_goals (try dsimp only)))))
        rename Fr _ _ _ _ => FF
        rename News _ _ _ _ => NN
        refine kmk_add_lit (s := ⟨_, _, _, _, _⟩) (its := zs.toArray) (its2 := [.str x tB, .str "q: (k b) -> b" _].toArray) (zs := zs ++ [.str x tB, .str "q: (k b) -> b" _]) FF NN ⟨_, NN.get (.tail _ (.head _)), rfl, _, rfl⟩ ⟨_, NN.get (.head _), rfl, _, rfl⟩ rfl (fun Da hA FA NA lA => ?_) (Nat.le_trans (show zs.length + 2 ≤ 16 by ((first | with_reducible assumption | exact Mine.lim (by assumption) | exact Mine.lim0 (by assumption) | exact Mine.lim2 (by assumption) | exact Mine.lim3 (by assumption) | exact Mine.lme (by assumption) | exact Mine.lml (by assumption) | exact Mine.lll (by assumption) | decide | lia))) (by decide))
        clear FF NN
        try dsimp only
        (repeat' ((fail_if_success with_reducible first|refine zz9 ?_|refine zz1 ?_|refine zz3 ?_|refine zz4 ?_|refine zz7 ?_|refine zz5 ?_|refine zz20 ?_|refine zz21 ?_|refine zz22 ?_|refine zz8 ?_); first | (k_unfold; (try dsimp only)) | (walk1; (all_goals (try dsimp only))) | (dsimp only; walk1; (all_goals (try dsimp only)))))
        rename Fr _ _ _ _ => FF
        rename News _ _ _ _ => NN
        refine join_mk ⟨_, NN.get (.head _), rfl, _, rfl⟩ (strs_rows hz) (by rw [show ("\n" : Str).length = 1 by decide +kernel]; decide) (rows_weight hy hxl) ((congrArg _ (rows_names hy).symm).trans hwh) fun tj kj => ?_
        (repeat' ((fail_if_success with_reducible first|refine zz9 ?_|refine zz1 ?_|refine zz3 ?_|refine zz4 ?_|refine zz7 ?_|refine zz5 ?_|refine zz20 ?_|refine zz21 ?_|refine zz22 ?_|refine zz8 ?_); first | (k_unfold; (try dsimp only)) | (walk1; (all_goals (try dsimp only))) | (dsimp only; walk1; (all_goals (try dsimp only)))))
        rename Fr _ _ _ _ => FF
        rename News _ _ _ _ => NN
        exact .mk _ _ _ _ y0 y1 y2 y3 u0 u1 u2 u3 zs lv _ _ _ _ _ trB _ o6 _ _ tn6 _ sn6 (fr_map FF (lcmap_of rfl rfl rfl rfl rfl rfl)) (fun p hp => NN p (.tail _ (.tail _ hp))) hd6 htn6 hy hz hzl hR6 ⟨_, rfl⟩
      dsimp only [List.drop]
      rcases ME with ⟨h6, tk6, lz, ll, y0, y1, y2, y3, u0, u1, u2, u3, zs, lv, e1, e2, trB, tB, tb, tm, uB, o6, t26, t36, tn6, bl6, sn6, F6, N6, hd6, htn6, hy, hz, -, hR6, ⟨tw, hwt⟩⟩
      have hy4 := ahead_len hy
      have hl0 := hy4.1
      have hl1 := hy4.2.1
      have hl2 := hy4.2.2.1
      have hl3 := hy4.2.2.2
      clear hy4
      have hkc : k = 0 ∨ k = 1 ∨ k = 2 ∨ k = 3 ∨ k = 4 := by ((first | with_reducible assumption | exact Mine.lim (by assumption) | exact Mine.lim0 (by assumption) | exact Mine.lim2 (by assumption) | exact Mine.lim3 (by assumption) | exact Mine.lme (by assumption) | exact Mine.lml (by assumption) | exact Mine.lll (by assumption) | decide | lia))
      rcases hkc with hw | hw | hw | hw | hw
      · have N7 : News s1.heap s1.heap.objs.size h6 ((lz, listOf [].toArray e1) :: (ll, listOf lv.toArray e2) :: (fa, o6) :: (cl, LCg.lst ysc) :: sn6) := by rw [hz, hw] at N6; exact N6
        clear N6
        (repeat' ((fail_if_success with_reducible first|refine zz9 ?_|refine zz1 ?_|refine zz3 ?_|refine zz4 ?_|refine zz7 ?_|refine zz5 ?_); first | (k_unfold; (try dsimp only)) | (walk1; (all_goals (try dsimp only))) | (dsimp only; walk1; (all_goals (try dsimp only)))))
        rename Fr _ _ _ _ => FF
        rename News _ _ _ _ => NN
        try dsimp only
        exact la_rows FF rfl rfl rfl hwt rfl rfl rfl NN (by repeat first | exact .head _ | apply List.Mem.tail) (by repeat first | exact .head _ | apply List.Mem.tail) (by repeat first | exact .head _ | apply List.Mem.tail) (fun p hp => by repeat first | exact hp | apply List.Mem.tail) hd6 htn6 hr2 hU hk hwh hbv hds hR6 ⟨_, _, _, _, hy⟩ (by
          rw [show rowsLen (aheadR.take k) = 0 by rw [hw]; decide +kernel]
          try simp only [hl0, hl1, hl2, hl3, List.sum_cons, List.sum_nil]
          try ((first | with_reducible assumption | exact Mine.lim (by assumption) | exact Mine.lim0 (by assumption) | exact Mine.lim2 (by assumption) | exact Mine.lim3 (by assumption) | exact Mine.lme (by assumption) | exact Mine.lml (by assumption) | exact Mine.lll (by assumption) | decide | lia)))
      · have N7 : News s1.heap s1.heap.objs.size h6 ((lz, listOf [.str y0 u0].toArray e1) :: (ll, listOf lv.toArray e2) :: (fa, o6) :: (cl, LCg.lst ysc) :: sn6) := by rw [hz, hw] at N6; exact N6
        clear N6
        (repeat' ((fail_if_success with_reducible first|refine zz9 ?_|refine zz1 ?_|refine zz3 ?_|refine zz4 ?_|refine zz7 ?_|refine zz5 ?_); first | (k_unfold; (try dsimp only)) | (walk1; (all_goals (try dsimp only))) | (dsimp only; walk1; (all_goals (try dsimp only)))))
        rename_i off6 ne6 hv6 hx6
        rename Fr _ _ _ _ => F6
        rename News _ _ _ _ => N6
        refine LCg.CompEnd.intro F6 N6 _ (fun p hp => hp) off6 (.inr ⟨_, (by repeat first | exact .head _ | apply List.Mem.tail), rfl, _, rfl⟩) ?_
        (repeat' ((fail_if_success with_reducible first|refine zz9 ?_|refine zz1 ?_|refine zz3 ?_|refine zz4 ?_|refine zz7 ?_|refine zz5 ?_); first | (k_unfold; (try dsimp only)) | (walk1; (all_goals (try dsimp only))) | (dsimp only; walk1; (all_goals (try dsimp only)))))
        rename Fr _ _ _ _ => FF
        rename News _ _ _ _ => NN
        try dsimp only
        exact la_rows FF rfl rfl rfl hwt rfl rfl rfl NN (by repeat first | exact .head _ | apply List.Mem.tail) (by repeat first | exact .head _ | apply List.Mem.tail) (by repeat first | exact .head _ | apply List.Mem.tail) (fun p hp => by repeat first | exact hp | apply List.Mem.tail) hd6 htn6 hr2 hU hk hwh hbv hds hR6 ⟨_, _, _, _, hy⟩ (by
          rw [show rowsLen (aheadR.take k) = 1 by rw [hw]; decide +kernel]
          try simp only [hl0, hl1, hl2, hl3, List.sum_cons, List.sum_nil]
          try ((first | with_reducible assumption | exact Mine.lim (by assumption) | exact Mine.lim0 (by assumption) | exact Mine.lim2 (by assumption) | exact Mine.lim3 (by assumption) | exact Mine.lme (by assumption) | exact Mine.lml (by assumption) | exact Mine.lll (by assumption) | decide | lia)))
      · have N7 : News s1.heap s1.heap.objs.size h6 ((lz, listOf [.str y0 u0, .str y1 u1].toArray e1) :: (ll, listOf lv.toArray e2) :: (fa, o6) :: (cl, LCg.lst ysc) :: sn6) := by rw [hz, hw] at N6; exact N6
        clear N6
        (repeat' ((fail_if_success with_reducible first|refine zz9 ?_|refine zz1 ?_|refine zz3 ?_|refine zz4 ?_|refine zz7 ?_|refine zz5 ?_); first | (k_unfold; (try dsimp only)) | (walk1; (all_goals (try dsimp only))) | (dsimp only; walk1; (all_goals (try dsimp only)))))
        rename_i off6 ne6 hv6 hx6
        rename Fr _ _ _ _ => F6
        rename News _ _ _ _ => N6
        refine LCg.CompEnd.intro F6 N6 _ (fun p hp => hp) off6 (.inr ⟨_, (by repeat first | exact .head _ | apply List.Mem.tail), rfl, _, rfl⟩) ?_
        (repeat' ((fail_if_success with_reducible first|refine zz9 ?_|refine zz1 ?_|refine zz3 ?_|refine zz4 ?_|refine zz7 ?_|refine zz5 ?_); first | (k_unfold; (try dsimp only)) | (walk1; (all_goals (try dsimp only))) | (dsimp only; walk1; (all_goals (try dsimp only)))))
        rename_i off6 ne6 hv6 hx6
        rename Fr _ _ _ _ => F6
        rename News _ _ _ _ => N6
        refine LCg.CompEnd.intro F6 N6 _ (fun p hp => hp) off6 (.inr ⟨_, (by repeat first | exact .head _ | apply List.Mem.tail), rfl, _, rfl⟩) ?_
        (repeat' ((fail_if_success with_reducible first|refine zz9 ?_|refine zz1 ?_|refine zz3 ?_|refine zz4 ?_|refine zz7 ?_|refine zz5 ?_); first | (k_unfold; (try dsimp only)) | (walk1; (all_goals (try dsimp only))) | (dsimp only; walk1; (all_goals (try dsimp only)))))
        rename Fr _ _ _ _ => FF
        rename News _ _ _ _ => NN
        try dsimp only
        exact la_rows FF rfl rfl rfl hwt rfl rfl rfl NN (by repeat first | exact .head _ | apply List.Mem.tail) (by repeat first | exact .head _ | apply List.Mem.tail) (by repeat first | exact .head _ | apply List.Mem.tail) (fun p hp => by repeat first | exact hp | apply List.Mem.tail) hd6 htn6 hr2 hU hk hwh hbv hds hR6 ⟨_, _, _, _, hy⟩ (by
          rw [show rowsLen (aheadR.take k) = 54 by rw [hw]; decide +kernel]
          try simp only [hl0, hl1, hl2, hl3, List.sum_cons, List.sum_nil]
          try ((first | with_reducible assumption | exact Mine.lim (by assumption) | exact Mine.lim0 (by assumption) | exact Mine.lim2 (by assumption) | exact Mine.lim3 (by assumption) | exact Mine.lme (by assumption) | exact Mine.lml (by assumption) | exact Mine.lll (by assumption) | decide | lia)))
      · have N7 : News s1.heap s1.heap.objs.size h6 ((lz, listOf [.str y0 u0, .str y1 u1, .str y2 u2].toArray e1) :: (ll, listOf lv.toArray e2) :: (fa, o6) :: (cl, LCg.lst ysc) :: sn6) := by rw [hz, hw] at N6; exact N6
        clear N6
        (repeat' ((fail_if_success with_reducible first|refine zz9 ?_|refine zz1 ?_|refine zz3 ?_|refine zz4 ?_|refine zz7 ?_|refine zz5 ?_); first | (k_unfold; (try dsimp only)) | (walk1; (all_goals (try dsimp only))) | (dsimp only; walk1; (all_goals (try dsimp only)))))
        rename_i off6 ne6 hv6 hx6
        rename Fr _ _ _ _ => F6
        rename News _ _ _ _ => N6
        refine LCg.CompEnd.intro F6 N6 _ (fun p hp => hp) off6 (.inr ⟨_, (by repeat first | exact .head _ | apply List.Mem.tail), rfl, _, rfl⟩) ?_
        (repeat' ((fail_if_success with_reducible first|refine zz9 ?_|refine zz1 ?_|refine zz3 ?_|refine zz4 ?_|refine zz7 ?_|refine zz5 ?_); first | (k_unfold; (try dsimp only)) | (walk1; (all_goals (try dsimp only))) | (dsimp only; walk1; (all_goals (try dsimp only)))))
        rename_i off6 ne6 hv6 hx6
        rename Fr _ _ _ _ => F6
        rename News _ _ _ _ => N6
        refine LCg.CompEnd.intro F6 N6 _ (fun p hp => hp) off6 (.inr ⟨_, (by repeat first | exact .head _ | apply List.Mem.tail), rfl, _, rfl⟩) ?_
        (repeat' ((fail_if_success with_reducible first|refine zz9 ?_|refine zz1 ?_|refine zz3 ?_|refine zz4 ?_|refine zz7 ?_|refine zz5 ?_); first | (k_unfold; (try dsimp only)) | (walk1; (all_goals (try dsimp only))) | (dsimp only; walk1; (all_goals (try dsimp only)))))
        rename_i off6 ne6 hv6 hx6
        rename Fr _ _ _ _ => F6
        rename News _ _ _ _ => N6
        refine LCg.CompEnd.intro F6 N6 _ (fun p hp => hp) off6 (.inr ⟨_, (by repeat first | exact .head _ | apply List.Mem.tail), rfl, _, rfl⟩) ?_
        (repeat' ((fail_if_success with_reducible first|refine zz9 ?_|refine zz1 ?_|refine zz3 ?_|refine zz4 ?_|refine zz7 ?_|refine zz5 ?_); first | (k_unfold; (try dsimp only)) | (walk1; (all_goals (try dsimp only))) | (dsimp only; walk1; (all_goals (try dsimp only)))))
        rename Fr _ _ _ _ => FF
        rename News _ _ _ _ => NN
        try dsimp only
        exact la_rows FF rfl rfl rfl hwt rfl rfl rfl NN (by repeat first | exact .head _ | apply List.Mem.tail) (by repeat first | exact .head _ | apply List.Mem.tail) (by repeat first | exact .head _ | apply List.Mem.tail) (fun p hp => by repeat first | exact hp | apply List.Mem.tail) hd6 htn6 hr2 hU hk hwh hbv hds hR6 ⟨_, _, _, _, hy⟩ (by
          rw [show rowsLen (aheadR.take k) = 68 by rw [hw]; decide +kernel]
          try simp only [hl0, hl1, hl2, hl3, List.sum_cons, List.sum_nil]
          try ((first | with_reducible assumption | exact Mine.lim (by assumption) | exact Mine.lim0 (by assumption) | exact Mine.lim2 (by assumption) | exact Mine.lim3 (by assumption) | exact Mine.lme (by assumption) | exact Mine.lml (by assumption) | exact Mine.lll (by assumption) | decide | lia)))
      · have N7 : News s1.heap s1.heap.objs.size h6 ((lz, listOf [.str y0 u0, .str y1 u1, .str y2 u2, .str y3 u3].toArray e1) :: (ll, listOf lv.toArray e2) :: (fa, o6) :: (cl, LCg.lst ysc) :: sn6) := by rw [hz, hw] at N6; exact N6
        clear N6
        (repeat' ((fail_if_success with_reducible first|refine zz9 ?_|refine zz1 ?_|refine zz3 ?_|refine zz4 ?_|refine zz7 ?_|refine zz5 ?_); first | (k_unfold; (try dsimp only)) | (walk1; (all_goals (try dsimp only))) | (dsimp only; walk1; (all_goals (try dsimp only)))))
        rename_i off6 ne6 hv6 hx6
        rename Fr _ _ _ _ => F6
        rename News _ _ _ _ => N6
        refine LCg.CompEnd.intro F6 N6 _ (fun p hp => hp) off6 (.inr ⟨_, (by repeat first | exact .head _ | apply List.Mem.tail), rfl, _, rfl⟩) ?_
        (repeat' ((fail_if_success with_reducible first|refine zz9 ?_|refine zz1 ?_|refine zz3 ?_|refine zz4 ?_|refine zz7 ?_|refine zz5 ?_); first | (k_unfold; (try dsimp only)) | (walk1; (all_goals (try dsimp only))) | (dsimp only; walk1; (all_goals (try dsimp only)))))
        rename_i off6 ne6 hv6 hx6
        rename Fr _ _ _ _ => F6
        rename News _ _ _ _ => N6
        refine LCg.CompEnd.intro F6 N6 _ (fun p hp => hp) off6 (.inr ⟨_, (by repeat first | exact .head _ | apply List.Mem.tail), rfl, _, rfl⟩) ?_
        (repeat' ((fail_if_success with_reducible first|refine zz9 ?_|refine zz1 ?_|refine zz3 ?_|refine zz4 ?_|refine zz7 ?_|refine zz5 ?_); first | (k_unfold; (try dsimp only)) | (walk1; (all_goals (try dsimp only))) | (dsimp only; walk1; (all_goals (try dsimp only)))))
        rename_i off6 ne6 hv6 hx6
        rename Fr _ _ _ _ => F6
        rename News _ _ _ _ => N6
        refine LCg.CompEnd.intro F6 N6 _ (fun p hp => hp) off6 (.inr ⟨_, (by repeat first | exact .head _ | apply List.Mem.tail), rfl, _, rfl⟩) ?_
        (repeat' ((fail_if_success with_reducible first|refine zz9 ?_|refine zz1 ?_|refine zz3 ?_|refine zz4 ?_|refine zz7 ?_|refine zz5 ?_); first | (k_unfold; (try dsimp only)) | (walk1; (all_goals (try dsimp only))) | (dsimp only; walk1; (all_goals (try dsimp only)))))
        rename_i off6 ne6 hv6 hx6
        rename Fr _ _ _ _ => F6
        rename News _ _ _ _ => N6
        refine LCg.CompEnd.intro F6 N6 _ (fun p hp => hp) off6 (.inr ⟨_, (by repeat first | exact .head _ | apply List.Mem.tail), rfl, _, rfl⟩) ?_
        (repeat' ((fail_if_success with_reducible first|refine zz9 ?_|refine zz1 ?_|refine zz3 ?_|refine zz4 ?_|refine zz7 ?_|refine zz5 ?_); first | (k_unfold; (try dsimp only)) | (walk1; (all_goals (try dsimp only))) | (dsimp only; walk1; (all_goals (try dsimp only)))))
        rename Fr _ _ _ _ => FF
        rename News _ _ _ _ => NN
        try dsimp only
        exact la_rows FF rfl rfl rfl hwt rfl rfl rfl NN (by repeat first | exact .head _ | apply List.Mem.tail) (by repeat first | exact .head _ | apply List.Mem.tail) (by repeat first | exact .head _ | apply List.Mem.tail) (fun p hp => by repeat first | exact hp | apply List.Mem.tail) hd6 htn6 hr2 hU hk hwh hbv hds hR6 ⟨_, _, _, _, hy⟩ (by
          rw [show rowsLen (aheadR.take k) = 71 by rw [hw]; decide +kernel]
          try simp only [hl0, hl1, hl2, hl3, List.sum_cons, List.sum_nil]
          try ((first | with_reducible assumption | exact Mine.lim (by assumption) | exact Mine.lim0 (by assumption) | exact Mine.lim2 (by assumption) | exact Mine.lim3 (by assumption) | exact Mine.lme (by assumption) | exact Mine.lml (by assumption) | exact Mine.lll (by assumption) | decide | lia)))
    · have hr2 : r < 2 := by first | lia | (simp only [decide_eq_true_eq, beq_iff_eq] at *; lia)
      have hlay := S.lay
      obtain ⟨d, hT, hl, hD⟩ := S.told (w := w) hr2
      rename Fr _ _ _ _ => FF
      rename News _ _ _ _ => NN
      rw [hbv] at hD
      exact .mk _ _ _ x x _ _ _ _ _ _ _ _ o5 _ _ tn5 _ [v] 0 [D] d (fr_map FF (lamap_of rfl rfl rfl rfl rfl rfl rfl)) (news_oneL NN (.tail _ (.tail _ (.head _))) (news_oneL NN (.tail _ (.tail _ (.tail _ (.head _)))) (news_oneL NN (.tail _ (.head _)) fun p hp => nomatch hp))) hd5 (by ((first | with_reducible assumption | exact Mine.lim (by assumption) | exact Mine.lim0 (by assumption) | exact Mine.lim2 (by assumption) | exact Mine.lim3 (by assumption) | exact Mine.lme (by assumption) | exact Mine.lml (by assumption) | exact Mine.lll (by assumption) | decide | lia))) hxl hT hl hD _
        (reads_list_at (NN.get (.tail _ (.head _))) rfl rfl (readsAll_cons_val (hR _ FF.keep fun p hp => NN.get (.tail _ (.tail _ (.tail _ (.tail _ hp))))) .nil)) (by simpa [PyData.canLay0, PyData.canLayAll0] using hlay.1)
  clear F4 N4 hd3 htn3
  dsimp only [List.drop]
  with_reducible refine execs_cut 1 (LB w callerA s1.heap s1.heap.objs.size fa cl ysc r s1) ?_ fun s3 MB => ?_
  · rcases MA with ⟨h', tk', la, x, wh, bv, mv, tr, t, tw, tb, tm, u, o, t2, t3, tn, bl, lv, e, ds, d, F, N, hd, htn, hx, hT, hl, hD, as, hR, hlay⟩
    dsimp only [List.take]
    (repeat' ((fail_if_success with_reducible first|refine zz9 ?_|refine zz1 ?_|refine zz3 ?_|refine zz4 ?_|refine zz7 ?_|refine zz5 ?_); first | (k_unfold; (try dsimp only)) | (walk1; (all_goals (try dsimp only))) | (dsimp only; walk1; (all_goals (try dsimp only)))))
    refine wpAny_call (hT (s := ⟨_, _, _, _, _⟩) (cx_in X T Bc F rfl rfl rfl) (by decide) (by decide) fun h7 v7 tk7 as7 sl7 rd7 => ?_)
    obtain ⟨g9, fl, F9, B9, N9, kS, kF⟩ := told_back F Bc sl7 N (p1 := (fa, o)) (p2 := (cl, LCg.lst ysc)) (p3 := (la, listOf lv.toArray e)) (by repeat first | exact .head _ | apply List.Mem.tail) (by repeat first | exact .head _ | apply List.Mem.tail) (by repeat first | exact .head _ | apply List.Mem.tail)
    have hR9 := reads_keepS kS hR hlay
    have X9 := X.keeps B9.stays
    have T9 := T.keeps B9.stays
    clear F N sl7 Bc X T
    try dsimp only
    (repeat' ((fail_if_success with_reducible first|refine zz9 ?_|refine zz1 ?_|refine zz3 ?_|refine zz4 ?_|refine zz7 ?_|refine zz5 ?_); first | (k_unfold; (try dsimp only)) | (walk1; (all_goals (try dsimp only))) | (dsimp only; walk1; (all_goals (try dsimp only)))))
    · rename Fr _ _ _ _ => FA
      rename News _ _ _ _ => NA
      rcases hD with ⟨hb, rfl⟩ | ⟨hb, -⟩
      · have kA := kF _ FA.keep (fun p hp => NA.get (by repeat first | exact hp | apply List.Mem.tail))
        refine ne_same (s := ⟨_, _, _, _, _⟩) (d := readD ds) (n := 65) (reads_keepS kA rd7 hl.1) (reads_tuple_at (NA.get (.head _)) rfl rfl (.cons (.str _ _) (.cons (reads_keepS kA hR9 hlay) .nil))) hl (show 7 + 65 < 9900 by decide) ?_
        clear kA
        (repeat' ((fail_if_success with_reducible first|refine zz9 ?_|refine zz1 ?_|refine zz3 ?_|refine zz4 ?_|refine zz7 ?_|refine zz5 ?_); first | (k_unfold; (try dsimp only)) | (walk1; (all_goals (try dsimp only))) | (dsimp only; walk1; (all_goals (try dsimp only)))))
        rename Fr _ _ _ _ => FC
        rename News _ _ _ _ => NC
        try dsimp only
        exact .mk g9 _ _ x _ _ _ o _ _ tn _ B9 (fr_map FC (lbmap_of rfl rfl rfl)) (news_oneL NC (by repeat first | exact .head _ | apply List.Mem.tail) (news_oneL NC (by repeat first | exact .head _ | apply List.Mem.tail) fun p hp => nomatch hp)) hd htn hx
      · ((first | with_reducible assumption | exact Mine.lim (by assumption) | exact Mine.lim0 (by assumption) | exact Mine.lim2 (by assumption) | exact Mine.lim3 (by assumption) | exact Mine.lme (by assumption) | exact Mine.lml (by assumption) | exact Mine.lll (by assumption) | decide | lia))
    · rename Fr _ _ _ _ => FA
      rename News _ _ _ _ => NA
      rcases hD with ⟨hb, -⟩ | ⟨hb, rfl⟩
      · ((first | with_reducible assumption | exact Mine.lim (by assumption) | exact Mine.lim0 (by assumption) | exact Mine.lim2 (by assumption) | exact Mine.lim3 (by assumption) | exact Mine.lme (by assumption) | exact Mine.lml (by assumption) | exact Mine.lll (by assumption) | decide | lia))
      · have kA := kF _ FA.keep (fun p hp => NA.get (by repeat first | exact hp | apply List.Mem.tail))
        refine ne_same (s := ⟨_, _, _, _, _⟩) (d := refD (mv + bv)) (n := 65) (reads_keepS kA rd7 hl.1) (reads_tuple_at (NA.get (.head _)) rfl rfl (readsAll_cons_val (.str _ _) (readsAll_cons_val (.int _ _) .nil))) hl (show 7 + 65 < 9900 by decide) ?_
        clear kA
        (repeat' ((fail_if_success with_reducible first|refine zz9 ?_|refine zz1 ?_|refine zz3 ?_|refine zz4 ?_|refine zz7 ?_|refine zz5 ?_); first | (k_unfold; (try dsimp only)) | (walk1; (all_goals (try dsimp only))) | (dsimp only; walk1; (all_goals (try dsimp only)))))
        rename Fr _ _ _ _ => FC
        rename News _ _ _ _ => NC
        try dsimp only
        exact .mk g9 _ _ x _ _ _ o _ _ tn _ B9 (fr_map FC (lbmap_of rfl rfl rfl)) (news_oneL NC (by repeat first | exact .head _ | apply List.Mem.tail) (news_oneL NC (by repeat first | exact .head _ | apply List.Mem.tail) fun p hp => nomatch hp)) hd htn hx
  · rcases MB with ⟨g, h', tk', x, tr, t, u, o, t2, t3, tn, bl, B, F, N, hd, htn, hx⟩
    have X9 := X.keeps B.stays
    have T9 := T.keeps B.stays
    have XB := And.intro X T
    clear X T Bc
    (repeat' ((fail_if_success with_reducible first|refine zz9 ?_|refine zz1 ?_|refine zz3 ?_|refine zz4 ?_|refine zz7 ?_|refine zz5 ?_); first | (k_unfold; (try dsimp only)) | (walk1; (all_goals (try dsimp only))) | (dsimp only; walk1; (all_goals (try dsimp only)))))
    · rename Fr _ _ _ _ => FC
      rename News _ _ _ _ => ND
      have hr2 : r < 2 := by first | ((first | with_reducible assumption | exact Mine.lim (by assumption) | exact Mine.lim0 (by assumption) | exact Mine.lim2 (by assumption) | exact Mine.lim3 (by assumption) | exact Mine.lme (by assumption) | exact Mine.lml (by assumption) | exact Mine.lll (by assumption) | decide | lia)) | (simp only [decide_eq_true_eq] at *; ((first | with_reducible assumption | exact Mine.lim (by assumption) | exact Mine.lim0 (by assumption) | exact Mine.lim2 (by assumption) | exact Mine.lim3 (by assumption) | exact Mine.lme (by assumption) | exact Mine.lml (by assumption) | exact Mine.lll (by assumption) | decide | lia)))
      refine draw_atH (n := 3000) (wd := 6) XB.1 XB.2 B FC ND (fun p hp => by rw [List.mem_singleton.mp hp]; exact hcf) hd htn (hcells (ND.get (.tail _ (.head _)))) rfl rfl (by decide) (by decide) (by decide) (by decide) fun hE r6 tr6 tkE oE t2E t3E tnE blE hr6 FE NE hdE htnE => ?_
      clear FC ND hd
      try dsimp only
      (repeat' ((fail_if_success with_reducible first|refine zz9 ?_|refine zz1 ?_|refine zz3 ?_|refine zz4 ?_|refine zz7 ?_|refine zz5 ?_); first | (k_unfold; (try dsimp only)) | (walk1; (all_goals (try dsimp only))) | (dsimp only; walk1; (all_goals (try dsimp only)))))
      · rename Fr _ _ _ _ => FG
        rename News _ _ _ _ => NG
        refine draw_atH (n := 3000 + 1) (wd := 3) XB.1 XB.2 B FG NG (fun p hp => by rw [List.mem_singleton.mp hp]; exact hcf) hdE htnE (hcells (NG.get (.tail _ (.head _)))) rfl rfl (by decide) (by decide) (by decide) (by decide) fun hH r7 tr7 tkH oH t2H t3H tnH blH hr7 FH NH hdH htnH => ?_
        clear FG NG hdE
        try dsimp only
        (repeat' ((fail_if_success with_reducible first|refine zz9 ?_|refine zz1 ?_|refine zz3 ?_|refine zz4 ?_|refine zz7 ?_|refine zz5 ?_); first | (k_unfold; (try dsimp only)) | (walk1; (all_goals (try dsimp only))) | (dsimp only; walk1; (all_goals (try dsimp only)))))
        rename Fr _ _ _ _ => FI
        rename News _ _ _ _ => NI
        have hlx : (x ++ Txt.mul " " (100001 + (r7 : Int) - (x.length : Int))).length = 100001 + r7 := by
          rw [app_len, mul_sp]; ((first | with_reducible assumption | exact Mine.lim (by assumption) | exact Mine.lim0 (by assumption) | exact Mine.lim2 (by assumption) | exact Mine.lim3 (by assumption) | exact Mine.lme (by assumption) | exact Mine.lml (by assumption) | exact Mine.lll (by assumption) | decide | lia))
        refine wpAny_call (told_long hr2 (s := ⟨_, _, _, _, _⟩) (cx_in XB.1 XB.2 B FI rfl rfl rfl) (by decide) (by ((first | with_reducible assumption | exact Mine.lim (by assumption) | exact Mine.lim0 (by assumption) | exact Mine.lim2 (by assumption) | exact Mine.lim3 (by assumption) | exact Mine.lme (by assumption) | exact Mine.lml (by assumption) | exact Mine.lll (by assumption) | decide | lia))) (by ((first | with_reducible assumption | exact Mine.lim (by assumption) | exact Mine.lim0 (by assumption) | exact Mine.lim2 (by assumption) | exact Mine.lim3 (by assumption) | exact Mine.lme (by assumption) | exact Mine.lml (by assumption) | exact Mine.lll (by assumption) | decide | lia))) fun hJ vJ tkJ slJ rdJ => ?_)
        obtain ⟨gK, fK, FK, BK, NK, kK, kFK⟩ := told_back FI B slJ NI (p1 := (fa, oH)) (p2 := (fa, oH)) (p3 := (fa, oH)) (by repeat first | exact .head _ | apply List.Mem.tail) (by repeat first | exact .head _ | apply List.Mem.tail) (by repeat first | exact .head _ | apply List.Mem.tail)
        have XK := XB.1.keeps BK.stays
        have TK := XB.2.keeps BK.stays
        clear X9 T9 FI NI
        try dsimp only
        (repeat' ((fail_if_success with_reducible first|refine zz9 ?_|refine zz1 ?_|refine zz3 ?_|refine zz4 ?_|refine zz7 ?_|refine zz5 ?_); first | (k_unfold; (try dsimp only)) | (walk1; (all_goals (try dsimp only))) | (dsimp only; walk1; (all_goals (try dsimp only)))))
        rename Fr _ _ _ _ => FM
        rename News _ _ _ _ => NM
        have kM := kFK _ FM.keep (fun p hp => NM.get (by repeat first | exact hp | apply List.Mem.tail))
        refine eq_same (s := ⟨_, _, _, _, _⟩) (d := refD 100000) (n := 65) (reads_keepS kM rdJ (lay_ref _).1) (reads_tuple_at (NM.get (by repeat first | exact .head _ | apply List.Mem.tail)) rfl rfl (readsAll_cons_val (.str _ _) (readsAll_cons_val (.int _ _) .nil))) (lay_ref _) (show 7 + 65 < 9900 by decide) ?_
        (repeat' ((fail_if_success with_reducible first|refine zz9 ?_|refine zz1 ?_|refine zz3 ?_|refine zz4 ?_|refine zz7 ?_|refine zz5 ?_); first | (k_unfold; (try dsimp only)) | (walk1; (all_goals (try dsimp only))) | (dsimp only; walk1; (all_goals (try dsimp only)))))
        try dsimp only
        exact hQ _ _ (law_end (frz FM BK) (by assumption) rfl)
      · try dsimp only
        exact hQ _ _ (law_end (frz FE B) (by assumption) rfl)
    · rename Fr _ _ _ _ => FC
      try dsimp only
      exact hQ _ _ (law_end (frz FC B) (by assumption) rfl))
end Mine
end
end
theorem PySem.Challenge.cw_pq0120_01_holds : PySem.Challenge.rw_pq0120_01.Holds := by
  exact Mine.law0
