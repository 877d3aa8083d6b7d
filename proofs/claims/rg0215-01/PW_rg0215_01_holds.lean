import PyProof.Rows.All
import Wide.All
import OpenK.AllK
import Wide.FinOn
import Lean
import PySem.Challenge.RW_rg0215_01
section
open PySem PySem.W PyProof.Rows
set_option maxRecDepth 100000
set_option maxHeartbeats 8000000
set_option Elab.async false
namespace Mine
/-- the top's run upon a tree of objects; its parts stand open, so that the kernel may be handed quick ones -/
noncomputable def runG (ok : Nat → Option Value → Thread → Bool) (st : (Code → Sem Fin) → Program → World → SharedT → Thread → Option (SharedT × Thread)) (den : Code → Sem Fin) (p : Program) (w : World) (n₀ : Nat) (ann : Option Value) : Nat → SharedT → Thread → Option SharedT
  | 0, _, _ => none
  | n + 1, s, t => match through t with
    | true => some s
    | false => match ok n₀ ann t with
      | false => none
      | true => match st den p w s t with
        | some (s', t') => runG ok st den p w n₀ ann n s' t'
        | none => none
theorem runG_spec {tb : String → Option Builtin} {p : Program} {w : World} {n₀ : Nat} {ann : Option Value} : ∀ {n : Nat} {s s' : SharedT} {t : Thread}, runG stepOk stepT (denote tb) p w n₀ ann n s t = some s' → topRun tb p w n₀ ann n s.abs t = some s'.abs
  | 0, _, _, _, h => by cases h
  | n + 1, s, s', t, h => by
    unfold runG at h
    unfold topRun
    cases ht : through t with
    | true => rw [ht] at h; cases h; rfl
    | false =>
      rw [ht] at h
      cases hk : stepOk n₀ ann t with
      | false => rw [hk] at h; cases h
      | true =>
        rw [hk] at h
        cases hs : stepT (denote tb) p w s t with
        | none => rw [hs] at h; cases h
        | some r => obtain ⟨s₂, t₂⟩ := r; rw [hs] at h; rw [stepT_spec hs]; exact runG_spec h
/-- the same by the library's quick parts -/
noncomputable def runQ (p : Program) (w : World) (n₀ : Nat) (ann : Option Value) (n : Nat) (s : SharedT) (t : Thread) : Option SharedT :=
  runG PySem.W.Fast.tw6613529449190102663 PySem.W.Fast.tw10156331382660048174 (PySem.W.Fast.tw11892475500146522536 PySem.W.Fast.tw14364793385576792824) p w n₀ ann n s t
theorem runQ_spec {p : Program} {w : World} {n₀ : Nat} {ann : Option Value} {n : Nat} {s s' : SharedT} {t : Thread} (h : runQ p w n₀ ann n s t = some s') : topRun treeTable p w n₀ ann n s.abs t = some s'.abs := by
  unfold runQ at h
  rw [← PySem.W.Fast.te6613529449190102663, ← PySem.W.Fast.te10156331382660048174, ← PySem.W.Fast.te11892475500146522536, ← PySem.W.Fast.te14364793385576792824] at h
  exact runG_spec h
noncomputable def load (l : List Obj) : BT := (l.foldl (fun (x : BT × Nat) o => (x.1.ins x.2 o, x.2 + 1)) (BT.nil, 0)).1
noncomputable def bootS (w : World) (os : OsState) : SharedT := ⟨load (boot_heap w.params).objs.toList, 11, (boot_heap w.params).life, #[], boot_drawn, boot_toks, os⟩
theorem boot_abs (w : World) (os : OsState) : (bootS w os).abs = ⟨boot_heap w.params, Array.mk [], boot_drawn, boot_toks, os⟩ := by kernel_rfl
theorem boot_isNs (P : Params) : (boot_heap P).isNs mainGlobals = true := by kernel_rfl
theorem boot_size (P : Params) : (boot_heap P).objs.size = 11 := by kernel_rfl
theorem boot_ann (P : Params) : (boot_heap P).nsMap mainGlobals "__annotations__" = some (.ref 6) := by kernel_rfl
noncomputable abbrev seenQ := PySem.W.Fast.tw4187177175401517315
theorem seenQ_eq : openSeen = seenQ := PySem.W.Fast.te4187177175401517315
theorem left_of {p q : Program} {loose : List Str} {Xt : Shared → Bool} {α : Type} {Yf : Shared → α} {Ya : World → α} {N : Nat} {g0 : Bool} (e : opening p = plainProg p.main.scope.names) (hN : Nat.ble 600 N = true) (f : ∀ s, fenceModules? p s = some s)
    (chk1 : ∀ w : World, (fun os => (runQ p w 11 (some (.ref 6)) N (bootS w os) (topStub p)).map fun s =>
      (staticsOk (importedModules p.main.body) (boot_heap w.params) s.abs.heap && namesBound p s.abs.heap && gensDone s.abs && laidKept (boot_heap w.params) s.abs.heap, seenQ q loose (importedModules p.main.body) Xt g0 s.abs)) =
      fun _ => some (true, openGood q loose))
    (chk3 : ∀ w : World, (fun os => (runQ p w 11 (some (.ref 6)) N (bootS w os) (topStub p)).map fun s => Yf s.abs) = fun _ => some (Ya w)) : LeftO p q loose Xt Yf Ya N g0 := fun w => by
  obtain ⟨⟨h, gs, d, k, os⟩, e1, e2⟩ := Option.map_eq_some_iff.mp (boot_open e hN f w)
  obtain ⟨rfl, rfl, rfl, rfl⟩ : h = boot_heap w.params ∧ gs = Array.mk [] ∧ d = boot_drawn ∧ k = boot_toks := by simpa using e2
  obtain ⟨s, e3, e4⟩ := Option.map_eq_some_iff.mp (congrFun (chk1 w) os)
  obtain ⟨s₃, e7, e8⟩ := Option.map_eq_some_iff.mp (congrFun (chk3 w) os)
  obtain rfl : s = s₃ := Option.some.inj (e3.symm.trans e7)
  have r := runQ_spec e3
  rw [boot_abs] at r
  obtain ⟨l1, l2⟩ := Prod.mk.inj e4
  rw [← seenQ_eq] at l2
  unfold openEnds
  rw [e1]
  show (topFrom treeTable p w N _).map _ = _
  have t : topFrom treeTable p w N ⟨boot_heap w.params, Array.mk [], boot_drawn, boot_toks, os⟩ = some s.abs := by
    unfold topFrom
    dsimp only
    rw [boot_isNs, boot_size, boot_ann, r]
    show (match staticsOk _ _ _ && _ && _ && _ with | true => _ | false => _) = _
    rw [l1]
  rw [t]
  exact congrArg some (Prod.ext l2 e8)
end Mine
end
section
open PySem PySem.W PyProof.Rows
set_option Elab.async false
set_option maxRecDepth 100000
set_option maxHeartbeats 8000000
namespace Mine
noncomputable def VQ0 : Program := view PySem.Challenge.pw_rg0215_01 [0, 2, 3, 4, 6, 7, 8, 9, 10, 11, 13, 14, 15, 16, 17, 18, 19, 20, 21, 22, 23, 24, 25, 27, 28, 29, 31, 32, 33, 34]
theorem chainsQ : chainsOk VQ0 = true := by kernel_rfl
theorem op_eq : opening PySem.Challenge.pw_rg0215_01 = plainProg PySem.Challenge.pw_rg0215_01.main.scope.names := by kernel_rfl
theorem fence_eq : ∀ s, fenceModules? PySem.Challenge.pw_rg0215_01 s = some s := fun s => by kernel_rfl
theorem said : OpenLaw.wellSaid PySem.Challenge.rw_rg0215_01 = true := by
  rw [PySem.W.Fast.te9446332074065402090]
  kernel_rfl
noncomputable abbrev Xt0 (s : Shared) : Bool := xlAt VQ0 [] s && recOk (RowW.records PySem.Challenge.rw_rg0215_01.row.toRowW) s
noncomputable abbrev pw0 : Program := PySem.Challenge.rw_rg0215_01.row.prog
theorem chk1 (w : World) : (fun os => (runQ pw0 w 11 (some (.ref 6)) 6000 (bootS w os) (topStub pw0)).map fun s =>
      (staticsOk (importedModules pw0.main.body) (boot_heap w.params) s.abs.heap && namesBound pw0 s.abs.heap && gensDone s.abs && laidKept (boot_heap w.params) s.abs.heap, seenQ VQ0 [] (importedModules pw0.main.body) Xt0 true s.abs)) =
      fun _ => some (true, openGood VQ0 []) := by kernel_rfl
set_option hygiene false in
local macro_rules | `(tactic| o_law) => `(tactic| refine holds_law Mine.said fun said => ?_)
set_option hygiene false in
local macro_rules | `(tactic| o_head $H) => `(tactic| (refine holds_open (q := Mine.VQ0) (loose := []) (Xt := fun s => xlAt Mine.VQ0 [] s && recOk (RowW.records PySem.Challenge.rw_rg0215_01.row.toRowW) s) (XP := XL Mine.VQ0 []) (Yf := Hook.obs $H) (Ya := Hook.val $H) (YP := Hook.says $H) (N := 6000) ?hl (Hook.of $H) (Hook.keeps $H) (fun s e => xl_of s (Bool.and_eq_true_iff.mp e).1) XL.keeps (by rfl) (by rfl) (by rfl) (fun s e => recFacts_of (Bool.and_eq_true_iff.mp e).2) (by first | rfl | fail "open_line: no head takes a call that writes beside a table") (by first | assumption | decide +kernel) (by decide +kernel) ⟨rfl, rfl, rfl, rfl, rfl, by decide +kernel⟩ ?hw ?hc; (case hl => exact left_of op_eq rfl fence_eq chk1 (fun w => by kernel_rfl))))

open_top top0 for PySem.Challenge.rw_rg0215_01

end Mine
end
section
open PySem PySem.W PySem.Calls PyProof.Rows
set_option Elab.async false
namespace Mine
noncomputable def Off (h : Heap) (as : List Addr) (h' : Heap) : Prop := ∀ b o, h.get? b = some o → b ∉ as → h'.get? b = some o
theorem callOff {prog : Program} {w : World} {A₀ A : Around} {base h₀ : Heap} {L : Addr} {m : Str → Option Value} {s : Shared} {news : List (Addr × Obj)} {env : Env} {outer : List Env}
    {K : Frag} {p : Program} {loose : List Str} {mean : ExcName → Option Value} {mg mb : Str → Option Value} {R : Result → Shared → Prop} {name qual : Str} {params : Arguments} {body : List Stmt} {scope : Scope} {dV kV doc pm cdv ct oc : Value} {an od : Option Addr} {osl : Array (Option Value)} {f : Addr} {args : Args} {binds : List (Str × Value)}
    (B : Below A₀ base outer h₀) (F : Fr h₀ L s.heap m) (X₀ : K.In h₀) (N : News h₀ L s.heap news) (T : Top p loose mean mg mb h₀) (hA : A.frames = some (env :: outer)) (hf : env.frame = some L) (hke : env.scope.kind = .function)
    (ho : K.lookup f = some ⟨oc, od, .func (fnOf name qual params body scope dV kV doc pm an cdv ct), osl⟩) (hcd : codeIn K cdv qual = true) (hroom : A.depth < recursionLimit)
    (hbind : BindsTo s (fnOf name qual params body scope dV kV doc pm an cdv ct) args binds) (hloc : ∀ y ∈ binds, scope.names.lookup y.1 = some .local)
    (h : ∀ g L' h₁, Fr h₀ L g m → Fr g L' h₁ (fun y => binds.reverse.lookup y) → News g L' h₁ news → Below A base (env :: outer) g → K.In g → Top p loose mean mg mb g → GSub s.heap g (news.map (·.1)) →
      wpAny (model prog w) (A.deeper (envOf qual scope L' f cdv)) (execs body (envOf qual scope L' f cdv))
        (fun fl s' => LeaveK h₀ L m g (fun r s'' => Off s.heap (news.map (·.1)) s''.heap → R r s'') (match fl with | .ret v => v | _ => .none) s')
        (fun e s' => wpAny (model prog w) (A.deeper (envOf qual scope L' f cdv)) (leaving (envOf qual scope L' f cdv) e) (fun _ s'' => R (.error e) s'') (fun e' s'' => R (.error e') s'') s')
        { s with heap := h₁, toks := s.toks + binds.length })
    (hco : scope.isCoroutine = false) (hgen : scope.isGenerator = false) (hk : scope.kind = .function)
    (hcell : ∀ x ∈ scope.names, x.2 ≠ .cell) : codeAny (model prog w) A (.call (.ref f) args) R s := by
  refine code_defG B F X₀ N T hA hf hke ho hcd hroom hbind hloc (fun g L' h₁ FG F' N' B' X' T' G' => ?_) hco hgen hk hcell
  refine wpAny_mono (h g L' h₁ FG F' N' B' X' T' G') (fun fl s' hl => ?_) (fun _ _ y => y)
  obtain ⟨L₂, m', news', F₂, N₂, k⟩ := hl
  exact ⟨L₂, m', news', F₂, N₂, fun a b => k a b (fun b o e n => F₂.keep b o (G' b o e n))⟩

/-- the frame of a caller of any kind -/
noncomputable abbrev top (dp un : Nat) (gd : Option (List Code)) (env : Env) (outer : List Env) : Around := { handled := none, depth := dp, frames := some (env :: outer), guards := gd, units := un }

noncomputable abbrev Ctr (w : World) (K : Frag) (p : Program) (loose : List Str) (mean : ExcName → Option Value) (mg mb : Str → Option Value) (dk uk : Nat) (f : Addr) (news : List (Addr × Obj)) (vs : List Value)
    (Post : Value → List (Addr × Obj) → Prop) : Prop :=
  ∀ (dp un : Nat) (gd : Option (List Code)) (env : Env) (outer : List Env) (A₀ : Around) (base h₀ : Heap) (L : Addr) (m : Str → Option Value) (s : Shared) (Q E : Value → Shared → Prop),
    Below A₀ base outer h₀ → Fr h₀ L s.heap m → K.In h₀ → News h₀ L s.heap news → Top p loose mean mg mb h₀ → env.frame = some L → env.scope.kind = .function →
    dp + dk < recursionLimit → un + uk < cLine →
    (∀ v news' h' tk', Fr h₀ L h' m → News h₀ L h' news' → Post v news' → Off s.heap (news.map (·.1)) h' → Q v { s with heap := h', toks := tk' }) →
      wpAny (model PySem.Challenge.rw_rg0215_01.row.prog w) (top dp un gd env outer) (call (.ref f) vs) Q E s
noncomputable abbrev tupO (vs : List Value) (n : Nat) : Obj := { cls := .type "tuple", data := .seq vs.toArray n }
/-- the same, upon a heap of which something more is known -/
noncomputable abbrev CtrP (w : World) (K : Frag) (p : Program) (loose : List Str) (mean : ExcName → Option Value) (mg mb : Str → Option Value) (dk uk : Nat) (f : Addr) (Pre : Heap → Prop) (news : List (Addr × Obj)) (vs : List Value)
    (Post : Value → List (Addr × Obj) → Prop) : Prop :=
  ∀ (dp un : Nat) (gd : Option (List Code)) (env : Env) (outer : List Env) (A₀ : Around) (base h₀ : Heap) (L : Addr) (m : Str → Option Value) (s : Shared) (Q E : Value → Shared → Prop),
    Below A₀ base outer h₀ → Fr h₀ L s.heap m → K.In h₀ → News h₀ L s.heap news → Top p loose mean mg mb h₀ → env.frame = some L → env.scope.kind = .function →
    dp + dk < recursionLimit → un + uk < cLine → Pre s.heap →
    (∀ v news' h' tk', Fr h₀ L h' m → News h₀ L h' news' → Post v news' → Off s.heap (news.map (·.1)) h' → Q v { s with heap := h', toks := tk' }) →
      wpAny (model PySem.Challenge.rw_rg0215_01.row.prog w) (top dp un gd env outer) (call (.ref f) vs) Q E s
end Mine
end
section
namespace Mine
noncomputable def keptStep (ks : List Int) (n : Int) : Option (List Int) := if -n ∈ ks then none else some (if n ∈ ks then ks else ks ++ [n])
noncomputable def keptFrom (o : Option (List Int)) (ns : List Int) : Option (List Int) := ns.foldl (fun o n => o.bind (keptStep · n)) o
noncomputable def keptL (ns : List Int) : Option (List Int) := keptFrom (some []) ns
theorem keptFrom_none (ns : List Int) : keptFrom none ns = none := by
  induction ns with
  | nil => rfl
  | cons n r ih => exact ih
theorem keptL_snoc {pre ks : List Int} (n : Int) (h : keptL pre = some ks) : keptL (pre ++ [n]) = keptStep ks n := by
  unfold keptL keptFrom at *
  rw [List.foldl_append, h]; rfl
theorem keptL_clash {pre ks post : List Int} {n : Int} (h : keptL pre = some ks) (hc : -n ∈ ks) : keptL (pre ++ n :: post) = none := by
  have e : pre ++ n :: post = (pre ++ [n]) ++ post := by simp
  have s := keptL_snoc n h
  rw [keptStep, if_pos hc] at s
  rw [e]
  unfold keptL at *
  unfold keptFrom at *
  rw [List.foldl_append, s]
  exact keptFrom_none post
theorem keptFrom_spec (ns : List Int) (hz : ∀ x ∈ ns, x ≠ 0) : ∀ ks₀ : List Int, ks₀.Nodup → (∀ x ∈ ks₀, -x ∉ ks₀) →
    (keptFrom (some ks₀) ns = none → ∃ x, (x ∈ ks₀ ∨ x ∈ ns) ∧ (-x ∈ ks₀ ∨ -x ∈ ns)) ∧
    (∀ ks, keptFrom (some ks₀) ns = some ks → (∀ x, x ∈ ks ↔ x ∈ ks₀ ∨ x ∈ ns) ∧ ks.Nodup ∧ (∀ x ∈ ks, -x ∉ ks)) := by
  induction ns with
  | nil =>
    intro ks₀ hn hc
    refine ⟨fun h => (by cases h), fun ks h => ?_⟩
    cases h
    exact ⟨fun x => by simp, hn, hc⟩
  | cons n r ih =>
    intro ks₀ hn hc
    have ih := ih (fun x hx => hz x (List.mem_cons_of_mem _ hx))
    have hn0 := hz n List.mem_cons_self
    have step : keptFrom (some ks₀) (n :: r) = keptFrom (keptStep ks₀ n) r := rfl
    rw [step]
    unfold keptStep
    by_cases h1 : -n ∈ ks₀
    · rw [if_pos h1, keptFrom_none]
      refine ⟨fun _ => ⟨n, .inr List.mem_cons_self, .inl h1⟩, fun ks h => by cases h⟩
    · rw [if_neg h1]
      by_cases h2 : n ∈ ks₀
      · rw [if_pos h2]
        obtain ⟨a, b⟩ := ih ks₀ hn hc
        refine ⟨fun h => ?_, fun ks h => ?_⟩
        · obtain ⟨x, p, q⟩ := a h
          exact ⟨x, p.imp id (List.mem_cons_of_mem _), q.imp id (List.mem_cons_of_mem _)⟩
        · obtain ⟨p, q⟩ := b ks h
          refine ⟨fun x => ?_, q⟩
          rw [p x, List.mem_cons]
          constructor
          · rintro (h | h)
            · exact .inl h
            · exact .inr (.inr h)
          · rintro (h | h | h)
            · exact .inl h
            · exact .inl (h ▸ h2)
            · exact .inr h
      · rw [if_neg h2]
        have hn' : (ks₀ ++ [n]).Nodup := by
          rw [List.nodup_append]
          refine ⟨hn, by simp, ?_⟩
          intro x hx y hy e
          rw [List.mem_singleton] at hy
          exact h2 (hy ▸ e ▸ hx)
        have hc' : ∀ x ∈ ks₀ ++ [n], -x ∉ ks₀ ++ [n] := by
          intro x hx hm
          rw [List.mem_append, List.mem_singleton] at hx hm
          rcases hx with hx | hx
          · rcases hm with hm | hm
            · exact hc x hx hm
            · exact h1 (by rw [← hm]; simpa using hx)
          · rcases hm with hm | hm
            · exact h1 (hx ▸ hm)
            · omega
        obtain ⟨a, b⟩ := ih _ hn' hc'
        refine ⟨fun h => ?_, fun ks h => ?_⟩
        · obtain ⟨x, p, q⟩ := a h
          refine ⟨x, ?_, ?_⟩
          · rcases p with p | p
            · rcases List.mem_append.mp p with p | p
              · exact .inl p
              · exact .inr (by rw [List.mem_singleton.mp p]; exact List.mem_cons_self)
            · exact .inr (List.mem_cons_of_mem _ p)
          · rcases q with p | p
            · rcases List.mem_append.mp p with p | p
              · exact .inl p
              · exact .inr (by rw [List.mem_singleton.mp p]; exact List.mem_cons_self)
            · exact .inr (List.mem_cons_of_mem _ p)
        · obtain ⟨p, q⟩ := b ks h
          refine ⟨fun x => ?_, q⟩
          rw [p x, List.mem_append, List.mem_singleton, List.mem_cons]
          constructor
          · rintro ((h | h) | h)
            · exact .inl h
            · exact .inr (.inl h)
            · exact .inr (.inr h)
          · rintro (h | h | h)
            · exact .inl (.inl h)
            · exact .inl (.inr h)
            · exact .inr h
noncomputable def uni : List Int := [-1, 1, -2, 2, -3, 3, -4, 4]
noncomputable def holdsB (lit world : Int) : Bool := ((world.fdiv (2 ^ ((if lit < 0 then -lit else lit) - 1).toNat)).fmod 2 == 1) == decide (0 < lit)
noncomputable def wlist : List Int := [0, 1, 2, 3, 4, 5, 6, 7, 8, 9, 10, 11, 12, 13, 14, 15]
noncomputable def wsL (ns : List Int) : List Int := wlist.filter fun w => decide (ns.filter (fun l => holdsB l w) = [])
noncomputable def clauseL (ns : List Int) : Option (List Int) := if wsL ns = [] then none else some (uni.filter fun l => decide ((wsL ns).filter (fun w => holdsB l w) = []))
noncomputable def tidyL (ns : List Int) : Option (List Int) := (keptL ns).map fun ks => uni.filter fun l => decide (l ∈ ks)
noncomputable def tidyS (S : List Int) : Option (List Int) := if S.any (fun l => decide (-l ∈ S)) then none else some S
noncomputable def pick (b1 b2 b3 b4 b5 b6 b7 b8 : Bool) : List Int :=
  (if b1 then [-1] else []) ++ ((if b2 then [1] else []) ++ ((if b3 then [-2] else []) ++ ((if b4 then [2] else []) ++ ((if b5 then [-3] else []) ++ ((if b6 then [3] else []) ++ ((if b7 then [-4] else []) ++ (if b8 then [4] else [])))))))
theorem small : ∀ b1 b2 b3 b4 b5 b6 b7 b8 : Bool, tidyS (pick b1 b2 b3 b4 b5 b6 b7 b8) = clauseL (pick b1 b2 b3 b4 b5 b6 b7 b8) := by decide +kernel
theorem fpc (f : Int → Bool) (x : Int) (l : List Int) : (x :: l).filter f = (if f x then [x] else []) ++ l.filter f := by
  rw [List.filter_cons]
  cases f x <;> rfl
theorem filter_pick (f : Int → Bool) : uni.filter f = pick (f (-1)) (f 1) (f (-2)) (f 2) (f (-3)) (f 3) (f (-4)) (f 4) := by
  unfold uni pick
  rw [fpc, fpc, fpc, fpc, fpc, fpc, fpc, fpc, List.filter_nil, List.append_nil]
theorem wsL_of (ns S : List Int) (h : ∀ x, x ∈ ns ↔ x ∈ S) : wsL ns = wsL S := by
  unfold wsL
  congr 1
  funext w
  have e : (ns.filter (fun l => holdsB l w) = []) ↔ (S.filter (fun l => holdsB l w) = []) := by
    rw [List.filter_eq_nil_iff, List.filter_eq_nil_iff]
    exact ⟨fun q x hx => q x ((h x).mpr hx), fun q x hx => q x ((h x).mp hx)⟩
  simp only [e]
theorem clauseL_of (ns S : List Int) (h : ∀ x, x ∈ ns ↔ x ∈ S) : clauseL ns = clauseL S := by
  unfold clauseL
  rw [wsL_of ns S h]
theorem tidyL_eq (ns : List Int) (hu : ∀ x ∈ ns, x ∈ uni) : tidyL ns = clauseL ns := by
  have hS : ∀ x, x ∈ ns ↔ x ∈ uni.filter fun l => decide (l ∈ ns) := fun x => by
    rw [List.mem_filter, decide_eq_true_eq]; exact ⟨fun h => ⟨hu x h, h⟩, fun h => h.2⟩
  have hz : ∀ x ∈ ns, x ≠ 0 := fun x hx e => by
    have := hu x hx
    rw [e] at this
    revert this; decide
  rw [clauseL_of ns _ hS, filter_pick, ← small, ← filter_pick (fun l => decide (l ∈ ns))]
  obtain ⟨a, b⟩ := keptFrom_spec ns hz [] List.nodup_nil (fun _ h => (nomatch h))
  unfold tidyL tidyS
  cases q : keptL ns with
  | none =>
    obtain ⟨x, p, r⟩ := a q
    have p : x ∈ ns := by rcases p with p | p; cases p; exact p
    have r : -x ∈ ns := by rcases r with p | p; cases p; exact p
    rw [if_pos (List.any_eq_true.mpr ⟨x, (hS x).mp p, decide_eq_true ((hS _).mp r)⟩)]
    rfl
  | some ks =>
    obtain ⟨p, _, r⟩ := b ks q
    have p : ∀ x, x ∈ ks ↔ x ∈ ns := fun x => by rw [p x]; simp
    rw [if_neg (fun h => ?_)]
    · have e : (fun l => decide (l ∈ ks)) = fun l => decide (l ∈ ns) := funext fun l => by simp only [p l]
      show some (uni.filter fun l => decide (l ∈ ks)) = some (uni.filter fun l => decide (l ∈ ns))
      rw [e]
    · obtain ⟨x, hx, hn⟩ := List.any_eq_true.mp h
      exact r x ((p x).mpr ((hS x).mpr hx)) ((p _).mpr ((hS _).mpr (of_decide_eq_true hn)))
theorem tidyL_rev (ns : List Int) (hu : ∀ x ∈ ns, x ∈ uni) : tidyL (ns.reverse ++ ns) = clauseL ns := by
  rw [tidyL_eq _ (fun x hx => hu x (by simpa using hx))]
  exact clauseL_of _ _ fun x => by simp
/-- what a kept list is -/
structure KeptOk (ks : List Int) : Prop where
  mem : ∀ x ∈ ks, x ∈ uni
  nodup : ks.Nodup
  apart : ∀ x ∈ ks, -x ∉ ks
theorem kept_ok {ns ks : List Int} (hu : ∀ x ∈ ns, x ∈ uni) (h : keptL ns = some ks) : KeptOk ks := by
  have hz : ∀ x ∈ ns, x ≠ 0 := fun x hx e => by
    have := hu x hx
    rw [e] at this
    revert this; decide
  obtain ⟨p, q, r⟩ := (keptFrom_spec ns hz [] List.nodup_nil (fun _ h => (nomatch h))).2 ks h
  exact ⟨fun x hx => hu x (by simpa using (p x).mp hx), q, r⟩
end Mine
end
section
open PySem PySem.W PySem.Calls PyProof.Rows PyProof.V
set_option Elab.async false
set_option maxRecDepth 100000
set_option maxHeartbeats 8000000
namespace Mine
theorem ctr_use {w : World} {K : Frag} {p : Program} {loose : List Str} {mean : ExcName → Option Value} {mg mb : Str → Option Value} {dk uk : Nat} {f : Addr} {news : List (Addr × Obj)} {vs : List Value}
    {Post : Value → List (Addr × Obj) → Prop} (C : Ctr w K p loose mean mg mb dk uk f news vs Post) {A : Around} {env : Env} {outer : List Env} {A₀ : Around} {base h₀ : Heap} {L : Addr} {m : Str → Option Value} {s : Shared} {Q E : Value → Shared → Prop}
    (hA : A.frames = some (env :: outer)) (hh : A.handled = none) (B : Below A₀ base outer h₀) (F : Fr h₀ L s.heap m) (X : K.In h₀) (N : News h₀ L s.heap news) (T : Top p loose mean mg mb h₀) (hf : env.frame = some L) (hk : env.scope.kind = .function)
    (hd : A.depth + dk < recursionLimit) (hu : A.units + uk < cLine)
    (ret : ∀ v news' h' tk', Fr h₀ L h' m → News h₀ L h' news' → Post v news' → Off s.heap (news.map (·.1)) h' → Q v { s with heap := h', toks := tk' }) :
    wpAny (model PySem.Challenge.rw_rg0215_01.row.prog w) A (call (.ref f) vs) Q E s := by
  obtain ⟨hd', dp, fr, gd, un⟩ := A
  dsimp only at hA hh hd hu
  subst hA hh
  exact C dp un gd env outer A₀ base h₀ L m s Q E B F X N T hf hk hd hu ret


theorem fmod_lo {x m : Int} (h : 0 < m) : 0 ≤ x.fmod m := by
  rw [Int.fmod_eq_emod_of_nonneg x (Int.le_of_lt h)]; exact Int.emod_nonneg x (by omega)
theorem fmod_hi {x m : Int} (h : 0 < m) : x.fmod m < m := by
  rw [Int.fmod_eq_emod_of_nonneg x (Int.le_of_lt h)]; exact Int.emod_lt_of_pos x h
noncomputable abbrev PG : Program := PySem.Challenge.rw_rg0215_01.row.prog
theorem spoon {w : World} {p : Program} {loose : List Str} {mean : ExcName → Option Value} {mg mb : Str → Option Value} {bowl c : Addr} {ob : Obj} {cs : List Value} {n : Nat} {ns : List Int} {a : Int} {ta : Tok} {many : Int} {tm : Tok}
    (hb : ob.IsDictOf (PySem.strKind PySem.Challenge.rw_rg0215_01.row.prog w) [(Str.ofString "cells", .ref c), (Str.ofString "at", .int a ta)]) (hi : IntsAre cs ns) (hl : ns.length ≤ 60)
    (h0 : 0 ≤ a) (h1 : a < 1000) (m0 : 0 < many) (m1 : many < 12) (hne : @Ne Nat bowl c) :
    Ctr w (top0.heap_1 w.params) p loose mean mg mb 2 20 796 [(bowl, ob), (c, listOf cs.toArray n)] [.ref bowl, .int many tm]
      (fun v news' => ∃ x t ob' t', v = .int x t ∧ 0 ≤ x ∧ x < many ∧ news' = [(bowl, ob'), (c, listOf cs.toArray n)] ∧ ob'.IsDictOf (PySem.strKind PySem.Challenge.rw_rg0215_01.row.prog w) [(Str.ofString "cells", .ref c), (Str.ofString "at", .int (a + 1) t')]) := by
  k_fill
  intro dp un gd env outer A₀ base h₀ L m s Q E B F X N T hf hk hd hu hret
  (refine wpAny_call ?_; k_dflt (refine' callOff ?k1 ?k2 ?k3 ?k4 ?k5 ?kA ?kF ?kK ?k6 ?k7 ?k8 ?k9 ?kB ?_ ?c2 ?c3 ?c4 ?c5; (case kA => exact rfl); (case kF => assumption); (case kK => assumption); (case k1 => k_asm); (case k2 => k_asm); (case k3 => k_asm); (case k4 => k_asm); (case k5 => k_asm); (case k6 => k_is); (case k7 => k_is); (case k8 => ((try dsimp only); omega)); (case k9 => exact BindsTo.of_eq rfl); (case c5 => decide); (case kB => exact locs rfl); (case c2 => exact rfl); (case c3 => exact rfl); (case c4 => exact rfl); k_whole; intro g' L' h' FG' F' N' B' X' T' G'; (try dsimp only); (try k_lift B'); (try k_fold)))
  k_with_none
  w_on
  k_steps
  all_goals (refine hret _ _ _ _ (by k_asm) (by k_asm) ⟨_, _, _, _, rfl, ?_, ?_, rfl, by k_asm⟩ (by k_asm))
  all_goals first | exact fmod_lo m0 | exact fmod_hi m0

theorem holdsT {w : World} {p : Program} {loose : List Str} {mean : ExcName → Option Value} {mg mb : Str → Option Value} {lit world : Int} {t1 t2 : Tok}
    (h0 : 1 ≤ lit.natAbs) (h1 : lit.natAbs ≤ 4) (w0 : 0 ≤ world) (w1 : world < 16) :
    Ctr w (top0.heap_1 w.params) p loose mean mg mb 2 20 803 [] [.int lit t1, .int world t2]
      (fun v _ => v = .bool (holdsB lit world) ∧ PySem.Challenge.rw_rg0215_01.row.prog = PySem.Challenge.rw_rg0215_01.row.prog) := by
  k_fill
  intro dp un gd env outer A₀ base h₀ L m s Q E B F X N T hf hk hd hu hret
  (refine wpAny_call ?_; k_dflt (refine' callOff ?k1 ?k2 ?k3 ?k4 ?k5 ?kA ?kF ?kK ?k6 ?k7 ?k8 ?k9 ?kB ?_ ?c2 ?c3 ?c4 ?c5; (case kA => exact rfl); (case kF => assumption); (case kK => assumption); (case k1 => k_asm); (case k2 => k_asm); (case k3 => k_asm); (case k4 => k_asm); (case k5 => k_asm); (case k6 => k_is); (case k7 => k_is); (case k8 => ((try dsimp only); omega)); (case k9 => exact BindsTo.of_eq rfl); (case c5 => decide); (case kB => exact locs rfl); (case c2 => exact rfl); (case c3 => exact rfl); (case c4 => exact rfl); k_whole; intro g' L' h' FG' F' N' B' X' T' G'; (try dsimp only); (try k_lift B'); (try k_fold)))
  k_with_none
  w_on
  k_steps
  all_goals (refine hret _ _ _ _ (by k_asm) (by k_asm) ⟨rfl, rfl⟩ (by k_asm))

noncomputable def keyObj (k : Int) (t : Tok) : Obj := { cls := .type "tuple", data := .seq #[.int (if k < 0 then -k else k) t, .bool (decide (0 < k))] }
theorem orderT {w : World} {p : Program} {loose : List Str} {mean : ExcName → Option Value} {mg mb : Str → Option Value} {lit : Int} {t1 : Tok} :
    Ctr w (top0.heap_1 w.params) p loose mean mg mb 2 20 105 [] [.int lit t1]
      (fun v news' => ∃ a t, v = .ref a ∧ (a, keyObj lit t) ∈ news' ∧ PySem.Challenge.rw_rg0215_01.row.prog = PySem.Challenge.rw_rg0215_01.row.prog) := by
  k_fill
  intro dp un gd env outer A₀ base h₀ L m s Q E B F X N T hf hk hd hu hret
  (refine wpAny_call ?_; k_dflt (refine' callOff ?k1 ?k2 ?k3 ?k4 ?k5 ?kA ?kF ?kK ?k6 ?k7 ?k8 ?k9 ?kB ?_ ?c2 ?c3 ?c4 ?c5; (case kA => exact rfl); (case kF => assumption); (case kK => assumption); (case k1 => k_asm); (case k2 => k_asm); (case k3 => k_asm); (case k4 => k_asm); (case k5 => k_asm); (case k6 => k_is); (case k7 => k_is); (case k8 => ((try dsimp only); omega)); (case k9 => exact BindsTo.of_eq rfl); (case c5 => decide); (case kB => exact locs rfl); (case c2 => exact rfl); (case c3 => exact rfl); (case c4 => exact rfl); k_whole; intro g' L' h' FG' F' N' B' X' T' G'; (try dsimp only); (try k_lift B'); (try k_fold)))
  k_with_none
  w_on
  k_steps
  all_goals (refine hret _ _ _ _ (by k_asm) (by k_asm) ⟨_, _, rfl, .head _, rfl⟩ (by k_asm))
end Mine
end
section
open PySem PySem.W PySem.Calls PyProof.Rows PyProof.V
set_option Elab.async false
set_option maxRecDepth 100000
set_option maxHeartbeats 8000000
namespace Mine
noncomputable def absI (k : Int) : Int := if k < 0 then -k else k
noncomputable def kRun {α : Type} (c : Nat → Nat → Bool) : KasT α → α
  | .ret a => a
  | .ask i j k => kRun c (k (c i j))
noncomputable def kAsks {α : Type} (n : Nat) : KasT α → Bool
  | .ret _ => true
  | .ask i j k => decide (i < n ∧ j < n ∧ i ≠ j) && kAsks n (k true) && kAsks n (k false)
theorem run_wp {α : Type} {cmp : Nat → Nat → (Bool → Shared → Prop) → Shared → Prop} {c : Nat → Nat → Bool} {n : Nat} {Q : α → Shared → Prop} {s : Shared}
    (h : ∀ i j C, i < n → j < n → i ≠ j → C (c i j) s → cmp i j C s) : ∀ t : KasT α, kAsks n t = true → Q (kRun c t) s → t.kasWp cmp Q s
  | .ret _, _, q => q
  | .ask i j k, a, q => by
    unfold kAsks at a
    simp only [Bool.and_eq_true, decide_eq_true_eq] at a
    refine h i j _ a.1.1.1 a.1.1.2.1 a.1.1.2.2 (run_wp h (k (c i j)) ?_ q)
    cases c i j
    · exact a.2
    · exact a.1.2
theorem asks2 : kAsks 2 (kas_sort 2) = true := by decide +kernel
theorem asks3 : kAsks 3 (kas_sort 3) = true := by decide +kernel
theorem asks4 : kAsks 4 (kas_sort 4) = true := by decide +kernel
noncomputable def cmpL (ks : List Int) (i j : Nat) : Bool := decide (absI (ks.getD i 0) < absI (ks.getD j 0))
noncomputable def permL (ks : List Int) : List Nat := (kRun (cmpL ks) (kas_sort ks.length)).toList
noncomputable def apartB (ks : List Int) : Bool := ks.all (fun x => !ks.contains (-x)) && decide ks.Nodup
noncomputable def goodB (ks : List Int) : Bool := !apartB ks || (permL ks).map (fun i => ks.getD i 0) == uni.filter (fun l => decide (l ∈ ks)) && (permL ks).all (fun i => decide (i < ks.length))
theorem good2 : (uni.all fun a => uni.all fun b => goodB [a, b]) = true := by decide +kernel
theorem good3 : (uni.all fun a => uni.all fun b => uni.all fun c => goodB [a, b, c]) = true := by decide +kernel
theorem good4 : (uni.all fun a => uni.all fun b => uni.all fun c => uni.all fun d => goodB [a, b, c, d]) = true := by decide +kernel
theorem len4 : ∀ b1 b2 b3 b4 b5 b6 b7 b8 : Bool, (b1 && b2) = false → (b3 && b4) = false → (b5 && b6) = false → (b7 && b8) = false → (pick b1 b2 b3 b4 b5 b6 b7 b8).length ≤ 4 := by decide
theorem KeptOk.len {ks : List Int} (h : KeptOk ks) : ks.length ≤ 4 := by
  have nd : (uni.filter fun l => decide (l ∈ ks)).Nodup := List.Pairwise.filter _ (by decide)
  have p : ks.Perm (uni.filter fun l => decide (l ∈ ks)) := (List.perm_ext_iff_of_nodup h.nodup nd).mpr fun a => by
    rw [List.mem_filter, decide_eq_true_eq]; exact ⟨fun q => ⟨h.mem a q, q⟩, fun q => q.2⟩
  rw [p.length_eq, filter_pick]
  have no : ∀ x : Int, (decide (x ∈ ks) && decide (-x ∈ ks)) = false := fun x => by
    by_cases hx : x ∈ ks
    · rw [decide_eq_false (h.apart x hx), Bool.and_false]
    · rw [decide_eq_false hx, Bool.false_and]
  have no' : ∀ x : Int, (decide (-x ∈ ks) && decide (x ∈ ks)) = false := fun x => by rw [Bool.and_comm]; exact no x
  exact len4 _ _ _ _ _ _ _ _ (no' 1) (no' 2) (no' 3) (no' 4)
theorem KeptOk.apartB {ks : List Int} (h : KeptOk ks) : apartB ks = true := by
  unfold Mine.apartB
  rw [Bool.and_eq_true, List.all_eq_true, decide_eq_true_eq]
  refine ⟨fun x hx => ?_, h.nodup⟩
  have := h.apart x hx
  simpa using this
theorem KeptOk.good {ks : List Int} (h : KeptOk ks) (h2 : 2 ≤ ks.length) : (permL ks).map (fun i => ks.getD i 0) = uni.filter (fun l => decide (l ∈ ks)) ∧ ∀ i ∈ permL ks, i < ks.length := by
  have g : goodB ks = true := by
    have l4 := h.len
    have hu := h.mem
    match ks, h2, l4 with
    | [a, b], _, _ =>
      have := List.all_eq_true.mp (List.all_eq_true.mp good2 a (hu a (by simp))) b (hu b (by simp))
      exact this
    | [a, b, c], _, _ =>
      exact List.all_eq_true.mp (List.all_eq_true.mp (List.all_eq_true.mp good3 a (hu a (by simp))) b (hu b (by simp))) c (hu c (by simp))
    | [a, b, c, d], _, _ =>
      exact List.all_eq_true.mp (List.all_eq_true.mp (List.all_eq_true.mp (List.all_eq_true.mp good4 a (hu a (by simp))) b (hu b (by simp))) c (hu c (by simp))) d (hu d (by simp))
  unfold goodB at g
  rw [h.apartB] at g
  simp only [Bool.not_true, Bool.false_or, Bool.and_eq_true, beq_iff_eq, List.all_eq_true, decide_eq_true_eq] at g
  exact g
theorem KeptOk.asks {ks : List Int} (h : KeptOk ks) (h2 : 2 ≤ ks.length) : kAsks ks.length (kas_sort ks.length) = true := by
  have l4 := h.len
  have : ks.length = 2 ∨ ks.length = 3 ∨ ks.length = 4 := by omega
  rcases this with e | e | e <;> rw [e]
  · exact asks2
  · exact asks3
  · exact asks4
theorem KeptOk.small {ks : List Int} (h : KeptOk ks) (h2 : ks.length < 2) : ks = uni.filter (fun l => decide (l ∈ ks)) := by
  have hu := h.mem
  match ks, h2 with
  | [], _ => rfl
  | [a], _ =>
    have hg : (uni.all fun a => decide ([a] = uni.filter (fun l => decide (l ∈ [a])))) = true := by decide +kernel
    exact of_decide_eq_true (List.all_eq_true.mp hg a (hu a (by simp)))
end Mine
end
section
open PySem PySem.W PySem.Calls PyProof.Rows PyProof.V
set_option Elab.async false
set_option maxRecDepth 100000
set_option maxHeartbeats 8000000
namespace Mine
theorem KeptOk.ne {ks : List Int} (h : KeptOk ks) {i j : Nat} (hi : i < ks.length) (hj : j < ks.length) (hn : i ≠ j) : absI (ks.getD i 0) ≠ absI (ks.getD j 0) := by
  have ei : ks.getD i 0 = ks[i] := by simp [hi]
  have ej : ks.getD j 0 = ks[j] := by simp [hj]
  rw [ei, ej]
  have mi : ks[i] ∈ ks := List.getElem_mem hi
  have mj : ks[j] ∈ ks := List.getElem_mem hj
  have h1 : ks[i] ≠ ks[j] := fun e => hn ((List.getElem_inj h.nodup).mp e)
  have h2 : ks[i] ≠ -ks[j] := fun e => h.apart _ mj (e ▸ mi)
  unfold absI
  intro e
  split at e <;> split at e <;> omega
inductive KeysAt (news : List (Addr × Obj)) : List Value → List Int → Prop
  | nil : KeysAt news [] []
  | cons {a : Addr} {k : Int} {t : Tok} {vs : List Value} {ks : List Int} : (a, keyObj k t) ∈ news → KeysAt news vs ks → KeysAt news (.ref a :: vs) (k :: ks)
theorem KeysAt.mono {news news' : List (Addr × Obj)} (hs : ∀ p ∈ news, p ∈ news') : ∀ {vs : List Value} {ks : List Int}, KeysAt news vs ks → KeysAt news' vs ks
  | _, _, .nil => .nil
  | _, _, .cons h r => .cons (hs _ h) (KeysAt.mono hs r)
theorem KeysAt.snoc {news : List (Addr × Obj)} {a : Addr} {k : Int} {t : Tok} (h : (a, keyObj k t) ∈ news) : ∀ {vs : List Value} {ks : List Int}, KeysAt news vs ks → KeysAt news (vs ++ [.ref a]) (ks ++ [k])
  | _, _, .nil => .cons h .nil
  | _, _, .cons q r => .cons q (KeysAt.snoc h r)
theorem KeysAt.length {news : List (Addr × Obj)} : ∀ {vs : List Value} {ks : List Int}, KeysAt news vs ks → vs.length = ks.length
  | _, _, .nil => rfl
  | _, _, .cons _ r => by rw [List.length_cons, List.length_cons, r.length]
theorem KeysAt.get {news : List (Addr × Obj)} : ∀ {vs : List Value} {ks : List Int} (i : Nat), KeysAt news vs ks → i < ks.length → ∃ a t, vs.getD i Value.none = .ref a ∧ (a, keyObj (ks.getD i 0) t) ∈ news
  | _, _, _, .nil, h => absurd h (Nat.not_lt_zero _)
  | _, _, 0, .cons q _, _ => ⟨_, _, rfl, q⟩
  | _, _, i + 1, .cons _ r, h => by
    obtain ⟨a, t, e, m⟩ := r.get i (Nat.lt_of_succ_lt_succ h)
    exact ⟨a, t, by simpa using e, by simpa using m⟩
section
variable {w : World} {A : Around} {E : Value → Shared → Prop} {s : Shared} {h₀ : Heap} {L : Addr} {m : Str → Option Value} {news : List (Addr × Obj)}
theorem lt_keys {x y : Addr} {k l : Int} {t u : Tok} {C : Bool → Shared → Prop} (N : News h₀ L s.heap news) (hx : (x, keyObj k t) ∈ news) (hy : (y, keyObj l u) ∈ news) (hn : absI k ≠ absI l)
    (h : C (decide (absI k < absI l)) s) : wpAny (model PG w) A (keyLt' (tuples' true) (.ref x) (.ref y)) C E s := by
  refine kat_lt (N _ hx).1 rfl (N _ hy).1 rfl ?_
  show KatLex _ _ _ _ _ _ [(.int (absI k) t, .int (absI l) u), (.bool _, .bool _)] 0 s
  refine kat_cons (wpAny_eqBool_int ?_)
  rw [show (absI k == absI l) = false by simp [hn]]
  refine kat_no ?_
  exact oneLt_int h
theorem firsts_of : ∀ {vs : List Value} {ks : List Int}, News h₀ L s.heap news → KeysAt news vs ks → ∃ fs, KatTups s.heap vs fs ∧ fs.length = ks.length ∧ ∀ v ∈ fs, ∃ i t, v = Value.int i t
  | _, _, _, .nil => ⟨[], .nil, rfl, fun _ h => nomatch h⟩
  | _, _, N, .cons (k := k) (t := t) q r => by
    obtain ⟨fs, a, b, c⟩ := firsts_of N r
    exact ⟨.int (absI k) t :: fs, KatTups.cons (N _ q).1 rfl rfl rfl a, by rw [List.length_cons, List.length_cons, b], fun v hv => by
      rcases List.mem_cons.mp hv with rfl | hv
      · exact ⟨_, _, rfl⟩
      · exact c v hv⟩
theorem sort_keys {vs : List Value} {ks : List Int} {Q : Array Nat → Shared → Prop} (N : News h₀ L s.heap news) (K : KeysAt news vs ks) (ok : KeptOk ks) (h2 : 2 ≤ ks.length)
    (h : ∀ p : Array Nat, p.toList = permL ks → Q p s) :
    wpAny (model PG w) A (keyKind' vs.toArray) (fun κ s' => (kas_sort ks.length).kasWp (kas_ask PG w A κ vs) Q s') E s := by
  obtain ⟨fs, ht, hl, hi⟩ := firsts_of N K
  refine kat_kind (T := .type "int") ht (by omega) (fun v hv => ?_) (by rfl) ?_
  · obtain ⟨i, t, rfl⟩ := hi v hv
    exact Looks.of_pure rfl
  · refine run_wp (c := cmpL ks) (n := ks.length) (fun i j C hi hj hn hc => ?_) _ (ok.asks h2) (h _ rfl)
    obtain ⟨a, t, ea, ma⟩ := K.get i hi
    obtain ⟨b, u, eb, mb⟩ := K.get j hj
    unfold kas_ask
    rw [ea, eb]
    exact lt_keys N ma mb (ok.ne hi hj hn) hc
end
end Mine
end
section
open PySem PySem.W PySem.Calls PyProof.Rows PyProof.V
set_option Elab.async false
set_option maxRecDepth 100000
set_option maxHeartbeats 8000000
namespace Mine
theorem Off.news {h₀ h h' : Heap} {L : Addr} {as : List Addr} {news : List (Addr × Obj)} (N : News h₀ L h news) (O : Off h as h') (hn : ∀ p ∈ news, p.1 ∉ as) : News h₀ L h' news :=
  fun p hp => ⟨O _ _ (N p hp).1 (hn p hp), (N p hp).2⟩
theorem Off.news0 {h₀ h h' : Heap} {L : Addr} {news : List (Addr × Obj)} (N : News h₀ L h news) (O : Off h [] h') : News h₀ L h' news := O.news N fun _ _ => List.not_mem_nil
theorem news_cons {h₀ h : Heap} {L : Addr} {p : Addr × Obj} {news news' : List (Addr × Obj)} (N : News h₀ L h news) (N' : News h₀ L h news') (hp : p ∈ news') : News h₀ L h (p :: news) := fun q hq => by
  rcases List.mem_cons.mp hq with rfl | hq
  · exact N' _ hp
  · exact N _ hq
/-- what a caller of a contract has in hand -/
structure At (w : World) (A : Around) (env : Env) (outer : List Env) (A₀ : Around) (base h₀ : Heap) (L : Addr) (p : Program) (loose : List Str) (mean : ExcName → Option Value) (mg mb : Str → Option Value) (dk uk : Nat) : Prop where
  fr : A.frames = some (env :: outer)
  hh : A.handled = none
  B : Below A₀ base outer h₀
  X : (top0.heap_1 w.params).In h₀
  T : Top p loose mean mg mb h₀
  hf : env.frame = some L
  hk : env.scope.kind = .function
  hd : A.depth + dk < recursionLimit
  hu : A.units + uk < cLine
section
variable {w : World} {A : Around} {env : Env} {outer : List Env} {A₀ : Around} {base h₀ : Heap} {L : Addr} {p : Program} {loose : List Str} {mean : ExcName → Option Value} {mg mb : Str → Option Value} {dk uk : Nat} {m : Str → Option Value}
theorem At.use {f : Addr} {news : List (Addr × Obj)} {vs : List Value} {Post : Value → List (Addr × Obj) → Prop} {s : Shared} {Q E : Value → Shared → Prop} (a : At w A env outer A₀ base h₀ L p loose mean mg mb dk uk)
    (C : Ctr w (top0.heap_1 w.params) p loose mean mg mb dk uk f news vs Post) (F : Fr h₀ L s.heap m) (N : News h₀ L s.heap news)
    (ret : ∀ v news' h' tk', Fr h₀ L h' m → News h₀ L h' news' → Post v news' → Off s.heap (news.map (·.1)) h' → Q v { s with heap := h', toks := tk' }) :
    wpAny (model PG w) A (call (.ref f) vs) Q E s := ctr_use C a.fr a.hh a.B F a.X N a.T a.hf a.hk a.hd a.hu ret
theorem keysT (a : At w A env outer A₀ base h₀ L p loose mean mg mb 2 20) {kS : Addr} {Fin : List Value → Nat → Shared → Prop} :
    ∀ {vs : List Value} {ks : List Int}, IntsAre vs ks → ∀ (acc : List Value) (accK : List Int) (e : Nat) (s : Shared) (tl : List (Addr × Obj)), Fr h₀ L s.heap m → News h₀ L s.heap ((kS, seqObj "list" acc.toArray e) :: tl) → (∀ p ∈ tl, p.1 ≠ kS) → KeysAt tl acc accK →
    (∀ acc' e' h' tk' tl', Fr h₀ L h' m → News h₀ L h' ((kS, seqObj "list" acc'.toArray e') :: tl') → (∀ p ∈ tl', p.1 ≠ kS) → (∀ p ∈ tl, p ∈ tl') → KeysAt tl' acc' (accK ++ ks) → Fin acc' e' { s with heap := h', toks := tk' }) →
    KatKeys PG w A h₀ L m kS (.ref 105) Fin vs acc e s
  | _, _, .nil, acc, accK, e, s, tl, F, N, hn, K, fin => KatKeys.nil (fin acc e s.heap s.toks tl F N hn (fun _ h => h) (by rw [List.append_nil]; exact K))
  | _, _, .cons k t r, acc, accK, e, s, tl, F, N, hn, K, fin => by
    refine KatKeys.cons (a.use (orderT (lit := k)) F News.nil fun v news' h' tk' F' N' hp O => ?_)
    obtain ⟨b, t', rfl, hb, _⟩ := hp
    have N₁ : News h₀ L h' ((kS, seqObj "list" acc.toArray e) :: tl) := O.news0 N
    have hne : b ≠ kS := fun q => by
      have z := (N' _ hb).1
      rw [q] at z
      have z2 := (N₁ _ (.head _)).1
      rw [z] at z2
      exact absurd (congrArg Obj.cls (Option.some.inj z2)) (by intro q; injection q with q; exact absurd q (by decide))
    refine KatBack.intro F' (news := (kS, seqObj "list" acc.toArray e) :: (b, keyObj k t') :: tl) (fun q hq => ?_) (.head (fun q hq => ?_)) fun h'' c F'' N'' => ?_
    · rcases List.mem_cons.mp hq with rfl | hq
      · exact N₁ _ (.head _)
      · rcases List.mem_cons.mp hq with rfl | hq
        · exact N' _ hb
        · exact N₁ _ (.tail _ hq)
    · rcases List.mem_cons.mp hq with rfl | hq
      · exact hne
      · exact hn _ hq
    · refine keysT a r (acc ++ [.ref b]) (accK ++ [k]) c { s with heap := h'', toks := tk' } ((b, keyObj k t') :: tl) F'' N'' (fun q hq => ?_) ((K.mono fun _ h => .tail _ h).snoc (.head _)) fun acc' e' h3 tk3 tl' F3 N3 hn3 hs3 K3 => ?_
      · rcases List.mem_cons.mp hq with rfl | hq
        · exact hne
        · exact hn _ hq
      · exact fin acc' e' h3 tk3 tl' F3 N3 hn3 (fun q hq => hs3 q (.tail _ hq)) (by rw [List.append_assoc] at K3; exact K3)
end
end Mine
end
section
open PySem PySem.W PySem.Calls PyProof.Rows PyProof.V
set_option Elab.async false
set_option maxRecDepth 100000
set_option maxHeartbeats 8000000
namespace Mine
theorem ints_get : ∀ {vs : List Value} {ks : List Int} (i : Nat), IntsAre vs ks → i < ks.length → ∃ t, vs.getD i Value.none = .int (ks.getD i 0) t
  | _, _, _, .nil, h => absurd h (Nat.not_lt_zero _)
  | _, _, 0, .cons k t r, _ => ⟨t, rfl⟩
  | _, _, i + 1, .cons k t r, h => by
    obtain ⟨u, e⟩ := ints_get i r (Nat.lt_of_succ_lt_succ h)
    exact ⟨u, by simpa using e⟩
theorem ints_perm {vs : List Value} {ks : List Int} (hi : IntsAre vs ks) : ∀ (l : List Nat), (∀ i ∈ l, i < ks.length) → IntsAre (l.map fun i => vs.getD i Value.none) (l.map fun i => ks.getD i 0)
  | [], _ => .nil
  | i :: r, h => by
    obtain ⟨t, e⟩ := ints_get i hi (h i List.mem_cons_self)
    rw [List.map_cons, List.map_cons, e]
    exact .cons _ _ (ints_perm hi r fun j hj => h j (List.mem_cons_of_mem _ hj))
section
variable {w : World} {A : Around} {env : Env} {outer : List Env} {A₀ : Around} {base h₀ : Heap} {L : Addr} {p : Program} {loose : List Str} {mean : ExcName → Option Value} {mg mb : Str → Option Value} {m : Str → Option Value}
theorem treeT (a : At w A env outer A₀ base h₀ L p loose mean mg mb 2 20) {D : Addr} {n : Nat} {vs : List Value} {ks : List Int} {news : List (Addr × Obj)} {s : Shared} {P : PySem.Fin → Shared → Prop} {E : Value → Shared → Prop} (hi : IntsAre vs ks) (ok : KeptOk ks)
    (F : Fr h₀ L s.heap m) (N : News h₀ L s.heap news) (ho : s.heap.get? D = some (seqObj "list" vs.toArray n)) (hDL : D ≠ L) (hD0 : h₀.get? D = none) (hnD : ∀ p ∈ news, p.1 ≠ D)
    (h : ∀ vs' e h' tk', Fr h₀ L h' m → News h₀ L h' ((D, listOf vs'.toArray e) :: news) → IntsAre vs' (uni.filter fun l => decide (l ∈ ks)) → P (.done (.ret .none)) { s with heap := h', toks := tk' }) :
    wpAny (model PG w) A (ksk_tree D (.ref 105) false) P E s := by
  have hlen : vs.length = ks.length := hi.length
  have l4 := ok.len
  by_cases h2 : 2 ≤ ks.length
  · refine kat_keyed F N ho hDL hD0 hnD (by omega) (by omega) fun kS e1 h' F' N' l0 l1 => ?_
    refine keysT a hi [] [] 0 { s with heap := h' } ((D, seqObj "list" #[] e1) :: news) F' N' (fun q hq => ?_) .nil fun acc' e' h3 tk3 tl' F3 N3 hn3 hs3 K3 => ?_
    · rcases List.mem_cons.mp hq with rfl | hq
      · exact Nat.ne_of_lt l0
      · exact Nat.ne_of_lt (l1 q hq)
    · rw [List.nil_append] at K3
      have e1' : ∀ l : List Value, katRev false l = l := fun _ => rfl
      simp only [e1']
      rw [hlen]
      refine sort_keys (s := { s with heap := h3, toks := tk3 }) (fun q hq => N3 q (.tail _ hq)) K3 ok h2 fun q hq => ?_
      refine KatFin.intro F3 N3 (.head hn3) fun h4 c4 F4 N4 => ?_
      refine KasFin.intro F4 (news := (D, seqObj "list" #[] e1) :: news) (fun q hq => N4 q (.tail _ (hs3 q hq))) (.head hnD) fun h5 c5 F5 N5 => ?_
      obtain ⟨g1, g2⟩ := ok.good h2
      rw [hq] at N5
      exact h _ c5 h5 tk3 F5 N5 (by have z := ints_perm hi (permL ks) g2; rw [g1] at z; exact z)
  · have s1 := Heap.SameBut.update s.heap D (Obj.mapSeq fun _ => (#[] : Array Value))
    obtain ⟨e1, ho1⟩ : ∃ e1, (s.heap.update D (Obj.mapSeq fun _ => (#[] : Array Value))).get? D = some (seqObj "list" #[] e1) := ⟨_, get?_update_seq ho fun _ => #[]⟩
    have F1 := kas_fr F s1 hDL hD0
    have N1 := kas_news N s1 hnD
    have hvs : vs.length < 64 := by omega
    unfold ksk_tree
    refine wpAny_bind (listItems_at ho rfl ?_)
    refine wpAny_bind (listUpdate_at ho rfl ?_ (by rw [List.size_toArray, sizeLine_eq]; omega) (Nat.zero_le _))
    refine wpAny_bind (seqEpoch_at ho1 rfl ?_)
    refine wpAny_bind (wpAny_newTuple ?_ (by show vs.length ≤ _; rw [sizeLine_eq]; omega))
    refine wpAny_bind (wpAny_newList ?_ (Nat.zero_le _))
    refine wpAny_holding ?_
    (try dsimp only)
    generalize hkS : ((s.heap.update D (Obj.mapSeq fun _ => (#[] : Array Value))).push { cls := .type "tuple", data := .seq vs.toArray.toList.toArray }).objs.size = kS
    have F2 := (F1.push { cls := .type "tuple", data := .seq vs.toArray.toList.toArray }).push { cls := .type "list", data := .seq ([] : List Value).toArray }
    have F1' := F1.push { cls := .type "tuple", data := .seq vs.toArray.toList.toArray }
    have D1 : D < kS := by rw [← hkS, size_push', Heap.size_update]; exact Nat.lt_succ_of_lt (Heap.lt_size ho)
    have N2 : News h₀ L (((s.heap.update D (Obj.mapSeq fun _ => (#[] : Array Value))).push { cls := .type "tuple", data := .seq vs.toArray.toList.toArray }).push { cls := .type "list", data := .seq ([] : List Value).toArray }) ((kS, seqObj "list" ([] : List Value).toArray 0) :: (D, seqObj "list" #[] e1) :: news) := fun q hq => by
      rcases List.mem_cons.mp hq with rfl | hq
      · have hL := F1'.ns.lt
        rw [hkS] at hL
        refine ⟨by rw [← hkS]; exact Heap.get?_push_size _ rfl, Nat.ne_of_gt hL, Heap.get?_none_of_le (Nat.le_trans F.above (Nat.le_of_lt hL))⟩
      · rcases List.mem_cons.mp hq with rfl | hq
        · exact ⟨Heap.get?_push_of_some _ (Heap.get?_push_of_some _ ho1), hDL, hD0⟩
        · exact ⟨Heap.get?_push_of_some _ (Heap.get?_push_of_some _ (N1 q hq).1), (N1 q hq).2⟩
    have K := keysT a (kS := kS) hi [] [] 0 { s with heap := ((s.heap.update D (Obj.mapSeq fun _ => (#[] : Array Value))).push { cls := .type "tuple", data := .seq vs.toArray.toList.toArray }).push { cls := .type "list", data := .seq ([] : List Value).toArray } } ((D, seqObj "list" #[] e1) :: news) F2 N2 (fun q hq => by
      rcases List.mem_cons.mp hq with rfl | hq
      · exact Nat.ne_of_lt D1
      · have : q.1 < s.heap.objs.size := Heap.lt_size (N q hq).1
        rw [← hkS, size_push', Heap.size_update]
        exact Nat.ne_of_lt (Nat.lt_succ_of_lt this)) .nil (Fin := fun acc e s' => ∃ tl, Fr h₀ L s'.heap m ∧ News h₀ L s'.heap ((kS, seqObj "list" acc.toArray e) :: tl) ∧ (∀ q ∈ tl, q.1 ≠ kS) ∧ (∀ q ∈ (D, seqObj "list" #[] e1) :: news, q ∈ tl) ∧ acc.length = ks.length ∧ ∃ h' tk', s' = { s with heap := h', toks := tk' })
      fun acc' e' h3 tk3 tl' F3 N3 hn3 hs3 K3 => ⟨tl', F3, N3, hn3, hs3, by rw [K3.length]; rfl, _, _, rfl⟩
    unfold ksk_rest
    refine wpAny_bind (wpAny_rule ?_)
    rw [List.forIn_toArray]
    refine wpAny_bind (wpAny_mono (kat_fold (n := vs.length) (by omega) (fun x ks' e s' C hz hx => ?_) vs [] 0 _ (by simp) (N2 _ (.head _)).1 K) (fun _ s' hd => ?_) fun _ _ x => x)
    · refine wpAny_bind (wpAny_attempt (wpAny_mono hx (fun k s'' hk => ?_) fun _ _ hF => hF.elim))
      obtain ⟨news', g, F', N', U, c⟩ := hk
      obtain ⟨pre, post, e0, hg, x1, x2⟩ := U.split
      rw [e0] at N'
      have nk := N' (kS, seqObj "list" (List.toArray ks') e) (List.mem_append_right _ (.head _))
      have u1 := Heap.SameBut.update s''.heap kS (Obj.mapSeq (·.push k))
      have ea : (List.toArray ks').push k = List.toArray (ks' ++ [k]) := by simp
      obtain ⟨c2, hc2⟩ : ∃ c2, (s''.heap.update kS (Obj.mapSeq (·.push k))).get? kS = some (seqObj "list" (List.toArray (ks' ++ [k])) c2) := ⟨_, by rw [← ea]; exact get?_update_seq nk.1 (·.push k)⟩
      (try dsimp only)
      refine wpAny_bind (listUpdate_at nk.1 rfl ?_ (by rw [List.size_toArray, sizeLine_eq]; omega) (Nat.le_trans (Nat.le_of_eq (Array.size_push ..)) (by rw [List.size_toArray, sizeLine_eq]; omega)))
      exact wpAny_pure ⟨rfl, k, c2, hc2, c _ c2 (kas_fr F' u1 nk.2.1 nk.2.2) (by rw [hg]; exact news_set N' x1 x2 u1 hc2)⟩
    · obtain ⟨kk, e, hk', hl, tl, F3, N3, hn3, hs3, hlk, h', tk', rfl⟩ := hd
      (try dsimp only)
      refine wpAny_bind (listItems_at hk' rfl ?_)
      have hsm : vs.toArray.size < 2 := by rw [List.size_toArray]; omega
      unfold ksk_end
      (try dsimp only)
      rw [if_neg (by decide), if_pos hsm, if_pos hsm]
      refine wpAny_bind (wpAny_pure ?_)
      refine wpAny_bind (wpAny_pure ?_)
      (try dsimp only)
      rw [if_neg (by decide)]
      refine kat_tail (h₀ := h₀) (L := L) (m := m) (b := false) (ks := kk) (e := e) (a := D) (out := vs) ?_ (by omega) (by omega) rfl ?_
      · show (Array.map (·.2) ((List.toArray kk).zip vs.toArray)) = List.toArray vs
        apply Array.toList_inj.mp
        rw [Array.toList_map, ksk_zip]
        show List.map Prod.snd ((List.toArray kk).toList.zip vs) = vs
        rw [List.map_snd_zip]
        show vs.length ≤ kk.length
        omega
      · refine KatFin.intro F3 N3 (.head hn3) fun h4 c4 F4 N4 => ?_
        refine KasFin.intro F4 (news := (D, seqObj "list" #[] e1) :: news) (fun q hq => N4 q (.tail _ (hs3 q hq))) (.head hnD) fun h5 c5 F5 N5 => ?_
        exact h vs c5 h5 tk' F5 N5 (by rw [← ok.small (by omega)]; exact hi)
end
end Mine
end
section
open PySem PySem.W PySem.Calls PyProof.Rows PyProof.V
set_option Elab.async false
set_option maxRecDepth 100000
set_option maxHeartbeats 8000000
namespace Mine
theorem At.in1 {w : World} {A : Around} {env : Env} {outer : List Env} {A₀ : Around} {base h₀ : Heap} {L : Addr} {p : Program} {loose : List Str} {mean : ExcName → Option Value} {mg mb : Str → Option Value} {dk uk uk' : Nat} (a : At w A env outer A₀ base h₀ L p loose mean mg mb dk uk) (h : uk' + 1 ≤ uk) :
    At w A.in1 env outer A₀ base h₀ L p loose mean mg mb dk uk' :=
  ⟨a.fr, a.hh, a.B, a.X, a.T, a.hf, a.hk, a.hd, by have := a.hu; show A.units + 1 + uk' < cLine; omega⟩
noncomputable def kvT (ks : List Int) : List (Int × Value) := ks.map fun k => (k, .bool true)
theorem ints_of {w : World} : ∀ {ks : List Int} {vs : List Value}, vs.length = ks.length → (∀ (j : Nat) (v : Value), vs[j]? = some v → ∃ k x, (kvT ks)[j]? = some (k, x) ∧ (PySem.intKind PG w).is k v = true) → IntsAre vs ks
  | [], [], _, _ => .nil
  | k :: ks, v :: vs, hl, h => by
    obtain ⟨k', x, e, q⟩ := h 0 v rfl
    have e' : k = k' := by
      unfold kvT at e
      simp only [List.map_cons, List.getElem?_cons_zero, Option.some.injEq, Prod.mk.injEq] at e
      exact e.1
    subst e'
    have : ∃ t, v = .int k t := by
      cases v with
      | int i t => exact ⟨t, by have : (i == k) = true := q; rw [beq_iff_eq.mp this]⟩
      | _ => cases q
    obtain ⟨t, rfl⟩ := this
    exact .cons k t (ints_of (Nat.succ.inj hl) fun j v hj => h (j + 1) v hj)
theorem sortedT {w : World} {A : Around} {env : Env} {outer : List Env} {A₀ : Around} {base h₀ : Heap} {L : Addr} {p : Program} {loose : List Str} {mean : ExcName → Option Value} {mg mb : Str → Option Value} {m : Str → Option Value}
    (a : At w A env outer A₀ base h₀ L p loose mean mg mb 2 22) {d : Addr} {o : Obj} {ks : List Int} {news : List (Addr × Obj)} {s : Shared} {Q E : Value → Shared → Prop} (ok : KeptOk ks) (F : Fr h₀ L s.heap m) (N : News h₀ L s.heap news)
    (hp : (d, o) ∈ news) (hd : o.IsDictOf (PySem.intKind PG w) (kvT ks)) (lo : (d == sysModules) = false)
    (h : ∀ D vs' e h' tk', Fr h₀ L h' m → News h₀ L h' ((D, listOf vs'.toArray e) :: news) → IntsAre vs' (uni.filter fun l => decide (l ∈ ks)) → (∀ q ∈ news, q.1 < D) → Q (.ref D) { s with heap := h', toks := tk' }) :
    wpAny (model PG w) A (call (.builtin "sorted") [.ref d] [(Str.ofString "key", .ref 105)]) Q E s := by
  have l4 := ok.len
  have hkv : (kvT ks).length = ks.length := by unfold kvT; rw [List.length_map]
  refine call_function_entry_kw kind_sorted plain_sorted entry_sorted (ksk_s1 _ _) ?_
  unfold Builtin.«sorted»
  refine wpAny_bind (m := checkCount "sorted" 1 1 _) (wpAny_pure ?_)
  have hD : ∃ ep, s.heap.DictAt (PySem.intKind PG w) d (kvT ks) ep := by
    obtain ⟨es, ep, r⟩ := hd
    exact ⟨ep, o, es, (N _ hp).1, r⟩
  obtain ⟨ep, hD⟩ := hD
  refine wpAny_bind (kdu_collect (kdl_dict lo) a.hh hD (by rw [sizeLine_eq]; omega) fun h1 tk1 acc hk1 hit => ?_)
  have hsz : acc.toList.length = ks.length := by rw [Array.length_toList, hit.1, hkv]
  have hi : IntsAre acc.toList ks := ints_of hsz fun j v hj => hit.2 j v (by rw [← Array.getElem?_toList]; exact hj)
  have F1 := F.keeps hk1
  have N1 : News h₀ L h1 news := N.grown hk1
  refine wpAny_bind (wpAny_newList ?_ (by rw [sizeLine_eq]; omega))
  dsimp only
  have hoL : (h1.push { cls := .type "list", data := .seq acc.toList.toArray }).get? h1.objs.size = some (seqObj "list" acc.toList.toArray 0) := Heap.get?_push_size _ rfl
  have keep : ∀ b o, h1.get? b = some o → (h1.push { cls := .type "list", data := .seq acc.toList.toArray }).get? b = some o := fun b o q => Heap.get?_push_of_some _ q
  have hL : L < h1.objs.size := F1.ns.lt
  refine wpAny_bind (wpAny_holding (wpAny_call_entry_kw slot_list_sort ⟨_, hoL, rfl⟩ entry_list_sort ?body (ksk_l1 _ _)))
  case body =>
    rw [ksk_t1]
    refine treeT ((a.in1 (uk' := 21) (by omega)).in1 (by omega)) hi ok (F1.keeps keep) (N1.grown keep) hoL (Nat.ne_of_gt hL) (Heap.get?_none_of_le (Nat.le_trans F.above (Nat.le_of_lt hL)))
      (fun q hq => Nat.ne_of_lt (Heap.lt_size (N1 q hq).1)) fun vs' e h' tk' F' N' hi' => ⟨_, rfl, wpAny_pure ⟨_, rfl, ?_⟩⟩
    exact h _ vs' e h' tk' F' N' hi' fun q hq => Heap.lt_size (N1 q hq).1
end Mine
end
section
open PySem PySem.W PySem.Calls PyProof.Rows PyProof.V
set_option Elab.async false
set_option maxRecDepth 100000
set_option maxHeartbeats 8000000
namespace Mine
noncomputable def SeqIn (h : Heap) (l : Addr) (vs : List Value) : Prop := h.IsList l vs.toArray ∨ h.IsTuple l vs.toArray
theorem SeqIn.keeps {h h' : Heap} {l : Addr} {vs : List Value} (k : ∀ b o, h.get? b = some o → h'.get? b = some o) : SeqIn h l vs → SeqIn h' l vs
  | .inl x => .inl (x.at fun o e => k _ _ e)
  | .inr x => .inr (x.at fun o e => k _ _ e)
section
variable {prog : Program} {w : World} {A : Around} {E : Value → Shared → Prop} {s : Shared} {env : Env} {h₀ : Heap} {x : Str} {body : List Stmt} {Q : Flow → Shared → Prop}
theorem iter_tupG {l : Addr} {vs : List Value} {ns : List Int} {m₀ : Str → Option Value} {news : List (Addr × Obj)} (J : Nat → (Str → Option Value) → List (Addr × Obj) → Prop)
    (hh : A.handled = none) (hl : h₀.IsTuple l vs.toArray) (hi : IntsAre vs ns) (F : Fr h₀ env.locals s.heap m₀) (N : News h₀ env.locals s.heap news) (hj : J 0 m₀ news)
    (turn : ∀ i n t m₁ news₁ h tk own, ns[i]? = some n → OwnOff own (news₁.map (·.1)) → J i m₁ news₁ → Fr h₀ env.locals h (fun y => if y = x then some (.int n t) else m₁ y) → News h₀ env.locals h (news₁ ++ own) →
      wpAny (model prog w) A (execs body env) (InvPostG h₀ env.locals (J (i + 1)) own { s with heap := h, toks := tk } Q) E { s with heap := h, toks := tk })
    (done : ∀ m₁ news₁ h tk, J ns.length m₁ news₁ → Fr h₀ env.locals h m₁ → News h₀ env.locals h news₁ → Q .next { s with heap := h, toks := tk }) :
    wpAny (model prog w) A (pyIter (.ref l)) (fun it s₂ => LoopAtV prog w A h₀ env x body Q E it s₂) E s := by
  have hls : s.heap.IsTuple l vs.toArray := hl.at fun o e => F.keep l o e
  obtain ⟨ol, hol, _⟩ := id hl
  have hlt : l < h₀.objs.size := Heap.lt_size hol
  have hI0 : h₀.get? s.heap.objs.size = none := next_is_new F
  have hne : l ≠ s.heap.objs.size := fun q => by rw [← q, hol] at hI0; cases hI0
  have hlen : vs.toArray.size = ns.length := by simp [hi.length]
  refine wpAny_pyIter_tuple hls ?_
  have W := Walks.tuple (prog := prog) (w := w) hh s.heap.objs.size l hne vs.toArray
  rw [hlen] at W
  have hLnot : env.locals ∉ [s.heap.objs.size, l] := fun hm => by
    rcases List.mem_cons.mp hm with q | q
    · exact absurd F.ns.lt (q ▸ Nat.lt_irrefl _)
    · exact absurd (Nat.lt_of_lt_of_le hlt F.above) ((List.mem_singleton.mp q) ▸ Nat.lt_irrefl _)
  refine ⟨_, _, _, ns.length, _, _, m₀, news, J, rfl, W, hLnot, fun b hb => by rw [List.mem_singleton.mp hb]; exact hI0, fun q hq hI => absurd (Heap.lt_size (N q hq).1) ((List.mem_singleton.mp hI) ▸ Nat.lt_irrefl _),
    ⟨⟨_, Heap.get?_push_size _ rfl, rfl, rfl⟩, hls.at fun o e => Heap.get?_push_of_some _ e⟩, F.push _, N.grown fun _ _ e => Heap.get?_push_of_some _ e, hj, ?_, fun h' tk m' news' F' N' _ hJ => done m' news' h' tk hJ F' N'⟩
  rintro i v m₁ news₁ s₁ own ⟨h1, tk1, rfl⟩ hin hP hJ hoff hown _ hfp hst F₁ N₁
  obtain ⟨⟨oI, hoI, _⟩, _⟩ := id hst
  have hIown : (s.heap.objs.size, oI) ∈ own := hfp _ (.head _) hI0 _ hoI
  have hsep : OwnOff own (news₁.map (·.1)) := by
    intro q hq b hb e
    obtain ⟨r, hr, rfl⟩ := List.mem_map.mp hb
    rcases List.mem_cons.mp (hown q hq) with z | z
    · exact hoff r hr (List.mem_singleton.mpr (e ▸ z))
    · have y := (N₁ r (List.mem_append.mpr (.inr hr))).2.2
      rw [← e, List.mem_singleton.mp z, hol] at y
      cases y
  obtain ⟨t, hx⟩ := hi.get i ns[i] (List.getElem?_eq_getElem hin)
  have hv : v = .int ns[i] t := by
    have hP' : vs[i]? = some v := by simpa using hP
    rw [hx] at hP'; exact (Option.some.inj hP').symm
  subst hv
  have N₂ : News h₀ env.locals h1 (news₁ ++ own) := fun q hq => N₁ q ((List.mem_append.mp hq).elim (fun h => List.mem_append.mpr (.inr h)) fun h => List.mem_append.mpr (.inl h))
  refine wpAny_mono (turn i ns[i] t m₁ news₁ h1 tk1 own (List.getElem?_eq_getElem hin) hsep hJ F₁ N₂) (fun f s₂ q => ?_) fun _ _ e => e
  have fin : InvEndG h₀ env.locals (J (i + 1)) own { s with heap := h1, toks := tk1 } s₂ → LoopStepU h₀ env.locals [s.heap.objs.size] own (J (i + 1)) { s with heap := h1, toks := tk1 } .next s₂ := by
    rintro ⟨h', tk, m', news', nx, e, F', N', hn, ho, ha, hm⟩
    exact ⟨rfl, h', tk, m', nx, e, F', fun q hq => N' q ((List.mem_append.mp hq).elim (ho q) (hn q)), fun q hq z => ha _ hIown q.1 (List.mem_map_of_mem hq) (List.mem_singleton.mp z).symm, hm⟩
  cases f with
  | ret v => exact .ret q
  | brk => exact .brk q
  | next => exact .next (fin q)
  | cont => exact .cont (fin q)
/-- a loop over a list or a tuple of ints that keeps one dict, whose keys are a kept list -/
theorem tidy_iter {l D : Addr} {o₀ : Obj} {vs : List Value} {ns : List Int} {m₀ : Str → Option Value}
    (hh : A.handled = none) (hl : SeqIn h₀ l vs) (hi : IntsAre vs ns) (hu : ∀ x ∈ ns, x ∈ uni) (F : Fr h₀ env.locals s.heap m₀) (N : News h₀ env.locals s.heap [(D, o₀)]) (ho : o₀.IsDictOf (PySem.intKind prog w) [])
    (turn : ∀ pre post n t ks o h tk own, ns = pre ++ n :: post → n ∈ uni → OwnOff own [D] → keptL pre = some ks → KeptOk ks → o.IsDictOf (PySem.intKind prog w) (kvT ks) →
      Fr h₀ env.locals h (fun y => if y = x then some (.int n t) else m₀ y) → News h₀ env.locals h ((D, o) :: own) →
      wpAny (model prog w) A (execs body env) (InvPostG h₀ env.locals (fun m' nx => ∃ o' ks' u, nx = [(D, o')] ∧ (m' = fun y => if y = x then u else m₀ y) ∧ keptL (pre ++ [n]) = some ks' ∧ o'.IsDictOf (PySem.intKind prog w) (kvT ks')) own { s with heap := h, toks := tk } Q) E { s with heap := h, toks := tk })
    (done : ∀ ks o u h tk, keptL ns = some ks → KeptOk ks → o.IsDictOf (PySem.intKind prog w) (kvT ks) → Fr h₀ env.locals h (fun y => if y = x then u else m₀ y) → News h₀ env.locals h [(D, o)] → Q .next { s with heap := h, toks := tk }) :
    wpAny (model prog w) A (pyIter (.ref l)) (fun it s₂ => LoopAtV prog w A h₀ env x body Q E it s₂) E s := by
  let J : Nat → (Str → Option Value) → List (Addr × Obj) → Prop := fun i m' nx => ∃ o' ks' u, nx = [(D, o')] ∧ (m' = fun y => if y = x then u else m₀ y) ∧ keptL (ns.take i) = some ks' ∧ o'.IsDictOf (PySem.intKind prog w) (kvT ks')
  have j0 : J 0 m₀ [(D, o₀)] := ⟨o₀, [], m₀ x, rfl, by funext y; by_cases e : y = x <;> simp [e], rfl, ho⟩
  have tn : ∀ i n t m₁ news₁ h tk own, ns[i]? = some n → OwnOff own (news₁.map (·.1)) → J i m₁ news₁ → Fr h₀ env.locals h (fun y => if y = x then some (.int n t) else m₁ y) → News h₀ env.locals h (news₁ ++ own) →
      wpAny (model prog w) A (execs body env) (InvPostG h₀ env.locals (J (i + 1)) own { s with heap := h, toks := tk } Q) E { s with heap := h, toks := tk } := by
    rintro i n t m₁ _ h tk own hn hoff ⟨o', ks', u, rfl, rfl, hk, hd⟩ F₁ N₁
    have hs : ns.take (i + 1) = ns.take i ++ [n] := by simp [List.take_add_one, hn]
    have e : ns = ns.take i ++ n :: ns.drop (i + 1) := by
      have q := List.take_append_drop (i + 1) ns
      rw [hs, List.append_assoc] at q
      exact q.symm
    have em : (fun y => if y = x then some (Value.int n t) else (fun y => if y = x then u else m₀ y) y) = fun y => if y = x then some (Value.int n t) else m₀ y := by
      funext y
      by_cases z : y = x <;> simp [z]
    rw [em] at F₁
    have hup : ∀ y ∈ ns.take i, y ∈ uni := fun y hy => hu y (List.mem_of_mem_take hy)
    show wpAny _ _ _ (InvPostG h₀ env.locals (fun m' nx => ∃ o' ks' u, nx = [(D, o')] ∧ (m' = fun y => if y = x then u else m₀ y) ∧ keptL (ns.take (i + 1)) = some ks' ∧ o'.IsDictOf (PySem.intKind prog w) (kvT ks')) own _ Q) _ _
    rw [hs]
    exact turn _ _ n t ks' o' h tk own e (hu n (List.mem_of_getElem? hn)) hoff hk (kept_ok hup hk) hd F₁ N₁
  have dn : ∀ m₁ news₁ h tk, J ns.length m₁ news₁ → Fr h₀ env.locals h m₁ → News h₀ env.locals h news₁ → Q .next { s with heap := h, toks := tk } := by
    rintro m₁ _ h tk ⟨o', ks', u, rfl, rfl, hk, hd⟩ F₁ N₁
    rw [List.take_length] at hk
    exact done ks' o' u h tk hk (kept_ok hu hk) hd F₁ N₁
  rcases hl with hl | hl
  · exact iter_invG J hh hl hi F N j0 (fun i n t m₁ nx h tk own a _ b c d e => tn i n t m₁ nx h tk own a b c d e) dn
  · exact iter_tupG J hh hl hi F N j0 tn dn
end
theorem kv_at (ks : List Int) (n : Int) : (valueAt (kvT ks) n).isSome = decide (n ∈ ks) := by
  unfold valueAt kvT
  induction ks with
  | nil => simp
  | cons k r ih =>
    rw [List.map_cons, List.find?_cons]
    by_cases e : k = n
    · subst e; simp
    · have e' : ¬ n = k := fun q => e q.symm
      simp only [e, decide_false, List.mem_cons, e', false_or]
      exact ih
theorem kv_any (ks : List Int) (n : Int) : (kvT ks).any (fun kv => decide (kv.1 = n)) = decide (n ∈ ks) := by
  unfold kvT
  rw [List.any_map]
  rw [Bool.eq_iff_iff, List.any_eq_true, decide_eq_true_eq]
  constructor
  · rintro ⟨k, hk, e⟩
    have : k = n := of_decide_eq_true e
    exact this ▸ hk
  · intro h
    exact ⟨n, h, by simp⟩
theorem kv_stored (ks : List Int) (n : Int) : stored (kvT ks) n (.bool true) = kvT (if n ∈ ks then ks else ks ++ [n]) := by
  have h := kv_any ks n
  unfold stored
  by_cases e : n ∈ ks
  · rw [if_pos e, if_pos (by rw [h]; exact decide_eq_true e)]
    unfold kvT
    rw [List.map_map]
    refine List.map_congr_left fun k _ => ?_
    show (if k = n then (k, Value.bool true) else (k, Value.bool true)) = (k, Value.bool true)
    split <;> rfl
  · rw [if_neg e, if_neg (by rw [h]; simp [e])]
    unfold kvT
    simp
end Mine
end
local macro_rules | `(tactic| walk_at $s:str) => `(tactic| k_extra $s)
local macro_rules | `(tactic| k_room) => `(tactic| k_extra "k_room")
local macro_rules | `(tactic| k_upd) => `(tactic| k_extra "k_upd")
local macro_rules | `(tactic| k_updF) => `(tactic| k_extra "k_updF")
local macro_rules | `(tactic| k_in) => `(tactic| k_extra "k_in")
local macro_rules | `(tactic| k_ne) => `(tactic| k_extra "k_ne")
local macro_rules | `(tactic| k_get) => `(tactic| k_extra "k_get")
local macro_rules | `(tactic| k_enter) => `(tactic| k_extra "k_enter")
section
open PySem PySem.W PySem.Calls PyProof.Rows PyProof.V
set_option Elab.async false
set_option maxRecDepth 100000
set_option maxHeartbeats 8000000
namespace Mine
theorem kept_go {pre ks : List Int} {n : Int} (h : keptL pre = some ks) (hn : ¬ -n ∈ ks) : keptL (pre ++ [n]) = some (if n ∈ ks then ks else ks ++ [n]) := by
  rw [keptL_snoc n h, keptStep, if_neg hn]
theorem kv_fit {ks : List Int} (h : KeptOk ks) : (kvT ks).length ≤ sizeLine := by
  have := h.len
  unfold kvT
  rw [List.length_map, sizeLine_eq]; omega
theorem gsub_seq {h g : Heap} {l : Addr} {vs : List Value} (G : GSub h g []) (x : SeqIn h l vs) : SeqIn g l vs := x.keeps fun b o e => G b o e List.not_mem_nil
theorem tidyC {w : World} {p : Program} {loose : List Str} {mean : ExcName → Option Value} {mg mb : Str → Option Value} {l : Addr} {vs : List Value} {ns : List Int} (hi : IntsAre vs ns) (hu : ∀ x ∈ ns, x ∈ uni) :
    CtrP w (top0.heap_1 w.params) p loose mean mg mb 6 60 112 (fun h => SeqIn h l vs) [] [.ref l]
      (fun v news' => ((tidyL ns = none ∧ v = .none) ∨ ∃ ts a vs' n, tidyL ns = some ts ∧ v = .ref a ∧ (a, tupO vs' n) ∈ news' ∧ IntsAre vs' ts) ∧ PySem.Challenge.rw_rg0215_01.row.prog = PySem.Challenge.rw_rg0215_01.row.prog) := by
  k_fill
  intro dp un gd env outer A₀ base h₀ L m s Q E B F X N T hf hk hd hu' hseq hret
  (refine wpAny_call ?_; k_dflt (refine' callOff ?k1 ?k2 ?k3 ?k4 ?k5 ?kA ?kF ?kK ?k6 ?k7 ?k8 ?k9 ?kB ?_ ?c2 ?c3 ?c4 ?c5; (case kA => exact rfl); (case kF => assumption); (case kK => assumption); (case k1 => k_asm); (case k2 => k_asm); (case k3 => k_asm); (case k4 => k_asm); (case k5 => k_asm); (case k6 => k_is); (case k7 => k_is); (case k8 => ((try dsimp only); omega)); (case k9 => exact BindsTo.of_eq rfl); (case c5 => decide); (case kB => exact locs rfl); (case c2 => exact rfl); (case c3 => exact rfl); (case c4 => exact rfl); k_whole; intro g' L' h' FG' F' N' B' X' T' G'; (try dsimp only); (try k_lift B'); (try k_fold)))
  rename GSub _ _ _ => G9
  have hg := gsub_seq G9 hseq
  k_with_none
  k_with "compareOp In int ref" => (k_here; k_dflt (refine kda_in (knd := PySem.intKind _ _) (by k_asm) (by k_mem) (by k_asm) (by k_asm) (intKind_is _ _ _ _) _ (kv_at _ _) ?_))
  k_with "setItem ref int" => (k_here; k_dflt (refine' kda_set (knd := PySem.intKind _ _) ?F ?N ?U ?d (intKind_is _ _ _ _) ?z ?_; (case F => k_asm); (case N => k_asm); (case U => k_updF); (case d => k_asm); (case z => exact kv_fit (by assumption)); k_whole); intro h' o' F' N' hd'; rw [kv_stored] at hd'; (try dsimp only at N'))
  k_with "exec For Name Name cons nil" => (k_here; (rename Fr _ _ _ _ => lF'); (with_unfolding_all refine' For_invVF lF' ?k1 ?k2 ?_; (case k1 => exact rfl); (case k2 => exact rfl); k_whole))
  k_with "pyIter ref" => (k_extra "my iter")
  k_with "call builtin:sorted" => (k_extra "my sorted")
  k_with "InvEndG" => (k_extra "my end")
  w_on
  k_with_none
  k_with "compareOp In int ref" => (k_here; k_dflt (refine kda_in (knd := PySem.intKind _ _) (by k_asm) (by k_mem) (by k_asm) (by k_asm) (intKind_is _ _ _ _) _ (kv_at _ _) ?_))
  k_with "setItem ref int" => (k_here; k_dflt (refine' kda_set (knd := PySem.intKind _ _) ?F ?N ?U ?d (intKind_is _ _ _ _) ?z ?_; (case F => k_asm); (case N => k_asm); (case U => k_updF); (case d => k_asm); (case z => exact kv_fit (by assumption)); k_whole); intro h' o' F' N' hd'; rw [kv_stored] at hd'; (try dsimp only at N'))
  k_with "exec For Name Name cons nil" => (k_here; (rename Fr _ _ _ _ => lF'); (with_unfolding_all refine' For_invVF lF' ?k1 ?k2 ?_; (case k1 => exact rfl); (case k2 => exact rfl); k_whole))
  k_with "pyIter ref" => (k_extra "my iter")
  k_with "call builtin:sorted" => (k_extra "my sorted")
  k_with "InvEndG" => (k_extra "my end")
  k_with "my iter" => ((with_reducible rename Fr _ _ _ _ => lF'); (with_reducible rename News _ _ _ _ => lN'); (refine tidy_iter (ns := ns) rfl hg hi hu lF' lN' (by assumption) ?_ ?_); rotate_left; (intro ks o u h tk hkp hok hdo F1 N1); (try dsimp only); rotate_left; (intro pre post n t ks o h tk own hsp hn hoff hkp hok hdo F1 N1); (try k_fold))
  k_with "my end" => (refine InvEndG.intro (by k_asm) (by k_asm) ⟨_, _, _, rfl, rfl, kept_go (by assumption) (by assumption), by assumption⟩ (by assumption) (List.forall_mem_singleton.mpr (.head _)) (fun p hp => .tail _ hp))
  k_with "my sorted" => ((with_reducible rename Fr _ _ _ _ => lF'); (with_reducible rename News _ _ _ _ => lN'); (with_reducible rename Below _ _ _ _ => lB); (refine sortedT (At.mk rfl rfl lB (by k_asm) (by k_asm) rfl rfl (by show dp + 1 + 2 < recursionLimit; omega) (by show un + 3 + 22 < cLine; omega)) (by assumption) lF' lN' (by k_mem) (by assumption) (by assumption) ?_); intro D2 vs2 e2 h2 tk2 F2 N2 hi2 lt2; (try k_lt lt2))
  k_steps
  · exact hret _ _ _ _ (by k_asm) (by k_asm) ⟨.inl ⟨by unfold tidyL; rw [(by assumption : ns = _), keptL_clash (by assumption) (by assumption)]; rfl, rfl⟩, rfl⟩ (by k_asm)
  · exact hret _ _ _ _ (by k_asm) (by k_asm) ⟨.inr ⟨_, _, _, _, by unfold tidyL; rw [(by assumption : keptL ns = _)]; rfl, rfl, by k_mem, by assumption⟩, rfl⟩ (by k_asm)
end Mine
end
section
open PySem PySem.W PySem.Calls PyProof.Rows PyProof.V PyProof.Rows.LCg
set_option Elab.async false
set_option maxRecDepth 100000
set_option maxHeartbeats 8000000
namespace Mine
section
variable {prog : Program} {w : World} {A : Around} {E : Value → Shared → Prop} {s : Shared} {h₀ : Heap} {L : Addr} {m : Str → Option Value} {env : Env}
noncomputable abbrev cellO (v : Option Value) : Obj := { cls := .type "cell", data := .cell v }
theorem laidX {M : Model} {scope : Scope} {x y : Str} {g : Addr} {cl : List (Str × Addr)} {q : Str} {Q : Env → Shared → Prop} (hsn : scope.names = [(Str.ofString ".0", .local), (x, .cell), (y, .free)])
    (h : Q { scope, locals := s.heap.objs.size, globals := g, cells := (x, (s.heap.push { cls := .type "dict", data := .dict #[] }).objs.size) :: cl, qual := q, func := none, code := env.code, frame := env.frame, builtins := env.builtins }
      { s with heap := (s.heap.push { cls := .type "dict", data := .dict #[] }).push (cellO none) }) :
    wpAny M A (newFunctionEnv scope g cl [] q none .none (some env)) Q E s := by
  unfold newFunctionEnv
  simp only [Option.isSome_some, if_true]
  refine wpAny_bind (wpAny_alloc ?_)
  rw [hsn]
  simp only [List.forIn_cons, List.forIn_nil, show (NameKind.local == NameKind.cell) = false from rfl, show (NameKind.cell == NameKind.cell) = true from rfl, show (NameKind.free == NameKind.cell) = false from rfl, Bool.false_eq_true, if_false, if_true, pure_bind]
  refine wpAny_bind (wpAny_bind (wpAny_bind (wpAny_alloc (wpAny_pure ?_))))
  dsimp only
  exact wpAny_pure (wpAny_pure h)
/-- one turn's test of a filter whose name is a cell -/
noncomputable def TestX (prog : Program) (w : World) (A : Around) (h₀ : Heap) (L : Addr) (m : Str → Option Value) (env : Env) (ct : Expr) (x : Str) (scope : Scope) (cl : List (Str × Addr)) (s : Shared) (news : List (Addr × Obj)) (p : Int → Bool) (k : Int) : Prop :=
  ∀ (t : Tok) (I : Addr) (oI : Obj) (C : Addr) (oC : Obj) (D : Addr) (ys : List Value) (c : Addr) (oc : Obj) (h : Heap) (tk : Nat) (E' : Value → Shared → Prop) (R : Bool → Shared → Prop),
    Fr h₀ L h m → News h₀ L h ((I, oI) :: (C, oC) :: (D, lst ys) :: (c, oc) :: news) → oc.data = .cell (some (.int k t)) →
    (∀ h' tk', Fr h₀ L h' m → News h₀ L h' ((I, oI) :: (C, oC) :: (D, lst ys) :: (c, oc) :: news) → R (p k) { s with heap := h', toks := tk' }) →
    wpAny (model prog w) A (isTrue ct (compEnvC scope ((x, c) :: cl) C env) (eval ct (compEnvC scope ((x, c) :: cl) C env))) R E' { s with heap := h, toks := tk }
theorem kindX {scope : Scope} {x y : Str} (hsn : scope.names = [(Str.ofString ".0", .local), (x, .cell), (y, .free)]) (hx0 : (x == (Str.ofString ".0")) = false) : (relabel scope env).names.lookup x = some .cell := by
  unfold relabel
  simp only [hsn, List.map_cons, List.map_nil]
  have e1 : (if (NameKind.local == NameKind.free && env.scope.kind == .function && env.kindOf (Str.ofString ".0") == some .cell) = true then (Str.ofString ".0", NameKind.cell) else (Str.ofString ".0", NameKind.local)) = (Str.ofString ".0", NameKind.local) := rfl
  have e2 : (if (NameKind.cell == NameKind.free && env.scope.kind == .function && env.kindOf x == some .cell) = true then (x, NameKind.cell) else (x, NameKind.cell)) = (x, NameKind.cell) := by split <;> rfl
  rw [e1, e2, List.lookup_cons, hx0, List.lookup_cons]
  simp
theorem blockX {ct iter : Expr} {x y : Str} {px px' : Pos} {scope : Scope} {cl : List (Str × Addr)} {pos : Pos} {s₂ : Shared} {I : Addr} {fp : List Addr} {n : Nat} {P : Nat → Value → Prop} {St : Nat → Heap → Prop} {S : List (Addr × Obj) → Prop} {news : List (Addr × Obj)}
    {ns : List Int} {p : Int → Bool} {RR : Value → Addr → Result → Shared → Prop}
    (W : Walks prog w A I fp [I] n P St) (hsz : n ≤ sizeLine) (hIo : ∀ i h, St i h → ∃ o, h.get? I = some o)
    (hSt : ∀ i h h' o nw, St i h → h.get? I = some o → h'.get? I = some o → (∀ b o, h₀.get? b = some o → h'.get? b = some o) → News h₀ L h' nw → S nw → St i h')
    (hsn : scope.names = [(Str.ofString ".0", .local), (x, .cell), (y, .free)]) (hx0 : (x == (Str.ofString ".0")) = false) (hxd : (x == ("__debug__" : Str)) = false) (hkind : scope.kind = .function) (hst : St 0 s₂.heap) (hfp : ∀ b ∈ fp, b < s₂.heap.objs.size)
    (F : Fr h₀ L s₂.heap m) (N : News h₀ L s₂.heap news) (hIL : L ≠ I) (hI₀ : h₀.get? I = none) (off : ∀ q ∈ news, q.1 ≠ I) (hS : S news) (hks : ns.length = n) (hP : ∀ i v, i < n → P i v → ∃ k t, ns[i]? = some k ∧ v = .int k t)
    (T : ∀ k ∈ ns, TestX prog w A h₀ L m env ct x scope cl s₂ news p k)
    (hRR : ∀ D C h tk m' ys, Fr h₀ L h m → News h₀ L h ((D, lst ys) :: news) → Off1 D news → h.Ns C m' → h₀.get? C = none → h₀.get? D = none → C ≠ L → D ≠ L → C ≠ D → (∀ q ∈ news, q.1 ≠ C) → IntsAre ys (ns.filter p) → RR (.ref D) C (.ok .next) { s₂ with heap := h, toks := tk }) :
    wpAny (model prog w) A (newList []) (fun acc s₃ => wpAny (model prog w) A (newFunctionEnv scope env.globals cl [] env.qual none .none (some env)) (fun cenv s₄ =>
      codeAny (model prog w) A (.compStart (.ListComp (.Name x px') [⟨.Name x px, iter, [ct], 0⟩] scope pos) 0 (.ref I) acc { cenv with scope := relabel scope env }) (RR acc cenv.locals) s₄) E s₃) E s₂ := by
  refine wpAny_newObj_type (laidX (y := y) hsn ?_)
  dsimp only
  generalize hH2 : s₂.heap.push { cls := .type "list", dict := none, data := .seq ([] : List Value).toArray } = H2
  have hC : H2.objs.size = s₂.heap.objs.size + 1 := by rw [← hH2, Heap.size_push]
  generalize hH3 : H2.push { cls := .type "dict", data := .dict #[] } = H3
  have hc : H3.objs.size = s₂.heap.objs.size + 2 := by rw [← hH3, Heap.size_push, hC]
  generalize hh1 : H3.push (cellO none) = h₁
  generalize hDe : s₂.heap.objs.size = D at hC hc
  generalize hCe : H2.objs.size = C at hC
  generalize hce : H3.objs.size = c at hc
  have low : ∀ b o, s₂.heap.get? b = some o → b < D := fun b o e => hDe ▸ Heap.lt_size e
  have old : ∀ b o, s₂.heap.get? b = some o → h₁.get? b = some o := fun b o e => hh1 ▸ Heap.get?_push_of_some _ (hH3 ▸ Heap.get?_push_of_some _ (hH2 ▸ Heap.get?_push_of_some _ e))
  have hacc : h₁.get? D = some (lst []) := hh1 ▸ Heap.get?_push_of_some _ (hH3 ▸ Heap.get?_push_of_some _ (by rw [← hH2, ← hDe]; exact Heap.get?_push_size _ rfl))
  have hcell : h₁.get? c = some (cellO none) := by rw [← hh1, ← hce]; exact Heap.get?_push_size _ rfl
  have hns : h₁.Ns C (fun _ => none) := by
    have z := Heap.Ns.new H2 (.type "dict")
    rw [hH3, hCe] at z
    exact z.keeps fun b o e => hh1 ▸ Heap.get?_push_of_some _ e
  have hDC : @Ne Nat D C := by omega
  have hDc : @Ne Nat D c := by omega
  have hCc : @Ne Nat C c := by omega
  have hIlt : @LT.lt Nat instLTNat I D := hDe ▸ hfp I (W.sub I (List.mem_singleton.mpr rfl))
  have hLlt : @LT.lt Nat instLTNat L D := hDe ▸ F.ns.lt
  have fpD : ∀ b ∈ fp, @LT.lt Nat instLTNat b D := fun b hb => hDe ▸ hfp b hb
  have nlt : ∀ q ∈ news, @LT.lt Nat instLTNat q.1 D := fun q hq => low _ _ (N q hq).1
  have fresh₀ : ∀ a, D ≤ a → h₀.get? a = none := fun a ha => Heap.get?_none_of_le (Nat.le_trans F.above (Nat.le_trans (Nat.le_of_lt hLlt) ha))
  have hD₀ := fresh₀ D (Nat.le_refl _)
  have hC₀ := fresh₀ C (by omega)
  have hc₀ := fresh₀ c (by omega)
  have hst₁ : St 0 h₁ := W.frame _ _ _ hst fun b _ o e => old b o e
  have ex : compEnvC scope ((x, c) :: cl) C env = { scope := relabel scope env, locals := C, globals := env.globals, cells := (x, c) :: cl, qual := env.qual, func := none, code := env.code, frame := env.frame, builtins := env.builtins } := rfl
  have hkx : (compEnvC scope ((x, c) :: cl) C env).kindOf x = some .cell := kindX hsn hx0
  have hkf : (compEnvC scope ((x, c) :: cl) C env).scope.kind = .function := hkind
  have hlk : (compEnvC scope ((x, c) :: cl) C env).cells.lookup x = some c := by
    show List.lookup x ((x, c) :: cl) = some c
    rw [List.lookup_cons]; simp
  have loop : ∀ s₃ : Shared, s₃ = { s₂ with heap := h₁ } →
      codeAny (model prog w) A (.compLoop (.ListComp (.Name x px') [⟨.Name x px, iter, [ct], 0⟩] scope pos) 0 (.ref I) (.ref D) (compEnvC scope ((x, c) :: cl) C env)) (RR (.ref D) C) s₃ := by
    rintro s₃ rfl
    refine codeAny_compLoop_tests
      (fun k s' => ∃ h' tk i ys oc, s' = { s₂ with heap := h', toks := tk } ∧ i ≤ n ∧ k = n + 1 - i ∧ ys.length ≤ i ∧ St i h' ∧ Fr h₀ L h' m ∧ h'.Ns C (fun _ => none) ∧ News h₀ L h' ((D, lst ys) :: (c, oc) :: news) ∧ (∃ v, oc.data = .cell v) ∧ IntsAre ys ((ns.take i).filter p)) ?_ (n + 1)
      ⟨h₁, _, 0, [], cellO none, rfl, Nat.zero_le _, rfl, Nat.le_refl _, hst₁, F.keeps old, hns, fun q hq => ?_, ⟨_, rfl⟩, .nil⟩
    · rintro k s' ⟨h', tk, i, ys, oc, rfl, hi, rfl, hyl, hst', F', hn', N', ⟨vc, hvc⟩, hys⟩
      by_cases hlt : i < n
      · refine W.item i _ _ _ hlt hst' fun v h₂ tk₂ hPv hst₂ hk₂ => ?_
        obtain ⟨kk, t, hkk, rfl⟩ := hP i v hlt hPv
        have keep2 : ∀ b o, b ≠ I → h'.get? b = some o → h₂.get? b = some o := fun b o hb e => hk₂ b o (by simpa using hb) e
        have Nc := N' (c, oc) (.tail _ (.head _))
        have hc2 : h₂.get? c = some oc := keep2 _ _ (by show @Ne Nat c I; omega) Nc.1
        refine wpAny_assign_Name (wpAny_storeName_cell hkf hkx hlk ⟨oc, hc2, hvc⟩ fun h₃ hv₃ hs₃ => ?_)
        refine wpAny_tests_one ?_
        obtain ⟨oc₃, hoc₃, hdc₃⟩ := hv₃
        have keep3 : ∀ b o, b ≠ I → b ≠ c → h'.get? b = some o → h₃.get? b = some o := fun b o hb hbc e => hs₃.extBut b o hbc (keep2 b o hb e)
        have hst₃ : St (i + 1) h₃ := W.frame _ _ _ hst₂ fun b hb o e => hs₃.extBut b o (by have := fpD b hb; show @Ne Nat b _; omega) e
        obtain ⟨oI, heI⟩ := hIo _ _ hst₃
        have hn₃ : h₃.Ns C (fun _ => none) := hn'.at' fun o e => keep3 _ o (by show @Ne Nat C I; omega) hCc e
        obtain ⟨oC, heC, hoC⟩ := ns_obj hn₃
        have F₃ : Fr h₀ L h₃ m := ⟨F'.ns.at' fun o e => keep3 L o (by show @Ne Nat L I; exact hIL) (by show @Ne Nat L c; omega) e, fun b o e => keep3 b o (fun q => by rw [q, hI₀] at e; cases e) (fun q => by rw [q, hc₀] at e; cases e) (F'.keep b o e), F'.above⟩
        have N₃ : News h₀ L h₃ ((I, oI) :: (C, oC) :: (D, lst ys) :: (c, oc₃) :: news) := fun q hq => by
          rcases List.mem_cons.mp hq with rfl | hq
          · exact ⟨heI, Ne.symm hIL, hI₀⟩
          · rcases List.mem_cons.mp hq with rfl | hq
            · exact ⟨heC, by show @Ne Nat C L; omega, hC₀⟩
            · rcases List.mem_cons.mp hq with rfl | hq
              · exact ⟨keep3 _ _ (by show @Ne Nat D I; omega) hDc (N' _ (.head _)).1, by show @Ne Nat D L; omega, hD₀⟩
              · rcases List.mem_cons.mp hq with rfl | hq
                · exact ⟨hoc₃, by show @Ne Nat c L; omega, hc₀⟩
                · have z := N' q (.tail _ (.tail _ hq))
                  exact ⟨keep3 _ _ (off q hq) (by have := nlt q hq; show @Ne Nat q.1 _; omega) z.1, z.2⟩
        have hmem : kk ∈ ns := List.mem_of_getElem? hkk
        have hs1 : ns.take (i + 1) = ns.take i ++ [kk] := by simp [List.take_add_one, hkk]
        have hfil : (ns.take (i + 1)).filter p = (ns.take i).filter p ++ (if p kk = true then [kk] else []) := by
          rw [hs1, List.filter_append, List.filter_cons, List.filter_nil]
        refine T kk hmem t I oI C oC D ys c oc₃ h₃ _ _ _ F₃ N₃ hdc₃ fun h₄ tk₄ F₄ N₄ => ?_
        have zI := (N₄ _ (.head _)).1
        have N₄' : News h₀ L h₄ news := fun q hq => N₄ q (.tail _ (.tail _ (.tail _ (.tail _ hq))))
        have hst₄ : St (i + 1) h₄ := hSt _ _ _ _ _ hst₃ heI zI F₄.keep N₄' hS
        have zC := (N₄ (C, oC) (.tail _ (.head _))).1
        have zD := (N₄ (D, lst ys) (.tail _ (.tail _ (.head _)))).1
        have zc := (N₄ (c, oc₃) (.tail _ (.tail _ (.tail _ (.head _))))).1
        cases hpk : p kk with
        | true =>
          rw [if_pos rfl]
          refine wpAny_Name (wpAny_loadName_cell hkf hkx hlk ⟨oc₃, zc, hdc₃⟩ ?_) hxd
          refine append_at (hsz := by show ys.toArray.size ≤ sizeLine; rw [List.size_toArray]; exact Nat.le_trans (Nat.le_trans hyl hi) hsz) zD fun h₅ hs₅ hD₅ => ?_
          refine ⟨n + 1 - (i + 1), by omega, h₅, tk₄, i + 1, ys ++ [.int kk t], oc₃, rfl, hlt, rfl, by rw [List.length_append, List.length_singleton]; exact Nat.succ_le_succ hyl,
            W.frame _ _ _ hst₄ fun b hb o e => hs₅.extBut b o (by have := fpD b hb; show @Ne Nat b _; omega) e, F₄.change hs₅ (by show @Ne Nat D L; omega) hD₀, (hoC.ns zC).sameBut hs₅ (Ne.symm hDC), fun q hq => ?_, ⟨_, hdc₃⟩, ?_⟩
          · rcases List.mem_cons.mp hq with rfl | hq
            · exact ⟨hD₅.trans (congrArg some (lst_snoc ys _)), by show @Ne Nat D L; omega, hD₀⟩
            · rcases List.mem_cons.mp hq with rfl | hq
              · exact ⟨hs₅.extBut _ _ (Ne.symm hDc) zc, by show @Ne Nat c L; omega, hc₀⟩
              · exact ⟨hs₅.extBut _ _ (by have := nlt q hq; show @Ne Nat q.1 _; omega) (N₄' q hq).1, (N₄' q hq).2⟩
          · rw [hfil, if_pos hpk]
            exact IntsAre.append hys (.cons kk t .nil)
        | false =>
          rw [if_neg (by decide)]
          refine ⟨n + 1 - (i + 1), by omega, h₄, tk₄, i + 1, ys, oc₃, rfl, hlt, rfl, Nat.le_succ_of_le hyl, hst₄, F₄, hoC.ns zC, fun q hq => ?_, ⟨_, hdc₃⟩, ?_⟩
          · rcases List.mem_cons.mp hq with rfl | hq
            · exact N₄ _ (.tail _ (.tail _ (.head _)))
            · rcases List.mem_cons.mp hq with rfl | hq
              · exact N₄ _ (.tail _ (.tail _ (.tail _ (.head _))))
              · exact N₄' q hq
          · rw [hfil, if_neg (by rw [hpk]; decide), List.append_nil]
            exact hys
      · obtain rfl : i = n := Nat.le_antisymm hi (Nat.not_lt.mp hlt)
        refine W.done _ _ _ hst' fun h₂ tk₂ hk₂ => ?_
        have keep2 : ∀ b o, b ≠ I → h'.get? b = some o → h₂.get? b = some o := fun b o hb e => hk₂ b o (by simpa using hb) e
        refine hRR D C h₂ tk₂ _ ys ⟨F'.ns.at' fun o e => keep2 L o hIL e, fun b o e => keep2 b o (fun q => by rw [q, hI₀] at e; cases e) (F'.keep b o e), F'.above⟩ (fun q hq => ?_) ?_ (hn'.at' fun o e => keep2 _ o (by show @Ne Nat C I; omega) e) hC₀ hD₀ (by show @Ne Nat C L; omega) (by show @Ne Nat D L; omega) (Ne.symm hDC)
          (fun q hq => by have := nlt q hq; show @Ne Nat q.1 _; omega) ?_
        · rcases List.mem_cons.mp hq with rfl | hq
          · have z := N' _ (.head _)
            exact ⟨keep2 _ _ (by show @Ne Nat D I; omega) z.1, z.2⟩
          · have z := N' q (.tail _ (.tail _ hq))
            exact ⟨keep2 _ _ (off q hq) z.1, z.2⟩
        · have : ∀ l : List (Addr × Obj), (∀ q ∈ l, q.1 < D) → Off1 D l := by
            intro l
            induction l with
            | nil => intro _; trivial
            | cons q r ih => intro hq; exact ⟨Nat.ne_of_lt (hq q (.head _)), ih fun z hz => hq z (.tail _ hz)⟩
          exact this _ nlt
        · rw [← hks, List.take_length] at hys
          exact hys
    · rcases List.mem_cons.mp hq with rfl | hq
      · exact ⟨hacc, by show @Ne Nat D L; omega, hD₀⟩
      · rcases List.mem_cons.mp hq with rfl | hq
        · exact ⟨hcell, by show @Ne Nat c L; omega, hc₀⟩
        · exact ⟨old _ _ (N q hq).1, (N q hq).2⟩
  exact codeAny_compStart_list (loop _ rfl) (W.self 0 _ _ _ hst₁ (loop _ rfl))
end
end Mine
end
section
open PySem PySem.W PySem.Calls PyProof.Rows PyProof.V PyProof.Rows.LCg
set_option Elab.async false
set_option maxRecDepth 100000
set_option maxHeartbeats 8000000
namespace Mine
section
variable {prog : Program} {w : World} {A : Around} {E : Value → Shared → Prop} {s : Shared} {h₀ : Heap} {L : Addr} {m : Str → Option Value} {env : Env}
noncomputable def FinX (h₀ : Heap) (L : Addr) (m : Str → Option Value) (s : Shared) (Q : Value → Shared → Prop) (news : List (Addr × Obj)) (ks : List Int) : Prop :=
  ∀ D h tk ys, Fr h₀ L h m → News h₀ L h ((D, lst ys) :: news) → Off1 D news → IntsAre ys ks → Q (.ref D) { s with heap := h, toks := tk }
noncomputable def SrcX (prog : Program) (w : World) (A : Around) (h₀ : Heap) (L : Addr) (m : Str → Option Value) (env : Env) (ct : Expr) (x : Str) (scope : Scope) (cl : List (Str × Addr)) (Q : Value → Shared → Prop) (p : Int → Bool) (xv : Value) (s₁ : Shared) : Prop :=
  (∃ ax vs ns news n, xv = .ref ax ∧ A.handled = none ∧ Fr h₀ L s₁.heap m ∧ News h₀ L s₁.heap news ∧ (ax, listOf (List.toArray vs) n) ∈ news ∧ IntsAre vs ns ∧ vs.length ≤ sizeLine ∧
    (∀ g, ∀ k ∈ ns, TestX prog w A h₀ L m env ct x scope cl { s₁ with heap := g } news p k) ∧ FinX h₀ L m s₁ Q news (ns.filter p)) ∨
  (∃ r a b t u v n news, xv = .ref r ∧ A.handled = none ∧ Fr h₀ L s₁.heap m ∧ News h₀ L s₁.heap news ∧ IsRange s₁.heap r a b 1 t u v ∧ Builtin.Range.small a b 1 = true ∧ Builtin.Range.rangeSize a b 1 = ((n : Nat) : Int) ∧ n ≤ sizeLine ∧
    (∀ g, ∀ k ∈ rangeKs a n, TestX prog w A h₀ L m env ct x scope cl { s₁ with heap := g } news p k) ∧ FinX h₀ L m s₁ Q news ((rangeKs a n).filter p))
theorem filterX {ct iter : Expr} {x y : Str} {px px' : Pos} {scope : Scope} {cl : List (Str × Addr)} {pos : Pos} {Q : Value → Shared → Prop} (p : Int → Bool) (_F₀ : Fr h₀ L s.heap m)
    (hclos : closureFor scope env = pure cl) (hsn : scope.names = [(Str.ofString ".0", .local), (x, .cell), (y, .free)]) (hx0 : (x == (Str.ofString ".0")) = false) (hxd : (x == ("__debug__" : Str)) = false) (hkind : scope.kind = .function)
    (h : wpAny (model prog w) A (eval iter env) (SrcX prog w A h₀ L m env ct x scope cl Q p) E s)
    (hs : ∀ x, foldedSetIterable iter env x = pure x := by intro _; rfl) :
    wpAny (model prog w) A (eval (.ListComp (.Name x px') [⟨.Name x px, iter, [ct], 0⟩] scope pos) env) Q E s := by
  have hnames : ∀ y ∈ scope.names, y.2 = .local → scope.names.lookup y.1 = some .local := by
    rw [hsn]
    intro z hz e
    rcases List.mem_cons.mp hz with rfl | hz
    · rfl
    · rcases List.mem_cons.mp hz with rfl | hz
      · cases e
      · rw [List.mem_singleton.mp hz] at e; cases e
  rw [eval_ListComp]
  refine wpAny_comprehension_free (use := none) rfl hs hclos hkind hnames (wpAny_mono h (fun xv s₁ h₁ => ?_) fun _ _ e => e)
  have back : ∀ {h' : Heap} {D C : Addr} {m' : Str → Option Value} {ys : List Value} {news : List (Addr × Obj)} {ks : List Int} {s' : Shared} {tk : Nat}, (∃ g, s' = { s₁ with heap := g }) → FinX h₀ L m s₁ Q news ks → Fr h₀ L h' m → News h₀ L h' ((D, lst ys) :: news) → Off1 D news → h'.Ns C m' → h₀.get? C = none → C ≠ L → C ≠ D → (∀ q ∈ news, q.1 ≠ C) → IntsAre ys ks →
      compPost (model prog w) A E none Q (.ref D) C (.ok .next) { s' with heap := h', toks := tk } := by
    rintro h' D C m' ys news ks _ tk ⟨g, rfl⟩ fin F' N' o1 hn hC₀ hCL hCD offC hi
    refine ⟨m', hn, fun h'' hs'' => fin D h'' tk ys (F'.change hs'' hCL hC₀) (fun q hq => ?_) o1 hi⟩
    refine ⟨hs''.extBut _ _ ?_ (N' q hq).1, (N' q hq).2⟩
    rcases List.mem_cons.mp hq with rfl | hq
    · exact Ne.symm hCD
    · exact offC q hq
  rcases h₁ with ⟨ax, vs, ns, news, n, rfl, hh, F, N, hm, hi, hsz, T, fin⟩ | ⟨r, a, b, t, u, v, n, news, rfl, hh, F, N, hr, hsm, hn, hsz, T, fin⟩
  · have hl : s₁.heap.IsList ax (List.toArray vs) := ⟨_, (N _ hm).1, rfl, _, rfl⟩
    have hlt : ax < s₁.heap.objs.size := Heap.lt_size (N _ hm).1
    refine wpAny_pyIter_list hl ?_
    have up : ∀ b o, s₁.heap.get? b = some o → (s₁.heap.push { cls := .type "list_iterator", data := .fields #[.ref ax, .int 0 0] }).get? b = some o := fun b o e => Heap.get?_push_of_some _ e
    refine blockX (y := y) (RR := fun acc C => compPost (model prog w) A E none Q acc C) (S := SrcAt h₀ ax (List.toArray vs)) (Walks.list hh s₁.heap.objs.size ax (Nat.ne_of_lt hlt) (List.toArray vs)) (by rw [List.size_toArray]; exact hsz) (fun i h st => by obtain ⟨o, e, _⟩ := st.1; exact ⟨o, e⟩) list_st hsn hx0 hxd hkind ⟨⟨_, Heap.get?_push_size _ rfl, rfl, rfl⟩, hl.push _⟩ (fun b hb => ?_)
      (F.keeps up) (N.grown up) (Nat.ne_of_lt F.ns.lt) (next_is_new F) (fun q hq => Nat.ne_of_lt (Heap.lt_size (N q hq).1)) (.inr ⟨_, hm, rfl, _, rfl⟩) (by rw [List.size_toArray]; exact hi.length.symm) (fun i v _ hv => ?_) (T _) ?_
    · show b < (s₁.heap.push _).objs.size
      rw [Heap.size_push]
      rcases List.mem_cons.mp hb with rfl | hb
      · exact Nat.lt_succ_self _
      · rw [List.mem_singleton.mp hb]; exact Nat.lt_succ_of_lt hlt
    · obtain ⟨k, t, e, hk⟩ := IntsAre.at hi i v (by simpa using hv)
      exact ⟨k, t, hk, e⟩
    · intro D C h tk m' ys F' N' o1 hn hC₀ hD₀ hCL hDL hCD offC hy
      exact back ⟨_, rfl⟩ fin F' N' o1 hn hC₀ hCL hCD offC hy
  · refine wpAny_pyIter_range hr hsm ?_
    refine blockX (y := y) (RR := fun acc C => compPost (model prog w) A E none Q acc C) (S := fun _ => True) (ns := rangeKs a n) (range_walks hh a n) hsz (fun i h st => ⟨_, st⟩) range_st hsn hx0 hxd hkind (by show IsRangeIter _ _ _ _ _; rw [hn]; simpa using Heap.get?_push_size _ rfl) (fun b hb => ?_)
      (F.keeps fun _ _ e => Heap.get?_push_of_some _ e) (N.grown fun _ _ e => Heap.get?_push_of_some _ e) (Nat.ne_of_lt F.ns.lt) (next_is_new F) (fun q hq => Nat.ne_of_lt (Heap.lt_size (N q hq).1)) trivial (rangeKs_length a n) (fun i v hi hv => ?_) (T _) ?_
    · rw [List.mem_singleton.mp hb]
      show s₁.heap.objs.size < (s₁.heap.push _).objs.size
      rw [Heap.size_push]; exact Nat.lt_succ_self _
    · obtain ⟨t, e⟩ := hv
      exact ⟨a + (i : Int), t, by simp [rangeKs, hi], e⟩
    · intro D C h tk m' ys F' N' o1 hn hC₀ hD₀ hCL hDL hCD offC hy
      exact back ⟨_, rfl⟩ fin F' N' o1 hn hC₀ hCL hCD offC hy
end
end Mine
end
section
open PySem PySem.W PySem.Calls PyProof.Rows PyProof.V PyProof.Rows.LCg
set_option Elab.async false
set_option maxRecDepth 100000
set_option maxHeartbeats 8000000
namespace Mine
section
variable {prog : Program} {w : World} {A : Around} {E : Value → Shared → Prop} {R : Result → Shared → Prop} {s : Shared} {h₀ : Heap} {L : Addr} {m : Str → Option Value} {env : Env}
theorem turnA (elt : Expr) (xv xs : Str) (p1 p2 : Pos) (itV itS : Expr) (scope : Scope) (pos : Pos) (it acc : Value) (env : Env) :
    compTurn (.ListComp elt [⟨.Name xv p1, itV, [], 0⟩, ⟨.Name xs p2, itS, [], 0⟩] scope pos) 0 it acc env = (standAt itV.pos >>= fun _ => pyNext it >>= fun r => match r with
      | none => pure (.done .next)
      | some v => letOwnedTupleGo (.Name xv p1) it v >>= fun _ => assign (.Name xv p1) env v >>= fun _ =>
        eval itS env >>= fun x => standAt itS.pos >>= fun _ => foldedSetIterable itS env x >>= fun x => holding [x] (pyIter x) >>= fun i2 => runOwn (.compStart (.ListComp elt [⟨.Name xv p1, itV, [], 0⟩, ⟨.Name xs p2, itS, [], 0⟩] scope pos) 1 i2 acc env) env >>= fun _ =>
          again (.compLoop (.ListComp elt [⟨.Name xv p1, itV, [], 0⟩, ⟨.Name xs p2, itS, [], 0⟩] scope pos) 0 it acc env)) := by rfl
theorem turnB (elt : Expr) (xv xs : Str) (p1 p2 : Pos) (itV itS : Expr) (scope : Scope) (pos : Pos) (it acc : Value) (env : Env) :
    compTurn (.ListComp elt [⟨.Name xv p1, itV, [], 0⟩, ⟨.Name xs p2, itS, [], 0⟩] scope pos) 1 it acc env = (standAt itS.pos >>= fun _ => pyNext it >>= fun r => match r with
      | none => pure (.done .next)
      | some v => letOwnedTupleGo (.Name xs p2) it v >>= fun _ => assign (.Name xs p2) env v >>= fun _ =>
        (eval elt env >>= fun x => call (.builtin "list.append") [acc, x] >>= fun _ => pure ()) >>= fun _ =>
          again (.compLoop (.ListComp elt [⟨.Name xv p1, itV, [], 0⟩, ⟨.Name xs p2, itS, [], 0⟩] scope pos) 1 it acc env)) := by rfl
theorem startB {elt : Expr} {g1 : Comprehension} {t2 itS : Expr} {ifs : List Expr} {scope : Scope} {pos : Pos} {it acc : Value} {env : Env}
    (h0 : codeAny (model prog w) A (.compLoop (.ListComp elt [g1, ⟨t2, itS, ifs, 0⟩] scope pos) 1 it acc env) R s)
    (h : ∀ E', wpAny (model prog w) A (pyIter it) (fun it' s' => codeAny (model prog w) A (.compLoop (.ListComp elt [g1, ⟨t2, itS, ifs, 0⟩] scope pos) 1 it' acc env) R s') E' s) :
    codeAny (model prog w) A (.compStart (.ListComp elt [g1, ⟨t2, itS, ifs, 0⟩] scope pos) 1 it acc env) R s := by
  refine codeAny_of_tree ?_
  show wpAny _ _ ((compStart (.ListComp elt [g1, ⟨t2, itS, ifs, 0⟩] scope pos) 1 it acc env).onRaise (fun x => do noteFrame x env; standAt theWindowsPlace)) _ _ s
  refine wpAny_notedAt ?_
  unfold compStart
  show wpAny _ _ (ask >>= _) _ _ s
  refine wpAny_bind (wpAny_askSetting (wpAny_ite ?_))
  split
  · first
      | exact wpAny_bind (wpAny_pure (wpAny_pure (And.intro rfl h0)))
      | exact wpAny_pure (And.intro rfl h0)
  · refine wpAny_bind (wpAny_rule ?_)
    show wpAny _ _ (standAt itS.pos >>= _) _ _ s
    exact wpAny_bind (wpAny_standAt (wpAny_bind (wpAny_mono (h _) (fun it' s' h' => wpAny_pure (And.intro rfl h')) fun _ _ x => x)))
structure InP (H : Heap) (I D C : Addr) (ys : List Value) (mC : Str → Option Value) (h : Heap) : Prop where
  keep : ∀ b o, b ≠ I → H.get? b = some o → h.get? b = some o
  acc : h.get? D = some (lst ys)
  ns : h.Ns C mC
theorem InP.grow {H h h' : Heap} {I D C : Addr} {ys : List Value} {mC : Str → Option Value} (x : InP H I D C ys mC h) (k : ∀ b o, h.get? b = some o → h'.get? b = some o) : InP H I D C ys mC h' :=
  ⟨fun b o hb e => k b o (x.keep b o hb e), k _ _ x.acc, x.ns.at' fun o e => k _ o e⟩
theorem InP.but {H h h' : Heap} {I D C J : Addr} {ys : List Value} {mC : Str → Option Value} (x : InP H I D C ys mC h) (hD : D ≠ J) (hC : C ≠ J) (hJ : ∀ o, J ≠ I → H.get? J = some o → False) (k : ∀ b o, b ≠ J → h.get? b = some o → h'.get? b = some o) : InP H I D C ys mC h' :=
  ⟨fun b o hb e => k b o (fun q => by subst q; exact hJ o hb e) (x.keep b o hb e), k _ _ hD x.acc, x.ns.at' fun o e => k _ o hC e⟩
/-- the inner clause -/
theorem innerP {elt itV itS : Expr} {xv xs : Str} {p1 p2 pos : Pos} {scope : Scope} {cenv : Env} {H : Heap} {I D C I2 T : Addr} {s₂ : Shared} {vs2 : List Value} {bs acc : List Int} {a : Int} {ta : Tok} {oI : Obj} {ys : List Value} {mC : Str → Option Value} {h1 : Heap} {tk1 : Nat}
    (hh : A.handled = none) (hlC : cenv.locals = C) (hks : cenv.kindOf xs = some .local) (hkk : (cenv.scope.kind == .class || (cenv.scope.kind == .module && cenv.locals != cenv.globals)) = false) (hvs : (xv == xs) = false)
    (hb2 : IntsAre vs2 bs) (hTI : T ≠ I2) (hD : D ≠ I2) (hC : C ≠ I2) (hDC : D ≠ C) (hTD : T ≠ D) (hTC : T ≠ C) (hI2 : I ≠ I2) (hIC : I ≠ C) (hID : I ≠ D) (hHi : H.get? I2 = none) (hHC : H.get? C = none) (hHD : H.get? D = none)
    (hst : h1.IsTupleIter I2 T 0 ∧ h1.IsTuple T vs2.toArray) (x0 : InP H I D C ys mC h1) (hI : h1.get? I = some oI) (hm : mC xv = some (.int a ta)) (hys : IntsAre ys acc) (hsz : ys.length + bs.length ≤ sizeLine)
    (helt : ∀ (s : Shared) (E' Q : Value → Shared → Prop) (m' : Str → Option Value) (b : Int) (tb : Tok), b ∈ bs → s.heap.Ns C m' → m' xv = some (.int a ta) → m' xs = some (.int b tb) → (∀ t tk, Q (.int (b * a) t) { s with toks := tk }) → wpAny (model prog w) A (eval elt cenv) Q E' s)
    (fin : ∀ h' tk ys' mC', InP H I D C ys' mC' h' → h'.get? I = some oI → IntsAre ys' (acc ++ bs.map (fun b => b * a)) → R (.ok .next) { s₂ with heap := h', toks := tk }) :
    codeAny (model prog w) A (.compLoop (.ListComp elt [⟨.Name xv p1, itV, [], 0⟩, ⟨.Name xs p2, itS, [], 0⟩] scope pos) 1 (.ref I2) (.ref D) cenv) R { s₂ with heap := h1, toks := tk1 } := by
  have W := Walks.tuple (prog := prog) (w := w) hh I2 T hTI vs2.toArray
  have hlen : vs2.toArray.size = bs.length := by rw [List.size_toArray, hb2.length]
  rw [hlen] at W
  refine codeAny_loop rfl (fun k s' => ∃ h' tk j ys' mC', s' = { s₂ with heap := h', toks := tk } ∧ j ≤ bs.length ∧ k = bs.length + 1 - j ∧ InP H I D C ys' mC' h' ∧ h'.get? I = some oI ∧ mC' xv = some (.int a ta) ∧ (h'.IsTupleIter I2 T j ∧ h'.IsTuple T vs2.toArray) ∧ IntsAre ys' (acc ++ (bs.take j).map (fun b => b * a)))
    (fun k s' hk => ?_) (bs.length + 1) ⟨h1, tk1, 0, ys, mC, rfl, Nat.zero_le _, rfl, x0, hI, hm, hst, by simpa using hys⟩
  obtain ⟨h', tk, j, ys', mC', rfl, hj, rfl, x, hI', hm', hst', hys'⟩ := hk
  show wpAny _ A ((compTurn (.ListComp elt [⟨.Name xv p1, itV, [], 0⟩, ⟨.Name xs p2, itS, [], 0⟩] scope pos) 1 (.ref I2) (.ref D) cenv).onRaise (fun x => do noteFrame x cenv; theTreesLotGoes x)) _ _ _
  refine wpAny_noted ?_
  rw [turnB]
  refine wpAny_bind (wpAny_standAt (wpAny_bind ?_))
  by_cases hlt : j < bs.length
  · refine W.item j _ _ _ hlt hst' fun v h₂ tk₂ hPv hst₂ hk₂ => ?_
    have keep2 : ∀ b o, b ≠ I2 → h'.get? b = some o → h₂.get? b = some o := fun b o hb e => hk₂ b o (by simpa using hb) e
    obtain ⟨b, tb, rfl, hbj⟩ := IntsAre.at hb2 j v (by simpa using hPv)
    have x2 : InP H I D C ys' mC' h₂ := x.but hD hC (fun o _ e => by rw [hHi] at e; cases e) keep2
    refine wpAny_bind (wpAny_of_eq rfl ?_)
    refine wpAny_bind (wpAny_assign_Name (wpAny_storeName_local hks (by rw [hlC]; exact x2.ns) (fun h₃ hn₃ hs₃ => ?_) hkk))
    rw [hlC] at hn₃ hs₃
    have keep3 : ∀ b o, b ≠ C → h₂.get? b = some o → h₃.get? b = some o := fun b o hb e => hs₃.extBut b o hb e
    have hvx : (fun y => if y = xs then some (Value.int b tb) else mC' y) xv = some (.int a ta) := by
      show (if xv = xs then _ else _) = _
      rw [if_neg (fun e => by rw [e] at hvs; simp at hvs)]; exact hm'
    refine wpAny_bind (wpAny_bind (helt _ _ _ _ b tb (List.mem_of_getElem? hbj) hn₃ hvx (by simp) fun t tk₃ => ?_))
    have zD : h₃.get? D = some (lst ys') := keep3 _ _ hDC x2.acc
    have hl' : ys'.length = acc.length + j := by
      rw [hys'.length, List.length_append, List.length_map, List.length_take]; omega
    have hla : ys.length = acc.length := hys.length
    refine wpAny_bind (append_at (hsz := by show ys'.toArray.size ≤ sizeLine; rw [List.size_toArray]; omega) zD fun h₅ hs₅ hD₅ => ?_)
    refine wpAny_pure (wpAny_pure ⟨rfl, bs.length + 1 - (j + 1), by omega, h₅, _, j + 1, ys' ++ [.int (b * a) t], (fun y => if y = xs then some (Value.int b tb) else mC' y), rfl, hlt, rfl, ⟨fun c o hc e => ?_, ?_, ?_⟩, ?_, hvx, ?_, ?_⟩)
    · have c1 : c ≠ C := fun q => by rw [q, hHC] at e; cases e
      have c2 : c ≠ D := fun q => by rw [q, hHD] at e; cases e
      exact hs₅.extBut _ _ c2 (keep3 _ _ c1 (x2.keep c o hc e))
    · exact hD₅.trans (congrArg some (lst_snoc ys' _))
    · exact hn₃.sameBut hs₅ (Ne.symm hDC)
    · exact hs₅.extBut _ _ hID (keep3 _ _ hIC (keep2 _ _ hI2 hI'))
    · exact ⟨hst₂.1.at fun o e => hs₅.extBut _ _ (Ne.symm hD) (keep3 _ _ (Ne.symm hC) e), hst₂.2.at fun o e => hs₅.extBut _ _ hTD (keep3 _ _ hTC e)⟩
    · have e1 : bs.take (j + 1) = bs.take j ++ [b] := by simp [List.take_add_one, hbj]
      rw [e1, List.map_append, ← List.append_assoc]
      exact IntsAre.append hys' (.cons _ t .nil)
  · obtain rfl : j = bs.length := Nat.le_antisymm hj (Nat.not_lt.mp hlt)
    refine W.done _ _ _ hst' fun h₂ tk₂ hk₂ => ?_
    have keep2 : ∀ b o, b ≠ I2 → h'.get? b = some o → h₂.get? b = some o := fun b o hb e => hk₂ b o (by simpa using hb) e
    rw [List.take_length] at hys'
    exact wpAny_pure (fin h₂ tk₂ ys' mC' (x.but hD hC (fun o _ e => by rw [hHi] at e; cases e) keep2) (keep2 _ _ hI2 hI') hys')
/-- what evaluating the inner clause's written tuple gives -/
noncomputable def TupSrc (prog : Program) (w : World) (A : Around) (itS : Expr) (cenv : Env) (bs : List Int) : Prop :=
  ∀ (s : Shared) (E' Q : Value → Shared → Prop), (∀ h' tk T vs, (∀ b o, s.heap.get? b = some o → h'.get? b = some o) → s.heap.get? T = none → h'.IsTuple T vs.toArray → IntsAre vs bs → Q (.ref T) { s with heap := h', toks := tk }) → wpAny (model prog w) A (eval itS cenv) Q E' s
noncomputable def MulSrc (prog : Program) (w : World) (A : Around) (elt : Expr) (cenv : Env) (C : Addr) (xv xs : Str) (as bs : List Int) : Prop :=
  ∀ (s : Shared) (E' Q : Value → Shared → Prop) (m' : Str → Option Value) (a b : Int) (ta tb : Tok), a ∈ as → b ∈ bs → s.heap.Ns C m' → m' xv = some (.int a ta) → m' xs = some (.int b tb) → (∀ t tk, Q (.int (b * a) t) { s with toks := tk }) → wpAny (model prog w) A (eval elt cenv) Q E' s
theorem Assign_pairP {elt itV itS : Expr} {xv xs y : Str} {p1 p2 pos py spos : Pos} {scope : Scope} {cl : List (Str × Addr)} {bs : List Int} {Q : Flow → Shared → Prop} (_F₀ : Fr h₀ L s.heap m) (hLe : env.locals = L)
    (hsw : swapsWith (.ListComp elt [⟨.Name xv p1, itV, [], 0⟩, ⟨.Name xs p2, itS, [], 0⟩] scope pos) (some (.Name y py)) spos.line env = pure true)
    (hclos : closureFor scope env = pure cl) (hcell : ∀ z ∈ scope.names, z.2 ≠ .cell) (hkind : scope.kind = .function)
    (hnames : ∀ z ∈ scope.names, z.2 = .local → scope.names.lookup z.1 = some .local) (hxv : scope.names.lookup xv = some .local) (hxs : scope.names.lookup xs = some .local) (hne : (xv == xs) = false)
    (hy : env.kindOf y = some .local) (hp : (env.scope.kind == .class || (env.scope.kind == .module && env.locals != env.globals)) = false) (hbs : bs.length ≤ 100)
    (hT : ∀ C, TupSrc prog w A itS (compEnvC scope cl C env) bs)
    (h : wpAny (model prog w) A (eval itV env) (fun xv' s₁ => ∃ r a b t u v n news, xv' = .ref r ∧ A.handled = none ∧ Fr h₀ L s₁.heap m ∧ News h₀ L s₁.heap news ∧ IsRange s₁.heap r a b 1 t u v ∧ Builtin.Range.small a b 1 = true ∧ Builtin.Range.rangeSize a b 1 = ((n : Nat) : Int) ∧ n ≤ 100 ∧
      (∀ C, MulSrc prog w A elt (compEnvC scope cl C env) C xv xs (rangeKs a n) bs) ∧
      ∀ D h' tk ys, Fr h₀ L h' (fun z => if z = y then some (.ref D) else m z) → News h₀ L h' ((D, lst ys) :: news) → Off1 D news → IntsAre ys ((rangeKs a n).flatMap fun a => bs.map fun b => b * a) → Q .next { s₁ with heap := h', toks := tk }) E s)
    (hs1 : ∀ x, foldedSetIterable itV env x = pure x := by intro _; rfl) (hs2 : ∀ env' x, foldedSetIterable itS env' x = pure x := by intro _ _; rfl) :
    wpAny (model prog w) A (exec (.Assign [.Name y py] (.ListComp elt [⟨.Name xv p1, itV, [], 0⟩, ⟨.Name xs p2, itS, [], 0⟩] scope pos) spos) env) Q E s := by
  subst hLe
  rw [exec_Assign_Name_used _ _ _ _ hsw]
  refine wpAny_bind (wpAny_standAt (wpAny_bind ?_))
  show wpAny _ A (do let _ ← comprehension (.ListComp elt [⟨.Name xv p1, itV, [], 0⟩, ⟨.Name xs p2, itS, [], 0⟩] scope pos) scope env _ (newList []) false (eval itV env) (some (assign (.Name y py) env))) _ _ s
  refine wpAny_bind (wpAny_mono (wpAny_comprehension_free (use := some (assign (.Name y py) env)) (Q := fun _ s' => Q .next s') rfl hs1 hclos hkind hnames
    (wpAny_mono h (fun xv' s₁ h₁ => ?_) fun _ _ e => e)) (fun _ s' hq => wpAny_pure (wpAny_pure hq)) fun _ _ e => e)
  obtain ⟨r, a, b, t, u, v, n, news, rfl, hh, F, N, hr, hsm, hn, hn100, hM, fin⟩ := h₁
  refine wpAny_pyIter_range hr hsm ?_
  have W := range_walks (prog := prog) (w := w) (A := A) (I := s₁.heap.objs.size) hh a n
  have hit0 : IsRangeIter (s₁.heap.push { cls := .type "range_iterator", data := .fields #[rawInt a, rawInt (Builtin.Range.rangeSize a b 1), rawInt 1] }) s₁.heap.objs.size (a + ((0 : Nat) : Int) * 1) ((n : Int) - ((0 : Nat) : Int)) 1 := by
    show Heap.get? _ _ = _
    rw [hn]; simpa using Heap.get?_push_size _ rfl
  have hIold : ∀ q ∈ news, @LT.lt Nat instLTNat q.1 s₁.heap.objs.size := fun q hq => Heap.lt_size (N q hq).1
  have hLlt : @LT.lt Nat instLTNat env.locals s₁.heap.objs.size := F.ns.lt
  have F1 := F.push { cls := .type "range_iterator", data := .fields #[rawInt a, rawInt (Builtin.Range.rangeSize a b 1), rawInt 1] }
  have N1 : News h₀ env.locals (s₁.heap.push { cls := .type "range_iterator", data := .fields #[rawInt a, rawInt (Builtin.Range.rangeSize a b 1), rawInt 1] }) news := N.grown fun _ _ e => Heap.get?_push_of_some _ e
  have hHs : (s₁.heap.push { cls := .type "range_iterator", data := .fields #[rawInt a, rawInt (Builtin.Range.rangeSize a b 1), rawInt 1] }).objs.size = s₁.heap.objs.size + 1 := Heap.size_push ..
  have hI0 : h₀.get? s₁.heap.objs.size = none := next_is_new F
  generalize (s₁.heap.push { cls := .type "range_iterator", data := .fields #[rawInt a, rawInt (Builtin.Range.rangeSize a b 1), rawInt 1] }) = H at hit0 F1 N1 hHs ⊢
  generalize hIe : s₁.heap.objs.size = I at *
  refine wpAny_newObj_type (wpAny_newFunctionEnv hcell (by intro z hz; simp at hz) (fun h₁ hns₁ hsb₁ => ?_) hkind)
  dsimp only at hns₁ hsb₁ ⊢
  have hD : (H.push { cls := .type "list", dict := none, data := .seq ([] : List Value).toArray }).get? H.objs.size = some (lst []) := Heap.get?_push_size _ rfl
  have hkD : ∀ c o, H.get? c = some o → (H.push { cls := .type "list", dict := none, data := .seq ([] : List Value).toArray }).get? c = some o := fun c o e => Heap.get?_push_of_some _ e
  have hDs : (H.push { cls := .type "list", dict := none, data := .seq ([] : List Value).toArray }).objs.size = H.objs.size + 1 := Heap.size_push ..
  generalize (H.push { cls := .type "list", dict := none, data := .seq ([] : List Value).toArray }) = H2 at hns₁ hsb₁ hD hkD hDs ⊢
  have hHn : ∀ c, H.objs.size ≤ c → H.get? c = none := fun c hc => Heap.get?_none_of_le hc
  generalize hDe : H.objs.size = D at *
  generalize hCe : H2.objs.size = C at *
  have hC1 : @Eq Nat C (I + 2) := by show @Eq Nat C (I + 2); omega
  have hD1 : @Eq Nat D (I + 1) := hHs
  have hHD : H.get? D = none := hHn _ (Nat.le_refl _)
  have hHC : H.get? C = none := hHn _ (by show @LE.le Nat _ D C; omega)
  have hDC : D ≠ C := by show @Ne Nat D C; omega
  have hIC : I ≠ C := by show @Ne Nat I C; omega
  have hID : I ≠ D := by show @Ne Nat I D; omega
  have hLI : env.locals ≠ I := by show @Ne Nat env.locals I; omega
  have hLD : D ≠ env.locals := by show @Ne Nat D env.locals; omega
  have hLC : C ≠ env.locals := by show @Ne Nat C env.locals; omega
  have f0 : ∀ c, @LE.le Nat instLENat I c → h₀.get? c = none := fun c hc => Heap.get?_none_of_le (Nat.le_trans F.above (Nat.le_trans (Nat.le_of_lt hLlt) hc))
  have x₁ : InP H I D C [] (fun z => ([] : List (Str × Value)).reverse.lookup z) h₁ := ⟨fun c o _ e => hsb₁.extBut c o (fun q => by rw [q, hHC] at e; cases e) (Heap.get?_push_of_some _ (hkD c o e)), hsb₁.extBut _ _ hDC (Heap.get?_push_of_some _ hD), hns₁⟩
  have hI₁ : h₁.get? I = H.get? I := by
    have z : H.get? I = some _ := hit0
    rw [z]
    exact hsb₁.extBut _ _ hIC (Heap.get?_push_of_some _ (hkD _ _ z))
  have st₁ : IsRangeIter h₁ I (a + ((0 : Nat) : Int) * 1) ((n : Int) - ((0 : Nat) : Int)) 1 := by
    show h₁.get? I = _
    rw [hI₁]; exact hit0
  have back : ∀ {h' : Heap} {tk : Nat} {ys : List Value} {mC : Str → Option Value}, InP H I D C ys mC h' → IntsAre ys ((rangeKs a n).flatMap fun a => bs.map fun b => b * a) →
      compPost (model prog w) A E (some (assign (.Name y py) env)) (fun _ s' => Q .next s') (.ref D) C (.ok .next) { s₁ with heap := h', toks := tk } := by
    intro h' tk ys mC x hys
    have Fe : Fr h₀ env.locals h' m := ⟨F1.ns.at' fun o e => x.keep _ o hLI e, fun c o e => x.keep c o (fun q => by rw [q, hI0] at e; cases e) (F1.keep c o e), F1.above⟩
    show wpAny _ A (assign (.Name y py) env (.ref D)) _ _ _
    refine wpAny_assign_Name (wpAny_storeName_local hy Fe.ns (fun h₂ hn₂ hs₂ => ?_) hp)
    have hL₀ : h₀.get? env.locals = none := Heap.get?_none_of_le Fe.above
    have F₂ : Fr h₀ env.locals h₂ (fun z => if z = y then some (.ref D) else m z) := ⟨hn₂, fun c o e => hs₂.extBut c o (fun q => by rw [q, hL₀] at e; cases e) (Fe.keep c o e), Fe.above⟩
    refine ⟨mC, x.ns.sameBut hs₂ hLC, fun h'' hs'' => fin D h'' _ ys (F₂.change hs'' hLC (f0 C (by omega))) (fun q hq => ?_) ?_ hys⟩
    · rcases List.mem_cons.mp hq with rfl | hq
      · exact ⟨hs''.extBut _ _ hDC (hs₂.extBut _ _ hLD x.acc), hLD, f0 D (by omega)⟩
      · have z := N1 q hq
        have l := hIold q hq
        refine ⟨hs''.extBut _ _ (by show @Ne Nat q.1 C; omega) (hs₂.extBut _ _ z.2.1 (x.keep _ _ (by show @Ne Nat q.1 I; omega) z.1)), z.2⟩
    · have : ∀ l : List (Addr × Obj), (∀ q ∈ l, @LT.lt Nat instLTNat q.1 I) → Off1 D l := by
        intro l
        induction l with
        | nil => intro _; trivial
        | cons q r ih => intro hq; exact ⟨by have := hq q (.head _); show @Ne Nat q.1 D; omega, ih fun z hz => hq z (.tail _ hz)⟩
      exact this _ hIold
  have loop : ∀ s₃ : Shared, s₃ = { s₁ with heap := h₁, toks := s₁.toks + ([] : List (Str × Value)).length } →
      codeAny (model prog w) A (.compLoop (.ListComp elt [⟨.Name xv p1, itV, [], 0⟩, ⟨.Name xs p2, itS, [], 0⟩] scope pos) 0 (.ref I) (.ref D) (compEnvC scope cl C env)) (compPost (model prog w) A E (some (assign (.Name y py) env)) (fun _ s' => Q .next s') (.ref D) C) s₃ := by
    rintro s₃ rfl
    refine codeAny_loop rfl (fun k s' => ∃ h' tk i ys mC, s' = { s₁ with heap := h', toks := tk } ∧ i ≤ n ∧ k = n + 1 - i ∧ InP H I D C ys mC h' ∧ IsRangeIter h' I (a + (i : Nat) * 1) ((n : Int) - (i : Nat)) 1 ∧ IntsAre ys (((rangeKs a n).take i).flatMap fun a => bs.map fun b => b * a))
      (fun k s' hk => ?_) (n + 1) ⟨h₁, _, 0, [], _, rfl, Nat.zero_le _, rfl, x₁, st₁, .nil⟩
    obtain ⟨h', tk, i, ys, mC, rfl, hi, rfl, x, hst, hys⟩ := hk
    show wpAny _ A ((compTurn (.ListComp elt [⟨.Name xv p1, itV, [], 0⟩, ⟨.Name xs p2, itS, [], 0⟩] scope pos) 0 (.ref I) (.ref D) (compEnvC scope cl C env)).onRaise (fun x => do noteFrame x (compEnvC scope cl C env); theTreesLotGoes x)) _ _ _
    refine wpAny_noted ?_
    rw [turnA]
    refine wpAny_bind (wpAny_standAt (wpAny_bind ?_))
    by_cases hlt : i < n
    · refine W.item i _ _ _ hlt hst fun v h₂ tk₂ hPv hst₂ hk₂ => ?_
      obtain ⟨ta, rfl⟩ := hPv
      have keep2 : ∀ b o, b ≠ I → h'.get? b = some o → h₂.get? b = some o := fun b o hb e => hk₂ b o (by simpa using hb) e
      have x2 : InP H I D C ys mC h₂ := x.but (Ne.symm hID) (Ne.symm hIC) (fun _ q => absurd rfl q) keep2
      refine wpAny_bind (wpAny_of_eq rfl ?_)
      have hkv : (compEnvC scope cl C env).kindOf xv = some .local := lookup_relabel_local hxv
      have hks' : (compEnvC scope cl C env).kindOf xs = some .local := lookup_relabel_local hxs
      have hkk : ((compEnvC scope cl C env).scope.kind == .class || ((compEnvC scope cl C env).scope.kind == .module && (compEnvC scope cl C env).locals != (compEnvC scope cl C env).globals)) = false := by simp [compEnvC, relabel, hkind]
      refine wpAny_bind (wpAny_assign_Name (wpAny_storeName_local hkv x2.ns (fun h₃ hn₃ hs₃ => ?_) hkk))
      have keep3 : ∀ b o, b ≠ C → h₂.get? b = some o → h₃.get? b = some o := fun b o hb e => hs₃.extBut b o hb e
      have x3 : InP H I D C ys (fun z => if z = xv then some (Value.int (a + (i : Int)) ta) else mC z) h₃ := ⟨fun c o hc e => keep3 c o (fun q => by rw [q, hHC] at e; cases e) (x2.keep c o hc e), keep3 _ _ hDC x2.acc, hn₃⟩
      have hI3 : ∃ oI, h₃.get? I = some oI := ⟨_, keep3 _ _ hIC hst₂⟩
      obtain ⟨oI, hI3⟩ := hI3
      have st3 : IsRangeIter h₃ I (a + ((i + 1 : Nat) : Int) * 1) ((n : Int) - ((i + 1 : Nat) : Int)) 1 := keep3 _ _ hIC hst₂
      refine wpAny_bind (hT C _ _ _ fun h₄ tk₄ T vs2 hk₄ hTn hTt hi2 => ?_)
      refine wpAny_bind (wpAny_standAt (wpAny_bind (wpAny_of_eq (hs2 _ _) (wpAny_bind (wpAny_holding (wpAny_pyIter_tuple hTt ?_))))))
      have x4 := x3.grow hk₄
      have up : ∀ b o, h₄.get? b = some o → (h₄.push { cls := .type "tuple_iterator", data := .fields #[.ref T, .int 0 0] }).get? b = some o := fun b o e => Heap.get?_push_of_some _ e
      have ne4 : ∀ b o, h₄.get? b = some o → b ≠ h₄.objs.size := fun b o e => Nat.ne_of_lt (Heap.lt_size e)
      have ne3 : ∀ b o, h₃.get? b = some o → T ≠ b := fun b o e q => by rw [← q, hTn] at e; cases e
      obtain ⟨oT, heT, rT⟩ := id hTt
      obtain ⟨oC, heC, _⟩ := ns_obj x3.ns
      have hys_len : ys.length ≤ i * bs.length := by
        have hl := hys.length
        have : ∀ l : List Int, (l.flatMap fun a => bs.map fun b => b * a).length = l.length * bs.length := by
          intro l
          induction l with
          | nil => simp
          | cons c r ih => rw [List.flatMap_cons, List.length_append, List.length_map, ih, List.length_cons, Nat.succ_mul]; omega
        rw [this, List.length_take] at hl
        rw [hl]
        exact Nat.mul_le_mul_right _ (Nat.min_le_left _ _)
      have hkI : (rangeKs a n)[i]? = some (a + (i : Int)) := by simp [rangeKs, hlt]
      refine wpAny_bind (wpAny_runOwn ?_)
      have inner : ∀ R', (∀ h' tk ys' mC', InP H I D C ys' mC' h' → h'.get? I = some oI → IntsAre ys' ((((rangeKs a n).take i).flatMap fun a => bs.map fun b => b * a) ++ bs.map (fun b => b * (a + (i : Int)))) → R' (.ok .next) { s₁ with heap := h', toks := tk }) → ∀ tk',
          codeAny (model prog w) A (.compLoop (.ListComp elt [⟨.Name xv p1, itV, [], 0⟩, ⟨.Name xs p2, itS, [], 0⟩] scope pos) 1 (.ref h₄.objs.size) (.ref D) (compEnvC scope cl C env)) R' { s₁ with heap := h₄.push { cls := .type "tuple_iterator", data := .fields #[.ref T, .int 0 0] }, toks := tk' } := by
        intro R' fin' tk'
        refine innerP (a := a + (i : Int)) (ta := ta) (T := T) (I := I) (C := C) (H := H) (vs2 := vs2) (oI := oI) hh rfl hks' hkk hne hi2 (ne4 _ _ heT) (ne4 _ _ x4.acc) (ne4 _ _ (hk₄ _ _ heC)) hDC (ne3 _ _ x3.acc) (ne3 _ _ heC) (ne4 _ _ (hk₄ _ _ hI3)) hIC hID ?_ hHC hHD
          ⟨⟨_, Heap.get?_push_size _ rfl, rfl, rfl⟩, hTt.at fun o e => up _ o e⟩ (x4.grow up) (up _ _ (hk₄ _ _ hI3)) (by simp) hys ?_ ?_ fin'
        · exact hHn _ (Nat.le_of_lt (Heap.lt_size x4.acc))
        · rw [sizeLine_eq]
          have : i * bs.length ≤ 100 * 100 := Nat.mul_le_mul (by omega) hbs
          omega
        · intro s E' Q m' b tb hb hns hv1 hv2 hq
          exact hM C s E' Q m' _ b ta tb (List.mem_of_getElem? hkI) hb hns hv1 hv2 hq
      refine startB (inner _ (fun h5 tk5 ys5 mC5 x5 hI5 hy5 => ?_) _) fun E' => (Walks.tuple (prog := prog) (w := w) (A := A) hh h₄.objs.size T (ne4 _ _ heT) vs2.toArray).self 0 _ _ _ ⟨⟨_, Heap.get?_push_size _ rfl, rfl, rfl⟩, hTt.at fun o e => up _ o e⟩ (inner _ (fun h5 tk5 ys5 mC5 x5 hI5 hy5 => ?_) _)
      all_goals
        refine wpAny_pure ⟨rfl, n + 1 - (i + 1), by omega, h5, tk5, i + 1, ys5, mC5, rfl, hlt, rfl, x5, ?_, ?_⟩
        · have z : h₃.get? I = some _ := st3
          show h5.get? I = _
          rw [hI5, ← hI3]; exact z
        · have e1 : (rangeKs a n).take (i + 1) = (rangeKs a n).take i ++ [a + (i : Int)] := by simp [List.take_add_one, hkI]
          rw [e1, List.flatMap_append, List.flatMap_cons, List.flatMap_nil, List.append_nil]
          exact hy5
    · obtain rfl : i = n := Nat.le_antisymm hi (Nat.not_lt.mp hlt)
      refine W.done _ _ _ hst fun h₂ tk₂ hk₂ => ?_
      have keep2 : ∀ b o, b ≠ I → h'.get? b = some o → h₂.get? b = some o := fun b o hb e => hk₂ b o (by simpa using hb) e
      rw [show (rangeKs a i).take i = rangeKs a i from List.take_of_length_le (Nat.le_of_eq (rangeKs_length a i))] at hys
      exact wpAny_pure (back (x.but (Ne.symm hID) (Ne.symm hIC) (fun _ q => absurd rfl q) keep2) hys)
  exact codeAny_compStart_list (loop _ rfl) (W.self 0 _ _ _ st₁ (loop _ rfl))
end
end Mine
end
section
open PySem PySem.W PySem.Calls PyProof.Rows PyProof.V PyProof.Rows.LCg
set_option Elab.async false
set_option maxRecDepth 100000
set_option maxHeartbeats 8000000
namespace Mine
section
variable {prog : Program} {w : World} {A : Around} {cenv : Env}
theorem tupSrc {p1 p2 p3 p4 : Pos} {k n n' : Nat} : TupSrc prog w A (.Tuple [.UnaryOp .USub (.Constant (.int 1) n p1) p2, .Constant (.int 1) n' p3] k p4) cenv [-1, 1] := by
  intro s E' Q h
  refine Tuple_ ?_
  repeat walk1
  refine wpAny_newTuple (h _ _ _ [.int (-1) (s.toks + 1), .int 1 (s.toks + 1 + 1)] (fun b o e => Heap.get?_push_of_some _ e) (Heap.get?_none_of_le (Nat.le_refl _)) ?_ (.cons _ _ (.cons _ _ .nil))) (by show 2 ≤ sizeLine; rw [sizeLine_eq]; decide)
  first | exact ⟨_, Heap.get?_push_size _ rfl, rfl, _, rfl⟩ | exact ⟨_, Heap.get?_push_size _ rfl, rfl, rfl⟩
theorem mulSrc {xv xs : Str} {p1 p2 p3 : Pos} {C : Addr} {as bs : List Int} (hC : cenv.locals = C) (hk : cenv.scope.kind = .function) (hv : cenv.kindOf xv = some .local) (hs : cenv.kindOf xs = some .local) (d1 : (xv == ("__debug__" : Str)) = false) (d2 : (xs == ("__debug__" : Str)) = false)
    (ha : ∀ a ∈ as, a.natAbs < 100) (hb : ∀ b ∈ bs, b.natAbs < 100) : MulSrc prog w A (.BinOp (.Name xs p1) .Mult (.Name xv p2) p3) cenv C xv xs as bs := by
  intro s E' Q m' a b ta tb ma mb hn h1 h2 h
  subst hC
  rw [arm_eval_BinOp]
  refine wpAny_bind (wpAny_Name (wpAny_loadName_local hk hs hn h2 ?_) d2)
  refine wpAny_bind (wpAny_holding (wpAny_Name (wpAny_loadName_local hk hv hn h1 ?_) d1))
  refine wpAny_bind (wpAny_standAt (wpAny_operateT ?_))
  have hB := hb b mb
  exact PyProof.Rows.mul_int (h _ _) (IntMulOk.of_left (intBits_le_64 (by omega) (by omega)))
end
end Mine
end
section
open PySem PySem.W PySem.Calls PyProof.Rows PyProof.V
set_option Elab.async false
set_option maxRecDepth 100000
set_option maxHeartbeats 8000000
namespace Mine
theorem opaqueQE {α : Type} {M : Model} {A : Around} {env : Env} {x : Sem α} {Q : α → Shared → Prop} {E : Value → Shared → Prop} {s : Shared} (p : PassesOwn M A env E) (h : ∀ (Q' : α → Shared → Prop) (E' : Value → Shared → Prop), (∀ v s, Q v s → Q' v s) → PassesOwn M A env E' → wpAny M A x Q' E' s) : wpAny M A x Q E s := h Q E (fun _ _ h => h) p
theorem ite_no {c : Prop} [Decidable c] {P Q : Prop} (h : ¬c) (q : Q) : if c then P else Q := by rw [if_neg h]; exact q
theorem isTidyT {w : World} {p : Program} {loose : List Str} {mean : ExcName → Option Value} {mg mb : Str → Option Value} {c : Addr} {n : Nat} {vs : List Value} {ns : List Int} (hi : IntsAre vs ns) (h4 : ns.length ≤ 4)
    (hs : ns.Pairwise fun a b => a.natAbs < b.natAbs) (hz : ∀ x ∈ ns, x ≠ 0) :
    Ctr w (top0.heap_1 w.params) p loose mean mg mb 2 20 119 [(c, tupO vs n)] [.ref c]
      (fun v news' => v = .bool true ∧ (c, tupO vs n) ∈ news' ∧ PySem.Challenge.rw_rg0215_01.row.prog = PySem.Challenge.rw_rg0215_01.row.prog) := by
  k_fill
  intro dp un gd env outer A₀ base h₀ L m s Q E B F X N T hf hk hd hu hret
  rcases hi with _ | ⟨x1, t1, _ | ⟨x2, t2, _ | ⟨x3, t3, _ | ⟨x4, t4, _ | ⟨x5, t5, hi⟩⟩⟩⟩⟩
  case cons.cons.cons.cons.cons => exfalso; simp only [List.length_cons] at h4; omega
  all_goals
    k_with_none
    k_with "exec For Name Call cons nil" => (k_here; (rename Fr _ _ _ _ => lF'); (with_unfolding_all refine' For_invVF lF' ?k1 ?k2 ?_; (case k1 => exact rfl); (case k2 => exact rfl); k_whole))
    k_with "ite" => refine ite_no (c := (_ == _) = true) (by rw [beq_iff_eq]; omega) ?_
    (try simp only [List.forall_mem_cons, List.pairwise_cons] at hz hs)
    (refine wpAny_call ?_; k_dflt (refine' callOff ?k1 ?k2 ?k3 ?k4 ?k5 ?kA ?kF ?kK ?k6 ?k7 ?k8 ?k9 ?kB ?_ ?c2 ?c3 ?c4 ?c5; (case kA => exact rfl); (case kF => assumption); (case kK => assumption); (case k1 => k_asm); (case k2 => k_asm); (case k3 => k_asm); (case k4 => k_asm); (case k5 => k_asm); (case k6 => k_is); (case k7 => k_is); (case k8 => ((try dsimp only); omega)); (case k9 => exact BindsTo.of_eq rfl); (case c5 => decide); (case kB => exact locs rfl); (case c2 => exact rfl); (case c3 => exact rfl); (case c4 => exact rfl); k_whole; intro g' L' h' FG' F' N' B' X' T' G'; (try dsimp only); (try k_lift B'); (try k_fold)))
    refine opaqueQE (by passes_own) ?_
    intro Q1 E1 hQ1 pE1
    w_on
    k_steps
  all_goals
    refine hQ1 _ _ ?_
    k_steps
  all_goals
    refine hret _ _ _ _ (by k_asm) (by k_asm) ⟨rfl, by k_mem, rfl⟩ (by k_asm)
end Mine
end
section
open PySem PySem.W PySem.Calls PyProof.Rows PyProof.V PyProof.Rows.LCg
set_option Elab.async false
set_option maxRecDepth 100000
set_option maxHeartbeats 8000000
namespace Mine
theorem callOffC {prog : Program} {w : World} {A₀ A : Around} {base h₀ : Heap} {L : Addr} {m : Str → Option Value} {s : Shared} {news : List (Addr × Obj)} {env : Env} {outer : List Env}
    {K : Frag} {p : Program} {loose : List Str} {mean : ExcName → Option Value} {mg mb : Str → Option Value} {R : Result → Shared → Prop} {name qual : Str} {params : Arguments} {body : List Stmt} {scope : Scope} {dV kV doc pm cdv ct oc : Value} {an od : Option Addr} {osl : Array (Option Value)} {f : Addr} {args : Args} {binds : List (Str × Value)}
    (B : Below A₀ base outer h₀) (F : Fr h₀ L s.heap m) (X₀ : K.In h₀) (N : News h₀ L s.heap news) (T : Top p loose mean mg mb h₀) (hA : A.frames = some (env :: outer)) (hf : env.frame = some L) (hke : env.scope.kind = .function)
    (ho : K.lookup f = some ⟨oc, od, .func (fnOf name qual params body scope dV kV doc pm an cdv ct), osl⟩) (hcd : codeIn K cdv qual = true) (hroom : A.depth < recursionLimit)
    (hbind : BindsTo s (fnOf name qual params body scope dV kV doc pm an cdv ct) args binds) (hkind : (binds.all fun y => scope.names.lookup y.1 == some .local || scope.names.lookup y.1 == some .cell) = true)
    (hnd : ((cellsFrom 0 scope.names []).map (·.1)).Nodup)
    (h : ∀ g L' h₁ tk cells, Fr h₀ L g m → Fr g L' h₁ (bindL (envOfC qual scope L' f cdv).kindOf binds fun _ => none) → News g L' h₁ (cells ++ news) →
      CellsAre (bindC (envOfC qual scope L' f cdv).kindOf binds fun _ => none) (cellsFrom (L' + 1) scope.names []) cells → Below A base (env :: outer) g → K.In g → Top p loose mean mg mb g → (∀ p ∈ news, p.1 < L') → GSub s.heap g (news.map (·.1)) →
      wpAny (model prog w) (A.deeper (envOfC qual scope L' f cdv)) (execs body (envOfC qual scope L' f cdv))
        (fun fl s' => LeaveK h₀ L m g (fun r s'' => Off s.heap (news.map (·.1)) s''.heap → R r s'') (match fl with | .ret v => v | _ => .none) s')
        (fun e s' => wpAny (model prog w) (A.deeper (envOfC qual scope L' f cdv)) (leaving (envOfC qual scope L' f cdv) e) (fun _ s'' => R (.error e) s'') (fun e' s'' => R (.error e') s'') s')
        { s with heap := h₁, toks := tk })
    (hco : scope.isCoroutine = false) (hgen : scope.isGenerator = false) (hk : scope.kind = .function) : codeAny (model prog w) A (.call (.ref f) args) R s := by
  obtain ⟨FG, BG, st, lv⟩ := groundX (R := R) B F N hA hf hke
  have X := X₀.keeps F.keep
  refine codeAny_call_function hroom (X _ _ ho) rfl hco hgen rfl (codeRec_of X hcd) (hbind _ _ _ _ ?_)
  refine wpAny_newFunctionEnv_cells hk (kindsX hkind _) fun env' he s' x => ?_
  subst he
  refine ⟨(T.nolimit.keeps F.keep).keeps x.toInCall.keep, codeAny_func ?_⟩
  obtain ⟨h₁, tk, rfl, _⟩ := x.done
  have hk₁ := x.toInCall.keep
  obtain ⟨cells, NC, Y⟩ := Cl.news (h₀ := s.heap) (Nat.le_refl _) fun n c hm => ⟨x.cell n c (lookup_of_mem_nodup (cellsFrom_names scope.names 0 (s.heap.objs.size + 1) [] [] rfl ▸ hnd) hm), x.above n c hm⟩
  have gs : GSub s.heap (hideAll s.heap (news.map (·.1))) (news.map (·.1)) := fun b o e n => hideAll_get _ e n
  refine wpAny_mono (h _ s.heap.objs.size h₁ tk cells FG ⟨x.toInCall.ns, fun b o e => hk₁ b o (of_hideAll _ e), Nat.le_of_eq (hideAll_size _ _)⟩ (fun q hq => ?_) Y BG (X₀.keeps st) (T.keeps st) (fun q hq => Heap.lt_size (N q hq).1) gs) (fun fl s' hl => ?_) fun _ _ y => y
  · rcases List.mem_append.mp hq with hq | hq
    · refine ⟨(NC q hq).1, (NC q hq).2.1, ?_⟩
      cases z : (hideAll s.heap (news.map (·.1))).get? q.1 with
      | none => rfl
      | some o => have := of_hideAll _ z; rw [(NC q hq).2.2] at this; cases this
    · exact ⟨hk₁ _ _ (N q hq).1, Nat.ne_of_lt (Heap.lt_size (N q hq).1), hideAll_none _ (List.mem_map_of_mem hq)⟩
  · obtain ⟨L₂, m', news', F₂, N₂, k⟩ := hl
    exact lv _ _ ⟨L₂, m', news', F₂, N₂, fun a b => k a b (fun b o e n => F₂.keep b o (gs b o e n))⟩
end Mine
end
section
open PySem PySem.W PySem.Calls PyProof.Rows PyProof.V PyProof.Rows.LCg
set_option Elab.async false
set_option maxRecDepth 100000
set_option maxHeartbeats 8000000
namespace Mine
section
variable {prog : Program} {w : World} {A : Around} {E : Value → Shared → Prop} {s : Shared} {h₀ : Heap} {L : Addr} {m : Str → Option Value} {env : Env}
noncomputable def TupAt (h₀ : Heap) (ax : Addr) (its : Array Value) (news : List (Addr × Obj)) : Prop := h₀.IsTuple ax its ∨ ∃ o, (ax, o) ∈ news ∧ o.cls = .type "tuple" ∧ ∃ n, o.data = .seq its n
theorem TupAt.tup {h₀ h : Heap} {L ax : Addr} {its : Array Value} {news : List (Addr × Obj)} (x : TupAt h₀ ax its news) (k : ∀ b o, h₀.get? b = some o → h.get? b = some o) (N : News h₀ L h news) : h.IsTuple ax its := by
  rcases x with x | ⟨o, hm, r⟩
  · exact x.at fun o e => k _ o e
  · exact ⟨o, (N _ hm).1, r⟩
theorem tup_st {ax I : Addr} {its : Array Value} : ∀ i (h h' : Heap) (o : Obj) (nw : List (Addr × Obj)), (h.IsTupleIter I ax i ∧ h.IsTuple ax its) → h.get? I = some o → h'.get? I = some o → (∀ b o, h₀.get? b = some o → h'.get? b = some o) → News h₀ L h' nw → TupAt h₀ ax its nw → (h'.IsTupleIter I ax i ∧ h'.IsTuple ax its) :=
  fun i h h' o nw st e e' k N S => ⟨by obtain ⟨o', q, r⟩ := st.1; rw [e] at q; cases q; exact ⟨o, e', r⟩, S.tup k N⟩
/-- a comprehension over a tuple, turn by turn -/
noncomputable def SrcTup (prog : Program) (w : World) (A : Around) (h₀ : Heap) (L : Addr) (m : Str → Option Value) (env : Env) (elt : Expr) (x : Str) (scope : Scope) (cl : List (Str × Addr)) (Fin : Shared → List Value → List (Addr × Obj) → Prop) (xv : Value) (s₁ : Shared) : Prop :=
  ∃ ax its news n, xv = .ref ax ∧ A.handled = none ∧ Fr h₀ L s₁.heap m ∧ News h₀ L s₁.heap news ∧ (ax, ({ cls := .type "tuple", data := .seq its n } : Obj)) ∈ news ∧ its.size ≤ sizeLine ∧
    ∀ g, CompRest prog w A h₀ L m env elt x scope cl { s₁ with heap := g } (TupAt h₀ ax its) (fun i v => its[i]? = some v) (Fin { s₁ with heap := g }) its.size 0 [] news
theorem ListComp_UT {elt iter : Expr} {x : Str} {px : Pos} {scope : Scope} {cl : List (Str × Addr)} {pos : Pos} {Q : Value → Shared → Prop} (_F₀ : Fr h₀ L s.heap m)
    (hclos : closureFor scope env = pure cl) (hcell : ∀ y ∈ scope.names, y.2 ≠ .cell) (hkind : scope.kind = .function)
    (hnames : ∀ y ∈ scope.names, y.2 = .local → scope.names.lookup y.1 = some .local) (hx : scope.names.lookup x = some .local)
    (h : wpAny (model prog w) A (eval iter env) (SrcTup prog w A h₀ L m env elt x scope cl (fun s₂ => FinE h₀ L m s₂ Q)) E s)
    (hs : ∀ x, foldedSetIterable iter env x = pure x := by intro _; rfl) :
    wpAny (model prog w) A (eval (.ListComp elt [⟨.Name x px, iter, [], 0⟩] scope pos) env) Q E s := by
  rw [eval_ListComp]
  refine wpAny_comprehension_free (use := none) rfl hs hclos hkind hnames (wpAny_mono h (fun xv s₁ h₁ => ?_) fun _ _ e => e)
  obtain ⟨ax, its, news, nn, rfl, hh, F, N, hm, hsz, R⟩ := h₁
  have S : TupAt h₀ ax its news := .inr ⟨_, hm, rfl, _, rfl⟩
  have hl := S.tup F.keep N
  have hlt : ax < s₁.heap.objs.size := by obtain ⟨_, e, _⟩ := hl; exact Heap.lt_size e
  refine wpAny_pyIter_tuple hl ?_
  have up : ∀ (o' : Obj) b o, s₁.heap.get? b = some o → (s₁.heap.push o').get? b = some o := fun _ b o e => Heap.get?_push_of_some _ e
  refine block_U (Walks.tuple hh s₁.heap.objs.size ax (Nat.ne_of_lt hlt) its) hsz (fun i h st => by obtain ⟨o, e, _⟩ := st.1; exact ⟨o, e⟩) tup_st hcell hkind hx ⟨⟨_, Heap.get?_push_size _ rfl, rfl, rfl⟩, hl.at fun o e => up _ _ o e⟩ (fun b hb => ?_)
    (F.keeps (up _)) (N.grown (up _)) (Nat.ne_of_lt F.ns.lt) (next_is_new F) (fun p hp => Nat.ne_of_lt (Heap.lt_size (N p hp).1)) S (R _) ?_
  · show b < (s₁.heap.push _).objs.size
    rw [Heap.size_push]
    rcases List.mem_cons.mp hb with rfl | hb
    · exact Nat.lt_succ_self _
    · rw [List.mem_singleton.mp hb]; exact Nat.lt_succ_of_lt hlt
  · intro D C h tk m' ys news' F' N' o1 hn hC₀ hD₀ hCL hDL hCD offC fin
    refine ⟨m', hn, fun h'' hs'' => fin D h'' tk (F'.change hs'' hCL hC₀) (fun p hp => ?_) o1⟩
    refine ⟨hs''.extBut _ _ ?_ (N' p hp).1, (N' p hp).2⟩
    rcases List.mem_cons.mp hp with rfl | hp
    · exact Ne.symm hCD
    · exact offC p hp
/-- a ledger less one entry -/
inductive Del (q : Addr × Obj) : List (Addr × Obj) → List (Addr × Obj) → Prop
  | head {r} : Del q (q :: r) r
  | tail {p r r'} : Del q r r' → Del q (p :: r) (p :: r')
theorem Del.mem {q : Addr × Obj} : ∀ {l l' : List (Addr × Obj)}, Del q l l' → q ∈ l ∧ ∀ p ∈ l', p ∈ l
  | _, _, .head => ⟨.head _, fun _ h => .tail _ h⟩
  | _, _, .tail d => ⟨.tail _ d.mem.1, fun p h => by
      rcases List.mem_cons.mp h with rfl | h
      · exact .head _
      · exact .tail _ (d.mem.2 p h)⟩
noncomputable def Off4 (I C D c : Addr) (l : List (Addr × Obj)) : Prop := Off3 I C D l ∧ Off1 c l
theorem Off1.mem {D : Addr} : ∀ {l : List (Addr × Obj)}, Off1 D l → ∀ p ∈ l, p.1 ≠ D
  | [], _, _, h => nomatch h
  | _ :: _, x, p, h => by
    rcases List.mem_cons.mp h with rfl | h
    · exact x.1
    · exact Off1.mem x.2 p h
theorem Off1.of {D : Addr} : ∀ {l : List (Addr × Obj)}, (∀ p ∈ l, p.1 ≠ D) → Off1 D l
  | [], _ => trivial
  | _ :: _, h => ⟨h _ List.mem_cons_self, Off1.of fun p hp => h p (List.mem_cons_of_mem _ hp)⟩
noncomputable def CompEndX (h₀ : Heap) (L : Addr) (m : Str → Option Value) (s₁ : Shared) (I : Addr) (oI : Obj) (C : Addr) (oC : Obj) (D : Addr) (oD : Obj) (c : Addr) (oc : Obj) (S : List (Addr × Obj) → Prop) (rest : Value → List (Addr × Obj) → Prop) (y : Value) (s₂ : Shared) : Prop :=
  ∃ h' tk news', s₂ = { s₁ with heap := h', toks := tk } ∧ Fr h₀ L h' m ∧ News h₀ L h' ((I, oI) :: (C, oC) :: (D, oD) :: (c, oc) :: news') ∧ Off4 I C D c news' ∧ S news' ∧ rest y news'
theorem CompEndX.intro {h₀ : Heap} {L I C D c : Addr} {m : Str → Option Value} {s₁ : Shared} {oI oC oD oc : Obj} {S : List (Addr × Obj) → Prop} {rest : Value → List (Addr × Obj) → Prop} {y : Value} {h' : Heap} {tk : Nat} {a0 a1 a2 a3 news' : List (Addr × Obj)}
    (F : Fr h₀ L h' m) (N : News h₀ L h' a0) (d1 : Del (I, oI) a0 a1) (d2 : Del (C, oC) a1 a2) (d3 : Del (D, oD) a2 a3) (d4 : Del (c, oc) a3 news') (off : Off3 I C D news') (off' : Off1 c news') (hS : S news') (r : rest y news') :
    CompEndX h₀ L m s₁ I oI C oC D oD c oc S rest y { s₁ with heap := h', toks := tk } := by
  have m2 := fun p h => d1.mem.2 p (d2.mem.2 p h)
  have m3 := fun p h => m2 p (d3.mem.2 p h)
  refine ⟨h', tk, news', rfl, F, fun p hp => N p ?_, ⟨off, off'⟩, hS, r⟩
  rcases List.mem_cons.mp hp with rfl | hp
  · exact d1.mem.1
  rcases List.mem_cons.mp hp with rfl | hp
  · exact d1.mem.2 _ d2.mem.1
  rcases List.mem_cons.mp hp with rfl | hp
  · exact m2 _ d3.mem.1
  rcases List.mem_cons.mp hp with rfl | hp
  · exact m3 _ d4.mem.1
  · exact m3 _ (d4.mem.2 p hp)
noncomputable def CompRestX (prog : Program) (w : World) (A : Around) (h₀ : Heap) (L : Addr) (m : Str → Option Value) (env : Env) (elt : Expr) (x : Str) (scope : Scope) (cl : List (Str × Addr)) (s : Shared) (S : List (Addr × Obj) → Prop) (P : Nat → Value → Prop)
    (Fin : List Value → List (Addr × Obj) → Prop) : Nat → Nat → List Value → List (Addr × Obj) → Prop
  | 0, _, ys, news => Fin ys news
  | k + 1, i, ys, news => ∀ v I oI C oC D c oc h tk (E' : Value → Shared → Prop), P i v → oc.data = .cell (some v) → Fr h₀ L h m → News h₀ L h ((I, oI) :: (C, oC) :: (D, lst ys) :: (c, oc) :: news) → Off3 I C D news → Off1 c news → ((@Ne Nat I C) ∧ (@Ne Nat I D) ∧ (@Ne Nat C D) ∧ (@Ne Nat I c) ∧ (@Ne Nat C c) ∧ (@Ne Nat D c)) →
      wpAny (model prog w) A (eval elt (compEnvC scope ((x, c) :: cl) C env)) (CompEndX h₀ L m { s with heap := h, toks := tk } I oI C oC D (lst ys) c oc S (fun y news' => CompRestX prog w A h₀ L m env elt x scope cl s S P Fin k (i + 1) (ys ++ [y]) news')) E' { s with heap := h, toks := tk }
theorem CompRestX.succ {prog : Program} {w : World} {A : Around} {h₀ : Heap} {L : Addr} {m : Str → Option Value} {env : Env} {elt : Expr} {x : Str} {scope : Scope} {cl : List (Str × Addr)} {s : Shared} {S : List (Addr × Obj) → Prop} {P : Nat → Value → Prop}
    {Fin : List Value → List (Addr × Obj) → Prop} {k i : Nat} {ys : List Value} {news : List (Addr × Obj)} (h : ∀ v I oI C oC D c oc h tk (E' : Value → Shared → Prop), P i v → oc.data = .cell (some v) → Fr h₀ L h m → News h₀ L h ((I, oI) :: (C, oC) :: (D, lst ys) :: (c, oc) :: news) → Off3 I C D news → Off1 c news → ((@Ne Nat I C) ∧ (@Ne Nat I D) ∧ (@Ne Nat C D) ∧ (@Ne Nat I c) ∧ (@Ne Nat C c) ∧ (@Ne Nat D c)) →
      wpAny (model prog w) A (eval elt (compEnvC scope ((x, c) :: cl) C env)) (CompEndX h₀ L m { s with heap := h, toks := tk } I oI C oC D (lst ys) c oc S (fun y news' => CompRestX prog w A h₀ L m env elt x scope cl s S P Fin k (i + 1) (ys ++ [y]) news')) E' { s with heap := h, toks := tk }) :
    CompRestX prog w A h₀ L m env elt x scope cl s S P Fin (k + 1) i ys news := h
theorem CompRestX.zero {prog : Program} {w : World} {A : Around} {h₀ : Heap} {L : Addr} {m : Str → Option Value} {env : Env} {elt : Expr} {x : Str} {scope : Scope} {cl : List (Str × Addr)} {s : Shared} {S : List (Addr × Obj) → Prop} {P : Nat → Value → Prop}
    {Fin : List Value → List (Addr × Obj) → Prop} {i : Nat} {ys : List Value} {news : List (Addr × Obj)} (h : Fin ys news) : CompRestX prog w A h₀ L m env elt x scope cl s S P Fin 0 i ys news := h
theorem blockUX {elt iter : Expr} {x y : Str} {px : Pos} {scope : Scope} {cl : List (Str × Addr)} {pos : Pos} {s₂ : Shared} {I : Addr} {fp : List Addr} {n : Nat} {P : Nat → Value → Prop} {St : Nat → Heap → Prop} {S : List (Addr × Obj) → Prop} {news : List (Addr × Obj)}
    {Fin : List Value → List (Addr × Obj) → Prop} {RR : Value → Addr → Result → Shared → Prop}
    (W : Walks prog w A I fp [I] n P St) (hsz : n ≤ sizeLine) (hIo : ∀ i h, St i h → ∃ o, h.get? I = some o)
    (hSt : ∀ i h h' o nw, St i h → h.get? I = some o → h'.get? I = some o → (∀ b o, h₀.get? b = some o → h'.get? b = some o) → News h₀ L h' nw → S nw → St i h')
    (hsn : scope.names = [(Str.ofString ".0", .local), (x, .cell), (y, .free)]) (hx0 : (x == (Str.ofString ".0")) = false) (hkind : scope.kind = .function) (hst : St 0 s₂.heap) (hfp : ∀ b ∈ fp, b < s₂.heap.objs.size)
    (F : Fr h₀ L s₂.heap m) (N : News h₀ L s₂.heap news) (hIL : L ≠ I) (hI₀ : h₀.get? I = none) (off : ∀ q ∈ news, q.1 ≠ I) (hS : S news)
    (R : CompRestX prog w A h₀ L m env elt x scope cl s₂ S P Fin n 0 [] news)
    (hRR : ∀ D C h tk m' ys news', Fr h₀ L h m → News h₀ L h ((D, lst ys) :: news') → Off1 D news' → h.Ns C m' → h₀.get? C = none → h₀.get? D = none → C ≠ L → D ≠ L → C ≠ D → (∀ q ∈ news', q.1 ≠ C) → Fin ys news' → RR (.ref D) C (.ok .next) { s₂ with heap := h, toks := tk }) :
    wpAny (model prog w) A (newList []) (fun acc s₃ => wpAny (model prog w) A (newFunctionEnv scope env.globals cl [] env.qual none .none (some env)) (fun cenv s₄ =>
      codeAny (model prog w) A (.compStart (.ListComp elt [⟨.Name x px, iter, [], 0⟩] scope pos) 0 (.ref I) acc { cenv with scope := relabel scope env }) (RR acc cenv.locals) s₄) E s₃) E s₂ := by
  refine wpAny_newObj_type (laidX (y := y) hsn ?_)
  dsimp only
  generalize hH2 : s₂.heap.push { cls := .type "list", dict := none, data := .seq ([] : List Value).toArray } = H2
  have hC : H2.objs.size = s₂.heap.objs.size + 1 := by rw [← hH2, Heap.size_push]
  generalize hH3 : H2.push { cls := .type "dict", data := .dict #[] } = H3
  have hc : H3.objs.size = s₂.heap.objs.size + 2 := by rw [← hH3, Heap.size_push, hC]
  generalize hh1 : H3.push (cellO none) = h₁
  generalize hDe : s₂.heap.objs.size = D at hC hc
  generalize hCe : H2.objs.size = C at hC
  generalize hce : H3.objs.size = c at hc
  have low : ∀ b o, s₂.heap.get? b = some o → b < D := fun b o e => hDe ▸ Heap.lt_size e
  have old : ∀ b o, s₂.heap.get? b = some o → h₁.get? b = some o := fun b o e => hh1 ▸ Heap.get?_push_of_some _ (hH3 ▸ Heap.get?_push_of_some _ (hH2 ▸ Heap.get?_push_of_some _ e))
  have hacc : h₁.get? D = some (lst []) := hh1 ▸ Heap.get?_push_of_some _ (hH3 ▸ Heap.get?_push_of_some _ (by rw [← hH2, ← hDe]; exact Heap.get?_push_size _ rfl))
  have hcell : h₁.get? c = some (cellO none) := by rw [← hh1, ← hce]; exact Heap.get?_push_size _ rfl
  have hns : h₁.Ns C (fun _ => none) := by
    have z := Heap.Ns.new H2 (.type "dict")
    rw [hH3, hCe] at z
    exact z.keeps fun b o e => hh1 ▸ Heap.get?_push_of_some _ e
  have hDC : @Ne Nat D C := by omega
  have hDc : @Ne Nat D c := by omega
  have hCc : @Ne Nat C c := by omega
  have hIlt : @LT.lt Nat instLTNat I D := hDe ▸ hfp I (W.sub I (List.mem_singleton.mpr rfl))
  have hLlt : @LT.lt Nat instLTNat L D := hDe ▸ F.ns.lt
  have hDL : @Ne Nat D L := by omega
  have hCL : @Ne Nat C L := by omega
  have hcL : @Ne Nat c L := by omega
  have hIC : @Ne Nat I C := by omega
  have hID : @Ne Nat I D := by omega
  have hIc : @Ne Nat I c := by omega
  have fpD : ∀ b ∈ fp, @LT.lt Nat instLTNat b D := fun b hb => hDe ▸ hfp b hb
  have nlt : ∀ q ∈ news, @LT.lt Nat instLTNat q.1 D := fun q hq => low _ _ (N q hq).1
  have fresh₀ : ∀ a, D ≤ a → h₀.get? a = none := fun a ha => Heap.get?_none_of_le (Nat.le_trans F.above (Nat.le_trans (Nat.le_of_lt hLlt) ha))
  have hD₀ := fresh₀ D (Nat.le_refl _)
  have hC₀ := fresh₀ C (by omega)
  have hc₀ := fresh₀ c (by omega)
  have hst₁ : St 0 h₁ := W.frame _ _ _ hst fun b _ o e => old b o e
  have hkx : (compEnvC scope ((x, c) :: cl) C env).kindOf x = some .cell := kindX hsn hx0
  have hkf : (compEnvC scope ((x, c) :: cl) C env).scope.kind = .function := hkind
  have hlk : (compEnvC scope ((x, c) :: cl) C env).cells.lookup x = some c := by
    show List.lookup x ((x, c) :: cl) = some c
    rw [List.lookup_cons]; simp
  have off₀ : Off3 I C D news := Off3.of fun q hq => ⟨off q hq, by have := nlt q hq; show @Ne Nat q.1 _; omega, by have := nlt q hq; show @Ne Nat q.1 _; omega⟩
  have off₁ : Off1 c news := Off1.of fun q hq => by have := nlt q hq; show @Ne Nat q.1 _; omega
  have loop : ∀ s₃ : Shared, s₃ = { s₂ with heap := h₁ } →
      codeAny (model prog w) A (.compLoop (.ListComp elt [⟨.Name x px, iter, [], 0⟩] scope pos) 0 (.ref I) (.ref D) (compEnvC scope ((x, c) :: cl) C env)) (RR (.ref D) C) s₃ := by
    rintro s₃ rfl
    refine codeAny_compLoop_tests
      (fun k s' => ∃ h' tk i ys oc news', s' = { s₂ with heap := h', toks := tk } ∧ i ≤ n ∧ k = n + 1 - i ∧ ys.length = i ∧ St i h' ∧ Fr h₀ L h' m ∧ h'.Ns C (fun _ => none) ∧ News h₀ L h' ((D, lst ys) :: (c, oc) :: news') ∧ Off3 I C D news' ∧ Off1 c news' ∧ S news' ∧ (∃ v, oc.data = .cell v) ∧
        CompRestX prog w A h₀ L m env elt x scope cl s₂ S P Fin (n - i) i ys news') ?_ (n + 1)
      ⟨h₁, _, 0, [], cellO none, news, rfl, Nat.zero_le _, rfl, rfl, hst₁, F.keeps old, hns, fun q hq => ?_, off₀, off₁, hS, ⟨_, rfl⟩, R⟩
    · rintro k s' ⟨h', tk, i, ys, oc, news', rfl, hi, rfl, hyl, hst', F', hn', N', o3, o1, hS', ⟨vc, hvc⟩, R'⟩
      have o3m := o3.mem
      have o1m := Off1.mem o1
      by_cases hlt : i < n
      · obtain ⟨j, hj⟩ : ∃ j, n - i = j + 1 := ⟨n - i - 1, by omega⟩
        rw [hj] at R'
        refine W.item i _ _ _ hlt hst' fun v h₂ tk₂ hPv hst₂ hk₂ => ?_
        have keep2 : ∀ b o, b ≠ I → h'.get? b = some o → h₂.get? b = some o := fun b o hb e => hk₂ b o (by simpa using hb) e
        have Nc := N' (c, oc) (.tail _ (.head _))
        have hc2 : h₂.get? c = some oc := keep2 _ _ (Ne.symm hIc) Nc.1
        refine wpAny_assign_Name (wpAny_storeName_cell hkf hkx hlk ⟨oc, hc2, hvc⟩ fun h₃ hv₃ hs₃ => ?_)
        refine wpAny_tests_nil ?_
        simp only [if_true]
        obtain ⟨oc₃, hoc₃, hdc₃⟩ := hv₃
        have keep3 : ∀ b o, b ≠ I → b ≠ c → h'.get? b = some o → h₃.get? b = some o := fun b o hb hbc e => hs₃.extBut b o hbc (keep2 b o hb e)
        have hst₃ : St (i + 1) h₃ := W.frame _ _ _ hst₂ fun b hb o e => hs₃.extBut b o (by have := fpD b hb; show @Ne Nat b _; omega) e
        obtain ⟨oI, heI⟩ := hIo _ _ hst₃
        have hn₃ : h₃.Ns C (fun _ => none) := hn'.at' fun o e => keep3 _ o (Ne.symm hIC) hCc e
        obtain ⟨oC, heC, hoC⟩ := ns_obj hn₃
        have F₃ : Fr h₀ L h₃ m := ⟨F'.ns.at' fun o e => keep3 L o (by show @Ne Nat L I; exact hIL) (Ne.symm hcL) e, fun b o e => keep3 b o (fun q => by rw [q, hI₀] at e; cases e) (fun q => by rw [q, hc₀] at e; cases e) (F'.keep b o e), F'.above⟩
        have N₃ : News h₀ L h₃ ((I, oI) :: (C, oC) :: (D, lst ys) :: (c, oc₃) :: news') := fun q hq => by
          rcases List.mem_cons.mp hq with rfl | hq
          · exact ⟨heI, Ne.symm hIL, hI₀⟩
          · rcases List.mem_cons.mp hq with rfl | hq
            · exact ⟨heC, hCL, hC₀⟩
            · rcases List.mem_cons.mp hq with rfl | hq
              · exact ⟨keep3 _ _ (Ne.symm hID) hDc (N' _ (.head _)).1, hDL, hD₀⟩
              · rcases List.mem_cons.mp hq with rfl | hq
                · exact ⟨hoc₃, hcL, hc₀⟩
                · have z := N' q (.tail _ (.tail _ hq))
                  exact ⟨keep3 _ _ (o3m q hq).1 (o1m q hq) z.1, z.2⟩
        refine wpAny_mono (R' v I oI C oC D c oc₃ h₃ _ _ hPv hdc₃ F₃ N₃ o3 o1 ⟨hIC, hID, Ne.symm hDC, hIc, hCc, hDc⟩) (fun y s₄ h₄ => ?_) fun _ _ e => e
        obtain ⟨h₄, tk₄, news₄, rfl, F₄, N₄, ⟨o34, o14⟩, hS₄, R₄⟩ := h₄
        have o3m := o34.mem
        have o1m := Off1.mem o14
        have zI := (N₄ _ (.head _)).1
        have zC := (N₄ (C, oC) (.tail _ (.head _))).1
        have zD := (N₄ (D, lst ys) (.tail _ (.tail _ (.head _)))).1
        have zc := (N₄ (c, oc₃) (.tail _ (.tail _ (.tail _ (.head _))))).1
        have N₄' : News h₀ L h₄ news₄ := fun q hq => N₄ q (.tail _ (.tail _ (.tail _ (.tail _ hq))))
        have hst₄ : St (i + 1) h₄ := hSt _ _ _ _ _ hst₃ heI zI F₄.keep N₄' hS₄
        refine append_at (hsz := by show ys.toArray.size ≤ sizeLine; rw [List.size_toArray, hyl]; exact Nat.le_trans hi hsz) zD fun h₅ hs₅ hD₅ => ?_
        refine ⟨n + 1 - (i + 1), by omega, h₅, tk₄, i + 1, ys ++ [y], oc₃, news₄, rfl, hlt, rfl, by rw [List.length_append, List.length_singleton, hyl],
          W.frame _ _ _ hst₄ fun b hb o e => hs₅.extBut b o (by have := fpD b hb; show @Ne Nat b _; omega) e, F₄.change hs₅ hDL hD₀, (hoC.ns zC).sameBut hs₅ (Ne.symm hDC), fun q hq => ?_, o34, o14, hS₄, ⟨_, hdc₃⟩, ?_⟩
        · rcases List.mem_cons.mp hq with rfl | hq
          · exact ⟨hD₅.trans (congrArg some (lst_snoc ys _)), hDL, hD₀⟩
          · rcases List.mem_cons.mp hq with rfl | hq
            · exact ⟨hs₅.extBut _ _ (Ne.symm hDc) zc, hcL, hc₀⟩
            · exact ⟨hs₅.extBut _ _ (o3m q hq).2.2 (N₄' q hq).1, (N₄' q hq).2⟩
        · rw [show n - (i + 1) = j by omega]
          exact R₄
      · obtain rfl : i = n := Nat.le_antisymm hi (Nat.not_lt.mp hlt)
        rw [Nat.sub_self] at R'
        refine W.done _ _ _ hst' fun h₂ tk₂ hk₂ => ?_
        have keep2 : ∀ b o, b ≠ I → h'.get? b = some o → h₂.get? b = some o := fun b o hb e => hk₂ b o (by simpa using hb) e
        refine hRR D C h₂ tk₂ _ ys news' ⟨F'.ns.at' fun o e => keep2 L o hIL e, fun b o e => keep2 b o (fun q => by rw [q, hI₀] at e; cases e) (F'.keep b o e), F'.above⟩ (fun q hq => ?_) o3.one (hn'.at' fun o e => keep2 _ o (Ne.symm hIC) e) hC₀ hD₀ hCL hDL (Ne.symm hDC)
          (fun q hq => (o3m q hq).2.1) R'
        rcases List.mem_cons.mp hq with rfl | hq
        · have z := N' _ (.head _)
          exact ⟨keep2 _ _ (Ne.symm hID) z.1, z.2⟩
        · have z := N' q (.tail _ (.tail _ hq))
          exact ⟨keep2 _ _ (o3m q hq).1 z.1, z.2⟩
    · rcases List.mem_cons.mp hq with rfl | hq
      · exact ⟨hacc, hDL, hD₀⟩
      · rcases List.mem_cons.mp hq with rfl | hq
        · exact ⟨hcell, hcL, hc₀⟩
        · exact ⟨old _ _ (N q hq).1, (N q hq).2⟩
  exact codeAny_compStart_list (loop _ rfl) (W.self 0 _ _ _ hst₁ (loop _ rfl))
noncomputable def SrcUX (prog : Program) (w : World) (A : Around) (h₀ : Heap) (L : Addr) (m : Str → Option Value) (env : Env) (elt : Expr) (x : Str) (scope : Scope) (cl : List (Str × Addr)) (Fin : Shared → List Value → List (Addr × Obj) → Prop) (xv : Value) (s₁ : Shared) : Prop :=
  ∃ ax its news n, xv = .ref ax ∧ A.handled = none ∧ Fr h₀ L s₁.heap m ∧ News h₀ L s₁.heap news ∧ (ax, ({ cls := .type "list", data := .seq its n } : Obj)) ∈ news ∧ its.size ≤ sizeLine ∧
    ∀ g, CompRestX prog w A h₀ L m env elt x scope cl { s₁ with heap := g } (SrcAt h₀ ax its) (fun i v => its[i]? = some v) (Fin { s₁ with heap := g }) its.size 0 [] news
theorem ListComp_UX {elt iter : Expr} {x y : Str} {px : Pos} {scope : Scope} {cl : List (Str × Addr)} {pos : Pos} {Q : Value → Shared → Prop} (_F₀ : Fr h₀ L s.heap m)
    (hclos : closureFor scope env = pure cl) (hsn : scope.names = [(Str.ofString ".0", .local), (x, .cell), (y, .free)]) (hx0 : (x == (Str.ofString ".0")) = false) (hkind : scope.kind = .function)
    (h : wpAny (model prog w) A (eval iter env) (SrcUX prog w A h₀ L m env elt x scope cl (fun s₂ => FinE h₀ L m s₂ Q)) E s)
    (hs : ∀ x, foldedSetIterable iter env x = pure x := by intro _; rfl) :
    wpAny (model prog w) A (eval (.ListComp elt [⟨.Name x px, iter, [], 0⟩] scope pos) env) Q E s := by
  have hnames : ∀ y ∈ scope.names, y.2 = .local → scope.names.lookup y.1 = some .local := by
    rw [hsn]
    intro z hz e
    rcases List.mem_cons.mp hz with rfl | hz
    · rfl
    · rcases List.mem_cons.mp hz with rfl | hz
      · cases e
      · rw [List.mem_singleton.mp hz] at e; cases e
  rw [eval_ListComp]
  refine wpAny_comprehension_free (use := none) rfl hs hclos hkind hnames (wpAny_mono h (fun xv s₁ h₁ => ?_) fun _ _ e => e)
  obtain ⟨ax, its, news, nn, rfl, hh, F, N, hm, hsz, R⟩ := h₁
  have S : SrcAt h₀ ax its news := .inr ⟨_, hm, rfl, _, rfl⟩
  have hl := S.list F.keep N
  have hlt : ax < s₁.heap.objs.size := by obtain ⟨_, e, _⟩ := hl; exact Heap.lt_size e
  refine wpAny_pyIter_list hl ?_
  have up : ∀ (o' : Obj) b o, s₁.heap.get? b = some o → (s₁.heap.push o').get? b = some o := fun _ b o e => Heap.get?_push_of_some _ e
  refine blockUX (y := y) (Walks.list hh s₁.heap.objs.size ax (Nat.ne_of_lt hlt) its) hsz (fun i h st => by obtain ⟨o, e, _⟩ := st.1; exact ⟨o, e⟩) list_st hsn hx0 hkind ⟨⟨_, Heap.get?_push_size _ rfl, rfl, rfl⟩, hl.at fun o e => up _ _ o e⟩ (fun b hb => ?_)
    (F.keeps (up _)) (N.grown (up _)) (Nat.ne_of_lt F.ns.lt) (next_is_new F) (fun p hp => Nat.ne_of_lt (Heap.lt_size (N p hp).1)) S (R _) ?_
  · show b < (s₁.heap.push _).objs.size
    rw [Heap.size_push]
    rcases List.mem_cons.mp hb with rfl | hb
    · exact Nat.lt_succ_self _
    · rw [List.mem_singleton.mp hb]; exact Nat.lt_succ_of_lt hlt
  · intro D C h tk m' ys news' F' N' o1 hn hC₀ hD₀ hCL hDL hCD offC fin
    refine ⟨m', hn, fun h'' hs'' => fin D h'' tk (F'.change hs'' hCL hC₀) (fun p hp => ?_) o1⟩
    refine ⟨hs''.extBut _ _ ?_ (N' p hp).1, (N' p hp).2⟩
    rcases List.mem_cons.mp hp with rfl | hp
    · exact Ne.symm hCD
    · exact offC p hp
end
end Mine
end
section
open PySem PySem.W PySem.Calls PyProof.Rows PyProof.V PyProof.Rows.LCg
set_option Elab.async false
set_option maxRecDepth 100000
set_option maxHeartbeats 8000000
namespace Mine
/-- the addresses of a ledger differ -/
noncomputable def NDA : List (Addr × Obj) → Prop
  | [] => True
  | q :: r => (∀ p ∈ r, p.1 ≠ q.1) ∧ NDA r
theorem NDA.sub_off {q : Addr × Obj} : ∀ {l l' : List (Addr × Obj)}, NDA l → Del q l l' → NDA l' ∧ ∀ p ∈ l', p.1 ≠ q.1
  | _, _, h, .head => ⟨h.2, h.1⟩
  | _, _, h, .tail d => by
    obtain ⟨a, b⟩ := NDA.sub_off h.2 d
    refine ⟨⟨fun p hp => h.1 p (d.mem.2 p hp), a⟩, fun p hp => ?_⟩
    rcases List.mem_cons.mp hp with rfl | hp
    · exact Ne.symm (h.1 q d.mem.1)
    · exact b p hp
theorem NDA.append {a b : List (Addr × Obj)} (ha : NDA a) (hb : NDA b) (h : ∀ q ∈ a, ∀ p ∈ b, p.1 ≠ q.1) : NDA (a ++ b) := by
  induction a with
  | nil => exact hb
  | cons q r ih =>
    refine ⟨fun p hp => ?_, ih ha.2 fun x hx => h x (.tail _ hx)⟩
    rcases List.mem_append.mp hp with hp | hp
    · exact ha.1 p hp
    · exact h q (.head _) p hp
theorem NDA.left {a b : List (Addr × Obj)} (h : NDA (a ++ b)) : NDA a := by
  induction a with
  | nil => trivial
  | cons q r ih => exact ⟨fun p hp => h.1 p (List.mem_append_left _ hp), ih h.2⟩
theorem NDA.right {a b : List (Addr × Obj)} (h : NDA (a ++ b)) : NDA b := by
  induction a with
  | nil => exact h
  | cons q r ih => exact ih h.2
theorem NDA.cross {a b : List (Addr × Obj)} (h : NDA (a ++ b)) : ∀ q ∈ a, ∀ p ∈ b, p.1 ≠ q.1 := by
  induction a with
  | nil => exact fun _ h => nomatch h
  | cons x r ih =>
    intro q hq p hp
    rcases List.mem_cons.mp hq with rfl | hq
    · exact h.1 p (List.mem_append_right _ hp)
    · exact ih h.2 q hq p hp
/-- the same addresses -/
theorem NDA.same : ∀ {l l' : List (Addr × Obj)}, l.map (·.1) = l'.map (·.1) → NDA l → NDA l'
  | [], [], _, _ => trivial
  | [], _ :: _, e, _ => by cases e
  | _ :: _, [], e, _ => by cases e
  | q :: r, q' :: r', e, h => by
    simp only [List.map_cons, List.cons.injEq] at e
    refine ⟨fun p hp => ?_, NDA.same e.2 h.2⟩
    have : p.1 ∈ r.map (·.1) := by rw [e.2]; exact List.mem_map_of_mem hp
    obtain ⟨x, hx, ex⟩ := List.mem_map.mp this
    rw [← e.1, ← ex]
    exact h.1 x hx
inductive DelAll : List (Addr × Obj) → List (Addr × Obj) → List (Addr × Obj) → Prop
  | nil {l} : DelAll [] l l
  | cons {q S l l1 R} : Del q l l1 → DelAll S l1 R → DelAll (q :: S) l R
theorem DelAll.mem : ∀ {S l R : List (Addr × Obj)}, DelAll S l R → (∀ q ∈ S, q ∈ l) ∧ ∀ q ∈ R, q ∈ l
  | _, _, _, .nil => ⟨fun _ h => (nomatch h), fun _ h => h⟩
  | _, _, _, .cons d r => by
    obtain ⟨a, b⟩ := r.mem
    refine ⟨fun q hq => ?_, fun q hq => d.mem.2 _ (b q hq)⟩
    rcases List.mem_cons.mp hq with rfl | hq
    · exact d.mem.1
    · exact d.mem.2 _ (a q hq)
theorem DelAll.nda : ∀ {S l R : List (Addr × Obj)}, DelAll S l R → NDA l → NDA S ∧ NDA R ∧ ∀ q ∈ S, ∀ p ∈ R, p.1 ≠ q.1
  | _, _, _, .nil, h => ⟨trivial, h, fun _ h => nomatch h⟩
  | _, _, _, .cons (q := q) (S := S) d r, h => by
    obtain ⟨h1, h2⟩ := h.sub_off d
    obtain ⟨a, b, c⟩ := r.nda h1
    obtain ⟨m1, m2⟩ := r.mem
    refine ⟨⟨fun p hp => h2 p (m1 p hp), a⟩, b, fun x hx p hp => ?_⟩
    rcases List.mem_cons.mp hx with rfl | hx
    · exact h2 p (m2 p hp)
    · exact c x hx p hp
noncomputable def Frsh (h : Heap) (as : List Addr) (nw : List (Addr × Obj)) : Prop := ∀ q ∈ nw, q.1 ∈ as ∨ h.get? q.1 = none
/-- a ledger behind a framed call -/
theorem reass {h₀ h h' : Heap} {L : Addr} {news S S' R : List (Addr × Obj)} (N : News h₀ L h news) (ND : NDA news) (dS : DelAll S news R) (O : Off h (S.map (·.1)) h') (N' : News h₀ L h' S') (fr : Frsh h (S.map (·.1)) S') (nd' : NDA S') :
    News h₀ L h' (S' ++ R) ∧ NDA (S' ++ R) := by
  obtain ⟨a, b, c⟩ := dS.nda ND
  obtain ⟨m1, m2⟩ := dS.mem
  refine ⟨fun q hq => ?_, nd'.append b fun q hq p hp e => ?_⟩
  · rcases List.mem_append.mp hq with hq | hq
    · exact N' q hq
    · have z := N q (m2 q hq)
      refine ⟨O _ _ z.1 fun hm => ?_, z.2⟩
      obtain ⟨x, hx, ex⟩ := List.mem_map.mp hm
      exact c x hx q hq ex.symm
  · rcases fr q hq with f | f
    · obtain ⟨x, hx, ex⟩ := List.mem_map.mp f
      exact c x hx p hp (e.trans ex.symm)
    · have z := (N p (m2 p hp)).1
      rw [e, f] at z
      cases z
theorem News.ofAll {h₀ h : Heap} {L : Addr} {news S R : List (Addr × Obj)} (N : News h₀ L h news) (dS : DelAll S news R) : News h₀ L h S := fun q hq => N q (dS.mem.1 q hq)
/-- behind a call that makes nothing that is kept -/
theorem reassSame {h₀ h h' : Heap} {L : Addr} {news S S' R : List (Addr × Obj)} (N : News h₀ L h news) (ND : NDA news) (dS : DelAll S news R) (O : Off h (S.map (·.1)) h') (N' : News h₀ L h' S') (e : S.map (·.1) = S'.map (·.1)) :
    News h₀ L h' (S' ++ R) ∧ NDA (S' ++ R) :=
  reass N ND dS O N' (fun q hq => .inl (by rw [e]; exact List.mem_map_of_mem hq)) ((dS.nda ND).1.same e)
theorem NDA.three {I C D : Addr} {oI oC oD : Obj} {news : List (Addr × Obj)} (h : NDA news) (o : Off3 I C D news) (ne : (@Ne Nat I C) ∧ (@Ne Nat I D) ∧ (@Ne Nat C D)) : NDA ((I, oI) :: (C, oC) :: (D, oD) :: news) := by
  have m := o.mem
  refine ⟨fun p hp => ?_, fun p hp => ?_, fun p hp => (m p hp).2.2, h⟩
  · rcases List.mem_cons.mp hp with rfl | hp
    · exact Ne.symm ne.1
    rcases List.mem_cons.mp hp with rfl | hp
    · exact Ne.symm ne.2.1
    exact (m p hp).1
  · rcases List.mem_cons.mp hp with rfl | hp
    · exact Ne.symm ne.2.2
    exact (m p hp).2.1
theorem NDA.four {I C D c : Addr} {oI oC oD oc : Obj} {news : List (Addr × Obj)} (h : NDA news) (o : Off3 I C D news) (o1 : Off1 c news) (ne : (@Ne Nat I C) ∧ (@Ne Nat I D) ∧ (@Ne Nat C D) ∧ (@Ne Nat I c) ∧ (@Ne Nat C c) ∧ (@Ne Nat D c)) : NDA ((I, oI) :: (C, oC) :: (D, oD) :: (c, oc) :: news) := by
  refine NDA.three (news := (c, oc) :: news) ⟨Off1.mem o1, h⟩ ⟨⟨Ne.symm ne.2.2.2.1, Ne.symm ne.2.2.2.2.1, Ne.symm ne.2.2.2.2.2⟩, o⟩ ⟨ne.1, ne.2.1, ne.2.2.1⟩
theorem NDA.one {D : Addr} {o : Obj} {news : List (Addr × Obj)} (h : NDA news) (o1 : Off1 D news) : NDA ((D, o) :: news) := ⟨Off1.mem o1, h⟩
theorem NDA.lt {D : Addr} {o : Obj} {news : List (Addr × Obj)} (h : NDA news) (o1 : ∀ p ∈ news, p.1 < D) : NDA ((D, o) :: news) := ⟨fun p hp => Nat.ne_of_lt (o1 p hp), h⟩
theorem endND {h₀ : Heap} {L I C D : Addr} {m : Str → Option Value} {s₁ : Shared} {oI oC oD : Obj} {S : List (Addr × Obj) → Prop} {rest : Value → List (Addr × Obj) → Prop} {y : Value} {h' : Heap} {tk : Nat} {all a1 a2 news' : List (Addr × Obj)}
    (F : Fr h₀ L h' m) (N : News h₀ L h' all) (ND : NDA all) (d1 : Del (I, oI) all a1) (d2 : Del (C, oC) a1 a2) (d3 : Del (D, oD) a2 news') (hS : S news') (r : NDA news' → rest y news') :
    CompEnd h₀ L m s₁ I oI C oC D oD S rest y { s₁ with heap := h', toks := tk } := by
  obtain ⟨n1, f1⟩ := ND.sub_off d1
  obtain ⟨n2, f2⟩ := n1.sub_off d2
  obtain ⟨n3, f3⟩ := n2.sub_off d3
  refine CompEnd.intro F N news' (fun p hp => ?_) (Off3.of fun p hp => ⟨f1 p (d2.mem.2 p (d3.mem.2 p hp)), f2 p (d3.mem.2 p hp), f3 p hp⟩) hS (r n3)
  rcases List.mem_cons.mp hp with rfl | hp
  · exact d1.mem.1
  rcases List.mem_cons.mp hp with rfl | hp
  · exact d1.mem.2 _ d2.mem.1
  rcases List.mem_cons.mp hp with rfl | hp
  · exact d1.mem.2 _ (d2.mem.2 _ d3.mem.1)
  · exact d1.mem.2 _ (d2.mem.2 _ (d3.mem.2 _ hp))
theorem endNDX {h₀ : Heap} {L I C D c : Addr} {m : Str → Option Value} {s₁ : Shared} {oI oC oD oc : Obj} {S : List (Addr × Obj) → Prop} {rest : Value → List (Addr × Obj) → Prop} {y : Value} {h' : Heap} {tk : Nat} {all a1 a2 a3 news' : List (Addr × Obj)}
    (F : Fr h₀ L h' m) (N : News h₀ L h' all) (ND : NDA all) (d1 : Del (I, oI) all a1) (d2 : Del (C, oC) a1 a2) (d3 : Del (D, oD) a2 a3) (d4 : Del (c, oc) a3 news') (hS : S news') (r : NDA news' → rest y news') :
    CompEndX h₀ L m s₁ I oI C oC D oD c oc S rest y { s₁ with heap := h', toks := tk } := by
  obtain ⟨n1, f1⟩ := ND.sub_off d1
  obtain ⟨n2, f2⟩ := n1.sub_off d2
  obtain ⟨n3, f3⟩ := n2.sub_off d3
  obtain ⟨n4, f4⟩ := n3.sub_off d4
  exact CompEndX.intro F N d1 d2 d3 d4 (Off3.of fun p hp => ⟨f1 p (d2.mem.2 p (d3.mem.2 p (d4.mem.2 p hp))), f2 p (d3.mem.2 p (d4.mem.2 p hp)), f3 p (d4.mem.2 p hp)⟩) (Off1.of f4) hS (r n4)
/-- an update by the addresses that differ -/
inductive Repl (d : Addr) (o o' : Obj) : List (Addr × Obj) → List (Addr × Obj) → Prop
  | head {r} : Repl d o o' ((d, o) :: r) ((d, o') :: r)
  | tail {p r r'} : Repl d o o' r r' → Repl d o o' (p :: r) (p :: r')
theorem Repl.mem {d : Addr} {o o' : Obj} : ∀ {l l' : List (Addr × Obj)}, Repl d o o' l l' → (d, o) ∈ l
  | _, _, .head => .head _
  | _, _, .tail r => .tail _ r.mem
theorem Repl.map {d : Addr} {o o' : Obj} : ∀ {l l' : List (Addr × Obj)}, Repl d o o' l l' → l.map (·.1) = l'.map (·.1)
  | _, _, .head => rfl
  | _, _, .tail r => by simp only [List.map_cons, r.map]
theorem Repl.upd {d : Addr} {o o' : Obj} : ∀ {l l' : List (Addr × Obj)}, Repl d o o' l l' → NDA l → Upd d o o' l l'
  | _, _, .head, h => .head h.1
  | _, _, .tail r, h => .tail (Ne.symm (h.1 _ r.mem)) (r.upd h.2)
/-- a callee's leave, with what is fresh -/
noncomputable def LeaveN (h₀ : Heap) (L : Addr) (m : Str → Option Value) (g hc : Heap) (as : List Addr) (R : Result → Shared → Prop) (v : Value) (s' : Shared) : Prop :=
  ∃ L' m' news', Fr g L' s'.heap m' ∧ News g L' s'.heap news' ∧ (Fr h₀ L s'.heap m → News h₀ L s'.heap news' → Off hc as s'.heap → Frsh hc as news' → R (.ok (.ret v)) s')
theorem leaveN_ {h₀ g hc : Heap} {L L' : Addr} {as : List Addr} {m m' : Str → Option Value} {news' : List (Addr × Obj)} {R : Result → Shared → Prop} {v : Value} {s' : Shared} (F' : Fr g L' s'.heap m') (N' : News g L' s'.heap news')
    (k : Fr h₀ L s'.heap m → News h₀ L s'.heap news' → Off hc as s'.heap → Frsh hc as news' → R (.ok (.ret v)) s') : LeaveN h₀ L m g hc as R v s' := ⟨L', m', news', F', N', k⟩
theorem callOffN {prog : Program} {w : World} {A₀ A : Around} {base h₀ : Heap} {L : Addr} {m : Str → Option Value} {s : Shared} {news : List (Addr × Obj)} {env : Env} {outer : List Env}
    {K : Frag} {p : Program} {loose : List Str} {mean : ExcName → Option Value} {mg mb : Str → Option Value} {R : Result → Shared → Prop} {name qual : Str} {params : Arguments} {body : List Stmt} {scope : Scope} {dV kV doc pm cdv ct oc : Value} {an od : Option Addr} {osl : Array (Option Value)} {f : Addr} {args : Args} {binds : List (Str × Value)}
    (B : Below A₀ base outer h₀) (F : Fr h₀ L s.heap m) (X₀ : K.In h₀) (N : News h₀ L s.heap news) (T : Top p loose mean mg mb h₀) (hA : A.frames = some (env :: outer)) (hf : env.frame = some L) (hke : env.scope.kind = .function)
    (ho : K.lookup f = some ⟨oc, od, .func (fnOf name qual params body scope dV kV doc pm an cdv ct), osl⟩) (hcd : codeIn K cdv qual = true) (hroom : A.depth < recursionLimit)
    (hbind : BindsTo s (fnOf name qual params body scope dV kV doc pm an cdv ct) args binds) (hloc : ∀ y ∈ binds, scope.names.lookup y.1 = some .local)
    (h : ∀ g L' h₁, Fr h₀ L g m → Fr g L' h₁ (fun y => binds.reverse.lookup y) → News g L' h₁ news → Below A base (env :: outer) g → K.In g → Top p loose mean mg mb g → GSub s.heap g (news.map (·.1)) →
      wpAny (model prog w) (A.deeper (envOf qual scope L' f cdv)) (execs body (envOf qual scope L' f cdv))
        (fun fl s' => LeaveN h₀ L m g s.heap (news.map (·.1)) R (match fl with | .ret v => v | _ => .none) s')
        (fun e s' => wpAny (model prog w) (A.deeper (envOf qual scope L' f cdv)) (leaving (envOf qual scope L' f cdv) e) (fun _ s'' => R (.error e) s'') (fun e' s'' => R (.error e') s'') s')
        { s with heap := h₁, toks := s.toks + binds.length })
    (hco : scope.isCoroutine = false) (hgen : scope.isGenerator = false) (hk : scope.kind = .function)
    (hcell : ∀ x ∈ scope.names, x.2 ≠ .cell) : codeAny (model prog w) A (.call (.ref f) args) R s := by
  refine code_defG B F X₀ N T hA hf hke ho hcd hroom hbind hloc (fun g L' h₁ FG F' N' B' X' T' G' => ?_) hco hgen hk hcell
  refine wpAny_mono (h g L' h₁ FG F' N' B' X' T' G') (fun fl s' hl => ?_) (fun _ _ y => y)
  obtain ⟨L₂, m', news', F₂, N₂, k⟩ := hl
  refine ⟨L₂, m', news', F₂, N₂, fun a b => k a b (fun b o e n => F₂.keep b o (G' b o e n)) fun q hq => ?_⟩
  by_cases hm : q.1 ∈ news.map (·.1)
  · exact .inl hm
  · refine .inr ?_
    cases e : s.heap.get? q.1 with
    | none => rfl
    | some o =>
      have := G' _ _ e hm
      rw [(N₂ q hq).2.2] at this
      cases this
noncomputable abbrev CtrN (w : World) (K : Frag) (p : Program) (loose : List Str) (mean : ExcName → Option Value) (mg mb : Str → Option Value) (dk uk : Nat) (f : Addr) (Pre : Heap → Prop) (news : List (Addr × Obj)) (vs : List Value)
    (Post : Value → List (Addr × Obj) → Prop) : Prop :=
  ∀ (dp un : Nat) (gd : Option (List Code)) (env : Env) (outer : List Env) (A₀ : Around) (base h₀ : Heap) (L : Addr) (m : Str → Option Value) (s : Shared) (Q E : Value → Shared → Prop),
    Below A₀ base outer h₀ → Fr h₀ L s.heap m → K.In h₀ → News h₀ L s.heap news → Top p loose mean mg mb h₀ → env.frame = some L → env.scope.kind = .function →
    dp + dk < recursionLimit → un + uk < cLine → Pre s.heap →
    (∀ v news' h' tk', Fr h₀ L h' m → News h₀ L h' news' → Post v news' → Off s.heap (news.map (·.1)) h' → Frsh s.heap (news.map (·.1)) news' → Q v { s with heap := h', toks := tk' }) →
      wpAny (model PySem.Challenge.rw_rg0215_01.row.prog w) (top dp un gd env outer) (call (.ref f) vs) Q E s
theorem NDA.to {l l' : List (Addr × Obj)} (h : NDA l) (e : l.map (·.1) = l'.map (·.1)) : NDA l' := h.same e
noncomputable abbrev anyO : Obj := { cls := .none, data := .seq #[] }
theorem NDA.ltA {D : Addr} {news : List (Addr × Obj)} (h : NDA news) (o1 : ∀ p ∈ news, p.1 < D) : NDA ((D, anyO) :: news) := ⟨fun p hp => Nat.ne_of_lt (o1 p hp), h⟩
theorem NDA.twoA {D x : Addr} {o : Obj} {news : List (Addr × Obj)} (h : NDA ((D, o) :: news)) (o1 : ∀ p ∈ news, p.1 < D) (o2 : D < x) : NDA ((x, anyO) :: (D, o) :: news) := ⟨fun p hp => by
  rcases List.mem_cons.mp hp with rfl | hp
  · exact Nat.ne_of_lt o2
  · exact Nat.ne_of_lt (Nat.lt_trans (o1 p hp) o2), h⟩
theorem nda_of {h₀ h : Heap} {L : Addr} {news : List (Addr × Obj)} (_N : News h₀ L h news) (p : NDA news) : NDA news := p
theorem nda_to {h₀ h : Heap} {L : Addr} {news old : List (Addr × Obj)} (_N : News h₀ L h news) (p : NDA old) (e : old.map (·.1) = news.map (·.1)) : NDA news := p.same e
theorem Repl.updN {d : Addr} {o o' : Obj} {l l' l0 : List (Addr × Obj)} (r : Repl d o o' l l') (n : NDA l0) (e : l0.map (·.1) = l.map (·.1)) : Upd d o o' l l' := r.upd (n.same e)
inductive ReplF (d : Addr) (o : Obj) : List (Addr × Obj) → (Obj → List (Addr × Obj)) → Prop
  | head {r} : ReplF d o ((d, o) :: r) (fun o' => (d, o') :: r)
  | tail {p r g} : ReplF d o r g → ReplF d o (p :: r) (fun o' => p :: g o')
theorem ReplF.mem {d : Addr} {o : Obj} : ∀ {l : List (Addr × Obj)} {g : Obj → List (Addr × Obj)}, ReplF d o l g → (d, o) ∈ l
  | _, _, .head => .head _
  | _, _, .tail r => .tail _ r.mem
theorem ReplF.upd {d : Addr} {o : Obj} : ∀ {l : List (Addr × Obj)} {g : Obj → List (Addr × Obj)}, ReplF d o l g → NDA l → UpdF d o l g
  | _, _, .head, h => .head h.1
  | _, _, .tail r, h => .tail (Ne.symm (h.1 _ r.mem)) (r.upd h.2)
theorem NDA.ltB {D : Addr} {news old : List (Addr × Obj)} (o1 : ∀ p ∈ news, p.1 < D) (h : NDA old) (e : old.map (·.1) = news.map (·.1)) : NDA ((D, anyO) :: news) := NDA.ltA (h.same e) o1
theorem NDA.threeB {I C D : Addr} {news old : List (Addr × Obj)} (o : Off3 I C D news) (ne : (@Ne Nat I C) ∧ (@Ne Nat I D) ∧ (@Ne Nat C D)) (h : NDA old) (e : old.map (·.1) = news.map (·.1)) : NDA ((I, anyO) :: (C, anyO) :: (D, anyO) :: news) := NDA.three (h.same e) o ne
theorem NDA.fourB {I C D c : Addr} {news old : List (Addr × Obj)} (o : Off3 I C D news) (o1 : Off1 c news) (ne : (@Ne Nat I C) ∧ (@Ne Nat I D) ∧ (@Ne Nat C D) ∧ (@Ne Nat I c) ∧ (@Ne Nat C c) ∧ (@Ne Nat D c)) (h : NDA old) (e : old.map (·.1) = news.map (·.1)) : NDA ((I, anyO) :: (C, anyO) :: (D, anyO) :: (c, anyO) :: news) := NDA.four (h.same e) o o1 ne
theorem NDA.oneB {D : Addr} {news old : List (Addr × Obj)} (o1 : Off1 D news) (h : NDA old) (e : old.map (·.1) = news.map (·.1)) : NDA ((D, anyO) :: news) := NDA.one (h.same e) o1
theorem NDA.td {l : List (Addr × Obj)} (h : NDA l) (i k : Nat) (hik : i ≤ k) : NDA (l.take i ++ l.drop k) := by
  have e1 : NDA (l.take i ++ l.drop i) := by rw [List.take_append_drop]; exact h
  have e2 : NDA (l.take k ++ l.drop k) := by rw [List.take_append_drop]; exact h
  refine e1.left.append e2.right fun q hq p hp => e1.cross q hq p ?_
  have : l.drop k = (l.drop i).drop (k - i) := by rw [List.drop_drop]; congr 1; omega
  rw [this] at hp
  exact List.mem_of_mem_drop hp
theorem News.td {h₀ h : Heap} {L : Addr} {l : List (Addr × Obj)} (N : News h₀ L h l) (i k : Nat) : News h₀ L h (l.take i ++ l.drop k) := fun q hq => N q ((List.mem_append.mp hq).elim List.mem_of_mem_take List.mem_of_mem_drop)
theorem frsh_of {h g h' : Heap} {L : Addr} {news nw : List (Addr × Obj)} (G : GSub h g (news.map (·.1))) (N : News g L h' nw) : Frsh h (news.map (·.1)) nw := fun q hq => by
  by_cases hm : q.1 ∈ news.map (·.1)
  · exact .inl hm
  · refine .inr ?_
    cases e : h.get? q.1 with
    | none => rfl
    | some o =>
      have := G _ _ e hm
      rw [(N q hq).2.2] at this
      cases this
theorem callOffCN {prog : Program} {w : World} {A₀ A : Around} {base h₀ : Heap} {L : Addr} {m : Str → Option Value} {s : Shared} {news : List (Addr × Obj)} {env : Env} {outer : List Env}
    {K : Frag} {p : Program} {loose : List Str} {mean : ExcName → Option Value} {mg mb : Str → Option Value} {R : Result → Shared → Prop} {name qual : Str} {params : Arguments} {body : List Stmt} {scope : Scope} {dV kV doc pm cdv ct oc : Value} {an od : Option Addr} {osl : Array (Option Value)} {f : Addr} {args : Args} {binds : List (Str × Value)}
    (B : Below A₀ base outer h₀) (F : Fr h₀ L s.heap m) (X₀ : K.In h₀) (N : News h₀ L s.heap news) (T : Top p loose mean mg mb h₀) (hA : A.frames = some (env :: outer)) (hf : env.frame = some L) (hke : env.scope.kind = .function)
    (ho : K.lookup f = some ⟨oc, od, .func (fnOf name qual params body scope dV kV doc pm an cdv ct), osl⟩) (hcd : codeIn K cdv qual = true) (hroom : A.depth < recursionLimit)
    (hbind : BindsTo s (fnOf name qual params body scope dV kV doc pm an cdv ct) args binds) (hkind : (binds.all fun y => scope.names.lookup y.1 == some .local || scope.names.lookup y.1 == some .cell) = true)
    (hnd : ((cellsFrom 0 scope.names []).map (·.1)).Nodup)
    (h : ∀ g L' h₁ tk cells, Fr h₀ L g m → Fr g L' h₁ (bindL (envOfC qual scope L' f cdv).kindOf binds fun _ => none) → News g L' h₁ (cells ++ news) →
      CellsAre (bindC (envOfC qual scope L' f cdv).kindOf binds fun _ => none) (cellsFrom (L' + 1) scope.names []) cells → Below A base (env :: outer) g → K.In g → Top p loose mean mg mb g → (∀ p ∈ news, p.1 < L') → GSub s.heap g (news.map (·.1)) →
      wpAny (model prog w) (A.deeper (envOfC qual scope L' f cdv)) (execs body (envOfC qual scope L' f cdv))
        (fun fl s' => LeaveN h₀ L m g s.heap (news.map (·.1)) R (match fl with | .ret v => v | _ => .none) s')
        (fun e s' => wpAny (model prog w) (A.deeper (envOfC qual scope L' f cdv)) (leaving (envOfC qual scope L' f cdv) e) (fun _ s'' => R (.error e) s'') (fun e' s'' => R (.error e') s'') s')
        { s with heap := h₁, toks := tk })
    (hco : scope.isCoroutine = false) (hgen : scope.isGenerator = false) (hk : scope.kind = .function) : codeAny (model prog w) A (.call (.ref f) args) R s := by
  obtain ⟨FG, BG, st, lv⟩ := groundX (R := R) B F N hA hf hke
  have X := X₀.keeps F.keep
  refine codeAny_call_function hroom (X _ _ ho) rfl hco hgen rfl (codeRec_of X hcd) (hbind _ _ _ _ ?_)
  refine wpAny_newFunctionEnv_cells hk (kindsX hkind _) fun env' he s' x => ?_
  subst he
  refine ⟨(T.nolimit.keeps F.keep).keeps x.toInCall.keep, codeAny_func ?_⟩
  obtain ⟨h₁, tk, rfl, _⟩ := x.done
  have hk₁ := x.toInCall.keep
  obtain ⟨cells, NC, Y⟩ := Cl.news (h₀ := s.heap) (Nat.le_refl _) fun n c hm => ⟨x.cell n c (lookup_of_mem_nodup (cellsFrom_names scope.names 0 (s.heap.objs.size + 1) [] [] rfl ▸ hnd) hm), x.above n c hm⟩
  have gs : GSub s.heap (hideAll s.heap (news.map (·.1))) (news.map (·.1)) := fun b o e n => hideAll_get _ e n
  refine wpAny_mono (h _ s.heap.objs.size h₁ tk cells FG ⟨x.toInCall.ns, fun b o e => hk₁ b o (of_hideAll _ e), Nat.le_of_eq (hideAll_size _ _)⟩ (fun q hq => ?_) Y BG (X₀.keeps st) (T.keeps st) (fun q hq => Heap.lt_size (N q hq).1) gs) (fun fl s' hl => ?_) fun _ _ y => y
  · rcases List.mem_append.mp hq with hq | hq
    · refine ⟨(NC q hq).1, (NC q hq).2.1, ?_⟩
      cases z : (hideAll s.heap (news.map (·.1))).get? q.1 with
      | none => rfl
      | some o => have := of_hideAll _ z; rw [(NC q hq).2.2] at this; cases this
    · exact ⟨hk₁ _ _ (N q hq).1, Nat.ne_of_lt (Heap.lt_size (N q hq).1), hideAll_none _ (List.mem_map_of_mem hq)⟩
  · obtain ⟨L₂, m', news', F₂, N₂, k⟩ := hl
    exact lv _ _ ⟨L₂, m', news', F₂, N₂, fun a b => k a b (fun b o e n => F₂.keep b o (gs b o e n)) (frsh_of gs N₂)⟩
end Mine
end
section
open PySem PySem.W PySem.Calls PyProof.Rows PyProof.V
set_option Elab.async false
namespace Mine
section
variable {prog : Program} {w : World}
/-- a bank's key upon the heap: (op, (), sort, data) -/
noncomputable def MkIs (prog : Program) (w : World) (h : Heap) (k : Str × Int × Int) (a : Addr) : Prop :=
  ∃ o tx b ts td n, h.get? a = some o ∧ o.cls = .type "tuple" ∧ o.data = .seq #[.str k.1 tx, .ref b, .int k.2.1 ts, .int k.2.2 td] n ∧ IsTupleKey (PySem.strKind prog w) h [] b
noncomputable def mkHash (prog : Program) (w : World) (k : Str × Int × Int) : Int := reduceHash (Builtin.Tuple.tupleHashOf [hashStr w k.1, tupleKeyHash (PySem.strKind prog w) [], hashInt k.2.1, hashInt k.2.2])
variable {A : Around} {E : Value → Shared → Prop} {s : Shared}
theorem MkIs.inj {h : Heap} {a : Addr} {x y : Str × Int × Int} (hx : MkIs prog w h x a) (hy : MkIs prog w h y a) : x = y := by
  obtain ⟨x1, x2, x3⟩ := x
  obtain ⟨y1, y2, y3⟩ := y
  obtain ⟨o, tx, b, ts, td, n, ho, _, hd, _⟩ := hx
  obtain ⟨o', tx', b', ts', td', n', ho', _, hd', _⟩ := hy
  obtain rfl : o = o' := Option.some.inj (ho.symm.trans ho')
  rw [hd] at hd'
  injection hd' with h1 _
  have h2 := congrArg Array.toList h1
  dsimp only at h2
  simp only [List.cons.injEq, Value.str.injEq, Value.int.injEq] at h2
  obtain ⟨⟨e1, _⟩, _, ⟨e2, _⟩, ⟨e3, _⟩, _⟩ := h2
  rw [e1, e2, e3]
theorem MkIs.typeIs {k : Str × Int × Int} {a : Addr} (x : MkIs prog w s.heap k a) : s.TypeIs (.ref a) "tuple" := let ⟨o, _, _, _, _, _, ho, hc, _⟩ := x; ⟨o, ho, hc⟩
theorem MkIs.keeps {h h' : Heap} {k : Str × Int × Int} {a d : Addr} {o : Obj} {es ep} (x : MkIs prog w h k a) (ho : h.get? d = some o) (hd : o.data = .dict es ep) (hs : Heap.SameBut d h h') : MkIs prog w h' k a := by
  obtain ⟨o', tx, b, ts, td, n, ho', hc, hd', hb⟩ := x
  have hne : a ≠ d := by
    rintro rfl
    obtain rfl : o' = o := Option.some.inj (ho'.symm.trans ho)
    rw [hd] at hd'; exact nomatch hd'
  exact ⟨o', tx, b, ts, td, n, (hs.2 a hne).trans ho', hc, hd', hb.keeps ho hd hs⟩
theorem mk_hash {k : Str × Int × Int} {a : Addr} {Q : Int → Shared → Prop} (hu : A.units + 8 < cLine) (hk : MkIs prog w s.heap k a) (h : Q (mkHash prog w k) { s with toks := s.toks + 5 }) :
    wpAny (model prog w) A (pyHash (.ref a)) Q E s := by
  have hT := hk.typeIs
  obtain ⟨o, tx, b, ts, td, n, ho, _, hd, hb⟩ := hk
  unfold pyHash
  refine wpAny_bind (wpAny_cRoomFor_or (.inr (by omega)) ?_)
  refine wpAny_bind (wpAny_specialOf hT F.slot_tuple_hash.lookup ?_)
  show wpAny _ _ (if (some (Value.builtin "tuple.__hash__") == some Value.none) = true then _ else _) Q E s
  rw [if_neg (by rw [beq_builtin_none]; exact Bool.false_ne_true)]
  refine wpAny_bind (wpAny_specialOf hT F.slot_tuple_hash.lookup ?_)
  show wpAny _ _ (callSpecialIfBoundUnlessNone? (.ref a) "__hash__" _ >>= _) Q E s
  refine wpAny_bind (wpAny_callSpecialIfBoundUnlessNone?_slot hT F.slot_tuple_hash (wpAny_call_entry F.slot_tuple_hash hT F.entry_tuple_hash ?_ (F.args_tuple_hash_1 _)))
  show wpAny _ _ (Builtin.Tuple.tupleItemsOf (.ref a) >>= _) _ _ s
  refine wpAny_bind (wpAny_tupleItemsOf ho hd ?_)
  refine wpAny_bind ?_
  rw [← Array.forIn_toList]
  simp only [List.forIn_cons, List.forIn_nil]
  refine wpAny_bind (wpAny_bind (wpAny_pyHash_str (wpAny_pure ?_)))
  dsimp only
  refine wpAny_bind (wpAny_bind (wpAny_pyHash_tuple (by show A.units + 1 < cLine; omega) hb (wpAny_pure ?_)))
  dsimp only
  refine wpAny_bind (wpAny_bind (wpAny_pyHash_int (wpAny_pure ?_)))
  dsimp only
  refine wpAny_bind (wpAny_bind (wpAny_pyHash_int (wpAny_pure ?_)))
  dsimp only
  refine wpAny_pure ?_
  refine wpAny_ret_mkInt ?_
  show wpAny _ _ (if (decide (-(2 : Int) ^ 63 ≤ Builtin.Tuple.tupleHashOf [hashStr w k.1, tupleKeyHash (PySem.strKind prog w) [], hashInt k.2.1, hashInt k.2.2]) && decide (Builtin.Tuple.tupleHashOf [hashStr w k.1, tupleKeyHash (PySem.strKind prog w) [], hashInt k.2.1, hashInt k.2.2] < 2 ^ 63)) = true then _ else _) Q E _
  unfold mkHash reduceHash at h
  by_cases hr : (decide (-(2 : Int) ^ 63 ≤ Builtin.Tuple.tupleHashOf [hashStr w k.1, tupleKeyHash (PySem.strKind prog w) [], hashInt k.2.1, hashInt k.2.2]) && decide (Builtin.Tuple.tupleHashOf [hashStr w k.1, tupleKeyHash (PySem.strKind prog w) [], hashInt k.2.1, hashInt k.2.2] < 2 ^ 63)) = true
  · rw [if_pos hr]
    rw [if_pos hr] at h
    exact wpAny_pure (by simpa [Nat.add_assoc] using h)
  · rw [if_neg hr]
    rw [if_neg hr] at h
    exact wpAny_bind (wpAny_rule (wpAny_pure (by simpa [Nat.add_assoc] using h)))
theorem mk_eq_tree {x y : Str × Int × Int} {a b : Addr} {P : Fin → Shared → Prop} (hu : A.units + 8 < cLine) (hx : MkIs prog w s.heap x a) (hy : MkIs prog w s.heap y b) (h : P (.done (.ret (.bool (decide (x = y))))) s) :
    wpAny (model prog w) A (Builtin.«tuple.__eq__» ⟨[.ref a, .ref b], []⟩) P E s := by
  have hTb := hy.typeIs
  obtain ⟨x1, x2, x3⟩ := x
  obtain ⟨y1, y2, y3⟩ := y
  obtain ⟨oa, ta1, ba, ta2, ta3, na, hoa, _, hda, hba⟩ := hx
  obtain ⟨ob, tb1, bb, tb2, tb3, nb, hob, _, hdb, hbb⟩ := hy
  show wpAny _ _ (isInstance (.ref b) (.type "tuple") >>= _) _ _ s
  refine wpAny_bind (wpAny_isInstance hTb isSubtype_tuple_tuple ?_)
  simp only [Bool.not_true, Bool.false_eq_true, if_false]
  refine wpAny_bind (wpAny_tupleItemsOf hoa hda ?_)
  refine wpAny_bind (wpAny_tupleItemsOf hob hdb ?_)
  dsimp only
  simp only [List.zip_cons_cons, List.zip_nil_right, List.forIn_cons, List.forIn_nil]
  have no : ∀ {z : Shared}, z = s → (x1, x2, x3) ≠ (y1, y2, y3) → P (.done (.ret (.bool false))) z := fun e n => by subst e; rw [decide_eq_false n] at h; exact h
  refine wpAny_bind (wpAny_bind (wpAny_bind (wpAny_eqBool_str ?_)))
  by_cases e1 : x1 = y1
  case neg =>
    rw [decide_eq_false e1]
    simp only [Bool.not_false, if_true]
    exact wpAny_bind (wpAny_pure (wpAny_pure (wpAny_pure (wpAny_pure (no rfl fun q => e1 (by injection q))))))
  rw [decide_eq_true e1]
  simp only [Bool.not_true, Bool.false_eq_true, if_false]
  refine wpAny_pure (wpAny_bind (wpAny_bind (wpAny_eqBool_tuple (by omega) hba hbb ?_)))
  rw [decide_eq_true rfl]
  simp only [Bool.not_true, Bool.false_eq_true, if_false]
  refine wpAny_pure (wpAny_bind (wpAny_bind (wpAny_eqBool_int ?_)))
  by_cases e2 : x2 = y2
  case neg =>
    rw [show (x2 == y2) = false from beq_false_of_ne e2]
    simp only [Bool.not_false, if_true]
    exact wpAny_bind (wpAny_pure (wpAny_pure (wpAny_pure (wpAny_pure (no rfl fun q => e2 (by injection q with _ q; injection q))))))
  rw [show (x2 == y2) = true from beq_iff_eq.mpr e2]
  simp only [Bool.not_true, Bool.false_eq_true, if_false]
  refine wpAny_pure (wpAny_bind (wpAny_bind (wpAny_eqBool_int ?_)))
  by_cases e3 : x3 = y3
  case neg =>
    rw [show (x3 == y3) = false from beq_false_of_ne e3]
    simp only [Bool.not_false, if_true]
    exact wpAny_bind (wpAny_pure (wpAny_pure (wpAny_pure (wpAny_pure (no rfl fun q => e3 (by injection q with _ q; injection q))))))
  rw [show (x3 == y3) = true from beq_iff_eq.mpr e3]
  simp only [Bool.not_true, Bool.false_eq_true, if_false]
  refine wpAny_pure (wpAny_pure ?_)
  subst e1 e2 e3
  rw [decide_eq_true rfl] at h
  exact wpAny_pure h
theorem mk_eqBool {x y : Str × Int × Int} {a b : Addr} {Q : Bool → Shared → Prop} (hu : A.units + 16 < cLine) (hx : MkIs prog w s.heap x a) (hy : MkIs prog w s.heap y b) (h : Q (decide (x = y)) s) :
    wpAny (model prog w) A (eqBool (.ref a) (.ref b)) Q E s := by
  unfold eqBool
  try with_reducible refine wpAny_holding ?_
  show wpAny _ _ (if (Value.ref a == Value.ref b) = true then _ else _) Q E s
  by_cases hab : (Value.ref a == Value.ref b) = true
  · rw [if_pos hab]
    have e : a = b := by have := eq_of_beq hab; injection this
    subst e
    obtain rfl := hx.inj hy
    exact wpAny_bind (wpAny_rule (wpAny_pure (by simpa using h)))
  · rw [if_neg hab]
    exact wpAny_bind (wpAny_richCompare_same_room (op := .Eq) hx.typeIs hy.typeIs F.slot_tuple_eq
      (wpAny_call_entry F.slot_tuple_eq hx.typeIs F.entry_tuple_eq (mk_eq_tree (by show A.units + 1 + 8 < cLine; omega) hx hy ⟨_, rfl, (fun e => nomatch e), wpAny_truthy_bool h⟩) (F.args_tuple_eq_2 _ _)) (by omega))
theorem mk_quiet0 {a : Addr} {Q : Bool → Shared → Prop} (hk : IsTupleKey (PySem.strKind prog w) s.heap [] a) (h : Q true s) : wpAny (model prog w) A (eqIsQuiet 7 (.ref a)) Q E s := by
  have hT := hk.typeIs
  obtain ⟨o, items, n, ho, _, hd, hi⟩ := hk
  unfold eqIsQuiet
  refine wpAny_bind (wpAny_specialOf hT F.slot_tuple_eq.lookup ?_)
  show wpAny _ _ (isInstance (.ref a) (.type "tuple") >>= _) _ _ s
  refine wpAny_bind (wpAny_isInstance hT isSubtype_tuple_tuple ?_)
  simp only [Bool.not_true, Bool.false_eq_true, if_false]
  refine wpAny_bind (wpAny_seqItems ho hd ?_)
  refine wpAny_bind ?_
  show wpAny _ _ (forIn items _ _) _ _ s
  rw [← Array.forIn_toList]
  generalize items.toList = l at hi
  cases hi
  exact wpAny_pure (wpAny_pure h)
theorem mk_quiet {k : Str × Int × Int} {a : Addr} {Q : Bool → Shared → Prop} (hk : MkIs prog w s.heap k a) (h : Q true s) : wpAny (model prog w) A (eqIsQuiet 8 (.ref a)) Q E s := by
  have hT := hk.typeIs
  obtain ⟨o, tx, b, ts, td, n, ho, _, hd, hb⟩ := hk
  unfold eqIsQuiet
  refine wpAny_bind (wpAny_specialOf hT F.slot_tuple_eq.lookup ?_)
  show wpAny _ _ (isInstance (.ref a) (.type "tuple") >>= _) _ _ s
  refine wpAny_bind (wpAny_isInstance hT isSubtype_tuple_tuple ?_)
  simp only [Bool.not_true, Bool.false_eq_true, if_false]
  refine wpAny_bind (wpAny_seqItems ho hd ?_)
  refine wpAny_bind ?_
  show wpAny _ _ (forIn #[Value.str k.1 tx, Value.ref b, Value.int k.2.1 ts, Value.int k.2.2 td] _ _) _ _ s
  rw [← Array.forIn_toList]
  dsimp only
  simp only [List.forIn_cons, List.forIn_nil, eqIsQuiet_byValue _ (v := Value.str _ _) rfl, eqIsQuiet_byValue _ (v := Value.int _ _) rfl]
  refine wpAny_bind (wpAny_bind (wpAny_pure ?_))
  simp only [Bool.not_true, Bool.false_eq_true, if_false]
  refine wpAny_pure (wpAny_bind (wpAny_bind (mk_quiet0 hb ?_)))
  simp only [Bool.not_true, Bool.false_eq_true, if_false]
  refine wpAny_pure (wpAny_bind (wpAny_bind (wpAny_pure ?_)))
  simp only [Bool.not_true, Bool.false_eq_true, if_false]
  refine wpAny_pure (wpAny_bind (wpAny_bind (wpAny_pure ?_)))
  simp only [Bool.not_true, Bool.false_eq_true, if_false]
  exact wpAny_pure (wpAny_pure (wpAny_pure h))
end
noncomputable def mkKind (prog : Program) (w : World) : HeapKind prog w (Str × Int × Int) where
  is := MkIs prog w
  hash := mkHash prog w
  draws := fun _ => 5
  room := fun A => A.units + 16 < cLine
  inj := fun hx hy => hx.inj hy
  keeps := fun x ho hd hs => x.keeps ho hd hs
  pyHash := fun hu hk h => mk_hash (by omega) hk h
  eqBool := fun hu hx hy h => mk_eqBool hu hx hy h
  quiet := fun hk h => mk_quiet hk h
noncomputable def IsMk (prog : Program) (w : World) (o : Obj) (xs : List ((Str × Int × Int) × Addr × Value)) : Prop :=
  ∃ es ep, o.ExactDict ∧ o.data = .dict es ep ∧ es.toList = xs.map (entryOfKey (mkKind prog w)) ∧ (xs.map (·.1)).Nodup
theorem isMk_new {prog : Program} {w : World} {o : Obj} {K : Type} [DecidableEq K] {knd : KeyKind prog w K} (h : o.IsDictOf knd []) : IsMk prog w o [] := by
  obtain ⟨es, ep, h1, h2, _, h3, _⟩ := h
  refine ⟨es, ep, h1, h2, ?_, List.nodup_nil⟩
  cases e : es.toList with
  | nil => rfl
  | cons x r => rw [e] at h3; cases h3
theorem isMk_heap {prog : Program} {w : World} {h : Heap} {d : Addr} {o : Obj} {xs : List ((Str × Int × Int) × Addr × Value)} (ho : h.get? d = some o) (m : IsMk prog w o xs) (hx : ∀ x ∈ xs, MkIs prog w h x.1 x.2.1) : h.DictOfH (mkKind prog w) d xs := by
  obtain ⟨es, ep, h1, h2, h3, h4⟩ := m
  exact ⟨o, es, ep, ho, h1, h2, h3, hx, h4⟩
theorem isMk_of {prog : Program} {w : World} {h : Heap} {d : Addr} {xs : List ((Str × Int × Int) × Addr × Value)} (m : h.DictOfH (mkKind prog w) d xs) : ∃ o, h.get? d = some o ∧ IsMk prog w o xs := by
  obtain ⟨o, es, ep, ho, h1, h2, h3, _, h4⟩ := m
  exact ⟨o, ho, es, ep, h1, h2, h3, h4⟩
section
variable {prog : Program} {w : World} {A : Around} {E : Value → Shared → Prop} {s : Shared} {h₀ : Heap} {L d a : Addr} {m : Str → Option Value} {news : List (Addr × Obj)} {g : Obj → List (Addr × Obj)} {o : Obj} {xs : List ((Str × Int × Int) × Addr × Value)} {k : Str × Int × Int} {v dflt : Value}
theorem mk_method {pl : Sem Bool} {Q : Value × List Value → Shared → Prop} (N : News h₀ L s.heap news) (hp : (d, o) ∈ news) (hd : IsMk prog w o xs) (h : Q (.builtin "dict.get", [.ref d]) s) : wpAny (model prog w) A (getMethod (.ref d) "get" pl) Q E s := by
  obtain ⟨es, ep, hc, _⟩ := hd
  exact getMethod_builtin ⟨_, (N _ hp).1, hc.1⟩ PySem.F.plainAttrs_dict PySem.F.slot_dict_get PySem.F.type_dict_get (fun b e => by injection e with e; subst e; exact ⟨_, (N _ hp).1, hc.2.1⟩) h
theorem mk_get {Q : Value → Shared → Prop} (hu : A.units + 17 < cLine) (N : News h₀ L s.heap news) (hp : (d, o) ∈ news) (hd : IsMk prog w o xs) (lo : (d == sysModules) = false) (hx : ∀ x ∈ xs, MkIs prog w s.heap x.1 x.2.1) (hk : MkIs prog w s.heap k a)
    (hl : atKey xs k = none) (h : Q dflt { s with toks := s.toks + 5 }) :
    wpAny (model prog w) A (call (.builtin "dict.get") [.ref d, .ref a, dflt]) Q E s := by
  have hD := isMk_heap (N _ hp).1 hd hx
  exact call_meetsIn PySem.F.slot_dict_get hD.typeIs PySem.F.entry_dict_get (PySem.F.args_dict_get_3 _ _ _) (meetsH_dict_get_default (mkKind prog w) d a lo dflt) ⟨by show A.units + 1 + 16 < cLine; omega, k, xs, hk, hD, by rw [hl]; exact h⟩
theorem mk_set {Q : Unit → Shared → Prop} (hu : A.units + 17 < cLine) (F : Fr h₀ L s.heap m) (N : News h₀ L s.heap news) (U : UpdF d o news g) (hd : IsMk prog w o xs) (hx : ∀ x ∈ xs, MkIs prog w s.heap x.1 x.2.1) (hk : MkIs prog w s.heap k a) (hl : atKey xs k = none) (hsz : xs.length ≤ sizeLine)
    (h : ∀ h' o', Fr h₀ L h' m → News h₀ L h' (g o') → IsMk prog w o' (xs ++ [(k, a, v)]) → Q () { s with heap := h', toks := s.toks + 5 }) : wpAny (model prog w) A (setItem (.ref d) (.ref a) v) Q E s := by
  obtain ⟨pre, post, rfl, hg, u1, u2⟩ := U.split
  have hm := N (d, o) (List.mem_append_right _ (.head _))
  refine wpAny_setItem_heap (hsz := hsz) (knd := mkKind prog w) (by show A.units + 1 + 16 < cLine; omega) hk (isMk_heap hm.1 hd hx) fun h' hmm hs => ?_
  obtain ⟨o', ho', hd'⟩ := isMk_of hmm
  rw [storedH_new hl] at hd'
  exact h h' o' (F.change hs hm.2.1 hm.2.2) (hg o' ▸ N.setIn u1 u2 hs ho') hd'
/-- a key on the ledger -/
theorem mk_led {b : Addr} {x : Str} {t1 t2 t3 : Tok} {i j : Int} {n n' : Nat} (N : News h₀ L s.heap news) (h1 : (a, { cls := .type "tuple", data := .seq #[.str x t1, .ref b, .int i t2, .int j t3] n }) ∈ news) (h2 : (b, { cls := .type "tuple", data := .seq #[] n' }) ∈ news) : MkIs prog w s.heap (x, i, j) a :=
  ⟨_, _, _, _, _, _, (N _ h1).1, rfl, rfl, _, _, _, (N _ h2).1, rfl, rfl, .nil⟩
end
end Mine
end
section
open PySem PySem.W PySem.Calls PyProof.Rows PyProof.V PyProof.Rows.LCg
set_option Elab.async false
set_option maxRecDepth 100000
set_option maxHeartbeats 8000000
namespace Mine
theorem gsub_seq' {h g : Heap} {l : Addr} {as : List Addr} {vs : List Value} (G : GSub h g as) (hl : l ∉ as) (x : SeqIn h l vs) : SeqIn g l vs := by
  rcases x with x | x
  · exact .inl (x.at fun o e => G _ o e hl)
  · exact .inr (x.at fun o e => G _ o e hl)
theorem ne_cls {h₀ h : Heap} {L : Addr} {news : List (Addr × Obj)} {a b : Addr} {oa ob : Obj} (N : News h₀ L h news) (ha : (a, oa) ∈ news) (hb : (b, ob) ∈ news) (hc : (oa.cls == ob.cls) = false) : @Ne Nat a b := fun q => by
  have z := (N _ ha).1
  have y := (N _ hb).1
  have q' : a = b := q
  subst q'
  rw [z] at y
  cases y
  simp at hc
section
variable {w : World} {A : Around} {env : Env} {outer : List Env} {A₀ : Around} {base h₀ : Heap} {L : Addr} {p : Program} {loose : List Str} {mean : ExcName → Option Value} {mg mb : Str → Option Value} {dk uk : Nat} {m : Str → Option Value}
theorem At.useP {f : Addr} {Pre : Heap → Prop} {news : List (Addr × Obj)} {vs : List Value} {Post : Value → List (Addr × Obj) → Prop} {s : Shared} {Q E : Value → Shared → Prop} (a : At w A env outer A₀ base h₀ L p loose mean mg mb dk uk)
    (C : CtrP w (top0.heap_1 w.params) p loose mean mg mb dk uk f Pre news vs Post) (F : Fr h₀ L s.heap m) (N : News h₀ L s.heap news) (hp : Pre s.heap)
    (ret : ∀ v news' h' tk', Fr h₀ L h' m → News h₀ L h' news' → Post v news' → Off s.heap (news.map (·.1)) h' → Q v { s with heap := h', toks := tk' }) :
    wpAny (model PG w) A (call (.ref f) vs) Q E s := by
  obtain ⟨hA, hh, B, X, T, hf, hk, hd, hu⟩ := a
  obtain ⟨hd', dp, fr, gd, un⟩ := A
  dsimp only at hA hh hd hu
  subst hA hh
  exact C dp un gd env outer A₀ base h₀ L m s Q E B F X N T hf hk hd hu hp ret
end
noncomputable abbrev ent (n : String) (h : Int) (t : Tok) (v : Value) : DictEntry := ⟨h, .str (Str.ofString n) t, v⟩
/-- the dict of a maker: hashes and tokens as they are -/
noncomputable abbrev mkD (hs : Nat → Int) (ts : Nat → Tok) (bank core proof vars terms sides opened waiting spot : Value) : List DictEntry :=
  [ent "bank" (hs 0) (ts 0) bank, ent "core" (hs 1) (ts 1) core, ent "proof" (hs 2) (ts 2) proof, ent "vars" (hs 3) (ts 3) vars, ent "terms" (hs 4) (ts 4) terms, ent "sides" (hs 5) (ts 5) sides, ent "opened" (hs 6) (ts 6) opened, ent "waiting" (hs 7) (ts 7) waiting, ent "spot" (hs 8) (ts 8) spot]
noncomputable abbrev coD (hs : Nat → Int) (ts : Nat → Tok) (many clauses steps : Value) : List DictEntry := [ent "many" (hs 0) (ts 0) many, ent "clauses" (hs 1) (ts 1) clauses, ent "steps" (hs 2) (ts 2) steps]
theorem tidy_len {ns ts : List Int} (h : tidyL ns = some ts) : ts.length ≤ 8 := by
  unfold tidyL at h
  cases q : keptL ns with
  | none => rw [q] at h; cases h
  | some ks =>
    rw [q] at h
    have e : uni.filter (fun l => decide (l ∈ ks)) = ts := Option.some.inj h
    rw [← e]
    exact List.length_filter_le _ _
theorem tidy_fit {ns ts : List Int} {vs : List Value} (h : tidyL ns = some ts) (hi : IntsAre vs ts) : (vs.toArray.size : Int) < 2 ^ 63 := by
  have := tidy_len h
  rw [List.size_toArray, hi.length]
  omega
theorem emitP {w : World} {p : Program} {loose : List Str} {mean : ExcName → Option Value} {mg mb : Str → Option Value} {x dx co dc cl st l : Addr} {vs : List Value} {ns : List Int} {ha hc : Nat → Int} {ta tc : Nat → Tok} {v0 v3 v4 v5 v6 v7 v8 vm : Value} {na nc n1 n2 : Nat} {cls sts : List Value} {rule note : Value}
    (hi : IntsAre vs ns) (hu : ∀ x ∈ ns, x ∈ uni) (hcs : @Ne Nat cl st) (hln : l ∉ [x, dx, co, dc, cl, st]) (hl1 : cls.length ≤ 100) (hl2 : sts.length ≤ 100) :
    CtrN w (top0.heap_1 w.params) p loose mean mg mb 9 120 406 (fun h => SeqIn h l vs)
      [(x, instObj 465 dx), (dx, dictOf (mkD ha ta v0 (.ref co) .none v3 v4 v5 v6 v7 v8) na), (co, instObj 325 dc), (dc, dictOf (coD hc tc vm (.ref cl) (.ref st)) nc), (cl, listOf cls.toArray n1), (st, listOf sts.toArray n2)] [.ref x, rule, .ref l, note]
      (fun v news' => v = .none ∧ (∀ q ∈ [(x, instObj 465 dx), (dx, dictOf (mkD ha ta v0 (.ref co) .none v3 v4 v5 v6 v7 v8) na), (co, instObj 325 dc), (dc, dictOf (coD hc tc vm (.ref cl) (.ref st)) nc)], q ∈ news') ∧ ((tidyL ns = none ∧ (cl, listOf cls.toArray n1) ∈ news' ∧ (st, listOf sts.toArray n2) ∈ news') ∨ ∃ ts a vs' n n1' n2', tidyL ns = some ts ∧ (a, tupO vs' n) ∈ news' ∧ IntsAre vs' ts ∧ (cl, listOf (cls ++ [Value.ref a]).toArray n1') ∈ news' ∧ (st, listOf (sts ++ [Value.none]).toArray n2') ∈ news') ∧ PySem.Challenge.rw_rg0215_01.row.prog = PySem.Challenge.rw_rg0215_01.row.prog) := by
  k_fill
  intro dp un gd env outer A₀ base h₀ L m s Q E B F X N T hf hk hd hu' hseq hret
  have k1 := ne_cls (a := x) (b := cl) N (by k_mem) (by k_mem) (by rfl)
  have k2 := ne_cls (a := dx) (b := cl) N (by k_mem) (by k_mem) (by rfl)
  have k3 := ne_cls (a := co) (b := cl) N (by k_mem) (by k_mem) (by rfl)
  have k4 := ne_cls (a := dc) (b := cl) N (by k_mem) (by k_mem) (by rfl)
  have k5 := ne_cls (a := x) (b := st) N (by k_mem) (by k_mem) (by rfl)
  have k6 := ne_cls (a := dx) (b := st) N (by k_mem) (by k_mem) (by rfl)
  have k7 := ne_cls (a := co) (b := st) N (by k_mem) (by k_mem) (by rfl)
  have k8 := ne_cls (a := dc) (b := st) N (by k_mem) (by k_mem) (by rfl)
  (refine wpAny_call ?_; k_dflt (refine' callOffN ?k1 ?k2 ?k3 ?k4 ?k5 ?kA ?kF ?kK ?k6 ?k7 ?k8 ?k9 ?kB ?_ ?c2 ?c3 ?c4 ?c5; (case kA => exact rfl); (case kF => assumption); (case kK => assumption); (case k1 => k_asm); (case k2 => k_asm); (case k3 => k_asm); (case k4 => k_asm); (case k5 => k_asm); (case k6 => k_is); (case k7 => k_is); (case k8 => ((try dsimp only); omega)); (case k9 => exact BindsTo.of_eq rfl); (case c5 => decide); (case kB => exact locs rfl); (case c2 => exact rfl); (case c3 => exact rfl); (case c4 => exact rfl); k_whole; intro g' L' h' FG' F' N' B' X' T' G'; (try dsimp only); (try k_lift B'); (try k_fold)))
  k_with_none
  k_with "LeaveN" => (k_dflt (refine' leaveN_ ?k1 ?k2 ?_; (case k1 => k_asm); (case k2 => k_asm); k_whole); intro kF kN kO kW)
  k_with "call ref" => ((with_reducible show wpAny _ _ (call (Value.ref _) [Value.ref _]) _ _ _); k_dflt (k_extra "my tidy"))
  k_with "call builtin:list.append" => (k_here; k_dflt (refine' append_K ?k1 ?k2 ?k3 ?_ ?z; (case k1 => k_asm); (case k2 => k_asm); (case k3 => k_upd); (case z => (simp only [List.size_toArray, sizeLine_eq]; omega)); k_whole); intro h' F' N'; (try simp only [List.push_toArray] at N'); (try k_sweep))
  k_with "call builtin:len" => (k_here; k_dflt (refine PyProof.Rows.len_tuple ⟨_, News.get (by k_asm) (by k_mem), rfl, _, rfl⟩ (by assumption) ?_))
  k_with "k_room" => ((try simp only [depth_under_make, depth_under_kw, depth_in1, depth_deeper, depth_caller]); (try dsimp only [top]); omega)
  w_on
  rename GSub _ _ _ => G9
  have hg := gsub_seq' G9 hln hseq
  have HI : ∀ _ : Unit, IntsAre vs ns := fun _ => hi
  k_with_none
  k_with "LeaveN" => (k_dflt (refine' leaveN_ ?k1 ?k2 ?_; (case k1 => k_asm); (case k2 => k_asm); k_whole); intro kF kN kO kW)
  k_with "call ref" => ((with_reducible show wpAny _ _ (call (Value.ref _) [Value.ref _]) _ _ _); k_dflt (k_extra "my tidy"))
  k_with "call builtin:list.append" => (k_here; k_dflt (refine' append_K ?k1 ?k2 ?k3 ?_ ?z; (case k1 => k_asm); (case k2 => k_asm); (case k3 => k_upd); (case z => (simp only [List.size_toArray, sizeLine_eq]; omega)); k_whole); intro h' F' N'; (try simp only [List.push_toArray] at N'); (try k_sweep))
  k_with "call builtin:len" => (k_here; k_dflt (refine PyProof.Rows.len_tuple ⟨_, News.get (by k_asm) (by k_mem), rfl, _, rfl⟩ (by assumption) ?_))
  k_with "k_room" => ((try simp only [depth_under_make, depth_under_kw, depth_in1, depth_deeper, depth_caller]); (try dsimp only [top]); omega)
  k_with "my tidy" => ((with_reducible rename Fr _ _ _ _ => lF'); (with_reducible rename News _ _ _ _ => lN'); (with_reducible rename Below _ _ _ _ => lB); (refine At.useP (dk := 6) (uk := 60) (At.mk rfl rfl lB (by k_asm) (by k_asm) rfl rfl (by show dp + 1 + 6 < recursionLimit; omega) (by show un + 3 + 60 < cLine; omega)) (tidyC (HI ()) hu) lF' News.nil (hg.keeps lF'.keep) ?_); (intro v6 nw6 h6 tk6 F6 N6 hp6 O6); (have N66 := O6.news0 lN'); (obtain ⟨hp6, _⟩ := hp6); (rcases hp6 with ⟨e6, hv6⟩ | ⟨ts, a6, vs6, n6, e6, hv6, m6, i6⟩); (all_goals subst hv6); rotate_left; (have N67 := news_cons N66 N6 m6); (have j1 := ne_cls (a := a6) (b := cl) N67 (by k_mem) (by k_mem) (by rfl)); (have b6 := tidy_fit e6 i6); (have I6 : ∀ _ : Unit, IntsAre vs6 ts := fun _ => i6); (have j2 := ne_cls (a := a6) (b := st) N67 (by k_mem) (by k_mem) (by rfl)); clear N66 N6 O6; rotate_left; clear N6 O6)
  k_steps
  · exact hret _ _ _ _ (by k_asm) (by k_asm) ⟨rfl, (by repeat (first | exact List.forall_mem_nil _ | refine List.forall_mem_cons.mpr ⟨by k_mem, ?_⟩)), .inl ⟨e6, by k_mem, by k_mem⟩, rfl⟩ (by k_asm) (by k_asm)
  · exact hret _ _ _ _ (by k_asm) (by k_asm) ⟨rfl, (by repeat (first | exact List.forall_mem_nil _ | refine List.forall_mem_cons.mpr ⟨by k_mem, ?_⟩)), .inr ⟨ts, a6, vs6, _, _, _, e6, by k_mem, I6 (), by k_mem, by k_mem⟩, rfl⟩ (by k_asm) (by k_asm)
end Mine
end
section
open PySem PySem.W PySem.Calls PyProof.Rows PyProof.V PyProof.Rows.LCg
set_option Elab.async false
set_option maxRecDepth 100000
set_option maxHeartbeats 8000000
namespace Mine
theorem wlist_eq : rangeKs 0 16 = wlist := by decide
theorem pairs_eq : ((rangeKs 1 4).flatMap fun a => ([-1, 1] : List Int).map fun b => b * a) = uni := by decide
theorem ws_eq (ns : List Int) : (rangeKs 0 16).filter (fun wv => decide (ns.filter (fun l => holdsB l wv) = [])) = wsL ns := by rw [wlist_eq]; rfl
theorem ws_bnd {ns : List Int} {k : Int} (h : k ∈ wsL ns) : 0 ≤ k ∧ k < 16 := by
  have q : k ∈ wlist := (List.mem_filter.mp h).1
  have z : ∀ x ∈ wlist, 0 ≤ x ∧ x < 16 := by decide
  exact z k q
theorem ws_len (ns : List Int) : (wsL ns).length ≤ 16 := List.length_filter_le _ _
theorem grows_if (p : Int → Bool) : KPfGrows (fun (l : List Int) k => if p k = true then l ++ [k] else l) := by
  intro l k
  show (if p k = true then l ++ [k] else l).length ≤ l.length + 1
  split
  · simp
  · omega
theorem foldl_if (p : Int → Bool) : ∀ (ns l : List Int), ns.foldl (fun (l : List Int) k => if p k = true then l ++ [k] else l) l = l ++ ns.filter p
  | [], l => by simp
  | n :: r, l => by
    rw [List.foldl_cons, foldl_if p r, List.filter_cons]
    split <;> simp
theorem uni_abs : ∀ x ∈ uni, 1 ≤ x.natAbs ∧ x.natAbs ≤ 4 := by decide
theorem gsub_list {h g : Heap} {l : Addr} {vs : List Value} (G : GSub h g []) (x : h.IsList l vs.toArray) : g.IsList l vs.toArray := x.at fun o e => G _ o e List.not_mem_nil
theorem lawClauseC {w : World} {p : Program} {loose : List Str} {mean : ExcName → Option Value} {mg mb : Str → Option Value} {l : Addr} {vs : List Value} {ns : List Int} (hi : IntsAre vs ns) (hu : ∀ x ∈ ns, x ∈ uni) (hlen : ns.length ≤ 100) :
    CtrN w (top0.heap_1 w.params) p loose mean mg mb 6 120 808 (fun h => h.IsList l vs.toArray) [] [.ref l]
      (fun v news' => ((clauseL ns = none ∧ v = .none) ∨ ∃ ts a vs' n, clauseL ns = some ts ∧ v = .ref a ∧ (a, tupO vs' n) ∈ news' ∧ IntsAre vs' ts) ∧ PySem.Challenge.rw_rg0215_01.row.prog = PySem.Challenge.rw_rg0215_01.row.prog) := by
  k_fill
  intro dp un gd env outer A₀ base h₀ L m s Q E B F X N T hf hk hd hu' hseq hret
  (refine wpAny_call ?_; k_dflt (refine' callOffCN ?k1 ?k2 ?k3 ?k4 ?k5 ?kA ?kF ?kK ?k6 ?k7 ?k8 ?k9 ?kB ?kD ?_ ?c2 ?c3 ?c4; (case kA => exact rfl); (case kF => assumption); (case kK => assumption); (case k1 => k_asm); (case k2 => k_asm); (case k3 => k_asm); (case k4 => k_asm); (case k5 => k_asm); (case k6 => k_is); (case k7 => k_is); (case k8 => ((try dsimp only); omega)); (case k9 => exact BindsTo.of_eq rfl); (case kB => exact rfl); (case kD => decide +kernel); (case c2 => exact rfl); (case c3 => exact rfl); (case c4 => exact rfl); k_whole; intro g' L' h' tk' cells' FG' F' N' Y' B' X' T' l1 G'; (try k_lt l1); k_cells Y'; (try simp only [List.cons_append, List.nil_append] at N'); (try dsimp only); (try k_lift B'); (try k_fold)))
  rename GSub _ _ _ => G9
  have HI : ∀ _ : Unit, IntsAre vs ns := fun _ => hi
  have HG := gsub_list G9 hseq
  k_with_none
  k_with "LeaveN" => (k_dflt (refine' leaveN_ ?k1 ?k2 ?_; (case k1 => k_asm); (case k2 => k_asm); k_whole); intro kF kN kO kW)
  k_with "eval ListComp" => (k_extra "my comp")
  k_with "exec Assign cons ListComp" => (k_extra "my assign")
  k_with "CompSrcT" => (k_extra "my src")
  k_with "SrcX" => (k_extra "my srcx")
  k_with "FinX" => (k_extra "my finx")
  k_with "call ref" => (k_extra "my call")
  k_with "CompEnd" => (k_extra "my cend")
  k_with "KCiEl" => exact kci_el (by rw [if_pos (by assumption)]) rfl rfl
  k_with "KCiNo" => exact kci_no (by rw [if_neg (by assumption)]) rfl
  k_with "KPfGrows" => exact grows_if _
  k_with "compareOp Eq ref ref" => (k_extra "my eq")
  k_with "Exists" => (k_extra "my ex")
  w_on
  k_with_none
  k_with "LeaveN" => (k_dflt (refine' leaveN_ ?k1 ?k2 ?_; (case k1 => k_asm); (case k2 => k_asm); k_whole); intro kF kN kO kW)
  k_with "eval ListComp" => (k_extra "my comp")
  k_with "exec Assign cons ListComp" => (k_extra "my assign")
  k_with "CompSrcT" => (k_extra "my src")
  k_with "SrcX" => (k_extra "my srcx")
  k_with "FinX" => (k_extra "my finx")
  k_with "call ref" => (k_extra "my call")
  k_with "CompEnd" => (k_extra "my cend")
  k_with "KCiEl" => exact kci_el (by rw [if_pos (by assumption)]) rfl rfl
  k_with "KCiNo" => exact kci_no (by rw [if_neg (by assumption)]) rfl
  k_with "KPfGrows" => exact grows_if _
  k_with "compareOp Eq ref ref" => (k_extra "my eq")
  k_with "Exists" => (k_extra "my ex")
  k_with "my comp" => (with_reducible show wpAny _ _ (eval (Expr.ListComp (Expr.Name (Str.ofString "world") _) _ (Scope.mk _ [_, (_, NameKind.cell), _] _ _ _) _) _) _ _ _); (refine filterX (x := Str.ofString "world") (fun wv => decide (ns.filter (fun l => holdsB l wv) = [])) (by k_asm) (by with_unfolding_all rfl) (by rfl) (by decide) (by decide) (by rfl) ?_)
  k_with "my comp" => (with_reducible show wpAny _ _ (eval (Expr.ListComp _ _ (Scope.mk _ [_, (_, NameKind.local), _, _] _ _ _) _) _) _ _ _); k_dflt (refine LCt.ListComp_T (F₀ := by k_asm) (by with_unfolding_all rfl) (by decide) (by rfl) (by decide) (by rfl) ?_)
  k_with "my srcx" => ((with_reducible rename Fr _ _ _ _ => lF'); (with_reducible rename News _ _ _ _ => lN'); (rename IsRange _ _ _ _ _ _ _ _ => lR'); (refine Or.inr ⟨_, _, _, _, _, _, 16, _, rfl, rfl, lF', lN', lR', by decide, by rfl, by decide, ?_, ?_⟩); (intro g8 wv hwv t8 I8 oI8 C8 oC8 D8 ys8 c8 oc8 h8 tk8 E8 R8 F8 N8 hd8 hR8); (have b8 := mem_rangeKs hwv))
  k_with "my src" => ((with_reducible rename Fr _ _ _ _ => lF'); (with_reducible rename News _ _ _ _ => lN'); k_dflt (refine LCt.CompSrcT.base rfl lF' lN' HG (by rw [List.size_toArray, (HI ()).length, sizeLine_eq]; omega) ?_); intro g7; (refine kci_list (fun l k => if holdsB k wv = true then l ++ [k] else l) (HI ()) ?_ ?_ ?_); (intro k7 t7 I7 oI7 C7 oC7 D7 m7 ys7 l7 h7 tk7 E7 hk7 hy7 hn7 hx7 F7 N7 of7 ne7 mk7); (have a7 := uni_abs _ (hu _ hk7)))
  k_with "my call" => ((with_reducible rename Fr _ _ _ _ => lF'); (with_reducible rename News _ _ _ _ => lN'); (with_reducible rename Below _ _ _ _ => lB); (refine At.use (dk := 2) (uk := 20) (At.mk rfl rfl lB (by k_asm) (by k_asm) rfl rfl (by show dp + 1 + 2 < recursionLimit; omega) (by show un + 3 + 20 < cLine; omega)) (holdsT (by omega) (by omega) (by omega) (by omega)) lF' News.nil ?_); (intro v6 nw6 h6 tk6 F6 N6 hp6 O6; obtain ⟨hp6, _⟩ := hp6; subst hp6; have N66 := O6.news0 lN'; clear N6 O6))
  k_with "my cend" => (refine LCg.CompEnd.intro (by k_asm) N66 _ (fun _ h => h) of7 (Or.inl HG) ?_)
  k_with "my eq" => ((with_unfolding_all refine' eq_intsK ?k1 ?k2 ?k3 ?k4 ?k5 ?_; (case k1 => is_list); (case k2 => assumption); (case k3 => is_list); (case k4 => exact IntsAre.nil); (case k5 => (show un + 3 + 64 < cLine; omega)); k_whole))
  k_with "my finx" => (unfold FinX; intro D9 h9 tk9 ys9 F9 N9 o9 hi9; (try simp only [LCg.Off1, and_true] at o9); (try rw [ws_eq] at hi9); (have HI9 : ∀ _ : Unit, IntsAre ys9 _ := fun _ => hi9); (try dsimp only))
  k_with "my assign" => (with_reducible show wpAny _ _ (exec (Stmt.Assign _ (Expr.ListComp _ [_, _] _ _) _) _) _ _ _); k_dflt (refine Assign_pairP (bs := [-1, 1]) (by k_asm) rfl (by with_unfolding_all rfl) (by with_unfolding_all rfl) (by decide) (by rfl) (by decide) (by rfl) (by rfl) (by decide) (by rfl) (by rfl) (by decide) (fun C => tupSrc) ?_)
  k_with "my ex" => ((with_reducible rename Fr _ _ _ _ => lF'); (with_reducible rename News _ _ _ _ => lN'); (rename IsRange _ _ _ _ _ _ _ _ => lR'); k_dflt (refine ⟨_, _, _, _, _, _, 4, _, rfl, rfl, lF', lN', lR', by decide, by rfl, by decide, fun C => mulSrc rfl rfl rfl rfl (by decide) (by decide) (by decide) (by decide), ?_⟩); (intro D5 h5 tk5 ys5 F5 N5 o5 hi5); (try simp only [LCg.Off1, and_true] at o5); rw [pairs_eq] at hi5; (try dsimp only))
  k_with "my comp" => (with_reducible show wpAny _ _ (eval (Expr.ListComp (Expr.Name (Str.ofString "lit") _) _ (Scope.mk _ [_, (_, NameKind.cell), _] _ _ _) _) _) _ _ _); k_dflt (refine filterX (x := Str.ofString "lit") (fun lv => decide ((wsL ns).filter (fun wv => holdsB lv wv) = [])) (by k_asm) (by with_unfolding_all rfl) (by rfl) (by decide) (by decide) (by rfl) ?_)
  k_with "my srcx" => ((with_reducible rename Fr _ _ _ _ => lF'); (with_reducible rename News _ _ _ _ => lN'); k_dflt (refine Or.inl ⟨_, ys5, uni, _, _, rfl, rfl, lF', lN', by k_mem, hi5, by rw [hi5.length, sizeLine_eq]; decide, ?_, ?_⟩); (intro g8 lv hlv t8 I8 oI8 C8 oC8 D8 ys8 c8 oc8 h8 tk8 E8 R8 F8 N8 hd8 hR8); (have a7 := uni_abs _ hlv))
  k_with "my src" => ((with_reducible rename Fr _ _ _ _ => lF'); (with_reducible rename News _ _ _ _ => lN'); k_dflt (refine LCt.CompSrcT.ledger rfl lF' lN' (by k_mem) (by rw [List.size_toArray, (HI9 ()).length, sizeLine_eq]; have := ws_len ns; omega) ?_); intro g7; (refine kci_list (fun l k => if holdsB lv k = true then l ++ [k] else l) (HI9 ()) ?_ ?_ ?_); (intro k7 t7 I7 oI7 C7 oC7 D7 m7 ys7 l7 h7 tk7 E7 hk7 hy7 hn7 hx7 F7 N7 of7 ne7 mk7); (have b8 := ws_bnd hk7))
  k_with "my cend" => (refine LCg.CompEnd.intro (by k_asm) N66 _ (fun _ h => h) of7 (Or.inr ⟨_, by k_mem, rfl, _, rfl⟩) ?_)
  k_with "my cend" => (refine LCg.CompEnd.intro (by k_asm) N66 _ (fun _ h => h) of7 (Or.inl HG) ?_)
  k_steps
  · have e : ns.foldl (fun (l : List Int) k => if holdsB k wv = true then l ++ [k] else l) [] = ns.filter (fun k => holdsB k wv) := by simpa using foldl_if (fun k => holdsB k wv) ns []
    rw [e]
    exact hR8 _ _ (by k_asm) (cb_drop (by k_asm) (by lcg_sub))
  · exact hret _ _ _ _ (by k_asm) (by k_asm) ⟨.inl ⟨by unfold clauseL; rw [if_pos (of_decide_eq_true (by assumption))], rfl⟩, rfl⟩ (by k_asm) (by k_asm)
  · have e : (wsL ns).foldl (fun (l : List Int) k => if holdsB lv k = true then l ++ [k] else l) [] = (wsL ns).filter (fun k => holdsB lv k) := by simpa using foldl_if (fun k => holdsB lv k) (wsL ns) []
    rw [e]
    exact hR8 _ _ (by k_asm) (cb_drop (by k_asm) (by lcg_sub))
  · exact hret _ _ _ _ (by k_asm) (by k_asm) ⟨.inr ⟨_, _, _, _, by unfold clauseL; rw [if_neg (of_decide_eq_false (by assumption))], rfl, by k_mem, HI9 ()⟩, rfl⟩ (by k_asm) (by k_asm)
end Mine
end
section
open PySem PySem.W PySem.Calls PyProof.Rows PyProof.V PyProof.Rows.LCg
set_option Elab.async false
set_option maxRecDepth 100000
set_option maxHeartbeats 8000000
namespace Mine
theorem uni_abs2 : ∀ x ∈ uni, 1 ≤ x.natAbs ∧ x.natAbs ≤ 4 := by decide
theorem Off.news_same {h₀ h h' : Heap} {L : Addr} {sub news nw : List (Addr × Obj)} (O : Off h (sub.map (·.1)) h') (N : News h₀ L h news) (N0 : News h₀ L h sub) (N' : News h₀ L h' nw) (hs : ∀ q ∈ sub, q ∈ nw) : News h₀ L h' news := by
  intro q hq
  have z := N q hq
  by_cases hm : q.1 ∈ sub.map (·.1)
  · obtain ⟨t, ht, e⟩ := List.mem_map.mp hm
    have y := (N0 t ht).1
    have y' := (N' t (hs t ht)).1
    rw [e, z.1] at y
    injection y with y
    exact ⟨by rw [← e, y', y], z.2⟩
  · exact ⟨O _ _ z.1 hm, z.2⟩
theorem News.only {h₀ h : Heap} {L a : Addr} {o : Obj} {news : List (Addr × Obj)} (N : News h₀ L h news) (hm : (a, o) ∈ news) : News h₀ L h [(a, o)] := fun q hq => by rw [List.mem_singleton.mp hq]; exact N _ hm
theorem uni_pair : uni.Pairwise fun a b => a.natAbs < b.natAbs ∨ a = -b := by decide
theorem pair_filter {P : Int → Bool} (hx : ∀ a b, P a = true → P b = true → a ≠ -b) : ∀ {l : List Int}, l.Pairwise (fun a b => a.natAbs < b.natAbs ∨ a = -b) → (l.filter P).Pairwise fun a b => a.natAbs < b.natAbs
  | [], _ => .nil
  | a :: r, h => by
    cases h with
    | cons h1 h2 =>
      rw [List.filter_cons]
      split
      · refine .cons (fun b hb => ?_) (pair_filter hx h2)
        obtain ⟨hb1, hb2⟩ := List.mem_filter.mp hb
        rcases h1 b hb1 with q | q
        · exact q
        · exact absurd q (hx _ _ (by assumption) hb2)
      · exact pair_filter hx h2
theorem pair_len : ∀ {l : List Int} {k : Nat}, l.Pairwise (fun a b => a.natAbs < b.natAbs) → (∀ x ∈ l, k < x.natAbs ∧ x.natAbs ≤ 4) → l.length + k ≤ 4 ∨ l = []
  | [], _, _, _ => .inr rfl
  | a :: r, k, h, b => by
    cases h with
    | cons h1 h2 =>
      have ha := b a List.mem_cons_self
      rcases pair_len (k := a.natAbs) h2 (fun x hx => ⟨h1 x hx, (b x (List.mem_cons_of_mem _ hx)).2⟩) with q | q
      · left; rw [List.length_cons]; omega
      · subst q; left; show 0 + 1 + k ≤ 4; omega
theorem tidy_ok {ns ts : List Int} (hu : ∀ x ∈ ns, x ∈ uni) (h : tidyL ns = some ts) : ts.length ≤ 4 ∧ (ts.Pairwise fun a b => a.natAbs < b.natAbs) ∧ ∀ x ∈ ts, x ≠ 0 := by
  unfold tidyL at h
  cases q : keptL ns with
  | none => rw [q] at h; cases h
  | some ks =>
    rw [q] at h
    have e : uni.filter (fun l => decide (l ∈ ks)) = ts := Option.some.inj h
    obtain ⟨k1, k2, k3⟩ := kept_ok hu q
    have hb : ∀ x ∈ ts, x ∈ uni := fun x hx => (List.mem_filter.mp (e ▸ hx)).1
    have hp : ts.Pairwise fun a b => a.natAbs < b.natAbs := by
      rw [← e]
      exact pair_filter (fun a b ha hb e => k3 b (of_decide_eq_true hb) (e ▸ of_decide_eq_true ha)) uni_pair
    refine ⟨?_, hp, fun x hx z => ?_⟩
    · rcases pair_len (k := 0) hp (fun x hx => by have := uni_abs2 x (hb x hx); omega) with q | q
      · omega
      · rw [q]; decide
    · have := uni_abs2 x (hb x hx); omega
noncomputable abbrev rulesL : List Str := ["input", "define", "ite_term", "three", "bits", "congruence", "farkas", "branch", "divide", "cut", "resolve"].map Str.ofString
theorem rules_any {r : Str} (h : r ∈ rulesL) : rulesL.any (· == r) = true := List.any_eq_true.mpr ⟨r, h, by simp⟩
theorem notin_rules {prog : Program} {w : World} {A : Around} {E : Value → Shared → Prop} {s : Shared} {t : Addr} {items : Array Value} {r : Str} {u : Tok} {Q : Value → Shared → Prop} (hr : r ∈ rulesL) (ht : IsTup s.heap t items) (hi : StrsAre items.toList rulesL)
    (h : Q (.bool false) s) : wpAny (model prog w) A (compareOp .NotIn (.str r u) (.ref t)) Q E s := notin_tuple_strs ht hi (by rw [rules_any hr]; exact h)
noncomputable abbrev pfD (hs : Nat → Int) (ts : Nat → Tok) (steps named empty : Value) : List DictEntry := [ent "steps" (hs 0) (ts 0) steps, ent "named" (hs 1) (ts 1) named, ent "empty" (hs 2) (ts 2) empty]
noncomputable abbrev tup0 (n : Nat) : Obj := { cls := .type "tuple", data := .seq #[] n }
noncomputable abbrev stepO (rule : Value) (a u : Addr) (note : Value) (n : Nat) : Obj := { cls := .type "tuple", data := .seq #[rule, .ref a, .ref u, note] n }
theorem emitF {w : World} {p : Program} {loose : List Str} {mean : ExcName → Option Value} {mg mb : Str → Option Value} {x dx co dc cl st pf dp ps l : Addr} {vs : List Value} {ns : List Int} {ha hc hp : Nat → Int} {ta tc tp : Nat → Tok} {v0 v3 v4 v5 v6 v7 v8 vm vn : Value} {na nc n1 n2 n3 : Nat} {cls sts stp : List Value} {r : Str} {tr : Tok} {note : Value} {em : Int} {te : Tok}
    (hi : IntsAre vs ns) (hu : ∀ x ∈ ns, x ∈ uni) (hln : l ∉ [x, dx, co, dc, cl, st, pf, dp, ps]) (hl1 : cls.length ≤ 100) (hl2 : sts.length ≤ 100) (hl3 : stp.length ≤ 100) (hr : r ∈ rulesL)
    (e12 : @Ne Nat cl st) (e13 : @Ne Nat cl ps) (e23 : @Ne Nat st ps) (d12 : @Ne Nat dx dc) (d13 : @Ne Nat dx dp) (d23 : @Ne Nat dc dp) :
    CtrN w (top0.heap_1 w.params) p loose mean mg mb 9 120 406 (fun h => SeqIn h l vs)
      [(x, instObj 465 dx), (dx, dictOf (mkD ha ta v0 (.ref co) (.ref pf) v3 v4 v5 v6 v7 v8) na), (co, instObj 325 dc), (dc, dictOf (coD hc tc vm (.ref cl) (.ref st)) nc), (cl, listOf cls.toArray n1), (st, listOf sts.toArray n2), (pf, instObj 246 dp), (dp, dictOf (pfD hp tp (.ref ps) vn (.int em te)) 3), (ps, listOf stp.toArray n3)] [.ref x, .str r tr, .ref l, note]
      (fun v news' => v = .none ∧ (∀ z ∈ [(x, instObj 465 dx), (dx, dictOf (mkD ha ta v0 (.ref co) (.ref pf) v3 v4 v5 v6 v7 v8) na), (co, instObj 325 dc), (dc, dictOf (coD hc tc vm (.ref cl) (.ref st)) nc), (pf, instObj 246 dp)], z ∈ news') ∧
        ((tidyL ns = none ∧ ∀ z ∈ [(cl, listOf cls.toArray n1), (st, listOf sts.toArray n2), (dp, dictOf (pfD hp tp (.ref ps) vn (.int em te)) 3), (ps, listOf stp.toArray n3)], z ∈ news') ∨
          ∃ ts a vs' n n1' n2' n3' n4' n5' u q te' tp' tn, tidyL ns = some ts ∧ IntsAre vs' ts ∧ ∀ z ∈ [(a, tupO vs' n), (u, tup0 n4'), (q, stepO (.str r tr) a u note n5'), (cl, listOf (cls ++ [Value.ref a]).toArray n1'), (st, listOf (sts ++ [Value.int stp.length tn]).toArray n2'), (dp, dictOf (pfD hp tp' (.ref ps) vn (.int (if ts = [] ∧ em < 0 then stp.length else em) te')) 3), (ps, listOf (stp ++ [Value.ref q]).toArray n3')], z ∈ news') ∧ PySem.Challenge.rw_rg0215_01.row.prog = PySem.Challenge.rw_rg0215_01.row.prog) := by
  k_fill
  intro dp' un gd env outer A₀ base h₀ L m s Q E B F X N T hf hk hd hu' hseq hret
  have k1 := ne_cls (a := x) (b := cl) N (by k_mem) (by k_mem) (by rfl)
  have k2 := ne_cls (a := x) (b := st) N (by k_mem) (by k_mem) (by rfl)
  have k3 := ne_cls (a := x) (b := ps) N (by k_mem) (by k_mem) (by rfl)
  have k4 := ne_cls (a := dx) (b := cl) N (by k_mem) (by k_mem) (by rfl)
  have k5 := ne_cls (a := dx) (b := st) N (by k_mem) (by k_mem) (by rfl)
  have k6 := ne_cls (a := dx) (b := ps) N (by k_mem) (by k_mem) (by rfl)
  have k7 := ne_cls (a := co) (b := cl) N (by k_mem) (by k_mem) (by rfl)
  have k8 := ne_cls (a := co) (b := st) N (by k_mem) (by k_mem) (by rfl)
  have k9 := ne_cls (a := co) (b := ps) N (by k_mem) (by k_mem) (by rfl)
  have k10 := ne_cls (a := dc) (b := cl) N (by k_mem) (by k_mem) (by rfl)
  have k11 := ne_cls (a := dc) (b := st) N (by k_mem) (by k_mem) (by rfl)
  have k12 := ne_cls (a := dc) (b := ps) N (by k_mem) (by k_mem) (by rfl)
  have k13 := ne_cls (a := pf) (b := cl) N (by k_mem) (by k_mem) (by rfl)
  have k14 := ne_cls (a := pf) (b := st) N (by k_mem) (by k_mem) (by rfl)
  have k15 := ne_cls (a := pf) (b := ps) N (by k_mem) (by k_mem) (by rfl)
  have k16 := ne_cls (a := dp) (b := cl) N (by k_mem) (by k_mem) (by rfl)
  have k17 := ne_cls (a := dp) (b := st) N (by k_mem) (by k_mem) (by rfl)
  have k18 := ne_cls (a := dp) (b := ps) N (by k_mem) (by k_mem) (by rfl)
  have k19 := ne_cls (a := x) (b := dp) N (by k_mem) (by k_mem) (by rfl)
  have k20 := ne_cls (a := co) (b := dp) N (by k_mem) (by k_mem) (by rfl)
  have k21 := ne_cls (a := pf) (b := dp) N (by k_mem) (by k_mem) (by rfl)
  (refine wpAny_call ?_; k_dflt (refine' callOffN ?k1 ?k2 ?k3 ?k4 ?k5 ?kA ?kF ?kK ?k6 ?k7 ?k8 ?k9 ?kB ?_ ?c2 ?c3 ?c4 ?c5; (case kA => exact rfl); (case kF => assumption); (case kK => assumption); (case k1 => k_asm); (case k2 => k_asm); (case k3 => k_asm); (case k4 => k_asm); (case k5 => k_asm); (case k6 => k_is); (case k7 => k_is); (case k8 => ((try dsimp only); omega)); (case k9 => exact BindsTo.of_eq rfl); (case c5 => decide); (case kB => exact locs rfl); (case c2 => exact rfl); (case c3 => exact rfl); (case c4 => exact rfl); k_whole; intro g' L' h' FG' F' N' B' X' T' G'; (try dsimp only); (try k_lift B'); (try k_fold)))
  k_with_none
  k_with "LeaveN" => (k_dflt (refine' leaveN_ ?k1 ?k2 ?_; (case k1 => k_asm); (case k2 => k_asm); k_whole); intro kF kN kO kW)
  k_with "k_room" => ((try simp only [depth_under_make, depth_under_kw, depth_in1, depth_deeper, depth_caller]); (try dsimp only [top]); omega)
  k_with "k_ne" => (refine neN ?_; (try dsimp only); first | with_reducible assumption | (refine Ne.symm ?_; with_reducible assumption))
  k_with "call ref" => ((with_reducible show wpAny _ _ (call (Value.ref _) [Value.ref _]) _ _ _); k_dflt (k_extra "my call"))
  k_with "call builtin:list.append" => (k_here; k_dflt (refine' append_K ?k1 ?k2 ?k3 ?_ ?z; (case k1 => k_asm); (case k2 => k_asm); (case k3 => k_upd); (case z => (simp only [List.size_toArray, sizeLine_eq]; omega)); k_whole); intro h' F' N'; (try simp only [List.push_toArray] at N'); (try k_sweep))
  k_with "call builtin:len" => ((with_reducible show wpAny _ _ (call (Value.builtin "len") [Value.ref _]) _ _ _); k_here; first | k_dflt (refine PyProof.Rows.len_list (News.isList (by k_asm) (by k_mem)) (by simp only [List.size_toArray]; omega) ?_) | k_dflt (refine PyProof.Rows.len_tuple ⟨_, News.get (by k_asm) (by k_mem), rfl, _, rfl⟩ (by assumption) ?_)); (try simp only [List.size_toArray])
  k_with "compareOp NotIn str ref" => (k_dflt (k_extra "my notin"))
  w_on
  rename GSub _ _ _ => G9
  have hg := gsub_seq' G9 hln hseq
  have HI : ∀ _ : Unit, IntsAre vs ns := fun _ => hi
  k_with_none
  k_with "LeaveN" => (k_dflt (refine' leaveN_ ?k1 ?k2 ?_; (case k1 => k_asm); (case k2 => k_asm); k_whole); intro kF kN kO kW)
  k_with "k_room" => ((try simp only [depth_under_make, depth_under_kw, depth_in1, depth_deeper, depth_caller]); (try dsimp only [top]); omega)
  k_with "k_ne" => (refine neN ?_; (try dsimp only); first | with_reducible assumption | (refine Ne.symm ?_; with_reducible assumption))
  k_with "call ref" => ((with_reducible show wpAny _ _ (call (Value.ref _) [Value.ref _]) _ _ _); k_dflt (k_extra "my call"))
  k_with "call builtin:list.append" => (k_here; k_dflt (refine' append_K ?k1 ?k2 ?k3 ?_ ?z; (case k1 => k_asm); (case k2 => k_asm); (case k3 => k_upd); (case z => (simp only [List.size_toArray, sizeLine_eq]; omega)); k_whole); intro h' F' N'; (try simp only [List.push_toArray] at N'); (try k_sweep))
  k_with "call builtin:len" => ((with_reducible show wpAny _ _ (call (Value.builtin "len") [Value.ref _]) _ _ _); k_here; first | k_dflt (refine PyProof.Rows.len_list (News.isList (by k_asm) (by k_mem)) (by simp only [List.size_toArray]; omega) ?_) | k_dflt (refine PyProof.Rows.len_tuple ⟨_, News.get (by k_asm) (by k_mem), rfl, _, rfl⟩ (by assumption) ?_)); (try simp only [List.size_toArray])
  k_with "compareOp NotIn str ref" => (k_dflt (k_extra "my notin"))
  k_with "my call" => ((with_reducible rename Fr _ _ _ _ => lF'); (with_reducible rename News _ _ _ _ => lN'); (with_reducible rename Below _ _ _ _ => lB); (refine At.useP (dk := 6) (uk := 60) (At.mk rfl rfl lB (by k_asm) (by k_asm) rfl rfl (by show dp' + 1 + 6 < recursionLimit; omega) (by show un + 3 + 60 < cLine; omega)) (tidyC (HI ()) hu) lF' News.nil (hg.keeps lF'.keep) ?_); (intro v6 nw6 h6 tk6 F6 N6 hp6 O6); (have N66 := O6.news0 lN'); (obtain ⟨hp6, _⟩ := hp6); (rcases hp6 with ⟨e6, hv6⟩ | ⟨ts, a6, vs6, n6, e6, hv6, m6, i6⟩); (all_goals subst hv6); rotate_left; (have N67 := news_cons N66 N6 m6); (have j1 := ne_cls (a := a6) (b := cl) N67 (by k_mem) (by k_mem) (by rfl)); (have j2 := ne_cls (a := a6) (b := st) N67 (by k_mem) (by k_mem) (by rfl)); (have j3 := ne_cls (a := a6) (b := ps) N67 (by k_mem) (by k_mem) (by rfl)); (have j4 := ne_cls (a := a6) (b := dp) N67 (by k_mem) (by k_mem) (by rfl)); (have b6 := tidy_fit e6 i6); (have I6 : ∀ _ : Unit, IntsAre vs6 ts := fun _ => i6); clear N66 N6 O6; rotate_left; clear N6 O6)
  k_with "my notin" => (with_reducible show wpAny _ _ (compareOp CmpOp.NotIn (Value.str _ _) (Value.ref _)) _ _ _); (with_unfolding_all refine' notin_rules hr ?k1 ?k2 ?_; (case k1 => exact kun_topT (by k_asm) (by k_asm) (by k_is)); (case k2 => kde_strs); k_whole)
  k_with "my call" => (with_reducible show wpAny _ _ (call (Value.ref _) [Value.ref _]) _ _ _); ((with_reducible rename Fr _ _ _ _ => lF'); (with_reducible rename News _ _ _ _ => lN'); (with_reducible rename Below _ _ _ _ => lB); (have sN := News.only lN' (a := a6) (o := tupO vs6 n6) (by k_mem)); (refine At.use (dk := 2) (uk := 20) (At.mk rfl rfl lB (by k_asm) (by k_asm) rfl rfl (by show dp' + 1 + 1 + 2 < recursionLimit; omega) (by show un + 3 + 3 + 20 < cLine; omega)) (isTidyT (I6 ()) (tidy_ok hu e6).1 (tidy_ok hu e6).2.1 (tidy_ok hu e6).2.2) lF' sN ?_); (intro v8 nw8 h8 tk8 F8 N8 hp8 O8); (obtain ⟨hv8, hm8, _⟩ := hp8); subst hv8; (have N88 := Off.news_same O8 lN' sN N8 (List.forall_mem_cons.mpr ⟨hm8, List.forall_mem_nil _⟩)); clear N8 O8 sN)
  k_steps
  · exact hret _ _ _ _ (by k_asm) (by k_asm) ⟨rfl, (by repeat (first | exact List.forall_mem_nil _ | refine List.forall_mem_cons.mpr ⟨by k_mem, ?_⟩)), .inl ⟨e6, (by repeat (first | exact List.forall_mem_nil _ | refine List.forall_mem_cons.mpr ⟨by k_mem, ?_⟩))⟩, rfl⟩ (by k_asm) (by k_asm)
  · have hl9 := (I6 ()).length
    rename ((List.length vs6 : Int) = 0) => hz9
    have hts : ts = [] := List.eq_nil_of_length_eq_zero (by omega)
    have hif : (if ts = [] ∧ em < 0 then (stp.length : Int) else em) = stp.length := if_pos ⟨hts, by assumption⟩
    refine' hret _ _ _ _ (by k_asm) (by k_asm) ⟨rfl, (by repeat (first | exact List.forall_mem_nil _ | refine List.forall_mem_cons.mpr ⟨by k_mem, ?_⟩)), .inr ⟨ts, a6, vs6, _, _, _, _, _, _, _, _, _, tp, _, e6, I6 (), ?_⟩, rfl⟩ (by k_asm) (by k_asm)
    rotate_right
    rw [hif]
    repeat (first | exact List.forall_mem_nil _ | refine List.forall_mem_cons.mpr ⟨by k_mem, ?_⟩)
  · have hl9 := (I6 ()).length
    rename ((List.length vs6 : Int) = 0) => hz9
    have hts : ts = [] := List.eq_nil_of_length_eq_zero (by omega)
    have hif : (if ts = [] ∧ em < 0 then (stp.length : Int) else em) = em := if_neg fun h => absurd h.2 (by assumption)
    refine' hret _ _ _ _ (by k_asm) (by k_asm) ⟨rfl, (by repeat (first | exact List.forall_mem_nil _ | refine List.forall_mem_cons.mpr ⟨by k_mem, ?_⟩)), .inr ⟨ts, a6, vs6, _, _, _, _, _, _, _, _, _, tp, _, e6, I6 (), ?_⟩, rfl⟩ (by k_asm) (by k_asm)
    rotate_right
    rw [hif]
    repeat (first | exact List.forall_mem_nil _ | refine List.forall_mem_cons.mpr ⟨by k_mem, ?_⟩)
  · have hl9 := (I6 ()).length
    rename ((List.length vs6 : Int) ≠ 0) => hz9
    have hif : (if ts = [] ∧ em < 0 then (stp.length : Int) else em) = em := if_neg fun h => hz9 (by rw [h.1] at hl9; rw [hl9]; rfl)
    refine' hret _ _ _ _ (by k_asm) (by k_asm) ⟨rfl, (by repeat (first | exact List.forall_mem_nil _ | refine List.forall_mem_cons.mpr ⟨by k_mem, ?_⟩)), .inr ⟨ts, a6, vs6, _, _, _, _, _, _, _, _, _, tp, _, e6, I6 (), ?_⟩, rfl⟩ (by k_asm) (by k_asm)
    rotate_right
    rw [hif]
    repeat (first | exact List.forall_mem_nil _ | refine List.forall_mem_cons.mpr ⟨by k_mem, ?_⟩)
end Mine
end
section
open PySem PySem.W PySem.Calls PyProof.Rows PyProof.V PyProof.Rows.LCg
set_option Elab.async false
set_option maxRecDepth 100000
set_option maxHeartbeats 8000000
namespace Mine
section
variable {prog : Program} {w : World} {A : Around} {E : Value → Shared → Prop} {s : Shared} {h₀ : Heap} {L : Addr} {m : Str → Option Value} {env : Env}
theorem rest_ind {elt : Expr} {x : Str} {scope : Scope} {cl : List (Str × Addr)} {S : List (Addr × Obj) → Prop} {P : Nat → Value → Prop} {Fin : List Value → List (Addr × Obj) → Prop} {n : Nat} (Inv : Nat → List Value → List (Addr × Obj) → Prop)
    (step : ∀ i ys news v I oI C oC D m₂ h tk (E' : Value → Shared → Prop), i < n → Inv i ys news → P i v → NsObj oC m₂ → m₂ x = some v → Fr h₀ L h m → News h₀ L h ((I, oI) :: (C, oC) :: (D, lst ys) :: news) → Off3 I C D news → ((@Ne Nat I C) ∧ (@Ne Nat I D) ∧ (@Ne Nat C D)) →
      wpAny (model prog w) A (eval elt (compEnvC scope cl C env)) (CompEnd h₀ L m { s with heap := h, toks := tk } I oI C oC D (lst ys) S (fun y news' => Inv (i + 1) (ys ++ [y]) news')) E' { s with heap := h, toks := tk })
    (fin : ∀ ys news, Inv n ys news → Fin ys news) : ∀ k i ys news, i + k = n → Inv i ys news → CompRest prog w A h₀ L m env elt x scope cl s S P Fin k i ys news
  | 0, i, ys, news, e, hi => by
    obtain rfl : i = n := by omega
    exact fin ys news hi
  | k + 1, i, ys, news, e, hi => by
    intro v I oI C oC D m₂ h tk E' hP hC hx F N o3 ne
    refine wpAny_mono (step i ys news v I oI C oC D m₂ h tk E' (by omega) hi hP hC hx F N o3 ne) (fun y s₂ q => ?_) fun _ _ e => e
    obtain ⟨h', tk', news', e', F', N', o', S', r⟩ := q
    exact ⟨h', tk', news', e', F', N', o', S', rest_ind Inv step fin k (i + 1) _ _ (by omega) r⟩
theorem strs_get : ∀ {vs : List Value} {rs : List Str}, StrsAre vs rs → ∀ j, j < rs.length → ∃ r t, vs[j]? = some (.str r t) ∧ r ∈ rs
  | _, _, .nil, j, h => absurd h (Nat.not_lt_zero _)
  | _, _, .cons x t _, 0, _ => ⟨x, t, rfl, .head _⟩
  | _, _, .cons _ _ r, j + 1, h => by
    obtain ⟨y, t, a, b⟩ := strs_get r j (Nat.lt_of_succ_lt_succ h)
    exact ⟨y, t, a, .tail _ b⟩
theorem seq_at {k : Int} {n : Nat} (h0 : 0 ≤ k) (h1 : k < n) : seqIndex? k n = some k.toNat := by
  unfold seqIndex?
  simp only [show ¬ k < 0 by omega, if_false, h0, h1, decide_true, Bool.and_self, if_true]
theorem rules_item {value slice : Expr} {t : Addr} {items : Array Value} {k : Int} {u : Tok} {Q : Value → Shared → Prop} (ht : IsTup s.heap t items) (hi : StrsAre items.toList rulesL) (h0 : 0 ≤ k) (h1 : k < 11)
    (h : ∀ r tr, r ∈ rulesL → Q (.str r tr) s) (hs : subscripted slice false (.ref t) (.int k u) = operate [.ref t, .int k u] (getItem (.ref t) (.int k u)) := by with_unfolding_all rfl) :
    wpAny (model prog w) A (subscriptTail value slice (.ref t) (.int k u)) Q E s := by
  obtain ⟨r, tr, a, b⟩ := strs_get hi k.toNat (by show k.toNat < 11; omega)
  have hl : items.toList.length = 11 := strs_len hi
  exact item_tupleT (l := items.toList) (by simpa using ht) (by omega) (by omega) (seq_at h0 (by rw [hl]; exact h1)) a (h r tr b) hs
where strs_len : ∀ {vs : List Value} {rs : List Str}, StrsAre vs rs → vs.length = rs.length
  | _, _, .nil => rfl
  | _, _, .cons _ _ r => by rw [List.length_cons, List.length_cons, strs_len r]
theorem menu_item {value slice : Expr} {t : Addr} {l : List Value} {k : Int} {u : Tok} {Q : Value → Shared → Prop} (ht : IsTup s.heap t l.toArray) (h0 : 0 ≤ k) (h1 : k < l.length) (h2 : l.length ≤ 100)
    (h : ∀ v, v ∈ l → Q v s) (hs : subscripted slice false (.ref t) (.int k u) = operate [.ref t, .int k u] (getItem (.ref t) (.int k u)) := by with_unfolding_all rfl) :
    wpAny (model prog w) A (subscriptTail value slice (.ref t) (.int k u)) Q E s := by
  have hk : k.toNat < l.length := by omega
  exact item_tupleT ht (by omega) (by omega) (seq_at h0 h1) (List.getElem?_eq_getElem hk) (h _ (List.getElem_mem hk)) hs
end
/-- a row that is due: rule, clause, note -/
noncomputable abbrev Row := Str × List Int × Dat
noncomputable def clD (r : Row) : Dat := .tuple (r.2.1.map Dat.int)
noncomputable def rowD (r : Row) : Dat := .tuple [.str r.1, clD r, .tuple [], r.2.2]
noncomputable def NoteOk (d : Dat) : Prop := kqdOk 6 d = true
structure RowOk (r : Row) : Prop where
  rule : r.1 ∈ rulesL
  note : NoteOk r.2.2
theorem kqd_ints : ∀ (n : Nat) (l : List Int), ∀ d ∈ l.map Dat.int, kqdOk n d = true := by
  intro n l d hd
  obtain ⟨i, _, rfl⟩ := List.mem_map.mp hd
  cases n <;> rfl
theorem clD_ok (r : Row) (n : Nat) : kqdOk (n + 1) (clD r) = true := by
  unfold clD
  simp only [kqdOk, List.all_eq_true]
  exact kqd_ints n _
theorem rules_ok : ∀ r ∈ rulesL, PyData.strOk r = true := by decide +kernel
theorem kqd_mono : ∀ (n : Nat) (d : Dat), kqdOk n d = true → kqdOk (n + 1) d = true := by
  intro n
  induction n with
  | zero => intro d h; cases d <;> simp_all [kqdOk]
  | succ n ih =>
    intro d h
    cases d with
    | tuple ds => simp only [kqdOk, List.all_eq_true] at h ⊢; exact fun x hx => ih x (h x hx)
    | list ds => simp only [kqdOk, List.all_eq_true] at h ⊢; exact fun x hx => ih x (h x hx)
    | none => rfl
    | int => rfl
    | str => exact h
    | bool => exact h
    | bytes => exact h
theorem rowD_ok {r : Row} (h : RowOk r) : kqdOk 8 (rowD r) = true := by
  unfold rowD
  simp only [kqdOk, List.all_cons, List.all_nil, Bool.and_true, Bool.and_eq_true]
  exact ⟨rules_ok _ h.rule, clD_ok r 6, trivial, kqd_mono 6 _ h.note⟩
theorem rows_ok {rs : List Row} (h : ∀ r ∈ rs, RowOk r) : ∀ d ∈ rs.map rowD, kqdOk 8 d = true := by
  intro d hd
  obtain ⟨r, hr, rfl⟩ := List.mem_map.mp hd
  exact rowD_ok (h r hr)
theorem cls_ok (rs : List Row) : ∀ d ∈ rs.map clD, kqdOk 8 d = true := by
  intro d hd
  obtain ⟨r, _, rfl⟩ := List.mem_map.mp hd
  exact clD_ok r 7
theorem dat_ints {news : List (Addr × Obj)} {vs : List Value} {ns : List Int} (h : IntsAre vs ns) : DatAll news vs (ns.map Dat.int) := by
  induction h with
  | nil => exact .nil
  | cons k t _ ih => exact .cons (.int k t) ih
theorem dat_none {news : List (Addr × Obj)} : ∀ rs : List Row, DatAll news (rs.map fun _ => Value.none) (rs.map fun _ => Dat.none)
  | [] => .nil
  | _ :: r => .cons .none (dat_none r)
/-- the end of the proof, by the rows -/
noncomputable def emptyAt : List Row → Int → Int
  | [], _ => -1
  | r :: rs, i => if r.2.1 = [] then i else emptyAt rs (i + 1)
theorem emptyAt_snoc : ∀ (rs : List Row) (r : Row) (i : Int), 0 ≤ i → emptyAt (rs ++ [r]) i = if r.2.1 = [] ∧ emptyAt rs i < 0 then i + rs.length else emptyAt rs i
  | [], r, i, h => by
    show (if r.2.1 = [] then i else -1) = if r.2.1 = [] ∧ (-1 : Int) < 0 then i + 0 else -1
    by_cases e : r.2.1 = []
    · rw [if_pos e, if_pos ⟨e, by omega⟩]; omega
    · rw [if_neg e, if_neg fun h => e h.1]
  | x :: rs, r, i, h => by
    show (if x.2.1 = [] then i else emptyAt (rs ++ [r]) (i + 1)) = if r.2.1 = [] ∧ (if x.2.1 = [] then i else emptyAt rs (i + 1)) < 0 then i + ((rs.length + 1 : Nat) : Int) else (if x.2.1 = [] then i else emptyAt rs (i + 1))
    by_cases e : x.2.1 = []
    · rw [if_pos e, if_pos e, if_neg fun h' => by omega]
    · rw [if_neg e, if_neg e, emptyAt_snoc rs r (i + 1) (by omega)]
      by_cases q : r.2.1 = [] ∧ emptyAt rs (i + 1) < 0
      · rw [if_pos q, if_pos q]; omega
      · rw [if_neg q, if_neg q]
noncomputable def endsOf : List Row → Int → List Int
  | [], _ => []
  | r :: rs, i => if r.2.1 = [] then i :: endsOf rs (i + 1) else endsOf rs (i + 1)
theorem ends_head : ∀ (rs : List Row) (i : Int), (endsOf rs i ++ [-1]).head? = some (emptyAt rs i)
  | [], _ => rfl
  | r :: rs, i => by
    unfold endsOf emptyAt
    by_cases e : r.2.1 = []
    · rw [if_pos e, if_pos e]; rfl
    · rw [if_neg e, if_neg e]; exact ends_head rs (i + 1)
end Mine
end
section
open PySem PySem.W PySem.Calls PyProof.Rows PyProof.V PyProof.Rows.LCg
set_option Elab.async false
set_option maxRecDepth 100000
set_option maxHeartbeats 8000000
namespace Mine
/-- the addresses of A stand once in a ledger -/
noncomputable def UA (A : List Addr) : List (Addr × Obj) → Prop
  | [] => True
  | q :: r => (∀ p ∈ r, p.1 = q.1 → q.1 ∉ A) ∧ UA A r
theorem UA.same {A : List Addr} : ∀ {l l' : List (Addr × Obj)}, l.map (·.1) = l'.map (·.1) → UA A l → UA A l'
  | [], [], _, _ => trivial
  | [], _ :: _, e, _ => by cases e
  | _ :: _, [], e, _ => by cases e
  | q :: r, q' :: r', e, h => by
    simp only [List.map_cons, List.cons.injEq] at e
    refine ⟨fun p hp ep => ?_, UA.same e.2 h.2⟩
    have : p.1 ∈ r.map (·.1) := by rw [e.2]; exact List.mem_map_of_mem hp
    obtain ⟨x, hx, ex⟩ := List.mem_map.mp this
    rw [← e.1]
    exact h.1 x hx (ex.trans (ep.trans e.1.symm))
theorem UA.to {A : List Addr} {l l' : List (Addr × Obj)} (h : UA A l) (e : l.map (·.1) = l'.map (·.1)) : UA A l' := h.same e
theorem UA.sub_off {A : List Addr} {q : Addr × Obj} (hq : q.1 ∈ A) {l l' : List (Addr × Obj)} (h : UA A l) (d : Del q l l') : UA A l' ∧ ∀ p ∈ l', p.1 ≠ q.1 := by
  induction d with
  | head => exact ⟨h.2, fun p hp e => h.1 p hp e hq⟩
  | tail d ih =>
    obtain ⟨a, b⟩ := ih h.2
    refine ⟨⟨fun p hp => h.1 p (d.mem.2 p hp), a⟩, fun p hp => ?_⟩
    rcases List.mem_cons.mp hp with rfl | hp
    · exact fun e => h.1 q d.mem.1 e.symm (e ▸ hq)
    · exact b p hp
theorem UA.off {A : List Addr} {S l R : List (Addr × Obj)} (h : UA A l) (d : DelAll S l R) (hS : ∀ q ∈ S, q.1 ∈ A) : UA A R ∧ ∀ q ∈ S, ∀ p ∈ R, p.1 ≠ q.1 := by
  induction d with
  | nil => exact ⟨h, fun _ h => nomatch h⟩
  | cons d1 _ ih =>
    obtain ⟨a, b⟩ := h.sub_off (hS _ (.head _)) d1
    obtain ⟨c, e⟩ := ih a fun q hq => hS q (.tail _ hq)
    refine ⟨c, fun q hq p hp => ?_⟩
    rcases List.mem_cons.mp hq with rfl | hq
    · exact b p (DelAll.mem (by assumption) |>.2 p hp)
    · exact e q hq p hp
theorem UA.append {A : List Addr} {a b : List (Addr × Obj)} (ha : UA A a) (hb : UA A b) (h : ∀ q ∈ a, ∀ p ∈ b, p.1 = q.1 → q.1 ∉ A) : UA A (a ++ b) := by
  induction a with
  | nil => exact hb
  | cons q r ih =>
    refine ⟨fun p hp => ?_, ih ha.2 fun x hx => h x (.tail _ hx)⟩
    rcases List.mem_append.mp hp with hp | hp
    · exact ha.1 p hp
    · exact h q (.head _) p hp
theorem UA.free {A : List Addr} : ∀ {l : List (Addr × Obj)}, (∀ q ∈ l, q.1 ∉ A) → UA A l
  | [], _ => trivial
  | q :: _, h => ⟨fun _ _ _ => h q (.head _), UA.free fun p hp => h p (.tail _ hp)⟩
theorem UA.ltB {A : List Addr} {D : Addr} {news old : List (Addr × Obj)} (o1 : ∀ p ∈ news, p.1 < D) (h : UA A old) (e : old.map (·.1) = news.map (·.1)) : UA A ((D, anyO) :: news) :=
  ⟨fun p hp e => absurd e (Nat.ne_of_lt (o1 p hp)), h.same e⟩
theorem UA.oneB {A : List Addr} {D : Addr} {news old : List (Addr × Obj)} (o1 : Off1 D news) (h : UA A old) (e : old.map (·.1) = news.map (·.1)) : UA A ((D, anyO) :: news) :=
  ⟨fun p hp e => absurd e (Off1.mem o1 p hp), h.same e⟩
theorem Repl.updU {A : List Addr} {d : Addr} {o o' : Obj} (hd : d ∈ A) : ∀ {l l' : List (Addr × Obj)}, Repl d o o' l l' → UA A l → Upd d o o' l l'
  | _, _, .head, h => .head fun p hp e => h.1 p hp e hd
  | _, _, .tail r, h => .tail (fun e => h.1 _ r.mem e.symm (e ▸ hd)) (r.updU hd h.2)
/-- a ledger behind a framed call: S2 where S stood, T what is fresh and kept -/
theorem reassU {A : List Addr} {h₀ h h' : Heap} {L : Addr} {news S S2 T nw R : List (Addr × Obj)} (N : News h₀ L h news) (U : UA A news) (dS : DelAll S news R) (hS : ∀ q ∈ S, q.1 ∈ A) (O : Off h (S.map (·.1)) h') (N' : News h₀ L h' nw) (fr : Frsh h (S.map (·.1)) nw)
    (e : S.map (·.1) = S2.map (·.1)) (m2 : ∀ q ∈ S2, q ∈ nw) (mT : ∀ q ∈ T, q ∈ nw) (c2 : ∀ q ∈ S2, (q.2.cls == .type "tuple") = false) (cT : ∀ q ∈ T, (q.2.cls == .type "tuple") = true) (hA : ∀ a ∈ A, ∃ o, h.get? a = some o) :
    News h₀ L h' (S2 ++ (T ++ R)) ∧ UA A (S2 ++ (T ++ R)) ∧ ∀ q ∈ T, h.get? q.1 = none := by
  obtain ⟨a, c⟩ := U.off dS hS
  obtain ⟨n1, n2⟩ := dS.mem
  have same : ∀ q ∈ S2, ∃ x ∈ S, x.1 = q.1 := fun q hq => List.mem_map.mp (by rw [e]; exact List.mem_map_of_mem hq)
  have frT : ∀ q ∈ T, h.get? q.1 = none := fun q hq => by
    rcases fr q (mT q hq) with f | f
    · rw [e] at f
      obtain ⟨x, hx, ex⟩ := List.mem_map.mp f
      have z := (N' x (m2 x hx)).1
      have y := (N' q (mT q hq)).1
      rw [ex, y] at z
      injection z with z
      have := c2 x hx
      rw [← z, cT q hq] at this
      cases this
    · exact f
  have nT : ∀ q ∈ T, q.1 ∉ A := fun q hq hm => by
    obtain ⟨o, ho⟩ := hA _ hm
    rw [frT q hq] at ho; cases ho
  have hR : ∀ q ∈ R, q.1 ∉ S.map (·.1) := fun q hq hm => by
    obtain ⟨x, hx, ex⟩ := List.mem_map.mp hm
    exact c x hx q hq ex.symm
  have uS : UA A S2 := by
    refine UA.same e ?_
    exact uaLeft U dS hS
  refine ⟨fun q hq => ?_, uS.append (UA.append (UA.free nT) a fun q hq _ _ _ => nT q hq) fun q hq p hp ep => ?_, frT⟩
  · rcases List.mem_append.mp hq with hq | hq
    · exact N' q (m2 q hq)
    rcases List.mem_append.mp hq with hq | hq
    · exact N' q (mT q hq)
    · have z := N q (n2 q hq)
      exact ⟨O _ _ z.1 (hR q hq), z.2⟩
  · exfalso
    obtain ⟨x, hx, ex⟩ := same q hq
    rcases List.mem_append.mp hp with hp | hp
    · have z := (N x (n1 x hx)).1
      rw [ex, ← ep, frT p hp] at z
      cases z
    · exact c x hx p hp (ep.trans ex.symm)
where
  uaLeft {A : List Addr} {S news R : List (Addr × Obj)} (U : UA A news) (dS : DelAll S news R) (hS : ∀ q ∈ S, q.1 ∈ A) : UA A S := by
    induction dS with
    | nil => trivial
    | cons d1 d2 ih =>
      obtain ⟨x, y⟩ := U.sub_off (hS _ (.head _)) d1
      exact ⟨fun p hp ep => absurd ep (y p (DelAll.mem d2 |>.1 p hp)), ih x fun q hq => hS q (.tail _ hq)⟩
theorem UA.of_sep {A : List Addr} {H T : List (Addr × Obj)} (h : NDA H) (hT : ∀ q ∈ T, q.1 ∉ A) : UA A (H ++ T) := by
  have : UA A H := by
    induction H with
    | nil => trivial
    | cons q r ih => exact ⟨fun p hp e => absurd e (h.1 p hp), ih h.2⟩
  exact this.append (UA.free hT) fun q hq p hp ep hA => hT p hp (ep ▸ hA)
end Mine
end
section
open PySem PySem.W PySem.Calls PyProof.Rows PyProof.V PyProof.Rows.LCg
set_option Elab.async false
set_option maxRecDepth 100000
set_option maxHeartbeats 8000000
namespace Mine
set_option genInjectivity false in
/-- what a lap changes -/
structure LS where
  ob : Obj
  at_ : Int
  rows : List Row
  due : List Value
  dn : Nat
  pc : List Value
  pcn : Nat
  ps : List Value
  psn : Nat
  fc : List Value
  fcn : Nat
  fs : List Value
  fsn : Nat
  st : List Value
  stn : Nat
  em : Int
  te : Tok
  tp : Nat → Tok
set_option genInjectivity false in
/-- what a lap finds -/
structure AD where
  (bowl cells due m1 d1 co1 dc1 pc ps m2 d2 co2 dc2 fc fs pf pd st mkl cb te1 wa1 te2 wa2 nm th cth : Addr)
  (ys : List Value) (yn : Nat)
  (ha1 ha2 hc1 hc2 hp : Nat → Int) (ta1 ta2 tc1 tc2 tA tC tD tE : Nat → Tok)
  (v0 v3 v5 v6 v8 u0 u3 u5 u6 u8 : Value) (tv1 tv2 : Tok) (n1 n3 n5 nA nB nC nD nE nF : Nat)
  (cbO cthO : Obj)
noncomputable abbrev lis5 (t : Nat → Tok) (n : Nat) : Obj := listOf [Value.int 0 (t 0), Value.int 3 (t 1), Value.int 4 (t 2), Value.int 5 (t 3), Value.int 6 (t 4)].toArray n
noncomputable abbrev lis4 (t : Nat → Tok) (n : Nat) : Obj := listOf [Value.int 3 (t 0), Value.int 4 (t 1), Value.int 5 (t 2), Value.int 6 (t 3)].toArray n
noncomputable abbrev AD.H (a : AD) (c : LS) : List (Addr × Obj) :=
  [(a.bowl, c.ob), (a.cells, listOf a.ys.toArray a.yn), (a.due, listOf c.due.toArray c.dn),
   (a.m1, instObj 465 a.d1), (a.d1, dictOf (mkD a.ha1 a.ta1 a.v0 (.ref a.co1) .none a.v3 (.ref a.te1) a.v5 a.v6 (.ref a.wa1) a.v8) a.n1), (a.co1, instObj 325 a.dc1), (a.dc1, dictOf (coD a.hc1 a.tc1 (.int 4 a.tv1) (.ref a.pc) (.ref a.ps)) 3), (a.pc, listOf c.pc.toArray c.pcn), (a.ps, listOf c.ps.toArray c.psn),
   (a.m2, instObj 465 a.d2), (a.d2, dictOf (mkD a.ha2 a.ta2 a.u0 (.ref a.co2) (.ref a.pf) a.u3 (.ref a.te2) a.u5 a.u6 (.ref a.wa2) a.u8) a.n3), (a.co2, instObj 325 a.dc2), (a.dc2, dictOf (coD a.hc2 a.tc2 (.int 4 a.tv2) (.ref a.fc) (.ref a.fs)) 3), (a.fc, listOf c.fc.toArray c.fcn), (a.fs, listOf c.fs.toArray c.fsn),
   (a.pf, instObj 246 a.pd), (a.pd, dictOf (pfD a.hp c.tp (.ref a.st) (.ref a.nm) (.int c.em c.te)) 3), (a.st, listOf c.st.toArray c.stn),
   (a.mkl, listOf [Value.ref a.m1, Value.ref a.m2].toArray a.n5), (a.cb, a.cbO), (a.te1, lis5 a.tA a.nA), (a.wa1, listOf [].toArray a.nB), (a.te2, lis5 a.tC a.nC), (a.wa2, listOf [].toArray a.nD), (a.nm, lis5 a.tD a.nE), (a.th, lis4 a.tE a.nF), (a.cth, a.cthO)]
/-- what stands in the law's own frame -/
structure LapEnv (env : Env) (a : AD) (m₀ : Str → Option Value) : Prop where
  edue : m₀ (Str.ofString "due") = some (.ref a.due)
  emakers : m₀ (Str.ofString "makers") = some (.ref a.mkl)
  eplain : m₀ (Str.ofString "plain") = some (.ref a.co1)
  efull : m₀ (Str.ofString "full") = some (.ref a.co2)
  eproof : m₀ (Str.ofString "proof") = some (.ref a.pf)
  ecb : env.cells.lookup (Str.ofString "bowl") = some a.cb
  ecth : env.cells.lookup (Str.ofString "things") = some a.cth
  ecbO : a.cbO.data = .cell (some (.ref a.bowl))
  ecthO : a.cthO.data = .cell (some (.ref a.th))
  eys : ∃ ns, IntsAre a.ys ns ∧ ns.length ≤ 60
noncomputable def mFix (a : AD) (m₀ : Str → Option Value) : Str → Option Value := fun y => if y = Str.ofString "due" then some (.ref a.due) else if y = Str.ofString "makers" then some (.ref a.mkl) else if y = Str.ofString "plain" then some (.ref a.co1) else if y = Str.ofString "full" then some (.ref a.co2) else if y = Str.ofString "proof" then some (.ref a.pf) else m₀ y
theorem LapEnv.fix {env : Env} {a : AD} {m₀ : Str → Option Value} (e : LapEnv env a m₀) : m₀ = mFix a m₀ := by
  funext y
  unfold mFix
  split
  · rename_i h; rw [h]; exact e.edue
  split
  · rename_i h; rw [h]; exact e.emakers
  split
  · rename_i h; rw [h]; exact e.eplain
  split
  · rename_i h; rw [h]; exact e.efull
  split
  · rename_i h; rw [h]; exact e.eproof
  rfl
noncomputable abbrev lapNames : List Str := ["lap", "lits", "rule", "note", "given", "clause", "ends"].map Str.ofString
noncomputable def mDone (a : AD) (u m₀ : Str → Option Value) : Str → Option Value := fun y => if lapNames.contains y then u y else mFix a m₀ y
noncomputable def mLap (a : AD) (v : Value) (u m₀ : Str → Option Value) : Str → Option Value := fun y => if y = Str.ofString "lap" then some v else mDone a u m₀ y
noncomputable def mT (a : AD) (ll lg : Addr) (u m₀ : Str → Option Value) : Str → Option Value := fun y => if y = Str.ofString "lits" then some (.ref ll) else if y = Str.ofString "given" then some (.ref lg) else mDone a u m₀ y
theorem mDone_off {a : AD} {u m₀ : Str → Option Value} {z : Str} (h : lapNames.contains z = false) : mDone a u m₀ z = mFix a m₀ z := by
  unfold mDone; rw [h]; rfl
theorem mLap_off {a : AD} {v : Value} {u m₀ : Str → Option Value} {z : Str} (h : lapNames.contains z = false) : mLap a v u m₀ z = mFix a m₀ z := by
  have : ¬ z = Str.ofString "lap" := by rintro rfl; revert h; decide
  unfold mLap; rw [if_neg this]; exact mDone_off h
theorem mT_off {a : AD} {ll lg : Addr} {u m₀ : Str → Option Value} {z : Str} (h : lapNames.contains z = false) : mT a ll lg u m₀ z = mFix a m₀ z := by
  have h1 : ¬ z = Str.ofString "lits" := by rintro rfl; revert h; decide
  have h2 : ¬ z = Str.ofString "given" := by rintro rfl; revert h; decide
  unfold mT; rw [if_neg h1, if_neg h2]; exact mDone_off h
theorem mT_eq {a : AD} {ll lg : Addr} {m m₀ : Str → Option Value} (h1 : m (Str.ofString "lits") = some (.ref ll)) (h2 : m (Str.ofString "given") = some (.ref lg)) (h3 : ∀ z, lapNames.contains z = false → m z = mFix a m₀ z) : m = mT a ll lg m m₀ := by
  funext y
  unfold mT
  split
  · rename_i h; rw [h]; exact h1
  split
  · rename_i h; rw [h]; exact h2
  unfold mDone
  split
  · rfl
  · rename_i h; exact h3 y (Bool.eq_false_iff.mpr h)
noncomputable abbrev AD.A (a : AD) : List Addr := [a.bowl, a.cells, a.due, a.m1, a.d1, a.co1, a.dc1, a.pc, a.ps, a.m2, a.d2, a.co2, a.dc2, a.fc, a.fs, a.pf, a.pd, a.st, a.mkl, a.cb, a.te1, a.wa1, a.te2, a.wa2, a.nm, a.th, a.cth]
theorem AD.HA (a : AD) (c : LS) : (a.H c).map (·.1) = a.A := rfl
structure LOk (prog : Program) (w : World) (a : AD) (i : Nat) (c : LS) (tl : List (Addr × Obj)) : Prop where
  dict : ∃ t, c.ob.IsDictOf (PySem.strKind prog w) [(Str.ofString "cells", .ref a.cells), (Str.ofString "at", .int c.at_ t)]
  at0 : 0 ≤ c.at_
  at1 : c.at_ ≤ 1 + 13 * i
  rows : ∀ r ∈ c.rows, RowOk r
  len : c.rows.length ≤ i
  due : DatAll tl c.due (c.rows.map rowD)
  pc : DatAll tl c.pc (c.rows.map clD)
  fc : DatAll tl c.fc (c.rows.map clD)
  st : DatAll tl c.st (c.rows.map rowD)
  ps : c.ps = c.rows.map fun _ => Value.none
  fs : IntsAre c.fs (rangeKs 0 c.rows.length)
  em : c.em = emptyAt c.rows 0
noncomputable def LapJ (prog : Program) (w : World) (a : AD) (m₀ : Str → Option Value) (i : Nat) (m : Str → Option Value) (nx : List (Addr × Obj)) : Prop :=
  ∃ c tl, nx = a.H c ++ tl ∧ OwnOff tl a.A ∧ LOk prog w a i c tl ∧ ∀ z, lapNames.contains z = false → m z = m₀ z
section
variable {prog : Program} {w : World} {A : Around} {E : Value → Shared → Prop} {s : Shared} {env : Env} {h₀ : Heap} {body : List Stmt} {Q : Flow → Shared → Prop}
theorem lapEnd {a : AD} {m₀ m' : Str → Option Value} {i : Nat} {L : Addr} {own l' : List (Addr × Obj)} {s₁ : Shared} {h' : Heap} {tk : Nat} (c' : LS) (add tl : List (Addr × Obj)) (F : Fr h₀ L h' m') (N : News h₀ L h' l') (hH : ∀ p ∈ a.H c', p ∈ l') (hadd : ∀ p ∈ add, p ∈ l') (htl : ∀ p ∈ tl, p ∈ l') (hown : ∀ p ∈ own, p ∈ l')
    (ho : OwnOff own a.A) (ho2 : OwnOff own (tl.map (·.1))) (hta : OwnOff tl a.A) (fr : ∀ q ∈ add, q.1 ∉ a.A ∧ ∀ p ∈ own, p.1 ≠ q.1) (ok : LOk prog w a i c' (add ++ tl)) (hm : ∀ z, lapNames.contains z = false → m' z = m₀ z) :
    InvEndG h₀ L (LapJ prog w a m₀ i) own s₁ { s₁ with heap := h', toks := tk } := by
  refine InvEndG.intro F N (nx := a.H c' ++ (add ++ tl)) ⟨c', add ++ tl, rfl, fun p hp b hb => ?_, ok, hm⟩ (fun p hp b hb => ?_) (fun p hp => ?_) hown
  · rcases List.mem_append.mp hp with hp | hp
    · exact fun e => (fr p hp).1 (e ▸ hb)
    · exact hta p hp b hb
  · rw [List.map_append, AD.HA, List.map_append] at hb
    rcases List.mem_append.mp hb with hb | hb
    · exact ho p hp b hb
    rcases List.mem_append.mp hb with hb | hb
    · obtain ⟨q, hq, rfl⟩ := List.mem_map.mp hb
      exact (fr q hq).2 p hp
    · exact ho2 p hp b hb
  · rcases List.mem_append.mp hp with hp | hp
    · exact hH p hp
    rcases List.mem_append.mp hp with hp | hp
    · exact hadd p hp
    · exact htl p hp
theorem lapLoop {a : AD} {r : Addr} {b₀ : Int} {t₀ u₀ v₀ : Tok} {n : Nat} {m₀ : Str → Option Value} {news R : List (Addr × Obj)} (c₀ : LS) (hh : A.handled = none) (hr : IsRange s.heap r 0 b₀ 1 t₀ u₀ v₀) (hsmall : Builtin.Range.small 0 b₀ 1 = true) (hsz : Builtin.Range.rangeSize 0 b₀ 1 = (n : Int))
    (F : Fr h₀ env.locals s.heap m₀) (N : News h₀ env.locals s.heap news) (ND : NDA news) (dH : DelAll (a.H c₀) news R) (ok : LOk prog w a 0 c₀ [])
    (turn : ∀ (i : Nat) (c : LS) (tl : List (Addr × Obj)) t (u : Str → Option Value) h tk own, i < n → LOk prog w a i c tl → NDA (a.H c) → OwnOff tl a.A → OwnOff own a.A → OwnOff own (tl.map (·.1)) →
      Fr h₀ env.locals h (fun y => if y = Str.ofString "lap" then some (.int (i : Int) t) else if lapNames.contains y then u y else m₀ y) → News h₀ env.locals h (a.H c ++ (tl ++ own)) →
      wpAny (model prog w) A (execs body env) (InvPostG h₀ env.locals (LapJ prog w a m₀ (i + 1)) own { s with heap := h, toks := tk } Q) E { s with heap := h, toks := tk })
    (done : ∀ (c : LS) (tl : List (Addr × Obj)) (u : Str → Option Value) h tk, LOk prog w a n c tl → NDA (a.H c) → OwnOff tl a.A → Fr h₀ env.locals h (fun y => if lapNames.contains y then u y else m₀ y) → News h₀ env.locals h (a.H c ++ tl) → Q .next { s with heap := h, toks := tk }) :
    wpAny (model prog w) A (pyIter (.ref r)) (fun it s₂ => LoopAtV prog w A h₀ env (Str.ofString "lap") body Q E it s₂) E s := by
  obtain ⟨nH, _, _⟩ := dH.nda ND
  have hn : ∀ p ∈ a.H c₀, p ∈ news := dH.mem.1
  have nd : ∀ c : LS, NDA (a.H c) := fun c => nH.same (by rw [AD.HA, AD.HA])
  have mape : ∀ {m₁ : Str → Option Value}, (∀ z, lapNames.contains z = false → m₁ z = m₀ z) → m₁ = fun y => if lapNames.contains y then m₁ y else m₀ y := fun {m₁} hm => by
    funext y
    by_cases e : lapNames.contains y = true
    · rw [if_pos e]
    · rw [if_neg e]; exact hm y (Bool.eq_false_iff.mpr e)
  refine wpAny_pyIter_range hr hsmall ?_
  have W : Walks prog w A s.heap.objs.size [s.heap.objs.size] [s.heap.objs.size] n (fun i v => i < n ∧ ∃ t, v = .int (0 + i * 1) t)
      (fun i h => IsRangeIter h s.heap.objs.size (0 + (i : Nat) * 1) ((n : Int) - (i : Nat)) 1) := (Walks.range hh _ 0 1 n).bound
  refine kdr_loop (news := a.H c₀) (LapJ prog w a m₀) W (fun _ h => h) (fun _ h => h) ?_ ?_ ?_ ?_ (by show IsRangeIter _ _ _ _ _; rw [hsz]; simpa using Heap.get?_push_size _ rfl) (F.push _) (fun p hp => ⟨Heap.get?_push_of_some _ (N p (hn p hp)).1, (N p (hn p hp)).2⟩) ⟨c₀, [], (List.append_nil _).symm, fun _ hp => (nomatch hp), ok, fun _ _ => rfl⟩ ?_ ?_
  · intro i h hi b hb
    rw [List.mem_singleton.mp hb]
    exact ⟨_, hi⟩
  · intro hm
    exact absurd F.ns.lt ((List.mem_singleton.mp hm) ▸ Nat.lt_irrefl _)
  · intro b hb
    rw [List.mem_singleton.mp hb]
    exact next_is_new F
  · intro p hp hI
    exact absurd (Heap.lt_size (N p (hn p hp)).1) ((List.mem_singleton.mp hI) ▸ Nat.lt_irrefl _)
  · rintro i v m₁ nx h tk own hi ⟨_, t, rfl⟩ hoff ⟨c, tl, rfl, ht, ok', hm⟩ F₁ N₁
    have e1 : (0 : Int) + (i : Int) * 1 = (i : Int) := by omega
    rw [e1] at F₁
    rw [List.append_assoc] at N₁
    refine turn i c tl t m₁ h tk own hi ok' (nd c) ht (fun p hp b hb => hoff p hp b ?_) (fun p hp b hb => hoff p hp b ?_) ?_ N₁
    · rw [List.map_append, AD.HA]; exact List.mem_append_left _ hb
    · rw [List.map_append]; exact List.mem_append_right _ hb
    · have : (fun y => if y = Str.ofString "lap" then some (Value.int (i : Int) t) else m₁ y) = fun y => if y = Str.ofString "lap" then some (Value.int (i : Int) t) else if lapNames.contains y then m₁ y else m₀ y := by
        funext y
        by_cases e : y = Str.ofString "lap"
        · rw [if_pos e, if_pos e]
        · rw [if_neg e, if_neg e]; exact congrFun (mape hm) y
      rw [this] at F₁
      exact F₁
  · rintro m₁ nx h tk ⟨c, tl, rfl, ht, ok', hm⟩ F₁ N₁
    rw [mape hm] at F₁
    exact done c tl m₁ h tk ok' (nd c) ht F₁ N₁
end
theorem rs_one (b : Int) (h : 0 ≤ b) : Builtin.Range.rangeSize 0 b 1 = ((b.toNat : Nat) : Int) := by
  unfold Builtin.Range.rangeSize
  simp only [show ¬ (1 : Int) < 0 by decide, show (0 : Int) < 1 by decide, if_true, if_false]
  split
  · have : (b - 0 - 1).fdiv 1 = b - 0 - 1 := by simp
    omega
  · omega
/-- the loop of laps: turn and end speak of letters alone -/
theorem lapLoopQ {prog : Program} {w : World} {A : Around} {E : Value → Shared → Prop} {s : Shared} {env : Env} {h₀ : Heap} {body : List Stmt} {Q : Flow → Shared → Prop} {a : AD} {r : Addr} {b₀ : Int} {t₀ u₀ v₀ : Tok} {m₀ : Str → Option Value} {news R : List (Addr × Obj)} {c₀ : LS} (hh : A.handled = none) (hr : IsRange s.heap r 0 b₀ 1 t₀ u₀ v₀) (hb0 : 0 ≤ b₀) (hb1 : b₀ < 9) (hsmall : Builtin.Range.small 0 b₀ 1 = true)
    (F : Fr h₀ env.locals s.heap m₀) (N : News h₀ env.locals s.heap news) (ND : NDA news)
    (q1 : m₀ (Str.ofString "due") = some (.ref a.due)) (q2 : m₀ (Str.ofString "makers") = some (.ref a.mkl)) (q3 : m₀ (Str.ofString "plain") = some (.ref a.co1)) (q4 : m₀ (Str.ofString "full") = some (.ref a.co2)) (q5 : m₀ (Str.ofString "proof") = some (.ref a.pf)) (q6 : env.cells.lookup (Str.ofString "bowl") = some a.cb) (q7 : env.cells.lookup (Str.ofString "things") = some a.cth)
    (_p1 : (a.cb, a.cbO) ∈ news) (_p2 : (a.cth, a.cthO) ∈ news) (q8 : a.cbO.data = .cell (some (.ref a.bowl))) (q9 : a.cthO.data = .cell (some (.ref a.th))) (_p3 : (a.mkl, listOf [Value.ref a.m1, Value.ref a.m2].toArray a.n5) ∈ news)
    (ok : LOk prog w a 0 c₀ []) (_p4 : (a.cells, listOf a.ys.toArray a.yn) ∈ news) (q10 : ∃ ns, IntsAre a.ys ns ∧ ns.length ≤ 60) (_p5 : (a.m1, instObj 465 a.d1) ∈ news) (_p6 : (a.d1, dictOf (mkD a.ha1 a.ta1 a.v0 (.ref a.co1) .none a.v3 (.ref a.te1) a.v5 a.v6 (.ref a.wa1) a.v8) a.n1) ∈ news) (dH : DelAll (a.H c₀) news R)
    (turn : ∀ (a : AD) (m₀ : Str → Option Value), LapEnv env a m₀ → ∀ (i : Nat) (c : LS) (tl : List (Addr × Obj)) t (u : Str → Option Value) h tk own, i < 9 → LOk prog w a i c tl → NDA (a.H c) → OwnOff tl a.A → OwnOff own a.A → OwnOff own (tl.map (·.1)) →
      Fr h₀ env.locals h (mLap a (.int (i : Int) t) u m₀) → News h₀ env.locals h (a.H c ++ (tl ++ own)) →
      ∀ Q' E', (∀ s', InvEndG h₀ env.locals (LapJ prog w a m₀ (i + 1)) own { s with heap := h, toks := tk } s' → Q' Flow.next s') → wpAny (model prog w) A (execs body env) Q' E' { s with heap := h, toks := tk })
    (done : ∀ (a : AD) (m₀ : Str → Option Value), LapEnv env a m₀ → ∀ (n : Nat) (c : LS) (tl : List (Addr × Obj)) (u : Str → Option Value) h tk, LOk prog w a n c tl → NDA (a.H c) → OwnOff tl a.A → Fr h₀ env.locals h (mDone a u m₀) → News h₀ env.locals h (a.H c ++ tl) → Q .next { s with heap := h, toks := tk }) :
    wpAny (model prog w) A (pyIter (.ref r)) (fun it s₂ => LoopAtV prog w A h₀ env (Str.ofString "lap") body Q E it s₂) E s := by
  have e : LapEnv env a m₀ := ⟨q1, q2, q3, q4, q5, q6, q7, q8, q9, q10⟩
  refine lapLoop c₀ hh hr hsmall (rs_one b₀ hb0) F N ND dH ok (fun i c tl t u h tk own hi ok' nH ht ho ho2 F1 N1 => ?_) (fun c tl u h tk ok' nH ht F1 N1 => ?_)
  · rw [e.fix] at F1
    exact turn a m₀ e i c tl t u h tk own (by omega) ok' nH ht ho ho2 F1 N1 _ _ fun _ h => h
  · rw [e.fix] at F1
    exact done a m₀ e _ c tl u h tk ok' nH ht F1 N1
theorem len60 {ys : List Value} {f : Int → Int} {l : List Int} (h : IntsAre ys (List.map f (List.take 60 l))) : ∃ ns, IntsAre ys ns ∧ ns.length ≤ 60 := ⟨_, h, by rw [List.length_map, List.length_take]; exact Nat.min_le_left _ _⟩
theorem spoonNe {news R : List (Addr × Obj)} {bowl c : Addr} {ob oc : Obj} (h : NDA news) (d : DelAll [(bowl, ob), (c, oc)] news R) : @Ne Nat bowl c := Ne.symm ((d.nda h).1.1 _ (.head _))
end Mine
end
section
open PySem PySem.W PySem.Calls PyProof.Rows PyProof.V PyProof.Rows.LCg
set_option Elab.async false
set_option maxRecDepth 100000
set_option maxHeartbeats 8000000
namespace Mine
theorem reassU0 {A : List Addr} {h₀ h h' : Heap} {L : Addr} {news S S2 R : List (Addr × Obj)} (N : News h₀ L h news) (U : UA A news) (dS : DelAll S news R) (hS : ∀ q ∈ S, q.1 ∈ A) (O : Off h (S.map (·.1)) h') (N2 : News h₀ L h' S2) (e : S.map (·.1) = S2.map (·.1)) :
    News h₀ L h' (S2 ++ R) ∧ UA A (S2 ++ R) := by
  obtain ⟨a, c⟩ := U.off dS hS
  obtain ⟨n1, n2⟩ := dS.mem
  have same : ∀ q ∈ S2, ∃ x ∈ S, x.1 = q.1 := fun q hq => List.mem_map.mp (by rw [e]; exact List.mem_map_of_mem hq)
  refine ⟨fun q hq => ?_, ((reassU.uaLeft U dS hS).same e).append a fun q hq p hp ep => ?_⟩
  · rcases List.mem_append.mp hq with hq | hq
    · exact N2 q hq
    · have z := N q (n2 q hq)
      refine ⟨O _ _ z.1 fun hm => ?_, z.2⟩
      obtain ⟨x, hx, ex⟩ := List.mem_map.mp hm
      exact c x hx q hq ex.symm
  · obtain ⟨x, hx, ex⟩ := same q hq
    exact absurd (ep.trans ex.symm) (c x hx p hp)
theorem UA.threeB {A : List Addr} {I C D : Addr} {news old : List (Addr × Obj)} (o : Off3 I C D news) (ne : (@Ne Nat I C) ∧ (@Ne Nat I D) ∧ (@Ne Nat C D)) (h : UA A old) (e : old.map (·.1) = news.map (·.1)) : UA A ((I, anyO) :: (C, anyO) :: (D, anyO) :: news) := by
  have m := o.mem
  refine ⟨fun p hp ep => ?_, fun p hp ep => ?_, fun p hp ep => absurd ep (m p hp).2.2, h.same e⟩
  · rcases List.mem_cons.mp hp with rfl | hp
    · exact absurd ep (Ne.symm ne.1)
    rcases List.mem_cons.mp hp with rfl | hp
    · exact absurd ep (Ne.symm ne.2.1)
    exact absurd ep (m p hp).1
  · rcases List.mem_cons.mp hp with rfl | hp
    · exact absurd ep (Ne.symm ne.2.2)
    exact absurd ep (m p hp).2.1
theorem Off3.same {I C D : Addr} {l l' : List (Addr × Obj)} (h : Off3 I C D l) (e : l.map (·.1) = l'.map (·.1)) : Off3 I C D l' := Off3.of fun p hp => by
  have : p.1 ∈ l.map (·.1) := by rw [e]; exact List.mem_map_of_mem hp
  obtain ⟨x, hx, ex⟩ := List.mem_map.mp this
  rw [← ex]
  exact h.mem x hx
theorem ua_to {A : List Addr} {h₀ h : Heap} {L : Addr} {news old : List (Addr × Obj)} (_N : News h₀ L h news) (p : UA A old) (e : old.map (·.1) = news.map (·.1)) : UA A news := p.same e
theorem spoonDel {prog : Program} {w : World} {h₀ h : Heap} {L : Addr} {news R : List (Addr × Obj)} {bowl c : Addr} {ob : Obj} {cs : List Value} {n : Nat} {a : Int} {ta : Tok} (_N : News h₀ L h news) (_hb : ob.IsDictOf (PySem.strKind prog w) [(Str.ofString "cells", .ref c), (Str.ofString "at", .int a ta)]) (d : DelAll [(bowl, ob), (c, listOf cs.toArray n)] news R) : DelAll [(bowl, ob), (c, listOf cs.toArray n)] news R := d
/-- what the comprehension of literals keeps -/
noncomputable def LitInv (prog : Program) (w : World) (bowl cells : Addr) (cO : Obj) (R : List (Addr × Obj)) (at0 : Int) (i : Nat) (ys : List Value) (news : List (Addr × Obj)) : Prop :=
  ∃ ob at_ t ls, news = (bowl, ob) :: (cells, cO) :: R ∧ ob.IsDictOf (PySem.strKind prog w) [(Str.ofString "cells", .ref cells), (Str.ofString "at", .int at_ t)] ∧ at0 ≤ at_ ∧ at_ ≤ at0 + 2 * i ∧ IntsAre ys ls ∧ ls.length = i ∧ ∀ x ∈ ls, x ∈ uni
theorem lit_uni {x y : Int} (h0 : 0 ≤ x) (h1 : x < 4) (h2 : 0 ≤ y) (h3 : y < 2) : (1 + x) * (1 - 2 * y) ∈ uni := by
  have hx : x = 0 ∨ x = 1 ∨ x = 2 ∨ x = 3 := by omega
  have hy : y = 0 ∨ y = 1 := by omega
  rcases hx with rfl | rfl | rfl | rfl <;> rcases hy with rfl | rfl <;> decide
theorem two_mem {A : List Addr} {q1 q2 : Addr × Obj} (h1 : q1.1 ∈ A) (h2 : q2.1 ∈ A) : ∀ q ∈ [q1, q2], q.1 ∈ A := fun q hq => by
  rcases List.mem_cons.mp hq with rfl | hq
  · exact h1
  · rw [List.mem_singleton.mp hq]; exact h2
section
variable {w : World} {A : Around} {env : Env} {outer : List Env} {A₀ : Around} {base h₀ : Heap} {L : Addr} {p : Program} {loose : List Str} {mean : ExcName → Option Value} {mg mb : Str → Option Value} {dk uk : Nat} {m : Str → Option Value}
theorem At.useN {f : Addr} {Pre : Heap → Prop} {news : List (Addr × Obj)} {vs : List Value} {Post : Value → List (Addr × Obj) → Prop} {s : Shared} {Q E : Value → Shared → Prop} (a : At w A env outer A₀ base h₀ L p loose mean mg mb dk uk)
    (C : CtrN w (top0.heap_1 w.params) p loose mean mg mb dk uk f Pre news vs Post) (F : Fr h₀ L s.heap m) (N : News h₀ L s.heap news) (hp : Pre s.heap)
    (ret : ∀ v news' h' tk', Fr h₀ L h' m → News h₀ L h' news' → Post v news' → Off s.heap (news.map (·.1)) h' → Frsh s.heap (news.map (·.1)) news' → Q v { s with heap := h', toks := tk' }) :
    wpAny (model PG w) A (call (.ref f) vs) Q E s := by
  obtain ⟨hA, hh, B, X, T, hf, hk, hd, hu⟩ := a
  obtain ⟨hd', dp, fr, gd, un⟩ := A
  dsimp only at hA hh hd hu
  subst hA hh
  exact C dp un gd env outer A₀ base h₀ L m s Q E B F X N T hf hk hd hu hp ret
/-- a ledger behind a call that changes nothing and makes one tuple that is kept -/
theorem reassT {A : List Addr} {h h' : Heap} {news nw : List (Addr × Obj)} {a : Addr} {o : Obj} (N : News h₀ L h news) (U : UA A news) (O : Off h [] h') (N' : News h₀ L h' nw) (fr : Frsh h [] nw) (m : (a, o) ∈ nw) :
    News h₀ L h' ((a, o) :: news) ∧ UA A ((a, o) :: news) ∧ ∀ p ∈ news, p.1 ≠ a := by
  have fa : h.get? a = none := (fr _ m).elim (fun h => nomatch h) id
  have ne : ∀ p ∈ news, p.1 ≠ a := fun p hp e => by
    have z := (N p hp).1
    rw [e, fa] at z; cases z
  refine ⟨fun q hq => ?_, ⟨fun p hp e => absurd e (ne p hp), U⟩, ne⟩
  rcases List.mem_cons.mp hq with rfl | hq
  · exact N' _ m
  · exact ⟨O _ _ (N q hq).1 List.not_mem_nil, (N q hq).2⟩
end
end Mine
end
section
open PySem PySem.W PySem.Calls PyProof.Rows PyProof.V PyProof.Rows.LCg
set_option Elab.async false
set_option maxRecDepth 100000
set_option maxHeartbeats 8000000
namespace Mine
noncomputable abbrev SP (x dx co dc cl st : Addr) (ha hc : Nat → Int) (ta tc : Nat → Tok) (v0 v3 v4 v5 v6 v7 v8 vm : Value) (na nc n1 n2 : Nat) (cls sts : List Value) : List (Addr × Obj) :=
  [(x, instObj 465 dx), (dx, dictOf (mkD ha ta v0 (.ref co) .none v3 v4 v5 v6 v7 v8) na), (co, instObj 325 dc), (dc, dictOf (coD hc tc vm (.ref cl) (.ref st)) nc), (cl, listOf cls.toArray n1), (st, listOf sts.toArray n2)]
theorem spDel {h₀ h : Heap} {L : Addr} {news R : List (Addr × Obj)} {x dx co dc cl st : Addr} {ha hc : Nat → Int} {ta tc : Nat → Tok} {v0 v3 v4 v5 v6 v7 v8 vm : Value} {na nc n1 n2 : Nat} {cls sts : List Value} (_N : News h₀ L h news) (_x : Value) (_e : _x = .ref x)
    (d : DelAll (SP x dx co dc cl st ha hc ta tc v0 v3 v4 v5 v6 v7 v8 vm na nc n1 n2 cls sts) news R) : DelAll (SP x dx co dc cl st ha hc ta tc v0 v3 v4 v5 v6 v7 v8 vm na nc n1 n2 cls sts) news R := d
theorem off_notin {A : List Addr} {S news R : List (Addr × Obj)} {l : Addr} {o : Obj} (U : UA A news) (d : DelAll S news R) (hS : ∀ q ∈ S, q.1 ∈ A) (hp : (l, o) ∈ R) : l ∉ S.map (·.1) := fun hm => by
  obtain ⟨q, hq, e⟩ := List.mem_map.mp hm
  exact (U.off d hS).2 q hq _ hp e.symm
theorem ua_in {A : List Addr} {S news R : List (Addr × Obj)} (U : UA A news) (d : DelAll S news R) (hS : ∀ q ∈ S, q.1 ∈ A) : UA A S := reassU.uaLeft U d hS
theorem mems {A : List Addr} : ∀ {S : List (Addr × Obj)}, (∀ a ∈ S.map (·.1), a ∈ A) → ∀ q ∈ S, q.1 ∈ A := fun h q hq => h _ (List.mem_map_of_mem hq)
theorem memsOf {A : List Addr} {S news R : List (Addr × Obj)} (_U : UA A news) (_d : DelAll S news R) (h : ∀ a ∈ S.map (·.1), a ∈ A) : ∀ q ∈ S, q.1 ∈ A := mems h
end Mine
end
section
open PySem PySem.W PySem.Calls PyProof.Rows PyProof.V PyProof.Rows.LCg
set_option Elab.async false
set_option maxRecDepth 100000
set_option maxHeartbeats 8000000
namespace Mine
theorem UA.nda {A : List Addr} : ∀ {S : List (Addr × Obj)}, UA A S → (∀ q ∈ S, q.1 ∈ A) → NDA S
  | [], _, _ => trivial
  | q :: _, h, m => ⟨fun p hp e => h.1 p hp e (m q (.head _)), h.2.nda fun x hx => m x (.tail _ hx)⟩
noncomputable abbrev SF (x dx co dc cl st pf dp ps : Addr) (ha hc hp : Nat → Int) (ta tc tp : Nat → Tok) (v0 v3 v4 v5 v6 v7 v8 vm vn : Value) (na nc n1 n2 n3 : Nat) (cls sts stp : List Value) (em : Int) (te : Tok) : List (Addr × Obj) :=
  [(x, instObj 465 dx), (dx, dictOf (mkD ha ta v0 (.ref co) (.ref pf) v3 v4 v5 v6 v7 v8) na), (co, instObj 325 dc), (dc, dictOf (coD hc tc vm (.ref cl) (.ref st)) nc), (cl, listOf cls.toArray n1), (st, listOf sts.toArray n2), (pf, instObj 246 dp), (dp, dictOf (pfD hp tp (.ref ps) vn (.int em te)) 3), (ps, listOf stp.toArray n3)]
theorem sfDel {h₀ h : Heap} {L : Addr} {news R : List (Addr × Obj)} {x dx co dc cl st pf dp ps : Addr} {ha hc hp : Nat → Int} {ta tc tp : Nat → Tok} {v0 v3 v4 v5 v6 v7 v8 vm vn : Value} {na nc n1 n2 n3 : Nat} {cls sts stp : List Value} {em : Int} {te : Tok} (_N : News h₀ L h news) (_x : Value) (_e : _x = .ref x)
    (d : DelAll (SF x dx co dc cl st pf dp ps ha hc hp ta tc tp v0 v3 v4 v5 v6 v7 v8 vm vn na nc n1 n2 n3 cls sts stp em te) news R) : DelAll (SF x dx co dc cl st pf dp ps ha hc hp ta tc tp v0 v3 v4 v5 v6 v7 v8 vm vn na nc n1 n2 n3 cls sts stp em te) news R := d
section
variable {w : World} {A : Around} {env : Env} {outer : List Env} {A₀ : Around} {base h₀ : Heap} {L : Addr} {p : Program} {loose : List Str} {mean : ExcName → Option Value} {mg mb : Str → Option Value} {m : Str → Option Value}
  {AA : List Addr} {news R : List (Addr × Obj)} {s : Shared} {Q E : Value → Shared → Prop} {x dx co dc cl st pf dp ps l : Addr} {o : Obj} {vs : List Value} {ns : List Int} {ha hc hp : Nat → Int} {ta tc tp : Nat → Tok} {v0 v3 v4 v5 v6 v7 v8 vm vn : Value} {na nc n1 n2 n3 : Nat} {cls sts stp : List Value} {rule note : Value} {r : Str} {tr : Tok} {em : Int} {te : Tok}
theorem fresh_ne {a : Addr} (N : News h₀ L s.heap news) (f : s.heap.get? a = none) : ∀ p ∈ news, p.1 ≠ a := fun p hp e => by
  have z := (N p hp).1
  rw [e, f] at z; cases z
theorem emitP_some (a : At w A env outer A₀ base h₀ L p loose mean mg mb 9 120) {ts : List Int} (e : clauseL ns = some ts) (hi : IntsAre vs ns) (hu : ∀ x ∈ ns, x ∈ uni) (F : Fr h₀ L s.heap m) (N : News h₀ L s.heap news) (U : UA AA news)
    (dS : DelAll (SP x dx co dc cl st ha hc ta tc v0 v3 v4 v5 v6 v7 v8 vm na nc n1 n2 cls sts) news R) (hSA : ∀ a ∈ (SP x dx co dc cl st ha hc ta tc v0 v3 v4 v5 v6 v7 v8 vm na nc n1 n2 cls sts).map (·.1), a ∈ AA) (hl : (l, o) ∈ R) (hseq : SeqIn s.heap l vs) (hl1 : cls.length ≤ 100) (hl2 : sts.length ≤ 100) (hA : ∀ a ∈ AA, ∃ o, (a, o) ∈ news)
    (ret : ∀ a vs' n n1' n2' h' tk', IntsAre vs' ts → Fr h₀ L h' m → News h₀ L h' (SP x dx co dc cl st ha hc ta tc v0 v3 v4 v5 v6 v7 v8 vm na nc n1' n2' (cls ++ [.ref a]) (sts ++ [.none]) ++ ([(a, tupO vs' n)] ++ R)) →
      UA AA (SP x dx co dc cl st ha hc ta tc v0 v3 v4 v5 v6 v7 v8 vm na nc n1' n2' (cls ++ [.ref a]) (sts ++ [.none]) ++ ([(a, tupO vs' n)] ++ R)) → (∀ p ∈ news, p.1 ≠ a) → Q .none { s with heap := h', toks := tk' }) :
    wpAny (model PG w) A (call (.ref 406) [.ref x, rule, .ref l, note]) Q E s := by
  have hS := mems hSA
  have nd := (ua_in U dS hS).nda hS
  refine At.useN a (emitP hi hu (Ne.symm (nd.2.2.2.2.1 _ (.head _))) (off_notin U dS hS hl) hl1 hl2) F (News.ofAll N dS) hseq ?_
  intro v nw h' tk' F' N' hp O fr
  obtain ⟨rfl, hq, hor, _⟩ := hp
  rcases hor with ⟨e', hcl, hst⟩ | ⟨ts', a, vs', n, n1', n2', e', ha', hi', hcl, hst⟩
  · rw [tidyL_eq ns hu, e] at e'; cases e'
  · obtain rfl : ts = ts' := by rw [tidyL_eq ns hu, e] at e'; exact Option.some.inj e'
    obtain ⟨N2, U2, fT⟩ := reassU (S2 := SP x dx co dc cl st ha hc ta tc v0 v3 v4 v5 v6 v7 v8 vm na nc n1' n2' (cls ++ [.ref a]) (sts ++ [.none])) (T := [(a, tupO vs' n)]) N U dS hS O N' fr rfl
      (fun q hq' => by
        rcases List.mem_cons.mp hq' with rfl | hq'
        · exact hq _ (.head _)
        rcases List.mem_cons.mp hq' with rfl | hq'
        · exact hq _ (.tail _ (.head _))
        rcases List.mem_cons.mp hq' with rfl | hq'
        · exact hq _ (.tail _ (.tail _ (.head _)))
        rcases List.mem_cons.mp hq' with rfl | hq'
        · exact hq _ (.tail _ (.tail _ (.tail _ (.head _))))
        rcases List.mem_cons.mp hq' with rfl | hq'
        · exact hcl
        rw [List.mem_singleton.mp hq']; exact hst)
      (fun q hq' => by rw [List.mem_singleton.mp hq']; exact ha')
      (by simp only [List.forall_mem_cons, List.forall_mem_nil, and_true]; decide) (fun q hq' => by rw [List.mem_singleton.mp hq']; rfl)
      (fun b hb => by obtain ⟨o, ho⟩ := hA b hb; exact ⟨o, (N _ ho).1⟩)
    exact ret a vs' n n1' n2' h' tk' hi' F' N2 U2 (fresh_ne N (fT _ (.head _)))
theorem emitP_none (a : At w A env outer A₀ base h₀ L p loose mean mg mb 9 120) (e : clauseL ns = none) (hi : IntsAre vs ns) (hu : ∀ x ∈ ns, x ∈ uni) (F : Fr h₀ L s.heap m) (N : News h₀ L s.heap news) (U : UA AA news)
    (dS : DelAll (SP x dx co dc cl st ha hc ta tc v0 v3 v4 v5 v6 v7 v8 vm na nc n1 n2 cls sts) news R) (hSA : ∀ a ∈ (SP x dx co dc cl st ha hc ta tc v0 v3 v4 v5 v6 v7 v8 vm na nc n1 n2 cls sts).map (·.1), a ∈ AA) (hl : (l, o) ∈ R) (hseq : SeqIn s.heap l vs) (hl1 : cls.length ≤ 100) (hl2 : sts.length ≤ 100)
    (ret : ∀ h' tk', Fr h₀ L h' m → News h₀ L h' (SP x dx co dc cl st ha hc ta tc v0 v3 v4 v5 v6 v7 v8 vm na nc n1 n2 cls sts ++ R) → UA AA (SP x dx co dc cl st ha hc ta tc v0 v3 v4 v5 v6 v7 v8 vm na nc n1 n2 cls sts ++ R) → Q .none { s with heap := h', toks := tk' }) :
    wpAny (model PG w) A (call (.ref 406) [.ref x, rule, .ref l, note]) Q E s := by
  have hS := mems hSA
  have nd := (ua_in U dS hS).nda hS
  refine At.useN a (emitP hi hu (Ne.symm (nd.2.2.2.2.1 _ (.head _))) (off_notin U dS hS hl) hl1 hl2) F (News.ofAll N dS) hseq ?_
  intro v nw h' tk' F' N' hp O fr
  obtain ⟨rfl, hq, hor, _⟩ := hp
  rcases hor with ⟨e', hcl, hst⟩ | ⟨ts', a, vs', n, n1', n2', e', ha', hi', hcl, hst⟩
  · obtain ⟨N2, U2⟩ := reassU0 (S2 := SP x dx co dc cl st ha hc ta tc v0 v3 v4 v5 v6 v7 v8 vm na nc n1 n2 cls sts) N U dS hS O (fun q hq' => N' q (by
        rcases List.mem_cons.mp hq' with rfl | hq'
        · exact hq _ (.head _)
        rcases List.mem_cons.mp hq' with rfl | hq'
        · exact hq _ (.tail _ (.head _))
        rcases List.mem_cons.mp hq' with rfl | hq'
        · exact hq _ (.tail _ (.tail _ (.head _)))
        rcases List.mem_cons.mp hq' with rfl | hq'
        · exact hq _ (.tail _ (.tail _ (.tail _ (.head _))))
        rcases List.mem_cons.mp hq' with rfl | hq'
        · exact hcl
        rw [List.mem_singleton.mp hq']; exact hst)) rfl
    exact ret h' tk' F' N2 U2
  · rw [tidyL_eq ns hu, e] at e'; cases e'
theorem emitF_some (a : At w A env outer A₀ base h₀ L p loose mean mg mb 9 120) {ts : List Int} (e : tidyL ns = some ts) (hi : IntsAre vs ns) (hu : ∀ x ∈ ns, x ∈ uni) (hr : r ∈ rulesL) (F : Fr h₀ L s.heap m) (N : News h₀ L s.heap news) (U : UA AA news)
    (dS : DelAll (SF x dx co dc cl st pf dp ps ha hc hp ta tc tp v0 v3 v4 v5 v6 v7 v8 vm vn na nc n1 n2 n3 cls sts stp em te) news R) (hSA : ∀ a ∈ (SF x dx co dc cl st pf dp ps ha hc hp ta tc tp v0 v3 v4 v5 v6 v7 v8 vm vn na nc n1 n2 n3 cls sts stp em te).map (·.1), a ∈ AA) (hl : (l, o) ∈ R) (hseq : SeqIn s.heap l vs) (hl1 : cls.length ≤ 100) (hl2 : sts.length ≤ 100) (hl3 : stp.length ≤ 100) (hA : ∀ a ∈ AA, ∃ o, (a, o) ∈ news)
    (ret : ∀ a vs' n n1' n2' n3' n4' n5' u q te' tp' tn h' tk', IntsAre vs' ts → Fr h₀ L h' m →
      News h₀ L h' (SF x dx co dc cl st pf dp ps ha hc hp ta tc tp' v0 v3 v4 v5 v6 v7 v8 vm vn na nc n1' n2' n3' (cls ++ [.ref a]) (sts ++ [.int stp.length tn]) (stp ++ [.ref q]) (if ts = [] ∧ em < 0 then stp.length else em) te' ++ ([(a, tupO vs' n), (u, tup0 n4'), (q, stepO (.str r tr) a u note n5')] ++ R)) →
      UA AA (SF x dx co dc cl st pf dp ps ha hc hp ta tc tp' v0 v3 v4 v5 v6 v7 v8 vm vn na nc n1' n2' n3' (cls ++ [.ref a]) (sts ++ [.int stp.length tn]) (stp ++ [.ref q]) (if ts = [] ∧ em < 0 then stp.length else em) te' ++ ([(a, tupO vs' n), (u, tup0 n4'), (q, stepO (.str r tr) a u note n5')] ++ R)) →
      (∀ p ∈ news, p.1 ≠ a) → (∀ p ∈ news, p.1 ≠ u) → (∀ p ∈ news, p.1 ≠ q) → Q .none { s with heap := h', toks := tk' }) :
    wpAny (model PG w) A (call (.ref 406) [.ref x, .str r tr, .ref l, note]) Q E s := by
  have hS := mems hSA
  have nd := (ua_in U dS hS).nda hS
  refine At.useN a (emitF hi hu (off_notin U dS hS hl) hl1 hl2 hl3 hr (Ne.symm (nd.2.2.2.2.1 _ (.head _))) (Ne.symm (nd.2.2.2.2.1 _ (.tail _ (.tail _ (.tail _ (.head _)))))) (Ne.symm (nd.2.2.2.2.2.1 _ (.tail _ (.tail _ (.head _)))))
    (Ne.symm (nd.2.1 _ (.tail _ (.head _)))) (Ne.symm (nd.2.1 _ (.tail _ (.tail _ (.tail _ (.tail _ (.tail _ (.head _)))))))) (Ne.symm (nd.2.2.2.1 _ (.tail _ (.tail _ (.tail _ (.head _))))))) F (News.ofAll N dS) hseq ?_
  intro v nw h' tk' F' N' hp O fr
  obtain ⟨rfl, hq, hor, _⟩ := hp
  rcases hor with ⟨e', hz⟩ | ⟨ts', a, vs', n, n1', n2', n3', n4', n5', u, q, te', tp', tn, e', hi', hz⟩
  · rw [e] at e'; cases e'
  · obtain rfl : ts = ts' := by rw [e] at e'; exact Option.some.inj e'
    obtain ⟨N2, U2, fT⟩ := reassU (S2 := SF x dx co dc cl st pf dp ps ha hc hp ta tc tp' v0 v3 v4 v5 v6 v7 v8 vm vn na nc n1' n2' n3' (cls ++ [.ref a]) (sts ++ [.int stp.length tn]) (stp ++ [.ref q]) (if ts = [] ∧ em < 0 then stp.length else em) te')
      (T := [(a, tupO vs' n), (u, tup0 n4'), (q, stepO (.str r tr) a u note n5')]) N U dS hS O N' fr rfl
      (fun q' hq' => by
        rcases List.mem_cons.mp hq' with rfl | hq'
        · exact hq _ (.head _)
        rcases List.mem_cons.mp hq' with rfl | hq'
        · exact hq _ (.tail _ (.head _))
        rcases List.mem_cons.mp hq' with rfl | hq'
        · exact hq _ (.tail _ (.tail _ (.head _)))
        rcases List.mem_cons.mp hq' with rfl | hq'
        · exact hq _ (.tail _ (.tail _ (.tail _ (.head _))))
        rcases List.mem_cons.mp hq' with rfl | hq'
        · exact hz _ (.tail _ (.tail _ (.tail _ (.head _))))
        rcases List.mem_cons.mp hq' with rfl | hq'
        · exact hz _ (.tail _ (.tail _ (.tail _ (.tail _ (.head _)))))
        rcases List.mem_cons.mp hq' with rfl | hq'
        · exact hq _ (.tail _ (.tail _ (.tail _ (.tail _ (.head _)))))
        rcases List.mem_cons.mp hq' with rfl | hq'
        · exact hz _ (.tail _ (.tail _ (.tail _ (.tail _ (.tail _ (.head _))))))
        rw [List.mem_singleton.mp hq']; exact hz _ (.tail _ (.tail _ (.tail _ (.tail _ (.tail _ (.tail _ (.head _))))))))
      (fun q' hq' => by
        rcases List.mem_cons.mp hq' with rfl | hq'
        · exact hz _ (.head _)
        rcases List.mem_cons.mp hq' with rfl | hq'
        · exact hz _ (.tail _ (.head _))
        rw [List.mem_singleton.mp hq']; exact hz _ (.tail _ (.tail _ (.head _))))
      (by simp only [List.forall_mem_cons, List.forall_mem_nil, and_true]; decide) (by simp only [List.forall_mem_cons, List.forall_mem_nil, and_true]; decide)
      (fun b hb => by obtain ⟨o, ho⟩ := hA b hb; exact ⟨o, (N _ ho).1⟩)
    exact ret a vs' n n1' n2' n3' n4' n5' u q te' tp' tn h' tk' hi' F' N2 U2 (fresh_ne N (fT _ (.head _))) (fresh_ne N (fT _ (.tail _ (.head _)))) (fresh_ne N (fT _ (.tail _ (.tail _ (.head _)))))
theorem emitF_none (a : At w A env outer A₀ base h₀ L p loose mean mg mb 9 120) (e : tidyL ns = none) (hi : IntsAre vs ns) (hu : ∀ x ∈ ns, x ∈ uni) (hr : r ∈ rulesL) (F : Fr h₀ L s.heap m) (N : News h₀ L s.heap news) (U : UA AA news)
    (dS : DelAll (SF x dx co dc cl st pf dp ps ha hc hp ta tc tp v0 v3 v4 v5 v6 v7 v8 vm vn na nc n1 n2 n3 cls sts stp em te) news R) (hSA : ∀ a ∈ (SF x dx co dc cl st pf dp ps ha hc hp ta tc tp v0 v3 v4 v5 v6 v7 v8 vm vn na nc n1 n2 n3 cls sts stp em te).map (·.1), a ∈ AA) (hl : (l, o) ∈ R) (hseq : SeqIn s.heap l vs) (hl1 : cls.length ≤ 100) (hl2 : sts.length ≤ 100) (hl3 : stp.length ≤ 100)
    (ret : ∀ h' tk', Fr h₀ L h' m → News h₀ L h' (SF x dx co dc cl st pf dp ps ha hc hp ta tc tp v0 v3 v4 v5 v6 v7 v8 vm vn na nc n1 n2 n3 cls sts stp em te ++ R) → UA AA (SF x dx co dc cl st pf dp ps ha hc hp ta tc tp v0 v3 v4 v5 v6 v7 v8 vm vn na nc n1 n2 n3 cls sts stp em te ++ R) → Q .none { s with heap := h', toks := tk' }) :
    wpAny (model PG w) A (call (.ref 406) [.ref x, .str r tr, .ref l, note]) Q E s := by
  have hS := mems hSA
  have nd := (ua_in U dS hS).nda hS
  refine At.useN a (emitF hi hu (off_notin U dS hS hl) hl1 hl2 hl3 hr (Ne.symm (nd.2.2.2.2.1 _ (.head _))) (Ne.symm (nd.2.2.2.2.1 _ (.tail _ (.tail _ (.tail _ (.head _)))))) (Ne.symm (nd.2.2.2.2.2.1 _ (.tail _ (.tail _ (.head _)))))
    (Ne.symm (nd.2.1 _ (.tail _ (.head _)))) (Ne.symm (nd.2.1 _ (.tail _ (.tail _ (.tail _ (.tail _ (.tail _ (.head _)))))))) (Ne.symm (nd.2.2.2.1 _ (.tail _ (.tail _ (.tail _ (.head _))))))) F (News.ofAll N dS) hseq ?_
  intro v nw h' tk' F' N' hp O fr
  obtain ⟨rfl, hq, hor, _⟩ := hp
  rcases hor with ⟨e', hz⟩ | ⟨ts', a, vs', n, n1', n2', n3', n4', n5', u, q, te', tp', tn, e', hi', hz⟩
  · obtain ⟨N2, U2⟩ := reassU0 (S2 := SF x dx co dc cl st pf dp ps ha hc hp ta tc tp v0 v3 v4 v5 v6 v7 v8 vm vn na nc n1 n2 n3 cls sts stp em te) N U dS hS O (fun q' hq' => N' q' (by
        rcases List.mem_cons.mp hq' with rfl | hq'
        · exact hq _ (.head _)
        rcases List.mem_cons.mp hq' with rfl | hq'
        · exact hq _ (.tail _ (.head _))
        rcases List.mem_cons.mp hq' with rfl | hq'
        · exact hq _ (.tail _ (.tail _ (.head _)))
        rcases List.mem_cons.mp hq' with rfl | hq'
        · exact hq _ (.tail _ (.tail _ (.tail _ (.head _))))
        rcases List.mem_cons.mp hq' with rfl | hq'
        · exact hz _ (.head _)
        rcases List.mem_cons.mp hq' with rfl | hq'
        · exact hz _ (.tail _ (.head _))
        rcases List.mem_cons.mp hq' with rfl | hq'
        · exact hq _ (.tail _ (.tail _ (.tail _ (.tail _ (.head _)))))
        rcases List.mem_cons.mp hq' with rfl | hq'
        · exact hz _ (.tail _ (.tail _ (.head _)))
        rw [List.mem_singleton.mp hq']; exact hz _ (.tail _ (.tail _ (.tail _ (.head _)))))) rfl
    exact ret h' tk' F' N2 U2
  · rw [e] at e'; cases e'
end
end Mine
end
section
open PySem PySem.W PySem.Calls PyProof.Rows PyProof.V PyProof.Rows.LCg
set_option Elab.async false
set_option maxRecDepth 100000
set_option maxHeartbeats 8000000
namespace Mine
section
variable {prog : Program} {w : World} {A : Around} {E : Value → Shared → Prop} {s : Shared} {h₀ : Heap} {L : Addr} {m : Str → Option Value} {env : Env}
/-- the numbers of the places where p holds -/
noncomputable abbrev placesOf (p : Nat → Bool) (n : Nat) : List Int := ((List.range n).filter p).map Int.ofNat
theorem places_succ (p : Nat → Bool) (n : Nat) : placesOf p (n + 1) = placesOf p n ++ (if p n = true then [(n : Int)] else []) := by
  unfold placesOf
  rw [List.range_succ, List.filter_append, List.map_append, List.filter_cons, List.filter_nil]
  split <;> rfl
/-- one turn's test of a filter over the numbered items of a list -/
noncomputable def TestE (prog : Program) (w : World) (A : Around) (h₀ : Heap) (L : Addr) (m : Str → Option Value) (env : Env) (ct : Expr) (a b : Str) (scope : Scope) (cl : List (Str × Addr)) (s : Shared) (news : List (Addr × Obj)) (i : Nat) (v : Value) (r : Bool) : Prop :=
  ∀ (t : Tok) (e : Addr) (oe : Obj) (I : Addr) (oI : Obj) (C : Addr) (oC : Obj) (D : Addr) (ys : List Value) (m₂ : Str → Option Value) (h : Heap) (tk : Nat) (E' : Value → Shared → Prop) (R : Bool → Shared → Prop),
    NsObj oC m₂ → m₂ a = some (.int i t) → m₂ b = some v → Fr h₀ L h m → News h₀ L h ((e, oe) :: (I, oI) :: (C, oC) :: (D, lst ys) :: news) →
    (∀ h' tk', Fr h₀ L h' m → News h₀ L h' ((e, oe) :: (I, oI) :: (C, oC) :: (D, lst ys) :: news) → R r { s with heap := h', toks := tk' }) →
    wpAny (model prog w) A (isTrue ct (compEnvC scope cl C env) (eval ct (compEnvC scope cl C env))) R E' { s with heap := h, toks := tk }
noncomputable def FinI (h₀ : Heap) (L : Addr) (m : Str → Option Value) (s : Shared) (Q : Value → Shared → Prop) (news : List (Addr × Obj)) (ks : List Int) : Prop :=
  ∀ D h tk ys, Fr h₀ L h m → News h₀ L h ((D, lst ys) :: news) → Off1 D news → IntsAre ys ks → Q (.ref D) { s with heap := h, toks := tk }
theorem enumBlock {ct iter : Expr} {a b : Str} {pa pb px tp : Pos} {kk : Nat} {scope : Scope} {cl : List (Str × Addr)} {pos : Pos} {s₂ : Shared} {e it ax : Addr} {vs : List Value} {nn : Nat} {news : List (Addr × Obj)} {p : Nat → Bool} {RR : Value → Addr → Result → Shared → Prop}
    (hh : A.handled = none) (hei : e ≠ it) (hae : ax ≠ e) (hai : ax ≠ it) (hsz : vs.length ≤ sizeLine) (he : IsEnum s₂.heap e it 0 .none) (hit : s₂.heap.IsListIter it ax 0) (hm : (ax, listOf vs.toArray nn) ∈ news)
    (hcell : ∀ y ∈ scope.names, y.2 ≠ .cell) (hkind : scope.kind = .function) (hxa : scope.names.lookup a = some .local) (hxb : scope.names.lookup b = some .local) (hab : ¬ a = b) (had : (a == ("__debug__" : Str)) = false)
    (F : Fr h₀ L s₂.heap m) (N : News h₀ L s₂.heap news) (hLe : L ≠ e) (hLi : L ≠ it) (he₀ : h₀.get? e = none) (hi₀ : h₀.get? it = none) (offe : ∀ q ∈ news, q.1 ≠ e) (offi : ∀ q ∈ news, q.1 ≠ it)
    (T : ∀ i v, vs[i]? = some v → TestE prog w A h₀ L m env ct a b scope cl s₂ news i v (p i))
    (hRR : ∀ D C h tk m' ys, Fr h₀ L h m → News h₀ L h ((D, lst ys) :: news) → Off1 D news → h.Ns C m' → h₀.get? C = none → h₀.get? D = none → C ≠ L → D ≠ L → C ≠ D → (∀ q ∈ news, q.1 ≠ C) → IntsAre ys (placesOf p vs.length) → RR (.ref D) C (.ok .next) { s₂ with heap := h, toks := tk }) :
    wpAny (model prog w) A (newList []) (fun acc s₃ => wpAny (model prog w) A (newFunctionEnv scope env.globals cl [] env.qual none .none (some env)) (fun cenv s₄ =>
      codeAny (model prog w) A (.compStart (.ListComp (.Name a px) [⟨.Tuple [.Name a pa, .Name b pb] kk tp, iter, [ct], 0⟩] scope pos) 0 (.ref e) acc { cenv with scope := relabel scope env }) (RR acc cenv.locals) s₄) E s₃) E s₂ := by
  refine wpAny_newObj_type (wpAny_newFunctionEnv hcell (by intro y hy; simp at hy) (fun h₁ hns₁ hsb₁ => ?_) hkind)
  dsimp only at hns₁ hsb₁ ⊢
  generalize hH2 : s₂.heap.push { cls := .type "list", dict := none, data := .seq ([] : List Value).toArray } = H2 at hns₁ hsb₁ ⊢
  have hC : H2.objs.size = s₂.heap.objs.size + 1 := by rw [← hH2, Heap.size_push]
  generalize hDe : s₂.heap.objs.size = D at hC ⊢
  generalize hCe : H2.objs.size = C at hC hns₁ hsb₁ ⊢
  have low : ∀ b o, s₂.heap.get? b = some o → @LT.lt Nat instLTNat b D := fun b o x => hDe ▸ Heap.lt_size x
  have old : ∀ b o, s₂.heap.get? b = some o → h₁.get? b = some o := fun b o x => hsb₁.extBut b o (by have := low b o x; show @Ne Nat b C; omega) (Heap.get?_push_of_some _ (hH2 ▸ Heap.get?_push_of_some _ x))
  have hDC : @Ne Nat D C := by omega
  have hacc : h₁.get? D = some (lst []) := hsb₁.extBut _ _ hDC (Heap.get?_push_of_some _ (by rw [← hH2, ← hDe]; exact Heap.get?_push_size _ rfl))
  have hL : s₂.heap.IsList ax vs.toArray := ⟨_, (N _ hm).1, rfl, _, rfl⟩
  have heD : @LT.lt Nat instLTNat e D := low _ _ he
  have hiD : @LT.lt Nat instLTNat it D := by obtain ⟨_, x, _⟩ := hit; exact low _ _ x
  have hLD : @LT.lt Nat instLTNat L D := hDe ▸ F.ns.lt
  have nlt : ∀ q ∈ news, @LT.lt Nat instLTNat q.1 D := fun q hq => low _ _ (N q hq).1
  have fresh₀ : ∀ a, D ≤ a → h₀.get? a = none := fun a ha => Heap.get?_none_of_le (Nat.le_trans F.above (Nat.le_trans (Nat.le_of_lt hLD) ha))
  have hD₀ := fresh₀ D (Nat.le_refl _)
  have hC₀ := fresh₀ C (by omega)
  have W := WalksT.enumerate (prog := prog) (w := w) hh e it ax hei hae hai vs.toArray
  have hka : (compEnvC scope cl C env).kindOf a = some .local := lookup_relabel_local hxa
  have hkb : (compEnvC scope cl C env).kindOf b = some .local := lookup_relabel_local hxb
  have hpl : ((compEnvC scope cl C env).scope.kind == .class || ((compEnvC scope cl C env).scope.kind == .module && (compEnvC scope cl C env).locals != (compEnvC scope cl C env).globals)) = false := by simp [compEnvC, relabel, hkind]
  have loop : ∀ s₃ : Shared, (∃ tk, s₃ = { s₂ with heap := h₁, toks := tk }) →
      codeAny (model prog w) A (.compLoop (.ListComp (.Name a px) [⟨.Tuple [.Name a pa, .Name b pb] kk tp, iter, [ct], 0⟩] scope pos) 0 (.ref e) (.ref D) (compEnvC scope cl C env)) (RR (.ref D) C) s₃ := by
    rintro s₃ ⟨tk₃, rfl⟩
    refine kct_loop
      (fun k s' => ∃ h' tk i ys m', s' = { s₂ with heap := h', toks := tk } ∧ i ≤ vs.toArray.size ∧ k = vs.toArray.size + 1 - i ∧ ys.length ≤ i ∧ ((∃ old, IsEnum h' e it i old) ∧ h'.IsListIter it ax i ∧ h'.IsList ax vs.toArray) ∧ Fr h₀ L h' m ∧ h'.Ns C m' ∧ News h₀ L h' ((D, lst ys) :: news) ∧ IntsAre ys (placesOf p i)) ?_ (vs.toArray.size + 1)
      ⟨h₁, _, 0, [], _, rfl, Nat.zero_le _, rfl, Nat.le_refl _, ⟨⟨_, old _ _ he⟩, hit.at fun o x => old _ _ x, hL.at fun o x => old _ _ x⟩, F.keeps old, hns₁, fun q hq => ?_, .nil⟩
    · rintro k s' ⟨h', tk, i, ys, m', rfl, hi, rfl, hyl, hst', F', hn', N', hys⟩
      by_cases hlt : i < vs.toArray.size
      · refine W.item i _ _ _ hlt hst' fun U vals h₂ tk₂ hPt hUle hU hMid hk₂ => ?_
        refine W.go [.Name a pa, .Name b pb] kk tp i U _ _ _ hMid fun h₃ hst₃ hk₃ => ?_
        have hUw := W.apart i U _ hMid
        obtain ⟨t, x, hx, rfl⟩ := hPt
        have hU₃ : h₃.IsTuple U #[.int i t, x] := hU.at fun o y => hk₃ _ _ hUw y
        have up : ∀ c o, c ≠ e → c ≠ it → h'.get? c = some o → h₃.get? c = some o := fun c o h1 h2 y => hk₃ c o (by simp [h1, h2]) (hk₂ c o (by simp [h1, h2]) y)
        refine kcp_assign (env := compEnvC scope cl C env) hh hU₃ hka hkb hpl (hn'.at' fun o y => up _ o (by show @Ne Nat C e; omega) (by show @Ne Nat C it; omega) y) fun h₄ tk₄ hn₄ hs₄ => ?_
        have up4 : ∀ c o, c ≠ e → c ≠ it → c ≠ C → h'.get? c = some o → h₄.get? c = some o := fun c o h1 h2 h3 y => hs₄ c o h3 (up c o h1 h2 y)
        obtain ⟨⟨old₃, hE₃⟩, hI₃, hL₃⟩ := hst₃
        have hE₄ : h₄.get? e = some _ := hs₄ e _ (by show @Ne Nat e C; omega) hE₃
        obtain ⟨oi, hoi, hoi2⟩ := hI₃
        have hI₄ : h₄.get? it = some oi := hs₄ it _ (by show @Ne Nat it C; omega) hoi
        obtain ⟨oC, heC, hoC⟩ := ns_obj hn₄
        have F₄ : Fr h₀ L h₄ m := ⟨F'.ns.at' fun o y => up4 _ o hLe hLi (by show @Ne Nat L C; omega) y, fun c o y => up4 c o (fun q => by rw [q, he₀] at y; cases y) (fun q => by rw [q, hi₀] at y; cases y) (fun q => by rw [q, hC₀] at y; cases y) (F'.keep c o y), F'.above⟩
        have N₄ : News h₀ L h₄ ((e, _) :: (it, oi) :: (C, oC) :: (D, lst ys) :: news) := fun q hq => by
          rcases List.mem_cons.mp hq with rfl | hq
          · exact ⟨hE₄, Ne.symm hLe, he₀⟩
          rcases List.mem_cons.mp hq with rfl | hq
          · exact ⟨hI₄, Ne.symm hLi, hi₀⟩
          rcases List.mem_cons.mp hq with rfl | hq
          · exact ⟨heC, by show @Ne Nat C L; omega, hC₀⟩
          rcases List.mem_cons.mp hq with rfl | hq
          · exact ⟨up4 _ _ (by show @Ne Nat D e; omega) (by show @Ne Nat D it; omega) hDC (N' _ (.head _)).1, by show @Ne Nat D L; omega, hD₀⟩
          · have z := N' q (.tail _ hq)
            exact ⟨up4 _ _ (offe q hq) (offi q hq) (by have := nlt q hq; show @Ne Nat q.1 C; omega) z.1, z.2⟩
        have hxv : vs[i]? = some x := by simpa using hx
        refine T i x hxv t e _ it oi C oC D ys _ h₄ tk₄ _ _ hoC (by simp [hab]) (by simp) F₄ N₄ fun h₅ tk₅ F₅ N₅ => ?_
        have zE := (N₅ _ (.head _)).1
        have zI := (N₅ (it, oi) (.tail _ (.head _))).1
        have zC := (N₅ (C, oC) (.tail _ (.tail _ (.head _)))).1
        have zD := (N₅ (D, lst ys) (.tail _ (.tail _ (.tail _ (.head _))))).1
        have N₅' : News h₀ L h₅ news := fun q hq => N₅ q (.tail _ (.tail _ (.tail _ (.tail _ hq))))
        cases hpk : p i with
        | true =>
          rw [if_pos rfl]
          refine wpAny_Name (wpAny_loadName_local (by exact hkind) hka (hoC.ns zC) (show _ = some (Value.int i t) by rw [if_neg hab, if_pos rfl]) ?_) had
          refine append_at (hsz := by show ys.toArray.size ≤ sizeLine; rw [List.size_toArray]; simp only [List.size_toArray] at hi; omega) zD fun h₆ hs₆ hD₆ => ?_
          refine ⟨vs.toArray.size + 1 - (i + 1), by omega, h₆, tk₅, i + 1, ys ++ [.int i t], _, rfl, hlt, rfl, by rw [List.length_append, List.length_singleton]; exact Nat.succ_le_succ hyl,
            ⟨⟨old₃, hs₆.extBut e _ (by show @Ne Nat e D; omega) zE⟩, ⟨oi, hs₆.extBut it _ (by show @Ne Nat it D; omega) zI, hoi2⟩, ⟨_, hs₆.extBut ax _ (by have := nlt _ hm; show @Ne Nat ax D; omega) (N₅' _ hm).1, rfl, _, rfl⟩⟩, F₅.change hs₆ (by show @Ne Nat D L; omega) hD₀, (hoC.ns zC).sameBut hs₆ (Ne.symm hDC), fun q hq => ?_, ?_⟩
          · rcases List.mem_cons.mp hq with rfl | hq
            · exact ⟨hD₆.trans (congrArg some (lst_snoc ys _)), by show @Ne Nat D L; omega, hD₀⟩
            · exact ⟨hs₆.extBut _ _ (by have := nlt q hq; show @Ne Nat q.1 D; omega) (N₅' q hq).1, (N₅' q hq).2⟩
          · rw [places_succ, if_pos hpk]
            exact IntsAre.append hys (.cons _ t .nil)
        | false =>
          rw [if_neg (by decide)]
          refine ⟨vs.toArray.size + 1 - (i + 1), by omega, h₅, tk₅, i + 1, ys, _, rfl, hlt, rfl, Nat.le_succ_of_le hyl, ⟨⟨old₃, zE⟩, ⟨oi, zI, hoi2⟩, ⟨_, (N₅' _ hm).1, rfl, _, rfl⟩⟩, F₅, hoC.ns zC, fun q hq => ?_, ?_⟩
          · rcases List.mem_cons.mp hq with rfl | hq
            · exact N₅ _ (.tail _ (.tail _ (.tail _ (.head _))))
            · exact N₅' q hq
          · rw [places_succ, if_neg (by rw [hpk]; decide), List.append_nil]
            exact hys
      · obtain rfl : i = vs.toArray.size := Nat.le_antisymm hi (Nat.not_lt.mp hlt)
        refine W.done _ _ _ hst' fun h₂ tk₂ hk₂ => ?_
        have up : ∀ c o, c ≠ e → c ≠ it → h'.get? c = some o → h₂.get? c = some o := fun c o h1 h2 y => hk₂ c o (by simp [h1, h2]) y
        refine hRR D C h₂ tk₂ m' ys ⟨F'.ns.at' fun o y => up L o hLe hLi y, fun c o y => up c o (fun q => by rw [q, he₀] at y; cases y) (fun q => by rw [q, hi₀] at y; cases y) (F'.keep c o y), F'.above⟩ (fun q hq => ?_) ?_ (hn'.at' fun o y => up _ o (by show @Ne Nat C e; omega) (by show @Ne Nat C it; omega) y) hC₀ hD₀ (by show @Ne Nat C L; omega) (by show @Ne Nat D L; omega) (Ne.symm hDC)
          (fun q hq => by have := nlt q hq; show @Ne Nat q.1 C; omega) (by simpa using hys)
        · rcases List.mem_cons.mp hq with rfl | hq
          · have z := N' _ (.head _)
            exact ⟨up _ _ (by show @Ne Nat D e; omega) (by show @Ne Nat D it; omega) z.1, z.2⟩
          · have z := N' q (.tail _ hq)
            exact ⟨up _ _ (offe q hq) (offi q hq) z.1, z.2⟩
        · have : ∀ l : List (Addr × Obj), (∀ q ∈ l, @LT.lt Nat instLTNat q.1 D) → Off1 D l := by
            intro l
            induction l with
            | nil => intro _; trivial
            | cons q r ih => intro hq; exact ⟨Nat.ne_of_lt (hq q (.head _)), ih fun z hz => hq z (.tail _ hz)⟩
          exact this _ nlt
    · rcases List.mem_cons.mp hq with rfl | hq
      · exact ⟨hacc, by show @Ne Nat D L; omega, hD₀⟩
      · exact ⟨old _ _ (N q hq).1, (N q hq).2⟩
  refine codeAny_compStart_list (loop _ ⟨_, rfl⟩) ?_
  exact wpAny_pyIter_enum (old _ _ he) (loop _ ⟨_, rfl⟩)
end
end Mine
end
section
open PySem PySem.W PySem.Calls PyProof.Rows PyProof.V PyProof.Rows.LCg
set_option Elab.async false
set_option maxRecDepth 100000
set_option maxHeartbeats 8000000
namespace Mine
section
variable {prog : Program} {w : World} {A : Around} {E : Value → Shared → Prop} {s : Shared} {h₀ : Heap} {L : Addr} {m : Str → Option Value} {env : Env}
/-- where the numbered list stands, its tests, and what follows -/
noncomputable def SrcE (prog : Program) (w : World) (A : Around) (h₀ : Heap) (L : Addr) (m : Str → Option Value) (env : Env) (ct : Expr) (a b : Str) (scope : Scope) (cl : List (Str × Addr)) (y : Str) (Q : Flow → Shared → Prop) (xv : Value) (s₁ : Shared) : Prop :=
  ∃ (e it ax : Addr) (vs : List Value) (nn : Nat) (news : List (Addr × Obj)) (p : Nat → Bool), xv = .ref e ∧ A.handled = none ∧ e ≠ it ∧ ax ≠ e ∧ ax ≠ it ∧ vs.length ≤ sizeLine ∧ IsEnum s₁.heap e it 0 .none ∧ s₁.heap.IsListIter it ax 0 ∧ (ax, listOf vs.toArray nn) ∈ news ∧
    Fr h₀ L s₁.heap m ∧ News h₀ L s₁.heap news ∧ L ≠ e ∧ L ≠ it ∧ h₀.get? e = none ∧ h₀.get? it = none ∧ (∀ q ∈ news, q.1 ≠ e) ∧ (∀ q ∈ news, q.1 ≠ it) ∧
    (∀ g i v, vs[i]? = some v → TestE prog w A h₀ L m env ct a b scope cl { s₁ with heap := g } news i v (p i)) ∧
    ∀ D h' tk ys, Fr h₀ L h' (fun z => if z = y then some (.ref D) else m z) → News h₀ L h' ((D, lst ys) :: news) → Off1 D news → IntsAre ys (placesOf p vs.length) → Q .next { s₁ with heap := h', toks := tk }
theorem enumSrcC {ct : Expr} {a b y : Str} {scope : Scope} {cl : List (Str × Addr)} {ax : Addr} {vs : List Value} {nn : Nat} {news : List (Addr × Obj)} {Q : Flow → Shared → Prop} (p : Nat → Bool)
    (hh : A.handled = none) (F : Fr h₀ L s.heap m) (N : News h₀ L s.heap news) (hm : (ax, listOf vs.toArray nn) ∈ news) (hsz : vs.length ≤ sizeLine)
    (T : ∀ g i v, vs[i]? = some v → TestE prog w A h₀ L m env ct a b scope cl { s with heap := g } news i v (p i))
    (fin : ∀ D h' tk ys, Fr h₀ L h' (fun z => if z = y then some (.ref D) else m z) → News h₀ L h' ((D, lst ys) :: news) → Off1 D news → IntsAre ys (placesOf p vs.length) → Q .next { s with heap := h', toks := tk }) :
    wpAny (model prog w) A (call (.type "enumerate") [.ref ax]) (SrcE prog w A h₀ L m env ct a b scope cl y Q) E s := by
  have hl : s.heap.IsList ax vs.toArray := ⟨_, (N _ hm).1, rfl, _, rfl⟩
  refine call_enumerate_list hl fun h' he hit hz hk => ?_
  have lt : ∀ c o, s.heap.get? c = some o → @LT.lt Nat instLTNat c s.heap.objs.size := fun c o x => Heap.lt_size x
  have ha : @LT.lt Nat instLTNat ax s.heap.objs.size := lt _ _ (N _ hm).1
  have hL : @LT.lt Nat instLTNat L s.heap.objs.size := F.ns.lt
  have hab : @LE.le Nat instLENat h₀.objs.size L := F.above
  refine ⟨_, _, ax, vs, nn, news, p, rfl, hh, Nat.succ_ne_self _, by show @Ne Nat ax _; omega, by show @Ne Nat ax _; omega, hsz, he, hit, hm, F.keeps hk, N.grown hk, by show @Ne Nat L _; omega, by show @Ne Nat L _; omega,
    Heap.get?_none_of_le (by omega), Heap.get?_none_of_le (by omega), fun q hq => ?_, fun q hq => ?_, T, fin⟩
  · have := lt _ _ (N q hq).1
    show @Ne Nat q.1 _; omega
  · have := lt _ _ (N q hq).1
    show @Ne Nat q.1 _; omega
theorem Assign_enum {ct iter : Expr} {a b y : Str} {pa pb px tp py pos spos : Pos} {kk : Nat} {scope : Scope} {cl : List (Str × Addr)} {Q : Flow → Shared → Prop} (_F₀ : Fr h₀ L s.heap m) (hLe : env.locals = L)
    (hsw : swapsWith (.ListComp (.Name a px) [⟨.Tuple [.Name a pa, .Name b pb] kk tp, iter, [ct], 0⟩] scope pos) (some (.Name y py)) spos.line env = pure true)
    (hclos : closureFor scope env = pure cl) (hcell : ∀ z ∈ scope.names, z.2 ≠ .cell) (hkind : scope.kind = .function)
    (hnames : ∀ z ∈ scope.names, z.2 = .local → scope.names.lookup z.1 = some .local) (hxa : scope.names.lookup a = some .local) (hxb : scope.names.lookup b = some .local) (hab : ¬ a = b) (had : (a == ("__debug__" : Str)) = false)
    (hy : env.kindOf y = some .local) (hp : (env.scope.kind == .class || (env.scope.kind == .module && env.locals != env.globals)) = false)
    (h : wpAny (model prog w) A (eval iter env) (SrcE prog w A h₀ L m env ct a b scope cl y Q) E s)
    (hs : ∀ x, foldedSetIterable iter env x = pure x := by intro _; rfl) :
    wpAny (model prog w) A (exec (.Assign [.Name y py] (.ListComp (.Name a px) [⟨.Tuple [.Name a pa, .Name b pb] kk tp, iter, [ct], 0⟩] scope pos) spos) env) Q E s := by
  subst hLe
  rw [exec_Assign_Name_used _ _ _ _ hsw]
  refine wpAny_bind (wpAny_standAt (wpAny_bind ?_))
  show wpAny _ A (do let _ ← comprehension (.ListComp (.Name a px) [⟨.Tuple [.Name a pa, .Name b pb] kk tp, iter, [ct], 0⟩] scope pos) scope env _ (newList []) false (eval iter env) (some (assign (.Name y py) env))) _ _ s
  refine wpAny_bind (wpAny_mono (wpAny_comprehension_free (use := some (assign (.Name y py) env)) (Q := fun _ s' => Q .next s') rfl hs hclos hkind hnames
    (wpAny_mono h (fun xv s₁ h₁ => ?_) fun _ _ e => e)) (fun _ s' hq => wpAny_pure (wpAny_pure hq)) fun _ _ e => e)
  obtain ⟨e, it, ax, vs, nn, news, p, rfl, hh, hei, hae, hai, hsz, he, hit, hm, F, N, hLe, hLi, he₀, hi₀, offe, offi, T, fin⟩ := h₁
  refine wpAny_pyIter_enum he ?_
  refine enumBlock hh hei hae hai hsz he hit hm hcell hkind hxa hxb hab had F N hLe hLi he₀ hi₀ offe offi (fun i v hv => T _ i v hv) ?_
  intro D C h' tk m' ys F' N' o1 hn hC₀ hD₀ hCL hDL hCD offC hys
  show wpAny _ A (assign (.Name y py) env (.ref D)) _ _ _
  refine wpAny_assign_Name (wpAny_storeName_local hy F'.ns (fun h₂ hn₂ hs₂ => ?_) hp)
  have hL₀ : h₀.get? env.locals = none := Heap.get?_none_of_le F'.above
  have F₂ : Fr h₀ env.locals h₂ (fun z => if z = y then some (.ref D) else m z) := ⟨hn₂, fun b o e => hs₂.extBut b o (fun q => by rw [q, hL₀] at e; cases e) (F'.keep b o e), F'.above⟩
  refine ⟨m', hn.sameBut hs₂ hCL, fun h'' hs'' => fin D h'' _ ys (F₂.change hs'' hCL hC₀) (fun q hq => ?_) o1 hys⟩
  have z : h₂.get? q.1 = some q.2 := hs₂.extBut _ _ (N' q hq).2.1 (N' q hq).1
  refine ⟨hs''.extBut _ _ ?_ z, (N' q hq).2⟩
  rcases List.mem_cons.mp hq with rfl | hq
  · exact Ne.symm hCD
  · exact offC q hq
end
/-- the places of the empty clauses -/
theorem endsOf_places : ∀ (rs : List Row) (i : Nat), endsOf rs (i : Int) = ((List.range rs.length).filter fun j => decide ((rs[j]?.map fun r => r.2.1) = some [])).map fun j => ((i + j : Nat) : Int)
  | [], _ => rfl
  | r :: rs, i => by
    have ih := endsOf_places rs (i + 1)
    unfold endsOf
    rw [List.length_cons, List.range_succ_eq_map, List.filter_cons, List.filter_map]
    have e1 : ((fun j => decide (((r :: rs)[j]?.map fun r => r.2.1) = some [])) ∘ Nat.succ) = fun j => decide ((rs[j]?.map fun r => r.2.1) = some []) := by
      funext j
      simp
    have e2 : (fun j => ((i + 1 + j : Nat) : Int)) = (fun j => ((i + j : Nat) : Int)) ∘ Nat.succ := by
      funext j
      simp only [Function.comp, Nat.succ_eq_add_one]
      omega
    have e3 : ((i : Int) + 1) = ((i + 1 : Nat) : Int) := by omega
    rw [e1, e3, ih, e2, ← List.map_map]
    by_cases h : r.2.1 = []
    · have h0 : decide (((r :: rs)[0]?.map fun r => r.2.1) = some []) = true := by simp [h]
      rw [if_pos h, if_pos h0, List.map_cons]
      simp
    · have h0 : ¬ decide (((r :: rs)[0]?.map fun r => r.2.1) = some []) = true := by simp [h]
      rw [if_neg h, if_neg h0]
end Mine
end
section
open PySem PySem.W PySem.Calls PyProof.Rows PyProof.V PyProof.Rows.LCg
set_option Elab.async false
set_option maxRecDepth 100000
set_option maxHeartbeats 8000000
namespace Mine
section
variable {prog : Program} {w : World} {A : Around} {E : Value → Shared → Prop} {s : Shared} {h₀ : Heap} {L a b : Addr} {news n₁ n₂ : List (Addr × Obj)} {xs ys vs : List Value} {ka kb n k : Nat} {ds : List Dat} {ns : List Int} {Q : Value → Shared → Prop}
/-- two lists of the same data differ not -/
theorem ne_same (N : News h₀ L s.heap news) (ma : (a, listOf xs.toArray ka) ∈ news) (Da : DatAll n₁ xs ds) (sa : ∀ p ∈ n₁, p ∈ news) (mb : (b, listOf ys.toArray kb) ∈ news) (Db : DatAll n₂ ys ds) (sb : ∀ p ∈ n₂, p ∈ news)
    (ok : ∀ d ∈ ds, kqdOk 8 d = true) (hu : A.units + 64 < cLine) (h : Q (.bool false) s) : wpAny (model prog w) A (compareOp .NotEq (.ref a) (.ref b)) Q E s :=
  kqd_ne N ma rfl rfl Da sa mb rfl rfl Db sb ok ok hu (by simpa using h)
/-- a tuple of ints against the empty one -/
theorem eq_tup_nil (N : News h₀ L s.heap news) (ma : (a, tupO vs n) ∈ news) (hi : IntsAre vs ns) (mb : (b, tupO [] k) ∈ news) (hu : A.units + 64 < cLine) (h : Q (.bool (decide (ns = []))) s) :
    wpAny (model prog w) A (compareOp .Eq (.ref a) (.ref b)) Q E s := by
  have oka : kqdOk 9 (.tuple (ns.map Dat.int)) = true := by simp only [kqdOk, List.all_eq_true]; exact kqd_ints 8 ns
  have okb : kqdOk 9 (.tuple []) = true := rfl
  obtain ⟨as, ra⟩ := kqd_in N 9 (DatIn.tuple ma (dat_ints hi)) oka
  obtain ⟨bs, rb⟩ := kqd_in N 9 (DatIn.tuple mb .nil) okb
  have la := kqd_lay 9 _ oka
  have lb := kqd_lay 9 _ okb
  have e : PyData.eqv (kqdP (.tuple (ns.map Dat.int))) (kqdP (.tuple [])) = decide (ns = []) := by
    have q := kqd_eqv 9 _ _ 9 oka okb
    by_cases hq : ns = []
    · rw [decide_eq_true hq]; exact q.mpr (by rw [hq]; rfl)
    · rw [decide_eq_false hq]
      refine Bool.eq_false_iff.mpr fun x => hq ?_
      have := q.mp x
      injection this with this
      exact List.map_eq_nil_iff.mp this
  refine eq_dataH ra rb ?_ ?_ hu (by rw [e]; exact h)
  · unfold SeqAt.shaped; rw [la.1, Bool.true_and]; exact decide_eq_true (Nat.le_trans la.2 (by decide))
  · unfold SeqAt.shaped; rw [lb.1, Bool.true_and]; exact decide_eq_true (Nat.le_trans lb.2 (by decide))
theorem list_item {value slice : Expr} {l : Addr} {j : Int} {u : Tok} {v : Value} (N : News h₀ L s.heap news) (hm : (l, listOf vs.toArray n) ∈ news) (h0 : 0 ≤ j) (hhi : j < 2 ^ 63) (hx : vs[j.toNat]? = some v) (h : Q v s)
    (hs : subscripted slice false (.ref l) (.int j u) = operate [.ref l, .int j u] (getItem (.ref l) (.int j u)) := by with_unfolding_all rfl) :
    wpAny (model prog w) A (subscriptTail value slice (.ref l) (.int j u)) Q E s :=
  have hl : s.heap.IsList l vs.toArray := News.isList N hm
  tail_any hl.typeIs slot_list_getitem.lookup (wpAny_getItem_list hl h0 hhi (by simpa using hx) h) hs
end
/-- a row as it lies -/
structure RowAt (tl : List (Addr × Obj)) (v : Value) (r : Row) (q c : Addr) (v1 v3 v4 : Value) (n nc : Nat) (cs : List Value) : Prop where
  ref : v = .ref q
  mem : (q, tupO [v1, .ref c, v3, v4] n) ∈ tl
  cl : (c, tupO cs nc) ∈ tl
  il : IntsAre cs r.2.1
theorem ints_dat {tl : List (Addr × Obj)} : ∀ {vs : List Value} {ns : List Int}, DatAll tl vs (ns.map Dat.int) → IntsAre vs ns
  | [], [], _ => .nil
  | [], _ :: _, h => by cases h
  | _ :: _, [], h => by cases h
  | v :: vs, n :: ns, h => by
    cases h with
    | cons h r =>
      cases h with
      | int i t => exact .cons _ t (ints_dat r)
theorem rowAt {tl : List (Addr × Obj)} {v : Value} {r : Row} (h : DatIn tl v (rowD r)) : ∃ q c v1 v3 v4 n nc cs, RowAt tl v r q c v1 v3 v4 n nc cs := by
  unfold rowD at h
  cases h with
  | tuple hm hd =>
    cases hd with
    | cons h1 hd =>
      cases hd with
      | cons h2 hd =>
        cases hd with
        | cons h3 hd =>
          cases hd with
          | cons h4 hd =>
            cases hd
            unfold clD at h2
            cases h2 with
            | tuple hc hi => exact ⟨_, _, _, _, _, _, _, _, rfl, hm, hc, ints_dat hi⟩
theorem rows_at {tl : List (Addr × Obj)} {due : List Value} {rows : List Row} (h : DatAll tl due (rows.map rowD)) {i : Nat} {v : Value} (hv : due[i]? = some v) : ∃ r, rows[i]? = some r ∧ DatIn tl v (rowD r) := by
  have hl := h.length
  rw [List.length_map] at hl
  have hi : i < due.length := (List.getElem?_eq_some_iff.mp hv).1
  have hi2 : i < rows.length := by omega
  obtain ⟨v', e, d⟩ := h.get (k := i) (by rw [List.length_map]; exact hi2)
  rw [hv] at e
  cases e
  exact ⟨rows[i], List.getElem?_eq_getElem hi2, by simpa using d⟩
theorem row_cl {tl : List (Addr × Obj)} {v : Value} {r : Row} {q c : Addr} {v1 v3 v4 : Value} {n nc : Nat} {cs : List Value} (h : RowAt tl v r q c v1 v3 v4 n nc cs) : DatIn tl (.ref c) (clD r) := .tuple h.cl (dat_ints h.il)
theorem take_snoc {rows : List Row} {i : Nat} {r : Row} (h : rows[i]? = some r) : (rows.take (i + 1)).map clD = (rows.take i).map clD ++ [clD r] := by
  rw [List.take_add_one, h]; simp
/-- what the list of the rows' clauses keeps -/
noncomputable def ClInv (N0 tl : List (Addr × Obj)) (rows : List Row) (i : Nat) (ys : List Value) (news : List (Addr × Obj)) : Prop := news = N0 ∧ DatAll tl ys ((rows.take i).map clD)
theorem rep_none {tl : List (Addr × Obj)} : ∀ (rows : List Row), DatAll tl (List.replicate rows.length Value.none) (rows.map fun _ => Dat.none)
  | [] => .nil
  | _ :: r => .cons .none (rep_none r)
theorem nones_ok (rows : List Row) : ∀ d ∈ rows.map (fun _ => Dat.none), kqdOk 8 d = true := fun d hd => by
  obtain ⟨_, _, rfl⟩ := List.mem_map.mp hd
  rfl
theorem snoc_none (rows : List Row) (r : Row) : (rows.map fun _ => Value.none) ++ [Value.none] = (rows ++ [r]).map fun _ => Value.none := by rw [List.map_append]; rfl
theorem rangeKs_snoc (n : Nat) : rangeKs 0 n ++ [(n : Int)] = rangeKs 0 (n + 1) := by
  unfold rangeKs
  rw [List.range_succ, List.map_append]
  simp
theorem UA.ext {A : List Addr} {q : Addr} {o : Obj} {l : List (Addr × Obj)} (h : UA A l) (hq : q ∉ A) : UA A ((q, o) :: l) := ⟨fun _ _ _ => hq, h⟩
theorem news_ext {h₀ h : Heap} {L : Addr} {news : List (Addr × Obj)} {p : Addr × Obj} (N : News h₀ L h news) (hm : p ∈ news) : News h₀ L h (p :: news) := fun q hq => (List.mem_cons.mp hq).elim (fun e => e ▸ N p hm) (N q)
end Mine
end
section
open PySem PySem.W PySem.Calls PyProof.Rows PyProof.V PyProof.Rows.LCg
set_option Elab.async false
set_option maxRecDepth 100000
set_option maxHeartbeats 8000000
namespace Mine
/-- a ledger holds what stood before -/
noncomputable def Cov (A : List Addr) (own l : List (Addr × Obj)) : Prop := (∀ b ∈ A, ∃ o, (b, o) ∈ l) ∧ ∀ p ∈ own, p ∈ l
/-- an address is new -/
noncomputable def Nw (A : List Addr) (own : List (Addr × Obj)) (x : Addr) : Prop := x ∉ A ∧ ∀ p ∈ own, p.1 ≠ x
theorem Cov.ne {A : List Addr} {own l : List (Addr × Obj)} {x : Addr} (f : ∀ p ∈ l, p.1 ≠ x) (c : Cov A own l) : Nw A own x :=
  ⟨fun h => by obtain ⟨o, ho⟩ := c.1 x h; exact f _ ho rfl, fun p hp => f p (c.2 p hp)⟩
theorem Cov.lt {A : List Addr} {own l : List (Addr × Obj)} {x : Addr} (f : ∀ p ∈ l, p.1 < x) (c : Cov A own l) : Nw A own x :=
  Cov.ne (fun p hp => Nat.ne_of_lt (f p hp)) c
theorem addOf {l : List (Addr × Obj)} {A : List Addr} {own : List (Addr × Obj)} {r : Str} {tr : Tok} {q c e a7 a8 u8 q8 d : Addr} {cs vs7 vs8 : List Value} {ts : List Int} {nv : Value} {n nc k n7 n8 k8 n85 n9 : Nat} {i : Int} {t : Tok} {i2 : Int} {t2 : Tok} {s3 : Str} {t3 : Tok}
    (hr : r ∈ rulesL) (m1 : (q, tupO [.str r tr, .ref c, .ref e, nv] n) ∈ l) (m2 : (e, tupO [] k) ∈ l) (m3 : (c, tupO cs nc) ∈ l) (i3 : IntsAre cs ts) (m4 : (a7, tupO vs7 n7) ∈ l) (i7 : IntsAre vs7 ts) (m5 : (a8, tupO vs8 n8) ∈ l) (i8 : IntsAre vs8 ts) (m6 : (u8, tup0 k8) ∈ l)
    (m7 : (q8, stepO (.str r tr) a8 u8 nv n85) ∈ l) (hn : nv ∈ [Value.none, .int i t, .ref d]) (m8 : (d, tupO [.int i2 t2, .str s3 t3] n9) ∈ l) (hs : PyData.strOk s3 = true)
    (f1 : Nw A own q) (f2 : Nw A own e) (f3 : Nw A own c) (f4 : Nw A own a7) (f5 : Nw A own a8) (f6 : Nw A own u8) (f7 : Nw A own q8) (f8 : Nw A own d) :
    ∃ (add : List (Addr × Obj)) (nd : Dat), (∀ p ∈ add, p ∈ l) ∧ RowOk (r, ts, nd) ∧ DatIn add (.ref q) (rowD (r, ts, nd)) ∧ DatIn add (.ref a7) (clD (r, ts, nd)) ∧ DatIn add (.ref a8) (clD (r, ts, nd)) ∧ DatIn add (.ref q8) (rowD (r, ts, nd)) ∧ ∀ p ∈ add, Nw A own p.1 := by
  let add : List (Addr × Obj) := [(q, tupO [.str r tr, .ref c, .ref e, nv] n), (e, tupO [] k), (c, tupO cs nc), (a7, tupO vs7 n7), (a8, tupO vs8 n8), (u8, tup0 k8), (q8, stepO (.str r tr) a8 u8 nv n85), (d, tupO [.int i2 t2, .str s3 t3] n9)]
  have hd : (d, tupO [.int i2 t2, .str s3 t3] n9) ∈ add := .tail _ (.tail _ (.tail _ (.tail _ (.tail _ (.tail _ (.tail _ (.head _)))))))
  obtain ⟨nd, h1, h2⟩ : ∃ nd, DatIn add nv nd ∧ NoteOk nd := by
    rcases List.mem_cons.mp hn with rfl | hn
    · exact ⟨_, .none, rfl⟩
    rcases List.mem_cons.mp hn with rfl | hn
    · exact ⟨_, .int _ _, rfl⟩
    rw [List.mem_singleton.mp hn]
    refine ⟨_, .tuple hd (.cons (.int _ _) (.cons (.str _ _) .nil)), ?_⟩
    unfold NoteOk
    simp only [kqdOk, List.all_cons, List.all_nil, hs, Bool.and_self]
  have h3 : DatIn add (.ref c) (clD (r, ts, nd)) := .tuple (.tail _ (.tail _ (.head _))) (dat_ints i3)
  have h4 : DatIn add (.ref a8) (clD (r, ts, nd)) := .tuple (.tail _ (.tail _ (.tail _ (.tail _ (.head _))))) (dat_ints i8)
  refine ⟨add, nd, ?_, ⟨hr, h2⟩, ?_, ?_, h4, ?_, ?_⟩
  · intro p hp
    rcases List.mem_cons.mp hp with rfl | hp
    · exact m1
    rcases List.mem_cons.mp hp with rfl | hp
    · exact m2
    rcases List.mem_cons.mp hp with rfl | hp
    · exact m3
    rcases List.mem_cons.mp hp with rfl | hp
    · exact m4
    rcases List.mem_cons.mp hp with rfl | hp
    · exact m5
    rcases List.mem_cons.mp hp with rfl | hp
    · exact m6
    rcases List.mem_cons.mp hp with rfl | hp
    · exact m7
    rw [List.mem_singleton.mp hp]; exact m8
  · exact .tuple (.head _) (.cons (.str _ _) (.cons h3 (.cons (.tuple (.tail _ (.head _)) .nil) (.cons h1 .nil))))
  · exact .tuple (.tail _ (.tail _ (.tail _ (.head _)))) (dat_ints i7)
  · exact .tuple (n := n85) (vs := [.str r tr, .ref a8, .ref u8, nv]) (.tail _ (.tail _ (.tail _ (.tail _ (.tail _ (.tail _ (.head _))))))) (.cons (.str _ _) (.cons h4 (.cons (.tuple (vs := []) (n := k8) (.tail _ (.tail _ (.tail _ (.tail _ (.tail _ (.head _)))))) .nil) (.cons h1 .nil))))
  · intro p hp
    rcases List.mem_cons.mp hp with rfl | hp
    · exact f1
    rcases List.mem_cons.mp hp with rfl | hp
    · exact f2
    rcases List.mem_cons.mp hp with rfl | hp
    · exact f3
    rcases List.mem_cons.mp hp with rfl | hp
    · exact f4
    rcases List.mem_cons.mp hp with rfl | hp
    · exact f5
    rcases List.mem_cons.mp hp with rfl | hp
    · exact f6
    rcases List.mem_cons.mp hp with rfl | hp
    · exact f7
    rw [List.mem_singleton.mp hp]; exact f8
theorem dat_snoc {add tl : List (Addr × Obj)} {vs : List Value} {v : Value} {rows : List Row} {r : Row} {f : Row → Dat} (h : DatAll tl vs (rows.map f)) (k : DatIn add v (f r)) : DatAll (add ++ tl) (vs ++ [v]) ((rows ++ [r]).map f) := by
  rw [List.map_append]
  exact DatAll.append (h.mono fun p hp => List.mem_append_right _ hp) (DatAll.one (k.mono fun p hp => List.mem_append_left _ hp))
theorem ints_snoc {fs : List Value} {n m : Nat} {t : Tok} (h : IntsAre fs (rangeKs 0 n)) (e : m = n) : IntsAre (fs ++ [.int (m : Int) t]) (rangeKs 0 (n + 1)) := by
  rw [← rangeKs_snoc, e]
  exact IntsAre.append h (.cons _ _ .nil)
theorem addOf2 {h₀ h : Heap} {L : Addr} {l tl : List (Addr × Obj)} {A : List Addr} {own : List (Addr × Obj)} {r : Str} {tr : Tok} {x1 x2 x3 x4 q c e a7 a8 u8 q8 d : Addr} {due pc fc st cs vs7 vs8 : List Value} {rows : List Row} {ts : List Int} {nv : Value} {k1 k2 k3 k4 n nc k n7 n8 k8 n85 n9 : Nat} {i : Int} {t : Tok} {i2 : Int} {t2 : Tok} {s3 : Str} {t3 : Tok}
    (_N : News h₀ L h l) (_U : UA A l) (_o : OwnOff own (tl.map (·.1))) (hdue : DatAll tl due (rows.map rowD)) (hpc : DatAll tl pc (rows.map clD)) (hfc : DatAll tl fc (rows.map clD)) (hst : DatAll tl st (rows.map rowD))
    (_p1 : (x1, listOf (due ++ [Value.ref q]).toArray k1) ∈ l) (_p2 : (x2, listOf (pc ++ [Value.ref a7]).toArray k2) ∈ l) (_p3 : (x3, listOf (fc ++ [Value.ref a8]).toArray k3) ∈ l) (_p4 : (x4, listOf (st ++ [Value.ref q8]).toArray k4) ∈ l)
    (hr : r ∈ rulesL) (m1 : (q, tupO [.str r tr, .ref c, .ref e, nv] n) ∈ l) (m2 : (e, tupO [] k) ∈ l) (m3 : (c, tupO cs nc) ∈ l) (i3 : IntsAre cs ts) (m4 : (a7, tupO vs7 n7) ∈ l) (i7 : IntsAre vs7 ts) (m5 : (a8, tupO vs8 n8) ∈ l) (i8 : IntsAre vs8 ts)
    (m7 : (q8, stepO (.str r tr) a8 u8 nv n85) ∈ l) (m6 : (u8, tup0 k8) ∈ l) (hn : nv ∈ [Value.none, .int i t, .ref d]) (m8 : (d, tupO [.int i2 t2, .str s3 t3] n9) ∈ l) (hs : PyData.strOk s3 = true)
    (f1 : Nw A own q) (f2 : Nw A own e) (f3 : Nw A own c) (f4 : Nw A own a7) (f5 : Nw A own a8) (f6 : Nw A own u8) (f7 : Nw A own q8) (f8 : Nw A own d) :
    ∃ (add : List (Addr × Obj)) (row : Row), row.2.1 = ts ∧ (∀ p ∈ add, p ∈ l) ∧ RowOk row ∧ DatAll (add ++ tl) (due ++ [.ref q]) ((rows ++ [row]).map rowD) ∧ DatAll (add ++ tl) (pc ++ [.ref a7]) ((rows ++ [row]).map clD) ∧ DatAll (add ++ tl) (fc ++ [.ref a8]) ((rows ++ [row]).map clD) ∧
      DatAll (add ++ tl) (st ++ [.ref q8]) ((rows ++ [row]).map rowD) ∧ ∀ p ∈ add, Nw A own p.1 := by
  obtain ⟨add, nd, h1, h2, h3, h4, h5, h6, h7⟩ := addOf hr m1 m2 m3 i3 m4 i7 m5 i8 m6 m7 hn m8 hs f1 f2 f3 f4 f5 f6 f7 f8
  exact ⟨add, (r, ts, nd), rfl, h1, h2, dat_snoc hdue h3, dat_snoc hpc h4, dat_snoc hfc h5, dat_snoc hst h6, h7⟩
end Mine
end
section
open PySem PySem.W PySem.Calls PyProof.Rows PyProof.V PyProof.Rows.LCg
set_option Elab.async false
set_option maxRecDepth 100000
set_option maxHeartbeats 8000000
namespace Mine
theorem subOf {h₀ h : Heap} {L : Addr} {add tl l : List (Addr × Obj)} (_N : News h₀ L h l) (h1 : ∀ p ∈ add, p ∈ l) (h2 : ∀ p ∈ tl, p ∈ l) : ∀ p ∈ add ++ tl, p ∈ l := fun p hp => (List.mem_append.mp hp).elim (h1 p) (h2 p)
theorem offOf {A : List Addr} {own add tl : List (Addr × Obj)} (h : ∀ p ∈ add, Nw A own p.1) (ht : OwnOff tl A) : ∀ p ∈ add ++ tl, p.1 ∉ A := fun p hp hm => (List.mem_append.mp hp).elim (fun h1 => (h p h1).1 hm) fun h1 => ht p h1 _ hm rfl
/-- the same, its rows taken from a fact -/
noncomputable abbrev ClInvD {tl : List (Addr × Obj)} {due : List Value} {rows : List Row} (_ : DatAll tl due (rows.map rowD)) (N0 : List (Addr × Obj)) : Nat → List Value → List (Addr × Obj) → Prop := ClInv N0 tl rows
theorem news_ext3 {h₀ h : Heap} {L : Addr} {M l : List (Addr × Obj)} {p a b c : Addr × Obj} (N : News h₀ L h (a :: b :: c :: l)) (hm : p ∈ M) (sub : ∀ p ∈ M, p ∈ l) : News h₀ L h (p :: a :: b :: c :: l) := news_ext N (.tail _ (.tail _ (.tail _ (sub _ hm))))
theorem news_ext4 {h₀ h : Heap} {L : Addr} {M l : List (Addr × Obj)} {p a b c d : Addr × Obj} (N : News h₀ L h (a :: b :: c :: d :: l)) (hm : p ∈ M) (sub : ∀ p ∈ M, p ∈ l) : News h₀ L h (p :: a :: b :: c :: d :: l) := news_ext N (.tail _ (.tail _ (.tail _ (.tail _ (sub _ hm)))))
theorem rep_arr (v : Value) : ∀ n : Nat, List.foldl (fun (x1 x2 : Array Value) => x1 ++ x2) #[] (List.replicate n #[v]) = (List.replicate n v).toArray := by
  have key : ∀ (n : Nat) (a : Array Value), List.foldl (fun (x1 x2 : Array Value) => x1 ++ x2) a (List.replicate n #[v]) = a ++ (List.replicate n v).toArray := by
    intro n
    induction n with
    | zero => intro a; simp
    | succ n ih =>
      intro a
      rw [List.replicate_succ, List.foldl_cons, ih]
      apply Array.toList_inj.mp
      simp [List.replicate_succ]
  intro n
  rw [key]
  simp
section
variable {prog : Program} {w : World} {A : Around} {E : Value → Shared → Prop} {s : Shared} {h₀ : Heap} {L : Addr} {m : Str → Option Value} {news : List (Addr × Obj)}
theorem mul_one {l : Addr} {v : Value} {k : Nat} {x : Int} {u : Tok} {Q : Value → Shared → Prop} (F : Fr h₀ L s.heap m) (N : News h₀ L s.heap news) (hm : (l, listOf #[v] k) ∈ news) (h0 : 0 ≤ x) (h1 : x ≤ 100)
    (h : ∀ D h', Fr h₀ L h' m → News h₀ L h' ((D, listOf (List.replicate x.toNat v).toArray 0) :: news) → (∀ p ∈ news, p.1 < D) → Q (.ref D) { s with heap := h' }) :
    wpAny (model prog w) A (binaryOp .Mult (.ref l) (.int x u)) Q E s := by
  refine mul_list F N (N _ hm).1 (by omega) (by omega) (by show 1 * x.toNat ≤ 2 ^ 24; omega) fun h' F' N' => ?_
  rw [if_neg (by simp), rep_arr] at N'
  refine h _ h' F' N' fun p hp => Heap.lt_size (N p hp).1
end
end Mine
end
section
open PySem PySem.W PySem.Calls PyProof.Rows PyProof.V PyProof.Rows.LCg
set_option Elab.async false
set_option maxRecDepth 100000
set_option maxHeartbeats 8000000
namespace Mine
theorem reps (l : List (Addr × Obj)) : ∀ n : Nat, DatAll l (List.replicate n Value.none) (List.replicate n Dat.none)
  | 0 => .nil
  | n + 1 => .cons .none (reps l n)
theorem nones5 {l : List (Addr × Obj)} {ps : List Value} {rows : List Row} {n : Nat} (hps : ps = rows.map fun _ => Value.none) (e : n = rows.length + 1) : DatAll l (ps ++ [Value.none]) (List.replicate n Dat.none) := by
  subst hps e
  have : (rows.map fun _ => Value.none) ++ [Value.none] = List.replicate (rows.length + 1) Value.none := by
    rw [List.replicate_succ', List.map_const']
  rw [this]
  exact reps l _
theorem reps_ok (n : Nat) : ∀ d ∈ List.replicate n Dat.none, kqdOk 8 d = true := fun d hd => by
  rw [List.eq_of_mem_replicate hd]; rfl
theorem dn_of {L : List (Addr × Obj)} {due : List Value} {v : Value} {rows : List Row} {row : Row} (_h : DatAll L (due ++ [v]) ((rows ++ [row]).map rowD)) (e : due.length = rows.length) : (due ++ [v]).length = rows.length + 1 := by rw [List.length_append, e]; rfl
theorem rows_snoc {rows : List Row} {row : Row} (h : ∀ r ∈ rows, RowOk r) (k : RowOk row) : ∀ r ∈ rows ++ [row], RowOk r := fun r hr => (List.mem_append.mp hr).elim (h r) fun q => by rw [List.mem_singleton.mp q]; exact k
section
variable {prog : Program} {w : World} {A : Around} {E : Value → Shared → Prop} {s : Shared} {h₀ : Heap} {L : Addr} {m : Str → Option Value} {news : List (Addr × Obj)}
theorem list_rangeN {r : Addr} {b : Int} {t u v : Tok} {n : Nat} {Q : Value → Shared → Prop} (hh : A.handled = none) (F : Fr h₀ L s.heap m) (N : News h₀ L s.heap news) (hr : IsRange s.heap r 0 b 1 t u v) (hb : b = (n : Int)) (hn : n ≤ 100)
    (h : ∀ D h' tk ys k, Fr h₀ L h' m → News h₀ L h' ((D, listOf (List.toArray ys) k) :: news) → (∀ p ∈ news, p.1 < D) → IntsAre ys (rangeKs 0 n) → Q (.ref D) { s with heap := h', toks := tk }) :
    wpAny (model prog w) A (call (.type "list") [.ref r]) Q E s := by
  subst hb
  refine list_rangeD (n := n) hh F N hr (small_one (by decide) (by decide) (by omega) (by omega)) ((rs_one _ (by omega)).trans (by simp)) (by omega) fun h' tk ys F' N' hk h0 hl hp hc => ?_
  obtain ⟨⟨k, hk2⟩, hne⟩ := hp
  refine h _ h' tk ys k F' (fun p hp => ?_) (fun p hp => Heap.lt_size (N p hp).1) (IntsAre.ofCarried (by
    have e : rangeInts 0 1 n = rangeKs 0 n := by unfold rangeInts rangeKs; exact List.map_congr_left fun i _ => by omega
    rw [← e]; exact hc))
  rcases List.mem_cons.mp hp with rfl | hp
  · exact ⟨hk2, by have := F.ns.lt; exact Nat.ne_of_gt this, h0⟩
  · exact N' p hp
end
end Mine
end
section
open PySem PySem.W PySem.Calls PyProof.Rows PyProof.V PyProof.Rows.LCg
set_option Elab.async false
set_option maxRecDepth 100000
set_option maxHeartbeats 8000000
namespace Mine
section
variable {prog : Program} {w : World} {A : Around} {E : Value → Shared → Prop} {s : Shared} {h₀ : Heap} {L a b : Addr} {news tl : List (Addr × Obj)} {ps fs ys st due : List Value} {v v' : Value} {ka kb n m : Nat} {rows : List Row} {t : Tok} {Q : Value → Shared → Prop}
theorem ne_nones (N : News h₀ L s.heap news) (hps : ps = rows.map fun _ => Value.none) (ma : (a, listOf (ps ++ [Value.none]).toArray ka) ∈ news) (mb : (b, listOf (List.replicate n Value.none).toArray kb) ∈ news) (e : n = rows.length + 1) (hu : A.units + 64 < cLine) (h : Q (.bool false) s) :
    wpAny (model prog w) A (compareOp .NotEq (.ref a) (.ref b)) Q E s :=
  ne_same N ma (nones5 (l := []) hps e) (fun _ h => nomatch h) mb (reps [] n) (fun _ h => nomatch h) (reps_ok n) hu h
theorem ne_nums (N : News h₀ L s.heap news) (hfs : IntsAre fs (rangeKs 0 n)) (em : m = n) (ma : (a, listOf (fs ++ [Value.int (m : Int) t]).toArray ka) ∈ news) (hys : IntsAre ys (rangeKs 0 (n + 1))) (mb : (b, listOf ys.toArray kb) ∈ news) (hu : A.units + 64 < cLine) (h : Q (.bool false) s) :
    wpAny (model prog w) A (compareOp .NotEq (.ref a) (.ref b)) Q E s :=
  ne_same N ma (dat_ints (news := []) (ints_snoc hfs em)) (fun _ h => nomatch h) mb (dat_ints (news := []) hys) (fun _ h => nomatch h) (kqd_ints 8 _) hu h
theorem ne_rows (N : News h₀ L s.heap news) (D4 : DatAll tl (st ++ [v]) (rows.map rowD)) (D1 : DatAll tl (due ++ [v']) (rows.map rowD)) (sub : ∀ p ∈ tl, p ∈ news) (ma : (a, listOf (st ++ [v]).toArray ka) ∈ news) (mb : (b, listOf (due ++ [v']).toArray kb) ∈ news) (hr : ∀ r ∈ rows, RowOk r) (hu : A.units + 64 < cLine) (h : Q (.bool false) s) :
    wpAny (model prog w) A (compareOp .NotEq (.ref a) (.ref b)) Q E s := ne_same N ma D4 sub mb D1 sub (rows_ok hr) hu h
end
end Mine
end
section
open PySem PySem.W PySem.Calls PyProof.Rows PyProof.V PyProof.Rows.LCg
set_option Elab.async false
set_option maxRecDepth 100000
set_option maxHeartbeats 8000000
namespace Mine
/-- where the clause is empty -/
noncomputable def emptyP {tl : List (Addr × Obj)} {due : List Value} {rows : List Row} (_ : DatAll tl due (rows.map rowD)) (i : Nat) : Bool := decide ((rows[i]?.map fun r => r.2.1) = some [])
theorem emptyP_at {tl : List (Addr × Obj)} {due : List Value} {rows : List Row} (D : DatAll tl due (rows.map rowD)) {i : Nat} {r : Row} (h : rows[i]? = some r) : emptyP D i = decide (r.2.1 = []) := by
  unfold emptyP
  rw [h]
  simp
theorem places_ends {tl : List (Addr × Obj)} {due : List Value} {rows : List Row} (D : DatAll tl due (rows.map rowD)) : placesOf (emptyP D) due.length = endsOf rows 0 := by
  have hl := D.length
  rw [List.length_map] at hl
  have := endsOf_places rows 0
  rw [show ((0 : Nat) : Int) = 0 from rfl] at this
  rw [this, hl]
  unfold placesOf emptyP
  apply List.map_congr_left
  intro j _
  simp
theorem head_at {ws : List Value} {ks : List Int} {k : Int} (h : IntsAre ws ks) (hk : ks.head? = some k) : ∃ t, ws[0]? = some (.int k t) := by
  cases h with
  | nil => cases hk
  | cons i t r => cases hk; exact ⟨t, rfl⟩
theorem ends_item {ws : List Value} {rows : List Row} (h : IntsAre ws (endsOf rows 0 ++ [-1])) : ∃ t, ws[0]? = some (.int (emptyAt rows 0) t) := head_at h (ends_head rows 0)
theorem em_snoc {rows : List Row} {row : Row} {ts : List Int} {em : Int} {n : Nat} (hrow : row.2.1 = ts) (hem : em = emptyAt rows 0) (hn : n = rows.length) : (if ts = [] ∧ em < 0 then (n : Int) else em) = emptyAt (rows ++ [row]) 0 := by
  rw [emptyAt_snoc rows row 0 (Int.le_refl _), hrow, hem, hn, Int.zero_add]
theorem news_ext4b {h₀ h : Heap} {L : Addr} {M l : List (Addr × Obj)} {p q a b c d : Addr × Obj} (N : News h₀ L h (a :: b :: c :: d :: l)) (hp : p ∈ M) (hq : q ∈ M) (sub : ∀ p ∈ M, p ∈ l) : News h₀ L h (p :: q :: a :: b :: c :: d :: l) :=
  news_ext (news_ext N (.tail _ (.tail _ (.tail _ (.tail _ (sub _ hq)))))) (.tail _ (.tail _ (.tail _ (.tail _ (.tail _ (sub _ hp))))))
section
variable {prog : Program} {w : World} {A : Around} {E : Value → Shared → Prop} {s : Shared}
theorem ne_int_same {a b : Int} {t u : Tok} {Q : Value → Shared → Prop} (e : a = b) (h : Q (.bool false) s) : wpAny (model prog w) A (compareOp .NotEq (.int a t) (.int b u)) Q E s := by
  subst e
  refine PyProof.Rows.ne_int ?_
  simpa using h
theorem add_one {h₀ : Heap} {L l b : Addr} {m : Str → Option Value} {news : List (Addr × Obj)} {ys : List Value} {ks : List Int} {i : Int} {t : Tok} {k k2 : Nat} {Q : Value → Shared → Prop} (F : Fr h₀ L s.heap m) (N : News h₀ L s.heap news) (hm : (l, listOf ys.toArray k) ∈ news) (hb : (b, listOf #[Value.int i t] k2) ∈ news) (hi : IntsAre ys ks) (hlen : ks.length ≤ 100)
    (h : ∀ D h' ws, Fr h₀ L h' m → News h₀ L h' ((D, listOf (List.toArray ws) 0) :: news) → (∀ p ∈ news, p.1 < D) → IntsAre ws (ks ++ [i]) → Q (.ref D) { s with heap := h' }) :
    wpAny (model prog w) A (binaryOp .Add (.ref l) (.ref b)) Q E s := by
  have hl := hi.length
  refine PyProof.Rows.add_arrays (its := ys.toArray) (its2 := #[Value.int i t]) (hsz := by rw [sizeLine_eq, List.size_toArray]; show _ + 1 ≤ _; omega) F N (News.isList N hm) (News.isList N hb) fun h' F' N' => ?_
  exact h _ h' (ys ++ [.int i t]) F' N' (fun p hp => Heap.lt_size (N p hp).1) (IntsAre.append hi (.cons i t .nil))
end
theorem ends_len {tl : List (Addr × Obj)} {due : List Value} {rows : List Row} (D : DatAll tl due (rows.map rowD)) : (endsOf rows 0).length ≤ due.length := by
  rw [← places_ends D]
  unfold placesOf
  rw [List.length_map]
  exact Nat.le_trans (List.length_filter_le _ _) (by rw [List.length_range]; exact Nat.le_refl _)
end Mine
end
section
open PySem PySem.W PySem.Calls PyProof.Rows PyProof.V PyProof.Rows.LCg
set_option Elab.async false
set_option maxRecDepth 100000
set_option maxHeartbeats 8000000
namespace Mine
theorem lapOk {prog : Program} {w : World} {a : AD} {i : Nat} {L : List (Addr × Obj)} {ob : Obj} {at_ : Int} {t : Tok} {rows : List Row} {row : Row} {due pc ps fc fs st : List Value} {v v2 v3 v4 : Value} {dn pcn psn fcn fsn stn : Nat} {ts : List Int} {em : Int} {tn te : Tok} {tp : Nat → Tok}
    (hb : ob.IsDictOf (PySem.strKind prog w) [(Str.ofString "cells", .ref a.cells), (Str.ofString "at", .int at_ t)]) (h0 : 0 ≤ at_) (h1 : at_ ≤ 1 + 13 * ((i + 1 : Nat) : Int)) (hrows : ∀ r ∈ rows ++ [row], RowOk r) (hlen : rows.length ≤ i)
    (D1 : DatAll L (due ++ [v]) ((rows ++ [row]).map rowD)) (D2 : DatAll L (pc ++ [v2]) ((rows ++ [row]).map clD)) (D3 : DatAll L (fc ++ [v3]) ((rows ++ [row]).map clD)) (D4 : DatAll L (st ++ [v4]) ((rows ++ [row]).map rowD))
    (hps : ps = rows.map fun _ => Value.none) (hfs : IntsAre fs (rangeKs 0 rows.length)) (hl : st.length = rows.length) (hrow : row.2.1 = ts) (hem : em = emptyAt rows 0) :
    LOk prog w a (i + 1) ⟨ob, at_, rows ++ [row], due ++ [v], dn, pc ++ [v2], pcn, ps ++ [.none], psn, fc ++ [v3], fcn, fs ++ [.int st.length tn], fsn, st ++ [v4], stn, (if ts = [] ∧ em < 0 then (st.length : Int) else em), te, tp⟩ L where
  dict := ⟨t, hb⟩
  at0 := h0
  at1 := h1
  rows := hrows
  len := by show (rows ++ [row]).length ≤ i + 1; rw [List.length_append]; exact Nat.succ_le_succ hlen
  due := D1
  pc := D2
  fc := D3
  st := D4
  ps := by show ps ++ [.none] = _; rw [hps, snoc_none]
  fs := by show IntsAre _ (rangeKs 0 (rows ++ [row]).length); rw [List.length_append]; exact ints_snoc hfs hl
  em := em_snoc hrow hem hl
/-- behind a lap that adds nothing -/
theorem lapOk0 {prog : Program} {w : World} {a : AD} {i : Nat} {L : List (Addr × Obj)} {ob : Obj} {at_ : Int} {t : Tok} {rows : List Row} {due pc ps fc fs st : List Value} {dn pcn psn fcn fsn stn : Nat} {em : Int} {te : Tok} {tp : Nat → Tok}
    (hb : ob.IsDictOf (PySem.strKind prog w) [(Str.ofString "cells", .ref a.cells), (Str.ofString "at", .int at_ t)]) (h0 : 0 ≤ at_) (h1 : at_ ≤ 1 + 13 * ((i + 1 : Nat) : Int)) (hrows : ∀ r ∈ rows, RowOk r) (hlen : rows.length ≤ i)
    (D1 : DatAll L due (rows.map rowD)) (D2 : DatAll L pc (rows.map clD)) (D3 : DatAll L fc (rows.map clD)) (D4 : DatAll L st (rows.map rowD))
    (hps : ps = rows.map fun _ => Value.none) (hfs : IntsAre fs (rangeKs 0 rows.length)) (hem : em = emptyAt rows 0) :
    LOk prog w a (i + 1) ⟨ob, at_, rows, due, dn, pc, pcn, ps, psn, fc, fcn, fs, fsn, st, stn, em, te, tp⟩ L where
  dict := ⟨t, hb⟩
  at0 := h0
  at1 := h1
  rows := hrows
  len := Nat.le_succ_of_le hlen
  due := D1
  pc := D2
  fc := D3
  st := D4
  ps := hps
  fs := hfs
  em := hem
end Mine
end
section
open PySem PySem.W PySem.Calls PyProof.Rows PyProof.V PyProof.Rows.LCg
set_option Elab.async false
set_option maxRecDepth 100000
set_option maxHeartbeats 8000000
namespace Mine
section
variable {prog : Program} {w : World} {A : Around} {E : Value → Shared → Prop} {s : Shared} {h₀ : Heap} {L a b : Addr} {news tl : List (Addr × Obj)} {ps fs ys st due : List Value} {ka kb n m : Nat} {rows : List Row} {Q : Value → Shared → Prop}
theorem nones0 {l : List (Addr × Obj)} (hps : ps = rows.map fun _ => Value.none) (e : n = rows.length) : DatAll l ps (List.replicate n Dat.none) := by
  subst hps e
  rw [List.map_const']
  exact reps l _
theorem ne_nones0 (N : News h₀ L s.heap news) (hps : ps = rows.map fun _ => Value.none) (ma : (a, listOf ps.toArray ka) ∈ news) (mb : (b, listOf (List.replicate n Value.none).toArray kb) ∈ news) (e : n = rows.length) (hu : A.units + 64 < cLine) (h : Q (.bool false) s) :
    wpAny (model prog w) A (compareOp .NotEq (.ref a) (.ref b)) Q E s :=
  ne_same N ma (nones0 (l := []) hps e) (fun _ h => nomatch h) mb (reps [] n) (fun _ h => nomatch h) (reps_ok n) hu h
theorem ne_nums0 (N : News h₀ L s.heap news) (hfs : IntsAre fs (rangeKs 0 n)) (em : m = n) (ma : (a, listOf fs.toArray ka) ∈ news) (hys : IntsAre ys (rangeKs 0 m)) (mb : (b, listOf ys.toArray kb) ∈ news) (hu : A.units + 64 < cLine) (h : Q (.bool false) s) :
    wpAny (model prog w) A (compareOp .NotEq (.ref a) (.ref b)) Q E s :=
  ne_same N ma (dat_ints (news := []) hfs) (fun _ h => nomatch h) mb (dat_ints (news := []) (em ▸ hys)) (fun _ h => nomatch h) (kqd_ints 8 _) hu h
theorem ne_rows0 (N : News h₀ L s.heap news) (D4 : DatAll tl st (rows.map rowD)) (D1 : DatAll tl due (rows.map rowD)) (sub : ∀ p ∈ tl, p ∈ news) (ma : (a, listOf st.toArray ka) ∈ news) (mb : (b, listOf due.toArray kb) ∈ news) (hr : ∀ r ∈ rows, RowOk r) (hu : A.units + 64 < cLine) (h : Q (.bool false) s) :
    wpAny (model prog w) A (compareOp .NotEq (.ref a) (.ref b)) Q E s := ne_same N ma D4 sub mb D1 sub (rows_ok hr) hu h
end
theorem offOf0 {A : List Addr} {tl : List (Addr × Obj)} (ht : OwnOff tl A) : ∀ p ∈ tl, p.1 ∉ A := fun p hp hm => ht p hp _ hm rfl
theorem tup_item {prog : Program} {w : World} {A : Around} {E : Value → Shared → Prop} {s : Shared} {h₀ : Heap} {L : Addr} {news : List (Addr × Obj)} {value slice : Expr} {t : Addr} {vs : List Value} {n : Nat} {j : Int} {u : Tok} {v : Value} {Q : Value → Shared → Prop} (N : News h₀ L s.heap news) (hm : (t, tupO vs n) ∈ news) (h0 : 0 ≤ j) (h1 : j < vs.length) (h2 : vs.length ≤ 100) (hx : vs[j.toNat]? = some v) (h : Q v s)
    (hs : subscripted slice false (.ref t) (.int j u) = operate [.ref t, .int j u] (getItem (.ref t) (.int j u)) := by with_unfolding_all rfl) :
    wpAny (model prog w) A (subscriptTail value slice (.ref t) (.int j u)) Q E s :=
  item_tupleT (l := vs) (News.isTup N hm) (by omega) (by omega) (seq_at h0 h1) hx h hs
theorem subOf0 {h₀ h : Heap} {L : Addr} {tl l : List (Addr × Obj)} {due : List Value} {rows : List Row} (_N : News h₀ L h l) (_D : DatAll tl due (rows.map rowD)) (h2 : ∀ p ∈ tl, p ∈ l) : ∀ p ∈ tl, p ∈ l := h2
end Mine
end
section
open PySem PySem.W PySem.Calls PyProof.Rows PyProof.V PyProof.Rows.LCg
set_option Elab.async false
set_option maxRecDepth 100000
set_option maxHeartbeats 8000000
namespace Mine
theorem UA.more {A B : List Addr} : ∀ {l : List (Addr × Obj)}, UA A l → (∀ q ∈ l, q.1 ∉ B) → UA (B ++ A) l
  | [], _, _ => trivial
  | q :: r, h, hb => ⟨fun p hp e hm => (List.mem_append.mp hm).elim (hb q (.head _)) (h.1 p hp e), h.2.more fun x hx => hb x (.tail _ hx)⟩
theorem UA.threeA {A : List Addr} {I C D : Addr} {news old : List (Addr × Obj)} (o : Off3 I C D news) (ne : (@Ne Nat I C) ∧ (@Ne Nat I D) ∧ (@Ne Nat C D)) (h : UA A old) (e : old.map (·.1) = news.map (·.1)) : UA (I :: C :: D :: A) ((I, anyO) :: (C, anyO) :: (D, anyO) :: news) := by
  have m := o.mem
  refine ⟨fun p hp ep => ?_, fun p hp ep => ?_, fun p hp ep => absurd ep (m p hp).2.2, (h.same e).more (B := [I, C, D]) fun q hq hm => ?_⟩
  · rcases List.mem_cons.mp hp with rfl | hp
    · exact absurd ep (Ne.symm ne.1)
    rcases List.mem_cons.mp hp with rfl | hp
    · exact absurd ep (Ne.symm ne.2.1)
    exact absurd ep (m p hp).1
  · rcases List.mem_cons.mp hp with rfl | hp
    · exact absurd ep (Ne.symm ne.2.2)
    exact absurd ep (m p hp).2.1
  · rcases List.mem_cons.mp hm with e | hm
    · exact (m q hq).1 e
    rcases List.mem_cons.mp hm with e | hm
    · exact (m q hq).2.1 e
    exact (m q hq).2.2 (List.mem_singleton.mp hm)
theorem endUA {A : List Addr} {h₀ : Heap} {L I C D : Addr} {m : Str → Option Value} {s₁ : Shared} {oI oC oD : Obj} {S : List (Addr × Obj) → Prop} {rest : Value → List (Addr × Obj) → Prop} {y : Value} {h' : Heap} {tk : Nat} {all a1 a2 news' : List (Addr × Obj)}
    (F : Fr h₀ L h' m) (N : News h₀ L h' all) (U : UA A all) (hI : I ∈ A) (hC : C ∈ A) (hD : D ∈ A) (d1 : Del (I, oI) all a1) (d2 : Del (C, oC) a1 a2) (d3 : Del (D, oD) a2 news') (hS : S news') (r : UA A news' → rest y news') :
    CompEnd h₀ L m s₁ I oI C oC D oD S rest y { s₁ with heap := h', toks := tk } := by
  obtain ⟨n1, f1⟩ := U.sub_off hI d1
  obtain ⟨n2, f2⟩ := n1.sub_off hC d2
  obtain ⟨n3, f3⟩ := n2.sub_off hD d3
  refine CompEnd.intro F N news' (fun p hp => ?_) (Off3.of fun p hp => ⟨f1 p (d2.mem.2 p (d3.mem.2 p hp)), f2 p (d3.mem.2 p hp), f3 p hp⟩) hS (r n3)
  rcases List.mem_cons.mp hp with rfl | hp
  · exact d1.mem.1
  rcases List.mem_cons.mp hp with rfl | hp
  · exact d1.mem.2 _ d2.mem.1
  rcases List.mem_cons.mp hp with rfl | hp
  · exact d1.mem.2 _ (d2.mem.2 _ d3.mem.1)
  · exact d1.mem.2 _ (d2.mem.2 _ (d3.mem.2 _ hp))
end Mine
end
section
open PySem PySem.W PySem.Calls PyProof.Rows PyProof.V
set_option Elab.async false
namespace Mine
theorem wp_join {M : Model} {Γ : Ctx} {env : Env} : ∀ (l1 l2 : List Stmt) (post : Flow → Pos → Shared → Prop) (exc : Value → Pos → Shared → Prop) (p : Pos) (s : Shared),
    Sem.wp M Γ (execs l1 env) (fun f p' s' => match f with | .next => Sem.wp M Γ (execs l2 env) post exc p' s' | f => post f p' s') exc p s → Sem.wp M Γ (execs (l1 ++ l2) env) post exc p s
  | [], _, _, _, _, _, h => h
  | st :: r, l2, post, exc, p, s, h => by
    rw [List.cons_append, execs_cons, Sem.wp_bind']
    rw [execs_cons, Sem.wp_bind'] at h
    refine Sem.wp_mono M Γ _ (fun f p' s' h' => ?_) (fun _ _ _ h' => h') _ _ h
    cases f <;> first | exact wp_join r l2 post exc p' s' h' | exact h'
theorem execs_mid {M : Model} {A : Around} {env : Env} {l : List Stmt} {Q : Flow → Shared → Prop} {E : Value → Shared → Prop} {s : Shared} (k : Nat) (Mid : Shared → Prop)
    (h1 : ∀ (Q' : Flow → Shared → Prop) (E' : Value → Shared → Prop), (∀ s', Mid s' → Q' Flow.next s') → wpAny M A (execs (l.take k) env) Q' E' s) (h2 : ∀ s', Mid s' → wpAny M A (execs (l.drop k) env) Q E s') : wpAny M A (execs l env) Q E s := fun Γ p hΓ => by
  have := wp_join (M := M) (Γ := Γ) (env := env) (l.take k) (l.drop k) (fun f _ s' => Q f s') (fun e _ s' => E e s') p s (Sem.wp_mono M Γ _ (fun f p' s' h' => ?_) (fun _ _ _ h' => h') _ _ (h1 (fun f s' => match f with | .next => Mid s' | f => Q f s') E (fun _ h => h) Γ p hΓ))
  · rwa [List.take_append_drop] at this
  · cases f <;> first | exact h2 _ h' Γ p' hΓ | exact h'
end Mine
end
section
open PySem PySem.W PySem.Calls PyProof.Rows PyProof.V PyProof.Rows.LCg
set_option Elab.async false
set_option maxRecDepth 100000
set_option maxHeartbeats 8000000
namespace Mine
theorem noMem {α : Type} {p : α → Prop} : ∀ x ∈ ([] : List α), p x := fun _ h => (nomatch h)
theorem UA.delq {A : List Addr} {q : Addr × Obj} : ∀ {l l' : List (Addr × Obj)}, Del q l l' → UA A l → UA A (q :: l')
  | _, _, .head, h => h
  | _, _, .tail (p := x) d, h => by
    obtain ⟨h1, h2⟩ := UA.delq d h.2
    refine ⟨fun p hp e => ?_, fun p hp => h.1 p (d.mem.2 p hp), h2⟩
    rcases List.mem_cons.mp hp with rfl | hp
    · exact fun hA => h.1 q d.mem.1 e.symm (by rw [e]; exact hA)
    · exact h1 p hp e
theorem UA.delAll {A : List Addr} : ∀ {S l R : List (Addr × Obj)}, DelAll S l R → UA A l → UA A (S ++ R)
  | _, _, _, .nil, h => h
  | _, _, _, .cons d r, h => by
    obtain ⟨h1, h2⟩ := UA.delq d h
    refine ⟨fun p hp => h1 p ?_, UA.delAll r h2⟩
    obtain ⟨m1, m2⟩ := r.mem
    exact (List.mem_append.mp hp).elim (m1 p) (m2 p)
theorem DelAll.cover : ∀ {S l R : List (Addr × Obj)}, DelAll S l R → ∀ p ∈ l, p ∈ S ∨ p ∈ R
  | _, _, _, .nil, _, h => .inr h
  | _, _, _, .cons d r, p, h => by
    have z : ∀ {q : Addr × Obj} {l l' : List (Addr × Obj)}, Del q l l' → p ∈ l → p = q ∨ p ∈ l' := by
      intro q l l' d hp
      induction d with
      | head => exact List.mem_cons.mp hp
      | tail d ih =>
        rcases List.mem_cons.mp hp with rfl | hp
        · exact .inr (.head _)
        · exact (ih hp).imp_right (.tail _)
    rcases z d h with rfl | h
    · exact .inl (.head _)
    · exact (DelAll.cover r p h).imp_left (.tail _)
/-- the addresses of A stand in the ledger's open head or in its tail -/
noncomputable def CovR (A sa : List Addr) (R : List (Addr × Obj)) : Prop := ∀ b ∈ A, b ∈ sa ∨ ∃ o, (b, o) ∈ R
theorem CovR.all {A sa : List Addr} {R l : List (Addr × Obj)} (c : CovR A sa R) (h1 : ∀ b ∈ sa, ∃ o, (b, o) ∈ l) (h2 : ∀ p ∈ R, p ∈ l) : ∀ b ∈ A, ∃ o, (b, o) ∈ l := fun b hb => (c b hb).elim (h1 b) fun ⟨o, ho⟩ => ⟨o, h2 _ ho⟩
/-- the ledger's head alone is open; the tail is a letter -/
theorem foldU {A : List Addr} {h₀ h : Heap} {L : Addr} {l S R M : List (Addr × Obj)} (N : News h₀ L h l) (U : UA A l) (hc : ∀ b ∈ A, ∃ o, (b, o) ∈ l) (d : DelAll S l R) (hs : ∀ p ∈ M, p ∈ R) :
    ∃ R', R' = R ∧ News h₀ L h (S ++ R') ∧ UA A (S ++ R') ∧ CovR A (S.map (·.1)) R' ∧ ∀ p ∈ M, p ∈ R' := by
  obtain ⟨m1, m2⟩ := d.mem
  refine ⟨R, rfl, fun q hq => (List.mem_append.mp hq).elim (fun h => N q (m1 q h)) fun h => N q (m2 q h), UA.delAll d U, fun b hb => ?_, hs⟩
  obtain ⟨o, ho⟩ := hc b hb
  exact (d.cover _ ho).imp (fun h => List.mem_map.mpr ⟨_, h, rfl⟩) fun h => ⟨o, h⟩
theorem AD.cov (a : AD) (c : LS) (T : List (Addr × Obj)) : ∀ b ∈ a.A, ∃ o, (b, o) ∈ a.H c ++ T := fun b hb => by
  rw [← AD.HA a c] at hb
  obtain ⟨⟨x, o⟩, h, rfl⟩ := List.mem_map.mp hb
  exact ⟨o, List.mem_append_left _ h⟩
theorem noteNw {A : List Addr} {own l : List (Addr × Obj)} {nv v1 v2 : Value} {d : Addr} (_hn : nv ∈ [v1, v2, .ref d]) (f : ∀ p ∈ l, p.1 < d) (c : Cov A own l) : Nw A own d := Cov.lt f c
theorem foldN {h₀ h : Heap} {L : Addr} {l S R M : List (Addr × Obj)} (N : News h₀ L h l) (d : DelAll S l R) (hs : ∀ p ∈ M, p ∈ R) : ∃ R', R' = R ∧ News h₀ L h (S ++ R') ∧ ∀ p ∈ M, p ∈ R' := by
  obtain ⟨m1, m2⟩ := d.mem
  exact ⟨R, rfl, fun q hq => (List.mem_append.mp hq).elim (fun h => N q (m1 q h)) fun h => N q (m2 q h), hs⟩
/-- ahead of the tests of a lap -/
noncomputable def MidT (w : World) (h₀ : Heap) (L : Addr) (a : AD) (i : Nat) (own : List (Addr × Obj)) (m₀ : Str → Option Value) (s₀ s' : Shared) : Prop :=
  ∃ h tk u c tl ll lg ys zs ls k1 k2, s' = { s₀ with heap := h, toks := tk } ∧ Fr h₀ L h (mT a ll lg u m₀) ∧ News h₀ L h ((ll, listOf (List.toArray ys) k1) :: (lg, listOf (List.toArray zs) k2) :: (a.H c ++ (tl ++ own))) ∧
    IntsAre ys ls ∧ IntsAre zs ls ∧ ls.length ≤ 5 ∧ LOk PySem.Challenge.rw_rg0215_01.row.prog w a (i + 1) c tl ∧ OwnOff tl a.A ∧ OwnOff own a.A ∧ OwnOff own (tl.map (·.1))
theorem midT {w : World} {h₀ h : Heap} {L : Addr} {a : AD} {i tk : Nat} {own l tl add : List (Addr × Obj)} {m m₀ : Str → Option Value} {s₀ : Shared} {ll lg : Addr} {ys zs : List Value} {ls : List Int} {k1 k2 : Nat} (c : LS) (F : Fr h₀ L h m) (N : News h₀ L h l)
    (hl : m (Str.ofString "lits") = some (.ref ll)) (hg : m (Str.ofString "given") = some (.ref lg)) (m1 : (ll, listOf (List.toArray ys) k1) ∈ l) (m2 : (lg, listOf (List.toArray zs) k2) ∈ l) (hH : ∀ p ∈ a.H c, p ∈ l) (hadd : ∀ p ∈ add, p ∈ l) (htl : ∀ p ∈ tl, p ∈ l) (hown : ∀ p ∈ own, p ∈ l)
    (i1 : IntsAre ys ls) (i2 : IntsAre zs ls) (hls : ls.length ≤ 5) (ok : LOk PySem.Challenge.rw_rg0215_01.row.prog w a (i + 1) c (add ++ tl)) (ho : OwnOff own a.A) (ho2 : OwnOff own (tl.map (·.1))) (hta : OwnOff tl a.A) (fr : ∀ q ∈ add, q.1 ∉ a.A ∧ ∀ p ∈ own, p.1 ≠ q.1)
    (hm : ∀ z, lapNames.contains z = false → m z = mFix a m₀ z) : MidT w h₀ L a i own m₀ s₀ { s₀ with heap := h, toks := tk } := by
  rw [mT_eq hl hg hm] at F
  refine ⟨h, tk, m, c, add ++ tl, ll, lg, ys, zs, ls, k1, k2, rfl, F, fun q hq => N q ?_, i1, i2, hls, ok, fun p hp b hb => ?_, ho, fun p hp b hb => ?_⟩
  · rcases List.mem_cons.mp hq with rfl | hq
    · exact m1
    rcases List.mem_cons.mp hq with rfl | hq
    · exact m2
    rcases List.mem_append.mp hq with hq | hq
    · exact hH q hq
    rcases List.mem_append.mp hq with hq | hq
    · rcases List.mem_append.mp hq with hq | hq
      · exact hadd q hq
      · exact htl q hq
    · exact hown q hq
  · rcases List.mem_append.mp hp with hp | hp
    · exact fun e => (fr p hp).1 (e ▸ hb)
    · exact hta p hp b hb
  · rw [List.map_append] at hb
    rcases List.mem_append.mp hb with hb | hb
    · obtain ⟨q, hq, rfl⟩ := List.mem_map.mp hb
      exact (fr q hq).2 p hp
    · exact ho2 p hp b hb
end Mine
namespace Mine
theorem lapMid {prog : Program} {w : World} {h₀ : Heap} {L : Addr} {a : AD} {i : Nat} {own : List (Addr × Obj)} {m₀ : Str → Option Value} {s₀ s : Shared} {M : Model} {A : Around} {env : Env} {x1 x2 x3 x4 x5 x6 : Stmt} {r : List Stmt} {Q : Flow → Shared → Prop} {E : Value → Shared → Prop}
    (_hQ : ∀ s', InvEndG h₀ L (LapJ prog w a m₀ (i + 1)) own s₀ s' → Q Flow.next s')
    (h1 : ∀ (Q' : Flow → Shared → Prop) (E' : Value → Shared → Prop), (∀ s', MidT w h₀ L a i own m₀ s₀ s' → Q' Flow.next s') → wpAny M A (execs [x1, x2, x3, x4, x5, x6] env) Q' E' s) (h2 : ∀ s', MidT w h₀ L a i own m₀ s₀ s' → wpAny M A (execs r env) Q E s') : wpAny M A (execs (x1 :: x2 :: x3 :: x4 :: x5 :: x6 :: r) env) Q E s := execs_mid (l := x1 :: x2 :: x3 :: x4 :: x5 :: x6 :: r) 6 _ h1 h2
end Mine
namespace Mine
theorem covNews {A sa : List Addr} {R l : List (Addr × Obj)} {h₀ h : Heap} {L : Addr} (_N : News h₀ L h l) (c : CovR A sa R) (h1 : ∀ b ∈ sa, ∃ o, (b, o) ∈ l) (h2 : ∀ p ∈ R, p ∈ l) : ∀ b ∈ A, ∃ o, (b, o) ∈ l := c.all h1 h2
end Mine
end
open PySem PySem.W PySem.Calls PyProof.Rows PyProof.V Mine
local macro_rules | `(tactic| k_lt $h) => `(tactic| ((with_reducible rename NDA _ => nD); replace nD := NDA.ltB $h nD rfl))
local macro_rules | `(tactic| k_lt2 $h) => `(tactic| ((with_reducible rename NDA _ => nD); replace nD := NDA.twoA nD (by assumption) $h))
section
open PySem PySem.W PySem.Calls PyProof.Rows PyProof.V PyProof.Rows.LCg
set_option Elab.async false
set_option maxRecDepth 100000
set_option maxHeartbeats 8000000
namespace Mine
theorem opaqueQ {α : Type} {M : Model} {A : Around} {x : Sem α} {Q : α → Shared → Prop} {E : Value → Shared → Prop} {s : Shared} (h : ∀ (Q' : α → Shared → Prop) (E' : Value → Shared → Prop), (∀ v s, Q v s → Q' v s) → wpAny M A x Q' E' s) : wpAny M A x Q E s := h Q E fun _ _ h => h
noncomputable abbrev mkTup (op : Str) (t1 : Tok) (u : Addr) (i : Int) (t2 : Tok) (j : Int) (t3 : Tok) (n : Nat) : Obj := { cls := .type "tuple", data := .seq #[.str op t1, .ref u, .int i t2, .int j t3] n }
noncomputable abbrev tup00 (n : Nat) : Obj := { cls := .type "tuple", data := .seq #[] n }
/-- the keys of a bank lie on a ledger -/
noncomputable def MkLed (l : List (Addr × Obj)) (k : Str × Int × Int) (a : Addr) : Prop := ∃ t1 u t2 t3 n n', (a, mkTup k.1 t1 u k.2.1 t2 k.2.2 t3 n) ∈ l ∧ (u, tup00 n') ∈ l
noncomputable abbrev KeysL (l : List (Addr × Obj)) (xs : List ((Str × Int × Int) × Addr × Value)) : Prop := ∀ x ∈ xs, MkLed l x.1 x.2.1
theorem MkLed.is {prog : Program} {w : World} {h₀ h : Heap} {L a : Addr} {l : List (Addr × Obj)} {k : Str × Int × Int} (x : MkLed l k a) (N : News h₀ L h l) : MkIs prog w h k a := by
  obtain ⟨t1, u, t2, t3, n, n', h1, h2⟩ := x
  exact ⟨_, _, _, _, _, _, (N _ h1).1, rfl, rfl, _, _, _, (N _ h2).1, rfl, rfl, .nil⟩
theorem MkLed.sub {a : Addr} {l l' : List (Addr × Obj)} {k : Str × Int × Int} (x : MkLed l k a) (h : ∀ p ∈ l, p ∈ l') : MkLed l' k a := by
  obtain ⟨t1, u, t2, t3, n, n', h1, h2⟩ := x
  exact ⟨t1, u, t2, t3, n, n', h _ h1, h _ h2⟩
theorem KeysL.all {prog : Program} {w : World} {h₀ h : Heap} {L : Addr} {l l' : List (Addr × Obj)} {xs : List ((Str × Int × Int) × Addr × Value)} (x : KeysL l xs) (N : News h₀ L h l') (hs : ∀ p ∈ l, p ∈ l') : ∀ x ∈ xs, MkIs prog w h x.1 x.2.1 := fun y hy => ((x y hy).sub hs).is N
theorem tupIs {prog : Program} {w : World} {h₀ h : Heap} {L u : Addr} {n : Nat} {l l' : List (Addr × Obj)} (N : News h₀ L h l') (hu : (u, tup00 n) ∈ l) (hs : ∀ p ∈ l, p ∈ l') : IsTupleKey (PySem.strKind prog w) h [] u := ⟨_, _, _, (N _ (hs _ hu)).1, rfl, rfl, .nil⟩
theorem mkIsOf {prog : Program} {w : World} {h₀ h : Heap} {L a b : Addr} {news : List (Addr × Obj)} {x : Str} {t1 t2 t3 : Tok} {i j : Int} {n : Nat} (N : News h₀ L h news) (h1 : (a, mkTup x t1 b i t2 j t3 n) ∈ news) (h2 : IsTupleKey (PySem.strKind prog w) h [] b) : MkIs prog w h (x, i, j) a :=
  ⟨_, _, _, _, _, _, (N _ h1).1, rfl, rfl, h2⟩
noncomputable abbrev bkD (hs : Nat → Int) (ts : Nat → Tok) (v0 v1 v2 v3 v4 v5 v6 v7 v8 v9 v10 : Value) (ex : List DictEntry) : List DictEntry :=
  ent "sort_names" (hs 0) (ts 0) v0 :: ent "sort_widths" (hs 1) (ts 1) v1 :: ent "fun_names" (hs 2) (ts 2) v2 :: ent "fun_args" (hs 3) (ts 3) v3 :: ent "fun_results" (hs 4) (ts 4) v4 :: ent "fresh_count" (hs 5) (ts 5) v5 :: ent "term_ops" (hs 6) (ts 6) v6 :: ent "term_args" (hs 7) (ts 7) v7 :: ent "term_sorts" (hs 8) (ts 8) v8 :: ent "term_datas" (hs 9) (ts 9) v9 :: ent "numbers" (hs 10) (ts 10) v10 :: ex
section
variable {w : World} {A : Around} {env : Env} {outer : List Env} {A₀ : Around} {base h₀ : Heap} {L : Addr} {p : Program} {loose : List Str} {mean : ExcName → Option Value} {mg mb : Str → Option Value} {m : Str → Option Value} {s : Shared} {Q E : Value → Shared → Prop}
theorem makeT {b db u nd l1 l2 l3 l4 : Addr} {oD : Obj} {xs : List ((Str × Int × Int) × Addr × Value)} {ops args sorts datas : List Value} {hs : Nat → Int} {ts : Nat → Tok} {v0 v1 v2 v3 v4 v5 : Value} {ex : List DictEntry} {op : Str} {t1 t2 t3 : Tok} {so da : Int} {nu n0 n1 n2 n3 n4 : Nat} {R : List (Addr × Obj)}
    (a : At w A env outer A₀ base h₀ L p loose mean mg mb 2 60) (F : Fr h₀ L s.heap m)
    (N : News h₀ L s.heap ((b, instObj 787 db) :: (db, dictOf (bkD hs ts v0 v1 v2 v3 v4 v5 (.ref l1) (.ref l2) (.ref l3) (.ref l4) (.ref nd) ex) n0) :: (nd, oD) :: (l1, listOf ops.toArray n1) :: (l2, listOf args.toArray n2) :: (l3, listOf sorts.toArray n3) :: (l4, listOf datas.toArray n4) :: R))
    (nD : NDA ((b, instObj 787 db) :: (db, dictOf (bkD hs ts v0 v1 v2 v3 v4 v5 (.ref l1) (.ref l2) (.ref l3) (.ref l4) (.ref nd) ex) n0) :: (nd, oD) :: (l1, listOf ops.toArray n1) :: (l2, listOf args.toArray n2) :: (l3, listOf sorts.toArray n3) :: (l4, listOf datas.toArray n4) :: R))
    (hd : IsMk PySem.Challenge.rw_rg0215_01.row.prog w oD xs) (hk : KeysL R xs) (hu : (u, tup00 nu) ∈ R) (hl : atKey xs (op, so, da) = none) (h1 : ops.length ≤ 100) (h2 : args.length ≤ 100) (h3 : sorts.length ≤ 100) (h4 : datas.length ≤ 100) (hx : xs.length ≤ 100)
    (hop : 0 < ops.length) (lo : (nd == sysModules) = false)
    (ret : ∀ t a t1' t2' t3' n oD' n1 n2 n3 n4 h' tk', Fr h₀ L h' m →
      News h₀ L h' ((a, mkTup op t1' u so t2' da t3' n) :: (b, instObj 787 db) :: (db, dictOf (bkD hs ts v0 v1 v2 v3 v4 v5 (.ref l1) (.ref l2) (.ref l3) (.ref l4) (.ref nd) ex) n0) :: (nd, oD') :: (l1, listOf (ops ++ [Value.str op t1']).toArray n1) :: (l2, listOf (args ++ [Value.ref u]).toArray n2) :: (l3, listOf (sorts ++ [Value.int so t2']).toArray n3) :: (l4, listOf (datas ++ [Value.int da t3']).toArray n4) :: R) →
      NDA ((a, mkTup op t1' u so t2' da t3' n) :: (b, instObj 787 db) :: (db, dictOf (bkD hs ts v0 v1 v2 v3 v4 v5 (.ref l1) (.ref l2) (.ref l3) (.ref l4) (.ref nd) ex) n0) :: (nd, oD') :: (l1, listOf (ops ++ [Value.str op t1']).toArray n1) :: (l2, listOf (args ++ [Value.ref u]).toArray n2) :: (l3, listOf (sorts ++ [Value.int so t2']).toArray n3) :: (l4, listOf (datas ++ [Value.int da t3']).toArray n4) :: R) →
      IsMk PySem.Challenge.rw_rg0215_01.row.prog w oD' (xs ++ [((op, so, da), a, .int ops.length t)]) → Q (.int ops.length t) { s with heap := h', toks := tk' }) :
    wpAny (model PySem.Challenge.rw_rg0215_01.row.prog w) A (call (.ref 616) [.ref b, .str op t1, .ref u, .int so t2, .int da t3]) Q E s := by
  obtain ⟨hA, hh, B, X, T, hf, hk', hdp, hu'⟩ := a
  obtain ⟨hd', dp, fr, gd, un⟩ := A
  dsimp only at hA hh hdp hu'
  subst hA hh
  revert X
  k_fill
  intro X
  (refine wpAny_call ?_; k_dflt (refine' callOffN ?k1 ?k2 ?k3 ?k4 ?k5 ?kA ?kF ?kK ?k6 ?k7 ?k8 ?k9 ?kB ?_ ?c2 ?c3 ?c4 ?c5; (case kA => exact rfl); (case kF => assumption); (case kK => assumption); (case k1 => k_asm); (case k2 => k_asm); (case k3 => k_asm); (case k4 => k_asm); (case k5 => k_asm); (case k6 => k_is); (case k7 => k_is); (case k8 => ((try dsimp only); omega)); (case k9 => exact BindsTo.of_eq rfl); (case c5 => decide); (case kB => exact locs rfl); (case c2 => exact rfl); (case c3 => exact rfl); (case c4 => exact rfl); k_whole; intro g' L' h' FG' F' N' B' X' T' G'; (try dsimp only); (try k_lift B'); (try k_fold)))
  refine opaqueQ ?_
  intro Q1 E1 hQ1
  have HI : ∀ _ : Unit, IsMk PySem.Challenge.rw_rg0215_01.row.prog w oD xs := fun _ => hd
  k_with_none
  k_with "k_room" => ((try simp only [depth_under_make, depth_under_kw, depth_in1, depth_deeper, depth_caller]); (try dsimp only [top]); omega)
  k_with "k_upd" => ((with_reducible rename NDA _ => nD); refine' Repl.upd ?ua9 ?ub9; (case ub9 => exact NDA.to nD rfl); (case ua9 => repeat (first | exact Repl.head | apply Repl.tail)))
  k_with "k_updF" => ((with_reducible rename NDA _ => nD); refine' ReplF.upd ?ua9 ?ub9; (case ub9 => exact NDA.to nD rfl); (case ua9 => repeat (first | exact ReplF.head | apply ReplF.tail)))
  k_with "call builtin:list.append" => (k_here; k_dflt (refine' append_K ?k1 ?k2 ?k3 ?_ ?z; (case k1 => k_asm); (case k2 => k_asm); (case k3 => k_upd); (case z => (simp only [List.size_toArray, sizeLine_eq]; omega)); k_whole); intro h' F' N'; (try simp only [List.push_toArray] at N'); (try k_sweep))
  k_with "call builtin:len" => ((with_reducible show wpAny _ _ (call (Value.builtin "len") [Value.ref _]) _ _ _); k_here; k_dflt (refine PyProof.Rows.len_list (News.isList (by k_asm) (by k_mem)) (by simp only [List.size_toArray]; omega) ?_); (try simp only [List.size_toArray]))
  k_with "k_get" => exact rfl
  k_with "call builtin:dict.get" => (k_extra "my get")
  k_with "getMethod ref" => (k_extra "my gm")
  k_with "setItem ref ref" => (k_extra "my set")
  w_on
  k_with_none
  k_with "k_room" => ((try simp only [depth_under_make, depth_under_kw, depth_in1, depth_deeper, depth_caller]); (try dsimp only [top]); omega)
  k_with "k_upd" => ((with_reducible rename NDA _ => nD); refine' Repl.upd ?ua9 ?ub9; (case ub9 => exact NDA.to nD rfl); (case ua9 => repeat (first | exact Repl.head | apply Repl.tail)))
  k_with "k_updF" => ((with_reducible rename NDA _ => nD); refine' ReplF.upd ?ua9 ?ub9; (case ub9 => exact NDA.to nD rfl); (case ua9 => repeat (first | exact ReplF.head | apply ReplF.tail)))
  k_with "call builtin:list.append" => (k_here; k_dflt (refine' append_K ?k1 ?k2 ?k3 ?_ ?z; (case k1 => k_asm); (case k2 => k_asm); (case k3 => k_upd); (case z => (simp only [List.size_toArray, sizeLine_eq]; omega)); k_whole); intro h' F' N'; (try simp only [List.push_toArray] at N'); (try k_sweep))
  k_with "call builtin:len" => ((with_reducible show wpAny _ _ (call (Value.builtin "len") [Value.ref _]) _ _ _); k_here; k_dflt (refine PyProof.Rows.len_list (News.isList (by k_asm) (by k_mem)) (by simp only [List.size_toArray]; omega) ?_); (try simp only [List.size_toArray]))
  k_with "k_get" => exact rfl
  k_with "call builtin:dict.get" => (k_extra "my get")
  k_with "getMethod ref" => (k_extra "my gm")
  k_with "setItem ref ref" => (k_extra "my set")
  k_with "my gm" => (with_reducible show wpAny _ _ (getMethod (Value.ref _) (Str.ofString "get") _) _ _ _); k_dflt (refine mk_method (by k_asm) (by k_mem) (HI ()) ?_)
  k_with "my get" => (try dsimp only [List.cons_append, List.nil_append]); (with_reducible show wpAny _ _ (call (Value.builtin "dict.get") [Value.ref _, Value.ref _, Value.int _ _]) _ _ _); (with_reducible rename Fr _ _ _ _ => lF'); (with_reducible rename News _ _ _ _ => lN'); k_dflt (refine mk_get (k := (op, so, da)) (by show un + 3 + 17 < cLine; omega) lN' (by k_mem) (HI ()) (by k_asm) (hk.all lN' (by intro p9 hp9; (repeat (first | exact hp9 | apply List.Mem.tail)))) (mkIsOf lN' (by k_mem) (tupIs lN' hu (by intro p9 hp9; (repeat (first | exact hp9 | apply List.Mem.tail))))) hl ?_)
  k_with "my set" => (with_reducible rename Fr _ _ _ _ => lF'); (with_reducible rename News _ _ _ _ => lN'); k_dflt (refine' mk_set (k := (op, so, da)) (by show un + 3 + 17 < cLine; omega) lF' lN' ?U (HI ()) (hk.all lN' (by intro p9 hp9; (repeat (first | exact hp9 | apply List.Mem.tail)))) (mkIsOf lN' (by k_mem) (tupIs lN' hu (by intro p9 hp9; (repeat (first | exact hp9 | apply List.Mem.tail))))) hl (by rw [sizeLine_eq]; omega) ?_; (case U => k_updF)); intro h' o' F' N' hd'; (try dsimp only at N')
  k_steps
  show Q1 _ _
  refine hQ1 _ _ ?_
  k_dflt (refine' leaveN_ ?k1 ?k2 ?_; (case k1 => k_asm); (case k2 => k_asm); k_whole)
  intro kF kN _ _
  (with_reducible rename NDA _ => nD)
  exact ret _ _ _ _ _ _ _ _ _ _ _ _ _ kF kN (NDA.to nD rfl) (by assumption)
end
end Mine
end
section
open PySem PySem.W PySem.Calls PyProof.Rows PyProof.V PyProof.Rows.LCg
set_option Elab.async false
set_option maxRecDepth 100000
set_option maxHeartbeats 8000000
namespace Mine
theorem delNN {h₀ h : Heap} {L : Addr} {news S R : List (Addr × Obj)} (N : News h₀ L h news) (D : NDA news) (d : DelAll S news R) : News h₀ L h (S ++ R) ∧ NDA (S ++ R) := by
  obtain ⟨a, b, c⟩ := d.nda D
  obtain ⟨m1, m2⟩ := d.mem
  exact ⟨fun q hq => (List.mem_append.mp hq).elim (fun h => N q (m1 q h)) fun h => N q (m2 q h), a.append b c⟩
inductive Suf (R : List (Addr × Obj)) : List (Addr × Obj) → Prop
  | refl : Suf R R
  | tail {x l} : Suf R l → Suf R (x :: l)
theorem Suf.mem {R : List (Addr × Obj)} : ∀ {l : List (Addr × Obj)}, Suf R l → ∀ p ∈ R, p ∈ l
  | _, .refl, _, h => h
  | _, .tail s, p, h => .tail _ (s.mem p h)
theorem Suf.nda {R : List (Addr × Obj)} : ∀ {l : List (Addr × Obj)}, Suf R l → NDA l → NDA R
  | _, .refl, h => h
  | _, .tail s, h => s.nda h.2
inductive DelT : List (Addr × Obj) → List (Addr × Obj) → Prop
  | nil {R l} : Suf R l → DelT R l
  | cons {q T l l1} : Del q l l1 → DelT T l1 → DelT (q :: T) l
theorem DelT.mem : ∀ {T l : List (Addr × Obj)}, DelT T l → ∀ p ∈ T, p ∈ l
  | _, _, .nil s, p, h => s.mem p h
  | _, _, .cons d r, p, h => by
    rcases List.mem_cons.mp h with rfl | h
    · exact d.mem.1
    · exact d.mem.2 _ (r.mem p h)
theorem DelT.nda : ∀ {T l : List (Addr × Obj)}, DelT T l → NDA l → NDA T
  | _, _, .nil s, h => s.nda h
  | _, _, .cons d r, h => by
    obtain ⟨a, b⟩ := h.sub_off d
    exact ⟨fun p hp => b p (r.mem p hp), r.nda a⟩
theorem delT {h₀ h : Heap} {L : Addr} {news T : List (Addr × Obj)} (N : News h₀ L h news) (D : NDA news) (d : DelT T news) : News h₀ L h T ∧ NDA T := ⟨fun q hq => N q (d.mem q hq), d.nda D⟩
/-- what is known of a bank: its terms number k -/
structure BkOk (w : World) (oD : Obj) (xs : List ((Str × Int × Int) × Addr × Value)) (ops args sorts datas fn fa fr : List Value) (R : List (Addr × Obj)) (k : Nat) : Prop where
  kimk : IsMk PySem.Challenge.rw_rg0215_01.row.prog w oD xs
  kkeys : KeysL R xs
  kpos : 0 < k
  klt : k ≤ 50
  kops : ops.length = k
  kargs : args.length = k
  ksorts : sorts.length = k
  kdatas : datas.length = k
  kfn : fn.length ≤ k
  kfa : fa.length ≤ k
  kfr : fr.length ≤ k
  kxs : xs.length ≤ k
  kapp : ∀ x ∈ xs, x.1.1 = Str.ofString "app" → x.1.2.2 < (fn.length : Int)
theorem BkOk.noKey {w : World} {oD : Obj} {xs : List ((Str × Int × Int) × Addr × Value)} {ops args sorts datas fn fa fr : List Value} {R : List (Addr × Obj)} {k : Nat} (h : BkOk w oD xs ops args sorts datas fn fa fr R k) (i : Int) : atKey xs (Str.ofString "app", i, (fn.length : Int)) = Option.none := by
  have e : (xs.find? fun x => decide (x.1 = (Str.ofString "app", i, (fn.length : Int)))) = Option.none := by
    rw [List.find?_eq_none]
    intro x hx hq
    have hq := of_decide_eq_true hq
    have z := h.kapp x hx (by rw [hq])
    rw [hq] at z
    exact Int.lt_irrefl _ z
  unfold atKey
  rw [e]; rfl
theorem BkOk.next {w : World} {oD oD' : Obj} {xs : List ((Str × Int × Int) × Addr × Value)} {ops args sorts datas fn fa fr : List Value} {R : List (Addr × Obj)} {k : Nat} (h : BkOk w oD xs ops args sorts datas fn fa fr R k) (hk : k < 50) {da : Int} {a u : Addr} {t1 t2 t3 : Tok} {n nu : Nat} {v o1 o2 o3 o4 o5 o6 o7 : Value}
    (M : IsMk PySem.Challenge.rw_rg0215_01.row.prog w oD' (xs ++ [((Str.ofString "app", 0, da), a, v)])) (e : da = (fn.length : Int)) :
    BkOk w oD' (xs ++ [((Str.ofString "app", 0, da), a, v)]) (ops ++ [o1]) (args ++ [o2]) (sorts ++ [o3]) (datas ++ [o4]) (fn ++ [o5]) (fa ++ [o6]) (fr ++ [o7]) ((a, mkTup (Str.ofString "app") t1 u 0 t2 da t3 n) :: (u, tup00 nu) :: R) (k + 1) where
  kimk := M
  kkeys := fun x hx => by
    rcases List.mem_append.mp hx with hx | hx
    · exact (h.kkeys x hx).sub fun p hp => .tail _ (.tail _ hp)
    · rw [List.mem_singleton.mp hx]
      exact ⟨_, _, _, _, _, _, .head _, .tail _ (.head _)⟩
  kpos := Nat.succ_pos _
  klt := hk
  kops := by rw [List.length_append, h.kops]; rfl
  kargs := by rw [List.length_append, h.kargs]; rfl
  ksorts := by rw [List.length_append, h.ksorts]; rfl
  kdatas := by rw [List.length_append, h.kdatas]; rfl
  kfn := by rw [List.length_append]; exact Nat.succ_le_succ h.kfn
  kfa := by rw [List.length_append]; exact Nat.succ_le_succ h.kfa
  kfr := by rw [List.length_append]; exact Nat.succ_le_succ h.kfr
  kxs := by rw [List.length_append]; exact Nat.succ_le_succ h.kxs
  kapp := fun x hx hq => by
    rw [List.length_append]
    rcases List.mem_append.mp hx with hx | hx
    · have := h.kapp x hx hq
      show _ < ((fn.length + 1 : Nat) : Int)
      omega
    · rw [List.mem_singleton.mp hx]
      show da < ((fn.length + 1 : Nat) : Int)
      omega
section
variable {w : World} {A : Around} {env : Env} {outer : List Env} {A₀ : Around} {base h₀ : Heap} {L : Addr} {p : Program} {loose : List Str} {mean : ExcName → Option Value} {mg mb : Str → Option Value} {m : Str → Option Value} {s : Shared} {Q E : Value → Shared → Prop}

theorem KeysL.sub {l l' : List (Addr × Obj)} {xs : List ((Str × Int × Int) × Addr × Value)} (x : KeysL l xs) (h : ∀ p ∈ l, p ∈ l') : KeysL l' xs := fun y hy => (x y hy).sub h
theorem makeD {b db u nd l1 l2 l3 l4 : Addr} {oD : Obj} {xs : List ((Str × Int × Int) × Addr × Value)} {ops args sorts datas : List Value} {hs : Nat → Int} {ts : Nat → Tok} {v0 v1 v2 v3 v4 v5 : Value} {ex : List DictEntry} {op : Str} {t1 t2 t3 : Tok} {so da : Int} {nu n0 n1 n2 n3 n4 : Nat} {R news : List (Addr × Obj)}
    (a : At w A env outer A₀ base h₀ L p loose mean mg mb 2 60) (F : Fr h₀ L s.heap m) (N : News h₀ L s.heap news) (nD : NDA news)
    (d : DelAll [(b, instObj 787 db), (db, dictOf (bkD hs ts v0 v1 v2 v3 v4 v5 (.ref l1) (.ref l2) (.ref l3) (.ref l4) (.ref nd) ex) n0), (nd, oD), (l1, listOf ops.toArray n1), (l2, listOf args.toArray n2), (l3, listOf sorts.toArray n3), (l4, listOf datas.toArray n4)] news R)
    (hd : IsMk PySem.Challenge.rw_rg0215_01.row.prog w oD xs) (hk : KeysL R xs) (hu : (u, tup00 nu) ∈ R) (hl : atKey xs (op, so, da) = none) (h1 : ops.length ≤ 100) (h2 : args.length ≤ 100) (h3 : sorts.length ≤ 100) (h4 : datas.length ≤ 100) (hx : xs.length ≤ 100)
    (hop : 0 < ops.length) (lo : (nd == sysModules) = false)
    (ret : ∀ t a t1' t2' t3' n oD' n1 n2 n3 n4 h' tk', Fr h₀ L h' m →
      News h₀ L h' ((a, mkTup op t1' u so t2' da t3' n) :: (b, instObj 787 db) :: (db, dictOf (bkD hs ts v0 v1 v2 v3 v4 v5 (.ref l1) (.ref l2) (.ref l3) (.ref l4) (.ref nd) ex) n0) :: (nd, oD') :: (l1, listOf (ops ++ [Value.str op t1']).toArray n1) :: (l2, listOf (args ++ [Value.ref u]).toArray n2) :: (l3, listOf (sorts ++ [Value.int so t2']).toArray n3) :: (l4, listOf (datas ++ [Value.int da t3']).toArray n4) :: R) →
      NDA ((a, mkTup op t1' u so t2' da t3' n) :: (b, instObj 787 db) :: (db, dictOf (bkD hs ts v0 v1 v2 v3 v4 v5 (.ref l1) (.ref l2) (.ref l3) (.ref l4) (.ref nd) ex) n0) :: (nd, oD') :: (l1, listOf (ops ++ [Value.str op t1']).toArray n1) :: (l2, listOf (args ++ [Value.ref u]).toArray n2) :: (l3, listOf (sorts ++ [Value.int so t2']).toArray n3) :: (l4, listOf (datas ++ [Value.int da t3']).toArray n4) :: R) →
      IsMk PySem.Challenge.rw_rg0215_01.row.prog w oD' (xs ++ [((op, so, da), a, .int ops.length t)]) → Q (.int ops.length t) { s with heap := h', toks := tk' }) :
    wpAny (model PySem.Challenge.rw_rg0215_01.row.prog w) A (call (.ref 616) [.ref b, .str op t1, .ref u, .int so t2, .int da t3]) Q E s := by
  obtain ⟨N0, nD0⟩ := delNN N nD d
  simp only [List.cons_append, List.nil_append] at N0 nD0
  exact makeT a F N0 nD0 hd hk hu hl h1 h2 h3 h4 hx hop lo ret
theorem freshT {b db nd l1 l2 l3 l4 f1 f2 f3 : Addr} {oD : Obj} {xs : List ((Str × Int × Int) × Addr × Value)} {ops args sorts datas fn fa fr : List Value} {hs : Nat → Int} {ts : Nat → Tok} {v0 v1 v5 v11 v12 : Value} {nm : Str} {tn t3 : Tok} {n0 n1 n2 n3 n4 m1 m2 m3 k : Nat} {R news KT : List (Addr × Obj)}
    (a : At w A env outer A₀ base h₀ L p loose mean mg mb 6 120) (F : Fr h₀ L s.heap m) (N : News h₀ L s.heap news) (nD : NDA news) (lo : (nd == sysModules) = false)
    (d : DelAll [(b, instObj 787 db), (db, dictOf (bkD hs ts v0 v1 (.ref f1) (.ref f2) (.ref f3) v5 (.ref l1) (.ref l2) (.ref l3) (.ref l4) (.ref nd) [ent "true_number" (hs 11) (ts 11) v11, ent "false_number" (hs 12) (ts 12) v12]) n0), (nd, oD), (l1, listOf ops.toArray n1), (l2, listOf args.toArray n2), (l3, listOf sorts.toArray n3), (l4, listOf datas.toArray n4), (f1, listOf fn.toArray m1), (f2, listOf fa.toArray m2), (f3, listOf fr.toArray m3)] news R)
    (ok : BkOk w oD xs ops args sorts datas fn fa fr KT k) (hKT : ∀ p ∈ KT, p ∈ R) (hk5 : k < 50)
    (ret : ∀ t x y ox oy oD' xs' ops' args' sorts' datas' fn' fa' fr' n1 n2 n3 n4 m1 m2 m3 h' tk', Fr h₀ L h' m →
      News h₀ L h' ((b, instObj 787 db) :: (db, dictOf (bkD hs ts v0 v1 (.ref f1) (.ref f2) (.ref f3) v5 (.ref l1) (.ref l2) (.ref l3) (.ref l4) (.ref nd) [ent "true_number" (hs 11) (ts 11) v11, ent "false_number" (hs 12) (ts 12) v12]) n0) :: (nd, oD') :: (l1, listOf ops'.toArray n1) :: (l2, listOf args'.toArray n2) :: (l3, listOf sorts'.toArray n3) :: (l4, listOf datas'.toArray n4) :: (f1, listOf fn'.toArray m1) :: (f2, listOf fa'.toArray m2) :: (f3, listOf fr'.toArray m3) :: (x, ox) :: (y, oy) :: R) →
      NDA ((b, instObj 787 db) :: (db, dictOf (bkD hs ts v0 v1 (.ref f1) (.ref f2) (.ref f3) v5 (.ref l1) (.ref l2) (.ref l3) (.ref l4) (.ref nd) [ent "true_number" (hs 11) (ts 11) v11, ent "false_number" (hs 12) (ts 12) v12]) n0) :: (nd, oD') :: (l1, listOf ops'.toArray n1) :: (l2, listOf args'.toArray n2) :: (l3, listOf sorts'.toArray n3) :: (l4, listOf datas'.toArray n4) :: (f1, listOf fn'.toArray m1) :: (f2, listOf fa'.toArray m2) :: (f3, listOf fr'.toArray m3) :: (x, ox) :: (y, oy) :: R) →
      BkOk w oD' xs' ops' args' sorts' datas' fn' fa' fr' ((x, ox) :: (y, oy) :: KT) (k + 1) → Q (.int k t) { s with heap := h', toks := tk' }) :
    wpAny (model PySem.Challenge.rw_rg0215_01.row.prog w) A (call (.ref 539) [.ref b, .str nm tn, .int 0 t3]) Q E s := by
  obtain ⟨N0, nD0⟩ := delNN N nD d
  clear N nD d
  simp only [List.cons_append, List.nil_append] at N0 nD0
  obtain ⟨hA, hh, B, X, T, hf, hk', hdp, hu'⟩ := a
  obtain ⟨hd', dp, fr0, gd, un⟩ := A
  dsimp only at hA hh hdp hu'
  subst hA hh
  revert X
  k_fill
  intro X
  (refine wpAny_call ?_; k_dflt (refine' callOffN ?k1 ?k2 ?k3 ?k4 ?k5 ?kA ?kF ?kK ?k6 ?k7 ?k8 ?k9 ?kB ?_ ?c2 ?c3 ?c4 ?c5; (case kA => exact rfl); (case kF => assumption); (case kK => assumption); (case k1 => k_asm); (case k2 => k_asm); (case k3 => k_asm); (case k4 => k_asm); (case k5 => k_asm); (case k6 => k_is); (case k7 => k_is); (case k8 => ((try dsimp only); omega)); (case k9 => exact BindsTo.of_eq rfl); (case c5 => decide); (case kB => exact locs rfl); (case c2 => exact rfl); (case c3 => exact rfl); (case c4 => exact rfl); k_whole; intro g' L' h' FG' F' N' B' X' T' G'; (try dsimp only); (try k_lift B'); (try k_fold)))
  refine opaqueQ ?_
  intro Q1 E1 hQ1
  have q1 := ok.kfn
  have q2 := ok.kfa
  have q3 := ok.kfr
  have q4 := ok.kops
  have q5 := ok.kargs
  have q6 := ok.ksorts
  have q7 := ok.kdatas
  have q8 := ok.kxs
  have q9 := ok.kpos
  k_with_none
  k_with "k_room" => ((try simp only [depth_under_make, depth_under_kw, depth_in1, depth_deeper, depth_caller]); (try dsimp only [top]); omega)
  k_with "k_upd" => ((with_reducible rename NDA _ => nD); refine' Repl.upd ?ua9 ?ub9; (case ub9 => exact NDA.to nD rfl); (case ua9 => repeat (first | exact Repl.head | apply Repl.tail)))
  k_with "k_updF" => ((with_reducible rename NDA _ => nD); refine' ReplF.upd ?ua9 ?ub9; (case ub9 => exact NDA.to nD rfl); (case ua9 => repeat (first | exact ReplF.head | apply ReplF.tail)))
  k_with "call builtin:list.append" => (k_here; (try dsimp only [List.cons_append, List.nil_append]); k_dflt (refine' append_K ?k1 ?k2 ?k3 ?_ ?z; (case k1 => k_asm); (case k2 => k_asm); (case k3 => k_upd); (case z => (rw [List.size_toArray, sizeLine_eq]; omega)); k_whole); intro h' F' N'; (try simp only [List.push_toArray] at N'); (try k_sweep))
  k_with "call builtin:len" => ((with_reducible show wpAny _ _ (call (Value.builtin "len") [Value.ref _]) _ _ _); k_here; k_dflt (refine PyProof.Rows.len_list (News.isList (by k_asm) (by k_mem)) (by simp only [List.size_toArray, List.length_append, List.length_cons, List.length_nil]; omega) ?_); (try simp only [List.size_toArray, List.length_append, List.length_cons, List.length_nil]))
  k_with "call ref" => (k_extra "my call")
  k_with "call ref cons" => (k_extra "my call")
  k_with "call ref cons nil" => (k_extra "my call")
  w_on
  k_with_none
  k_with "k_room" => ((try simp only [depth_under_make, depth_under_kw, depth_in1, depth_deeper, depth_caller]); (try dsimp only [top]); omega)
  k_with "k_upd" => ((with_reducible rename NDA _ => nD); refine' Repl.upd ?ua9 ?ub9; (case ub9 => exact NDA.to nD rfl); (case ua9 => repeat (first | exact Repl.head | apply Repl.tail)))
  k_with "k_updF" => ((with_reducible rename NDA _ => nD); refine' ReplF.upd ?ua9 ?ub9; (case ub9 => exact NDA.to nD rfl); (case ua9 => repeat (first | exact ReplF.head | apply ReplF.tail)))
  k_with "call builtin:list.append" => (k_here; (try dsimp only [List.cons_append, List.nil_append]); k_dflt (refine' append_K ?k1 ?k2 ?k3 ?_ ?z; (case k1 => k_asm); (case k2 => k_asm); (case k3 => k_upd); (case z => (rw [List.size_toArray, sizeLine_eq]; omega)); k_whole); intro h' F' N'; (try simp only [List.push_toArray] at N'); (try k_sweep))
  k_with "call builtin:len" => ((with_reducible show wpAny _ _ (call (Value.builtin "len") [Value.ref _]) _ _ _); k_here; k_dflt (refine PyProof.Rows.len_list (News.isList (by k_asm) (by k_mem)) (by simp only [List.size_toArray, List.length_append, List.length_cons, List.length_nil]; omega) ?_); (try simp only [List.size_toArray, List.length_append, List.length_cons, List.length_nil]))
  k_with "call ref" => (k_extra "my call")
  k_with "call ref cons" => (k_extra "my call")
  k_with "call ref cons nil" => (k_extra "my call")
  k_with "my call" => (try dsimp only); (with_reducible rename Fr _ _ _ _ => lF'); (with_reducible rename News _ _ _ _ => lN'); (with_reducible rename NDA _ => nD); (replace nD := nda_to lN' nD rfl); k_dflt (refine' makeD ?zA lF' lN' nD ?zD ok.kimk (ok.kkeys.sub ?zS) ?zU ?zH ?z1 ?z2 ?z3 ?z4 ?z5 ?z6 lo ?_; (case zD => (repeat (first | exact DelAll.nil | apply DelAll.cons (by repeat (first | exact Del.head | apply Del.tail))))); (case zU => k_mem); (case zS => (intro p9 hp9; replace hp9 := hKT p9 hp9; (repeat (first | exact hp9 | apply List.Mem.tail)))); (case zA => exact At.mk rfl rfl (by k_asm) (by k_asm) (by k_asm) rfl rfl (by show dp + 1 + 2 < recursionLimit; omega) (by show un + 3 + 60 < cLine; omega)); (case zH => (rw [Int.natCast_add, Int.natCast_one, Int.add_sub_cancel]; exact ok.noKey 0)); (case z1 => omega); (case z2 => omega); (case z3 => omega); (case z4 => omega); (case z5 => omega); (case z6 => omega)); (intro t9 a9 t91 t92 t93 n9 oD9 n91 n92 n93 n94 h9 tk9 F9 N9 D9 M9)
  k_steps
  show Q1 _ _
  refine hQ1 _ _ ?_
  k_dflt (refine' leaveN_ ?k1 ?k2 ?_; (case k1 => k_asm); (case k2 => k_asm); k_whole)
  intro kF kN _ _
  (with_reducible rename NDA _ => nD)
  replace nD := nda_to kN nD rfl
  clear q1 q2 q3 q5 q6 q7 q8 q9
  subst q4
  refine' ret _ _ _ _ _ _ _ _ _ _ _ _ _ _ _ _ _ _ _ _ _ _ _ kF (delT kN nD ?zD).1 (delT kN nD ?zD).2 (ok.next hk5 M9 ?zQ)
  case zQ => rw [Int.natCast_add, Int.natCast_one, Int.add_sub_cancel]
  case zD => repeat (first | apply DelT.cons (by repeat (first | exact Del.head | apply Del.tail)) | exact DelT.nil (by repeat (first | exact Suf.refl | apply Suf.tail)))
end
end Mine
end
section
open PySem PySem.W PySem.Calls PyProof.Rows PyProof.V PyProof.Rows.LCg
set_option Elab.async false
set_option maxRecDepth 100000
set_option maxHeartbeats 8000000
namespace Mine
theorem neSame {prog : Program} {w : World} {A : Around} {E : Value → Shared → Prop} {s : Shared} {a b : Int} {t u : Tok} {Q : Value → Shared → Prop} (e : a = b) (h : Q (.bool false) s) : wpAny (model prog w) A (compareOp .NotEq (.int a t) (.int b u)) Q E s := by
  subst e
  refine PyProof.Rows.ne_int ?_
  simpa using h
section
variable {w : World} {A : Around} {env : Env} {outer : List Env} {A₀ : Around} {base h₀ : Heap} {L : Addr} {p : Program} {loose : List Str} {mean : ExcName → Option Value} {mg mb : Str → Option Value} {m : Str → Option Value} {s : Shared} {Q E : Value → Shared → Prop}


theorem varP {x dx co dc vd te : Addr} {ha hc : Nat → Int} {ta tc : Nat → Tok} {v0 v5 v6 v7 v8 u1 u2 : Value} {na nt : Nat} {oV : Obj} {kvs : List (Int × Value)} {terms : List Value} {mv t : Int} {tm tt : Tok} {R news : List (Addr × Obj)}
    (a : At w A env outer A₀ base h₀ L p loose mean mg mb 3 60) (F : Fr h₀ L s.heap m) (N : News h₀ L s.heap news) (nD : NDA news)
    (dS : DelAll [(x, instObj 465 dx), (dx, dictOf (mkD ha ta v0 (.ref co) .none (.ref vd) (.ref te) v5 v6 v7 v8) na), (co, instObj 325 dc), (dc, dictOf (coD hc tc (.int mv tm) u1 u2) 3), (vd, oV), (te, listOf terms.toArray nt)] news R)
    (hV : oV.IsDictOf (PySem.intKind PySem.Challenge.rw_rg0215_01.row.prog w) kvs) (hl : valueAt kvs t = Option.none) (hk : kvs.length ≤ 100) (ht : terms.length ≤ 100) (hm : mv + 1 = (terms.length : Int)) (lo : (vd == sysModules) = false)
    (ret : ∀ oV' tv tv' tm' tt' nt h' tk', Fr h₀ L h' m →
      News h₀ L h' ((x, instObj 465 dx) :: (dx, dictOf (mkD ha ta v0 (.ref co) .none (.ref vd) (.ref te) v5 v6 v7 v8) na) :: (co, instObj 325 dc) :: (dc, dictOf (coD hc tc (.int (mv + 1) tm') u1 u2) 3) :: (vd, oV') :: (te, listOf (terms ++ [Value.int t tt']).toArray nt) :: R) →
      NDA ((x, instObj 465 dx) :: (dx, dictOf (mkD ha ta v0 (.ref co) .none (.ref vd) (.ref te) v5 v6 v7 v8) na) :: (co, instObj 325 dc) :: (dc, dictOf (coD hc tc (.int (mv + 1) tm') u1 u2) 3) :: (vd, oV') :: (te, listOf (terms ++ [Value.int t tt']).toArray nt) :: R) →
      oV'.IsDictOf (PySem.intKind PySem.Challenge.rw_rg0215_01.row.prog w) (stored kvs t (.int (mv + 1) tv')) → Q (.int (mv + 1) tv) { s with heap := h', toks := tk' }) :
    wpAny (model PySem.Challenge.rw_rg0215_01.row.prog w) A (call (.ref 357) [.ref x, .int t tt]) Q E s := by
  obtain ⟨N0, nD0⟩ := delNN N nD dS
  clear N nD dS
  simp only [List.cons_append, List.nil_append] at N0 nD0
  obtain ⟨hA, hh, B, X, T, hf, hk', hdp, hu'⟩ := a
  obtain ⟨hd', dp, fr0, gd, un⟩ := A
  dsimp only at hA hh hdp hu'
  subst hA hh
  revert X
  k_fill
  intro X
  (refine wpAny_call ?_; k_dflt (refine' callOffN ?k1 ?k2 ?k3 ?k4 ?k5 ?kA ?kF ?kK ?k6 ?k7 ?k8 ?k9 ?kB ?_ ?c2 ?c3 ?c4 ?c5; (case kA => exact rfl); (case kF => assumption); (case kK => assumption); (case k1 => k_asm); (case k2 => k_asm); (case k3 => k_asm); (case k4 => k_asm); (case k5 => k_asm); (case k6 => k_is); (case k7 => k_is); (case k8 => ((try dsimp only); omega)); (case k9 => exact BindsTo.of_eq rfl); (case c5 => decide); (case kB => exact locs rfl); (case c2 => exact rfl); (case c3 => exact rfl); (case c4 => exact rfl); k_whole; intro g' L' h' FG' F' N' B' X' T' G'; (try dsimp only); (try k_lift B'); (try k_fold)))
  refine opaqueQ ?_
  intro Q1 E1 hQ1
  have HV : ∀ _ : Unit, oV.IsDictOf (PySem.intKind PySem.Challenge.rw_rg0215_01.row.prog w) kvs := fun _ => hV
  clear hV
  k_with_none
  k_with "k_room" => ((try simp only [depth_under_make, depth_under_kw, depth_in1, depth_deeper, depth_caller]); (try dsimp only [top]); omega)
  k_with "k_upd" => ((with_reducible rename NDA _ => nD); refine' Repl.upd ?ua9 ?ub9; (case ub9 => exact NDA.to nD rfl); (case ua9 => repeat (first | exact Repl.head | apply Repl.tail)))
  k_with "k_updF" => ((with_reducible rename NDA _ => nD); refine' ReplF.upd ?ua9 ?ub9; (case ub9 => exact NDA.to nD rfl); (case ua9 => repeat (first | exact ReplF.head | apply ReplF.tail)))
  k_with "call builtin:list.append" => (k_here; (try dsimp only [List.cons_append, List.nil_append]); k_dflt (refine' append_K ?k1 ?k2 ?k3 ?_ ?z; (case k1 => k_asm); (case k2 => k_asm); (case k3 => k_upd); (case z => (rw [List.size_toArray, sizeLine_eq]; omega)); k_whole); intro h' F' N'; (try simp only [List.push_toArray] at N'); (try k_sweep))
  k_with "call builtin:len" => ((with_reducible show wpAny _ _ (call (Value.builtin "len") [Value.ref _]) _ _ _); k_here; k_dflt (refine PyProof.Rows.len_list (News.isList (by k_asm) (by k_mem)) (by simp only [List.size_toArray, List.length_append, List.length_cons, List.length_nil]; omega) ?_); (try simp only [List.size_toArray, List.length_append, List.length_cons, List.length_nil]))
  k_with "call builtin:dict.get" => (k_extra "my get")
  k_with "getMethod ref" => (k_extra "my gm")
  k_with "compareOp NotEq int int" => (k_extra "my nei")
  k_with "setItem ref int" => (k_extra "my set")
  w_on
  k_with_none
  k_with "k_room" => ((try simp only [depth_under_make, depth_under_kw, depth_in1, depth_deeper, depth_caller]); (try dsimp only [top]); omega)
  k_with "k_upd" => ((with_reducible rename NDA _ => nD); refine' Repl.upd ?ua9 ?ub9; (case ub9 => exact NDA.to nD rfl); (case ua9 => repeat (first | exact Repl.head | apply Repl.tail)))
  k_with "k_updF" => ((with_reducible rename NDA _ => nD); refine' ReplF.upd ?ua9 ?ub9; (case ub9 => exact NDA.to nD rfl); (case ua9 => repeat (first | exact ReplF.head | apply ReplF.tail)))
  k_with "call builtin:list.append" => (k_here; (try dsimp only [List.cons_append, List.nil_append]); k_dflt (refine' append_K ?k1 ?k2 ?k3 ?_ ?z; (case k1 => k_asm); (case k2 => k_asm); (case k3 => k_upd); (case z => (rw [List.size_toArray, sizeLine_eq]; omega)); k_whole); intro h' F' N'; (try simp only [List.push_toArray] at N'); (try k_sweep))
  k_with "call builtin:len" => ((with_reducible show wpAny _ _ (call (Value.builtin "len") [Value.ref _]) _ _ _); k_here; k_dflt (refine PyProof.Rows.len_list (News.isList (by k_asm) (by k_mem)) (by simp only [List.size_toArray, List.length_append, List.length_cons, List.length_nil]; omega) ?_); (try simp only [List.size_toArray, List.length_append, List.length_cons, List.length_nil]))
  k_with "call builtin:dict.get" => (k_extra "my get")
  k_with "getMethod ref" => (k_extra "my gm")
  k_with "compareOp NotEq int int" => (k_extra "my nei")
  k_with "setItem ref int" => (k_extra "my set")
  k_with "my gm" => (with_reducible show wpAny _ _ (getMethod (Value.ref _) (Str.ofString "get") _) _ _ _); k_dflt (refine kdg_method (by k_asm) (by k_mem) (HV ()) ?_)
  k_with "my get" => (try dsimp only [List.cons_append, List.nil_append]); (with_reducible show wpAny _ _ (call (Value.builtin "dict.get") [Value.ref _, Value.int _ _, Value.int _ _]) _ _ _); k_dflt (refine kdg_get2 (by k_asm) (by k_mem) (HV ()) (by k_asm) (intKind_is _ _ _ _) none hl ?_); (try dsimp only [Option.getD])
  k_with "my nei" => k_dflt (refine neSame (by omega) ?_)
  k_with "my set" => (with_reducible rename Fr _ _ _ _ => lF'); (with_reducible rename News _ _ _ _ => lN'); k_dflt (refine' kda_set lF' lN' ?zU (HV ()) (intKind_is _ _ _ _) (by rw [sizeLine_eq]; omega) ?_; (case zU => k_updF)); intro h' o' F' N' hd'; (try dsimp only at N')
  k_steps
  show Q1 _ _
  refine hQ1 _ _ ?_
  k_dflt (refine' leaveN_ ?k1 ?k2 ?_; (case k1 => k_asm); (case k2 => k_asm); k_whole)
  intro kF kN _ _
  (with_reducible rename NDA _ => nD)
  replace nD := nda_to kN nD rfl
  exact ret _ _ _ _ _ _ _ _ kF kN nD (by assumption)
theorem varF {x dx co dc vd te pf pd nm : Addr} {ha hc hp : Nat → Int} {ta tc tp : Nat → Tok} {v0 v5 v6 v7 v8 u1 u2 p1 p2 : Value} {na nt nn : Nat} {oV : Obj} {kvs : List (Int × Value)} {terms named : List Value} {mv t : Int} {tm tt : Tok} {R news : List (Addr × Obj)}
    (a : At w A env outer A₀ base h₀ L p loose mean mg mb 3 60) (F : Fr h₀ L s.heap m) (N : News h₀ L s.heap news) (nD : NDA news)
    (dS : DelAll [(x, instObj 465 dx), (dx, dictOf (mkD ha ta v0 (.ref co) (.ref pf) (.ref vd) (.ref te) v5 v6 v7 v8) na), (co, instObj 325 dc), (dc, dictOf (coD hc tc (.int mv tm) u1 u2) 3), (vd, oV), (te, listOf terms.toArray nt), (pf, instObj 246 pd), (pd, dictOf (pfD hp tp p1 (.ref nm) p2) 3), (nm, listOf named.toArray nn)] news R)
    (hV : oV.IsDictOf (PySem.intKind PySem.Challenge.rw_rg0215_01.row.prog w) kvs) (hl : valueAt kvs t = Option.none) (hk : kvs.length ≤ 100) (ht : terms.length ≤ 100) (hn : named.length = terms.length) (hm : mv + 1 = (terms.length : Int)) (lo : (vd == sysModules) = false)
    (ret : ∀ oV' tv tv' tm' tt' tt'' nt nn h' tk', Fr h₀ L h' m →
      News h₀ L h' ((x, instObj 465 dx) :: (dx, dictOf (mkD ha ta v0 (.ref co) (.ref pf) (.ref vd) (.ref te) v5 v6 v7 v8) na) :: (co, instObj 325 dc) :: (dc, dictOf (coD hc tc (.int (mv + 1) tm') u1 u2) 3) :: (vd, oV') :: (te, listOf (terms ++ [Value.int t tt']).toArray nt) :: (pf, instObj 246 pd) :: (pd, dictOf (pfD hp tp p1 (.ref nm) p2) 3) :: (nm, listOf (named ++ [Value.int t tt'']).toArray nn) :: R) →
      NDA ((x, instObj 465 dx) :: (dx, dictOf (mkD ha ta v0 (.ref co) (.ref pf) (.ref vd) (.ref te) v5 v6 v7 v8) na) :: (co, instObj 325 dc) :: (dc, dictOf (coD hc tc (.int (mv + 1) tm') u1 u2) 3) :: (vd, oV') :: (te, listOf (terms ++ [Value.int t tt']).toArray nt) :: (pf, instObj 246 pd) :: (pd, dictOf (pfD hp tp p1 (.ref nm) p2) 3) :: (nm, listOf (named ++ [Value.int t tt'']).toArray nn) :: R) →
      oV'.IsDictOf (PySem.intKind PySem.Challenge.rw_rg0215_01.row.prog w) (stored kvs t (.int (mv + 1) tv')) → Q (.int (mv + 1) tv) { s with heap := h', toks := tk' }) :
    wpAny (model PySem.Challenge.rw_rg0215_01.row.prog w) A (call (.ref 357) [.ref x, .int t tt]) Q E s := by
  obtain ⟨N0, nD0⟩ := delNN N nD dS
  clear N nD dS
  simp only [List.cons_append, List.nil_append] at N0 nD0
  obtain ⟨hA, hh, B, X, T, hf, hk', hdp, hu'⟩ := a
  obtain ⟨hd', dp, fr0, gd, un⟩ := A
  dsimp only at hA hh hdp hu'
  subst hA hh
  revert X
  k_fill
  intro X
  (refine wpAny_call ?_; k_dflt (refine' callOffN ?k1 ?k2 ?k3 ?k4 ?k5 ?kA ?kF ?kK ?k6 ?k7 ?k8 ?k9 ?kB ?_ ?c2 ?c3 ?c4 ?c5; (case kA => exact rfl); (case kF => assumption); (case kK => assumption); (case k1 => k_asm); (case k2 => k_asm); (case k3 => k_asm); (case k4 => k_asm); (case k5 => k_asm); (case k6 => k_is); (case k7 => k_is); (case k8 => ((try dsimp only); omega)); (case k9 => exact BindsTo.of_eq rfl); (case c5 => decide); (case kB => exact locs rfl); (case c2 => exact rfl); (case c3 => exact rfl); (case c4 => exact rfl); k_whole; intro g' L' h' FG' F' N' B' X' T' G'; (try dsimp only); (try k_lift B'); (try k_fold)))
  refine opaqueQ ?_
  intro Q1 E1 hQ1
  have HV : ∀ _ : Unit, oV.IsDictOf (PySem.intKind PySem.Challenge.rw_rg0215_01.row.prog w) kvs := fun _ => hV
  clear hV
  k_with_none
  k_with "k_room" => ((try simp only [depth_under_make, depth_under_kw, depth_in1, depth_deeper, depth_caller]); (try dsimp only [top]); omega)
  k_with "k_upd" => ((with_reducible rename NDA _ => nD); refine' Repl.upd ?ua9 ?ub9; (case ub9 => exact NDA.to nD rfl); (case ua9 => repeat (first | exact Repl.head | apply Repl.tail)))
  k_with "k_updF" => ((with_reducible rename NDA _ => nD); refine' ReplF.upd ?ua9 ?ub9; (case ub9 => exact NDA.to nD rfl); (case ua9 => repeat (first | exact ReplF.head | apply ReplF.tail)))
  k_with "call builtin:list.append" => (k_here; (try dsimp only [List.cons_append, List.nil_append]); k_dflt (refine' append_K ?k1 ?k2 ?k3 ?_ ?z; (case k1 => k_asm); (case k2 => k_asm); (case k3 => k_upd); (case z => (rw [List.size_toArray, sizeLine_eq]; omega)); k_whole); intro h' F' N'; (try simp only [List.push_toArray] at N'); (try k_sweep))
  k_with "call builtin:len" => ((with_reducible show wpAny _ _ (call (Value.builtin "len") [Value.ref _]) _ _ _); k_here; k_dflt (refine PyProof.Rows.len_list (News.isList (by k_asm) (by k_mem)) (by simp only [List.size_toArray, List.length_append, List.length_cons, List.length_nil]; omega) ?_); (try simp only [List.size_toArray, List.length_append, List.length_cons, List.length_nil]))
  k_with "call builtin:dict.get" => (k_extra "my get")
  k_with "getMethod ref" => (k_extra "my gm")
  k_with "compareOp NotEq int int" => (k_extra "my nei")
  k_with "setItem ref int" => (k_extra "my set")
  w_on
  k_with_none
  k_with "k_room" => ((try simp only [depth_under_make, depth_under_kw, depth_in1, depth_deeper, depth_caller]); (try dsimp only [top]); omega)
  k_with "k_upd" => ((with_reducible rename NDA _ => nD); refine' Repl.upd ?ua9 ?ub9; (case ub9 => exact NDA.to nD rfl); (case ua9 => repeat (first | exact Repl.head | apply Repl.tail)))
  k_with "k_updF" => ((with_reducible rename NDA _ => nD); refine' ReplF.upd ?ua9 ?ub9; (case ub9 => exact NDA.to nD rfl); (case ua9 => repeat (first | exact ReplF.head | apply ReplF.tail)))
  k_with "call builtin:list.append" => (k_here; (try dsimp only [List.cons_append, List.nil_append]); k_dflt (refine' append_K ?k1 ?k2 ?k3 ?_ ?z; (case k1 => k_asm); (case k2 => k_asm); (case k3 => k_upd); (case z => (rw [List.size_toArray, sizeLine_eq]; omega)); k_whole); intro h' F' N'; (try simp only [List.push_toArray] at N'); (try k_sweep))
  k_with "call builtin:len" => ((with_reducible show wpAny _ _ (call (Value.builtin "len") [Value.ref _]) _ _ _); k_here; k_dflt (refine PyProof.Rows.len_list (News.isList (by k_asm) (by k_mem)) (by simp only [List.size_toArray, List.length_append, List.length_cons, List.length_nil]; omega) ?_); (try simp only [List.size_toArray, List.length_append, List.length_cons, List.length_nil]))
  k_with "call builtin:dict.get" => (k_extra "my get")
  k_with "getMethod ref" => (k_extra "my gm")
  k_with "compareOp NotEq int int" => (k_extra "my nei")
  k_with "setItem ref int" => (k_extra "my set")
  k_with "my gm" => (with_reducible show wpAny _ _ (getMethod (Value.ref _) (Str.ofString "get") _) _ _ _); k_dflt (refine kdg_method (by k_asm) (by k_mem) (HV ()) ?_)
  k_with "my get" => (try dsimp only [List.cons_append, List.nil_append]); (with_reducible show wpAny _ _ (call (Value.builtin "dict.get") [Value.ref _, Value.int _ _, Value.int _ _]) _ _ _); k_dflt (refine kdg_get2 (by k_asm) (by k_mem) (HV ()) (by k_asm) (intKind_is _ _ _ _) none hl ?_); (try dsimp only [Option.getD])
  k_with "my nei" => k_dflt (refine neSame (by omega) ?_)
  k_with "my set" => (with_reducible rename Fr _ _ _ _ => lF'); (with_reducible rename News _ _ _ _ => lN'); k_dflt (refine' kda_set lF' lN' ?zU (HV ()) (intKind_is _ _ _ _) (by rw [sizeLine_eq]; omega) ?_; (case zU => k_updF)); intro h' o' F' N' hd'; (try dsimp only at N')
  k_steps
  show Q1 _ _
  refine hQ1 _ _ ?_
  k_dflt (refine' leaveN_ ?k1 ?k2 ?_; (case k1 => k_asm); (case k2 => k_asm); k_whole)
  intro kF kN _ _
  (with_reducible rename NDA _ => nD)
  replace nD := nda_to kN nD rfl
  exact ret _ _ _ _ _ _ _ _ _ _ kF kN nD (by assumption)
end
end Mine
end
section
open PySem PySem.W PySem.Calls PyProof.Rows PyProof.V PyProof.Rows.LCg
set_option Elab.async false
set_option maxRecDepth 100000
set_option maxHeartbeats 8000000
namespace Mine
noncomputable abbrev nthJ (l : List Int) (i : Nat) : Int := l.getD i 0
noncomputable abbrev nthU (l : List Tok) (i : Nat) : Tok := l.getD i 0
section
variable {w : World} {A : Around} {env : Env} {outer : List Env} {A₀ : Around} {base h₀ : Heap} {L : Addr} {p : Program} {loose : List Str} {mean : ExcName → Option Value} {mg mb : Str → Option Value} {m : Str → Option Value} {s : Shared} {Q E : Value → Shared → Prop}


theorem storeT (a : At w A env outer A₀ base h₀ L p loose mean mg mb 4 100) (F : Fr h₀ L s.heap m) {R : List (Addr × Obj)} (N : News h₀ L s.heap R) (nD : NDA R)
    (ret : ∀ x dx cl st hc tc tm n1 n2 h' tk', Fr h₀ L h' m → News h₀ L h' ((x, instObj 325 dx) :: (dx, dictOf (coD hc tc (.int 0 tm) (.ref cl) (.ref st)) 3) :: (cl, listOf [].toArray n1) :: (st, listOf [].toArray n2) :: R) →
      NDA ((x, instObj 325 dx) :: (dx, dictOf (coD hc tc (.int 0 tm) (.ref cl) (.ref st)) 3) :: (cl, listOf [].toArray n1) :: (st, listOf [].toArray n2) :: R) → Q (.ref x) { s with heap := h', toks := tk' }) :
    wpAny (model PySem.Challenge.rw_rg0215_01.row.prog w) A (call (.ref 325) []) Q E s := by
  obtain ⟨hA, hh, B, X, T, hf, hk', hdp, hu'⟩ := a
  obtain ⟨hd', dp, fr0, gd, un⟩ := A
  dsimp only at hA hh hdp hu'
  subst hA hh
  revert X
  k_fill
  intro X
  refine opaqueQ ?_
  intro Q1 E1 hQ1
  k_with_none
  k_with "k_room" => ((try simp only [depth_under_make, depth_under_kw, depth_in1, depth_deeper, depth_caller]); (try dsimp only [top]); omega)
  k_with "k_upd" => ((with_reducible rename NDA _ => nD); refine' Repl.upd ?ua9 ?ub9; (case ub9 => exact NDA.to nD rfl); (case ua9 => repeat (first | exact Repl.head | apply Repl.tail)))
  k_with "k_updF" => ((with_reducible rename NDA _ => nD); refine' ReplF.upd ?ua9 ?ub9; (case ub9 => exact NDA.to nD rfl); (case ua9 => repeat (first | exact ReplF.head | apply ReplF.tail)))
  k_with "call builtin:list.append" => (k_here; (try dsimp only [List.cons_append, List.nil_append]); k_dflt (refine' append_K ?k1 ?k2 ?k3 ?_ ?z; (case k1 => k_asm); (case k2 => k_asm); (case k3 => k_upd); (case z => (rw [List.size_toArray, sizeLine_eq]; omega)); k_whole); intro h' F' N'; (try simp only [List.push_toArray] at N'); (try k_sweep))
  k_with "k_enter" => (refine' code_def ?k1 ?k2 ?k3 ?k4 ?k5 ?kA ?kF ?kK ?k6 ?k7 ?k8 ?k9 ?kB ?_ ?c2 ?c3 ?c4 ?c5; (case kA => exact rfl); (case kF => first | exact rfl | assumption); (case kK => first | exact rfl | assumption); (case k1 => k_asm); (case k2 => k_asm); (case k3 => k_asm); (case k4 => k_asm); (case k5 => k_asm); (case k6 => k_is); (case k7 => k_is); (case k8 => k_room); (case k9 => exact BindsTo.of_eq rfl); (case c5 => decide); (case kB => exact locs rfl); (case c2 => exact rfl); (case c3 => exact rfl); (case c4 => exact rfl); k_whole; intro g' L' h' FG' F' N' B' X' T'; (try dsimp only); (try k_lift B'); (try k_fold); (refine opaqueQ ?_); intro QI EI hQI)
  w_on
  k_with_none
  k_with "k_room" => ((try simp only [depth_under_make, depth_under_kw, depth_in1, depth_deeper, depth_caller]); (try dsimp only [top]); omega)
  k_with "k_upd" => ((with_reducible rename NDA _ => nD); refine' Repl.upd ?ua9 ?ub9; (case ub9 => exact NDA.to nD rfl); (case ua9 => repeat (first | exact Repl.head | apply Repl.tail)))
  k_with "k_updF" => ((with_reducible rename NDA _ => nD); refine' ReplF.upd ?ua9 ?ub9; (case ub9 => exact NDA.to nD rfl); (case ua9 => repeat (first | exact ReplF.head | apply ReplF.tail)))
  k_with "call builtin:list.append" => (k_here; (try dsimp only [List.cons_append, List.nil_append]); k_dflt (refine' append_K ?k1 ?k2 ?k3 ?_ ?z; (case k1 => k_asm); (case k2 => k_asm); (case k3 => k_upd); (case z => (rw [List.size_toArray, sizeLine_eq]; omega)); k_whole); intro h' F' N'; (try simp only [List.push_toArray] at N'); (try k_sweep))
  k_with "k_enter" => (refine' code_def ?k1 ?k2 ?k3 ?k4 ?k5 ?kA ?kF ?kK ?k6 ?k7 ?k8 ?k9 ?kB ?_ ?c2 ?c3 ?c4 ?c5; (case kA => exact rfl); (case kF => first | exact rfl | assumption); (case kK => first | exact rfl | assumption); (case k1 => k_asm); (case k2 => k_asm); (case k3 => k_asm); (case k4 => k_asm); (case k5 => k_asm); (case k6 => k_is); (case k7 => k_is); (case k8 => k_room); (case k9 => exact BindsTo.of_eq rfl); (case c5 => decide); (case kB => exact locs rfl); (case c2 => exact rfl); (case c3 => exact rfl); (case c4 => exact rfl); k_whole; intro g' L' h' FG' F' N' B' X' T'; (try dsimp only); (try k_lift B'); (try k_fold); (refine opaqueQ ?_); intro QI EI hQI)
  k_steps
  refine hQI _ _ ?_
  k_steps
  refine hQ1 _ _ ?_
  (with_reducible rename Fr _ _ _ _ => lF'); (with_reducible rename News _ _ _ _ => lN'); (with_reducible rename NDA _ => nD); (replace nD := nda_to lN' nD rfl)
  refine' ret _ _ _ _ (nthJ [_, _, _]) (nthU [_, _, _]) _ _ _ _ _ lF' (delT lN' nD ?zD).1 (delT lN' nD ?zD).2
  case zD => repeat (first | apply DelT.cons (by repeat (first | exact Del.head | apply Del.tail)) | exact DelT.nil (by repeat (first | exact Suf.refl | apply Suf.tail)))
theorem proofT (a : At w A env outer A₀ base h₀ L p loose mean mg mb 4 100) (F : Fr h₀ L s.heap m) {R : List (Addr × Obj)} (N : News h₀ L s.heap R) (nD : NDA R)
    (ret : ∀ x dx st nm hp tp te tz n1 n2 h' tk', Fr h₀ L h' m → News h₀ L h' ((x, instObj 246 dx) :: (dx, dictOf (pfD hp tp (.ref st) (.ref nm) (.int (-1) te)) 3) :: (st, listOf [].toArray n1) :: (nm, listOf [Value.int 0 tz].toArray n2) :: R) →
      NDA ((x, instObj 246 dx) :: (dx, dictOf (pfD hp tp (.ref st) (.ref nm) (.int (-1) te)) 3) :: (st, listOf [].toArray n1) :: (nm, listOf [Value.int 0 tz].toArray n2) :: R) → Q (.ref x) { s with heap := h', toks := tk' }) :
    wpAny (model PySem.Challenge.rw_rg0215_01.row.prog w) A (call (.ref 246) []) Q E s := by
  obtain ⟨hA, hh, B, X, T, hf, hk', hdp, hu'⟩ := a
  obtain ⟨hd', dp, fr0, gd, un⟩ := A
  dsimp only at hA hh hdp hu'
  subst hA hh
  revert X
  k_fill
  intro X
  refine opaqueQ ?_
  intro Q1 E1 hQ1
  k_with_none
  k_with "k_room" => ((try simp only [depth_under_make, depth_under_kw, depth_in1, depth_deeper, depth_caller]); (try dsimp only [top]); omega)
  k_with "k_upd" => ((with_reducible rename NDA _ => nD); refine' Repl.upd ?ua9 ?ub9; (case ub9 => exact NDA.to nD rfl); (case ua9 => repeat (first | exact Repl.head | apply Repl.tail)))
  k_with "k_updF" => ((with_reducible rename NDA _ => nD); refine' ReplF.upd ?ua9 ?ub9; (case ub9 => exact NDA.to nD rfl); (case ua9 => repeat (first | exact ReplF.head | apply ReplF.tail)))
  k_with "call builtin:list.append" => (k_here; (try dsimp only [List.cons_append, List.nil_append]); k_dflt (refine' append_K ?k1 ?k2 ?k3 ?_ ?z; (case k1 => k_asm); (case k2 => k_asm); (case k3 => k_upd); (case z => (rw [List.size_toArray, sizeLine_eq]; omega)); k_whole); intro h' F' N'; (try simp only [List.push_toArray] at N'); (try k_sweep))
  k_with "k_enter" => (refine' code_def ?k1 ?k2 ?k3 ?k4 ?k5 ?kA ?kF ?kK ?k6 ?k7 ?k8 ?k9 ?kB ?_ ?c2 ?c3 ?c4 ?c5; (case kA => exact rfl); (case kF => first | exact rfl | assumption); (case kK => first | exact rfl | assumption); (case k1 => k_asm); (case k2 => k_asm); (case k3 => k_asm); (case k4 => k_asm); (case k5 => k_asm); (case k6 => k_is); (case k7 => k_is); (case k8 => k_room); (case k9 => exact BindsTo.of_eq rfl); (case c5 => decide); (case kB => exact locs rfl); (case c2 => exact rfl); (case c3 => exact rfl); (case c4 => exact rfl); k_whole; intro g' L' h' FG' F' N' B' X' T'; (try dsimp only); (try k_lift B'); (try k_fold); (refine opaqueQ ?_); intro QI EI hQI)
  w_on
  k_with_none
  k_with "k_room" => ((try simp only [depth_under_make, depth_under_kw, depth_in1, depth_deeper, depth_caller]); (try dsimp only [top]); omega)
  k_with "k_upd" => ((with_reducible rename NDA _ => nD); refine' Repl.upd ?ua9 ?ub9; (case ub9 => exact NDA.to nD rfl); (case ua9 => repeat (first | exact Repl.head | apply Repl.tail)))
  k_with "k_updF" => ((with_reducible rename NDA _ => nD); refine' ReplF.upd ?ua9 ?ub9; (case ub9 => exact NDA.to nD rfl); (case ua9 => repeat (first | exact ReplF.head | apply ReplF.tail)))
  k_with "call builtin:list.append" => (k_here; (try dsimp only [List.cons_append, List.nil_append]); k_dflt (refine' append_K ?k1 ?k2 ?k3 ?_ ?z; (case k1 => k_asm); (case k2 => k_asm); (case k3 => k_upd); (case z => (rw [List.size_toArray, sizeLine_eq]; omega)); k_whole); intro h' F' N'; (try simp only [List.push_toArray] at N'); (try k_sweep))
  k_with "k_enter" => (refine' code_def ?k1 ?k2 ?k3 ?k4 ?k5 ?kA ?kF ?kK ?k6 ?k7 ?k8 ?k9 ?kB ?_ ?c2 ?c3 ?c4 ?c5; (case kA => exact rfl); (case kF => first | exact rfl | assumption); (case kK => first | exact rfl | assumption); (case k1 => k_asm); (case k2 => k_asm); (case k3 => k_asm); (case k4 => k_asm); (case k5 => k_asm); (case k6 => k_is); (case k7 => k_is); (case k8 => k_room); (case k9 => exact BindsTo.of_eq rfl); (case c5 => decide); (case kB => exact locs rfl); (case c2 => exact rfl); (case c3 => exact rfl); (case c4 => exact rfl); k_whole; intro g' L' h' FG' F' N' B' X' T'; (try dsimp only); (try k_lift B'); (try k_fold); (refine opaqueQ ?_); intro QI EI hQI)
  k_steps
  refine hQI _ _ ?_
  k_steps
  refine hQ1 _ _ ?_
  (with_reducible rename Fr _ _ _ _ => lF'); (with_reducible rename News _ _ _ _ => lN'); (with_reducible rename NDA _ => nD); (replace nD := nda_to lN' nD rfl)
  refine' ret _ _ _ _ (nthJ [_, _, _]) (nthU [_, _, _]) _ _ _ _ _ _ lF' (delT lN' nD ?zD).1 (delT lN' nD ?zD).2
  case zD => repeat (first | apply DelT.cons (by repeat (first | exact Del.head | apply Del.tail)) | exact DelT.nil (by repeat (first | exact Suf.refl | apply Suf.tail)))
theorem boolT {bk co : Addr} {pv : Value} (a : At w A env outer A₀ base h₀ L p loose mean mg mb 4 100) (F : Fr h₀ L s.heap m) {R : List (Addr × Obj)} (N : News h₀ L s.heap R) (nD : NDA R)
    (ret : ∀ x dx vd te wa oV v5 v6 ha ta tt tz n1 n2 h' tk', Fr h₀ L h' m → News h₀ L h' ((x, instObj 465 dx) :: (dx, dictOf (mkD ha ta (.ref bk) (.ref co) pv (.ref vd) (.ref te) v5 v6 (.ref wa) (.int 0 tz)) 9) :: (vd, oV) :: (te, listOf [Value.int 0 tt].toArray n1) :: (wa, listOf [].toArray n2) :: R) →
      NDA ((x, instObj 465 dx) :: (dx, dictOf (mkD ha ta (.ref bk) (.ref co) pv (.ref vd) (.ref te) v5 v6 (.ref wa) (.int 0 tz)) 9) :: (vd, oV) :: (te, listOf [Value.int 0 tt].toArray n1) :: (wa, listOf [].toArray n2) :: R) → oV.IsDictOf (PySem.intKind PySem.Challenge.rw_rg0215_01.row.prog w) [] → (vd == sysModules) = false → Q (.ref x) { s with heap := h', toks := tk' }) :
    wpAny (model PySem.Challenge.rw_rg0215_01.row.prog w) A (call (.ref 465) [.ref bk, .ref co, pv]) Q E s := by
  obtain ⟨hA, hh, B, X, T, hf, hk', hdp, hu'⟩ := a
  obtain ⟨hd', dp, fr0, gd, un⟩ := A
  dsimp only at hA hh hdp hu'
  subst hA hh
  revert X
  k_fill
  intro X
  refine opaqueQ ?_
  intro Q1 E1 hQ1
  k_with_none
  k_with "k_room" => ((try simp only [depth_under_make, depth_under_kw, depth_in1, depth_deeper, depth_caller]); (try dsimp only [top]); omega)
  k_with "k_upd" => ((with_reducible rename NDA _ => nD); refine' Repl.upd ?ua9 ?ub9; (case ub9 => exact NDA.to nD rfl); (case ua9 => repeat (first | exact Repl.head | apply Repl.tail)))
  k_with "k_updF" => ((with_reducible rename NDA _ => nD); refine' ReplF.upd ?ua9 ?ub9; (case ub9 => exact NDA.to nD rfl); (case ua9 => repeat (first | exact ReplF.head | apply ReplF.tail)))
  k_with "call builtin:list.append" => (k_here; (try dsimp only [List.cons_append, List.nil_append]); k_dflt (refine' append_K ?k1 ?k2 ?k3 ?_ ?z; (case k1 => k_asm); (case k2 => k_asm); (case k3 => k_upd); (case z => (rw [List.size_toArray, sizeLine_eq]; omega)); k_whole); intro h' F' N'; (try simp only [List.push_toArray] at N'); (try k_sweep))
  k_with "k_enter" => (refine' code_def ?k1 ?k2 ?k3 ?k4 ?k5 ?kA ?kF ?kK ?k6 ?k7 ?k8 ?k9 ?kB ?_ ?c2 ?c3 ?c4 ?c5; (case kA => exact rfl); (case kF => first | exact rfl | assumption); (case kK => first | exact rfl | assumption); (case k1 => k_asm); (case k2 => k_asm); (case k3 => k_asm); (case k4 => k_asm); (case k5 => k_asm); (case k6 => k_is); (case k7 => k_is); (case k8 => k_room); (case k9 => exact BindsTo.of_eq rfl); (case c5 => decide); (case kB => exact locs rfl); (case c2 => exact rfl); (case c3 => exact rfl); (case c4 => exact rfl); k_whole; intro g' L' h' FG' F' N' B' X' T'; (try dsimp only); (try k_lift B'); (try k_fold); (refine opaqueQ ?_); intro QI EI hQI)
  w_on
  k_with_none
  k_with "k_room" => ((try simp only [depth_under_make, depth_under_kw, depth_in1, depth_deeper, depth_caller]); (try dsimp only [top]); omega)
  k_with "k_upd" => ((with_reducible rename NDA _ => nD); refine' Repl.upd ?ua9 ?ub9; (case ub9 => exact NDA.to nD rfl); (case ua9 => repeat (first | exact Repl.head | apply Repl.tail)))
  k_with "k_updF" => ((with_reducible rename NDA _ => nD); refine' ReplF.upd ?ua9 ?ub9; (case ub9 => exact NDA.to nD rfl); (case ua9 => repeat (first | exact ReplF.head | apply ReplF.tail)))
  k_with "call builtin:list.append" => (k_here; (try dsimp only [List.cons_append, List.nil_append]); k_dflt (refine' append_K ?k1 ?k2 ?k3 ?_ ?z; (case k1 => k_asm); (case k2 => k_asm); (case k3 => k_upd); (case z => (rw [List.size_toArray, sizeLine_eq]; omega)); k_whole); intro h' F' N'; (try simp only [List.push_toArray] at N'); (try k_sweep))
  k_with "k_enter" => (refine' code_def ?k1 ?k2 ?k3 ?k4 ?k5 ?kA ?kF ?kK ?k6 ?k7 ?k8 ?k9 ?kB ?_ ?c2 ?c3 ?c4 ?c5; (case kA => exact rfl); (case kF => first | exact rfl | assumption); (case kK => first | exact rfl | assumption); (case k1 => k_asm); (case k2 => k_asm); (case k3 => k_asm); (case k4 => k_asm); (case k5 => k_asm); (case k6 => k_is); (case k7 => k_is); (case k8 => k_room); (case k9 => exact BindsTo.of_eq rfl); (case c5 => decide); (case kB => exact locs rfl); (case c2 => exact rfl); (case c3 => exact rfl); (case c4 => exact rfl); k_whole; intro g' L' h' FG' F' N' B' X' T'; (try dsimp only); (try k_lift B'); (try k_fold); (refine opaqueQ ?_); intro QI EI hQI)
  k_steps
  refine hQI _ _ ?_
  k_steps
  refine hQ1 _ _ ?_
  (with_reducible rename Fr _ _ _ _ => lF'); (with_reducible rename News _ _ _ _ => lN'); (with_reducible rename NDA _ => nD); (replace nD := nda_to lN' nD rfl)
  refine' ret _ _ _ _ _ _ _ _ (nthJ [_, _, _, _, _, _, _, _, _]) (nthU [_, _, _, _, _, _, _, _, _]) _ _ _ _ _ _ lF' (delT lN' nD ?zD).1 (delT lN' nD ?zD).2 ?zV ?zW
  case zD => repeat (first | apply DelT.cons (by repeat (first | exact Del.head | apply Del.tail)) | exact DelT.nil (by repeat (first | exact Suf.refl | apply Suf.tail)))
  case zV => assumption
  case zW => assumption
end
end Mine
end
section
open PySem PySem.W PySem.Calls PyProof.Rows PyProof.V PyProof.Rows.LCg
set_option Elab.async false
set_option maxRecDepth 100000
set_option maxHeartbeats 8000000
namespace Mine
section
variable {w : World} {A : Around} {env : Env} {outer : List Env} {A₀ : Around} {base h₀ : Heap} {L : Addr} {p : Program} {loose : List Str} {mean : ExcName → Option Value} {mg mb : Str → Option Value} {m : Str → Option Value} {s : Shared} {Q E : Value → Shared → Prop}



theorem BkOk.start {oD : Obj} {a1 u1 a2 u2 : Addr} {t1 t2 t3 t4 t5 t6 : Tok} {n1 n2 n3 n4 : Nat} {v1 v2 a b c d e f g o p q r s : Value} {R : List (Addr × Obj)} (M : IsMk PySem.Challenge.rw_rg0215_01.row.prog w oD ([] ++ [((Str.ofString "true", 0, 0), a1, v1)] ++ [((Str.ofString "false", 0, 0), a2, v2)])) :
    BkOk w oD ([] ++ [((Str.ofString "true", 0, 0), a1, v1)] ++ [((Str.ofString "false", 0, 0), a2, v2)]) ([a] ++ [b] ++ [c]) ([d] ++ [e] ++ [f]) ([g] ++ [o] ++ [p]) ([q] ++ [r] ++ [s]) [] [] []
      ((a2, mkTup (Str.ofString "false") t1 u2 0 t2 0 t3 n1) :: (u2, tup00 n2) :: (a1, mkTup (Str.ofString "true") t4 u1 0 t5 0 t6 n3) :: (u1, tup00 n4) :: R) 3 where
  kimk := M
  kkeys := fun x hx => by
    rcases List.mem_cons.mp hx with rfl | hx
    · exact ⟨_, _, _, _, _, _, .tail _ (.tail _ (.head _)), .tail _ (.tail _ (.tail _ (.head _)))⟩
    · rw [List.mem_singleton.mp hx]
      exact ⟨_, _, _, _, _, _, .head _, .tail _ (.head _)⟩
  kpos := by decide
  klt := by decide
  kops := rfl
  kargs := rfl
  ksorts := rfl
  kdatas := rfl
  kfn := by decide
  kfa := by decide
  kfr := by decide
  kxs := Nat.le_succ 2
  kapp := fun x hx hq => by
    rcases List.mem_cons.mp hx with rfl | hx
    · exact absurd hq (show ¬ Str.ofString "true" = Str.ofString "app" by decide)
    · rw [List.mem_singleton.mp hx] at hq
      exact absurd hq (show ¬ Str.ofString "false" = Str.ofString "app" by decide)
theorem bankT (a : At w A env outer A₀ base h₀ L p loose mean mg mb 6 140) (F : Fr h₀ L s.heap m) {R : List (Addr × Obj)} (N : News h₀ L s.heap R) (nD : NDA R)
    (ret : ∀ b db nd l1 l2 l3 l4 f1 f2 f3 oD xs ops args sorts datas fn fa fr hs ts v0 v1 v5 v11 v12 n1 n2 n3 n4 m1 m2 m3 x1 x2 x3 x4 h' tk', Fr h₀ L h' m → News h₀ L h' ((b, instObj 787 db) :: (db, dictOf (bkD hs ts v0 v1 (.ref f1) (.ref f2) (.ref f3) v5 (.ref l1) (.ref l2) (.ref l3) (.ref l4) (.ref nd) [ent "true_number" (hs 11) (ts 11) v11, ent "false_number" (hs 12) (ts 12) v12]) 13) :: (nd, oD) :: (l1, listOf ops.toArray n1) :: (l2, listOf args.toArray n2) :: (l3, listOf sorts.toArray n3) :: (l4, listOf datas.toArray n4) :: (f1, listOf fn.toArray m1) :: (f2, listOf fa.toArray m2) :: (f3, listOf fr.toArray m3) :: x1 :: x2 :: x3 :: x4 :: R) →
      NDA ((b, instObj 787 db) :: (db, dictOf (bkD hs ts v0 v1 (.ref f1) (.ref f2) (.ref f3) v5 (.ref l1) (.ref l2) (.ref l3) (.ref l4) (.ref nd) [ent "true_number" (hs 11) (ts 11) v11, ent "false_number" (hs 12) (ts 12) v12]) 13) :: (nd, oD) :: (l1, listOf ops.toArray n1) :: (l2, listOf args.toArray n2) :: (l3, listOf sorts.toArray n3) :: (l4, listOf datas.toArray n4) :: (f1, listOf fn.toArray m1) :: (f2, listOf fa.toArray m2) :: (f3, listOf fr.toArray m3) :: x1 :: x2 :: x3 :: x4 :: R) → BkOk w oD xs ops args sorts datas fn fa fr [x1, x2, x3, x4] 3 → (nd == sysModules) = false → Q (.ref b) { s with heap := h', toks := tk' }) :
    wpAny (model PySem.Challenge.rw_rg0215_01.row.prog w) A (call (.ref 787) []) Q E s := by
  obtain ⟨hA, hh, B, X, T, hf, hk', hdp, hu'⟩ := a
  obtain ⟨hd', dp, fr0, gd, un⟩ := A
  dsimp only at hA hh hdp hu'
  subst hA hh
  revert X
  k_fill
  intro X
  refine opaqueQ ?_
  intro Q1 E1 hQ1
  k_with_none
  k_with "k_room" => ((try simp only [depth_under_make, depth_under_kw, depth_in1, depth_deeper, depth_caller]); (try dsimp only [top]); omega)
  k_with "k_upd" => ((with_reducible rename NDA _ => nD); refine' Repl.upd ?ua9 ?ub9; (case ub9 => exact NDA.to nD rfl); (case ua9 => repeat (first | exact Repl.head | apply Repl.tail)))
  k_with "k_updF" => ((with_reducible rename NDA _ => nD); refine' ReplF.upd ?ua9 ?ub9; (case ub9 => exact NDA.to nD rfl); (case ua9 => repeat (first | exact ReplF.head | apply ReplF.tail)))
  k_with "call builtin:list.append" => (k_here; (try dsimp only [List.cons_append, List.nil_append]); k_dflt (refine' append_K ?k1 ?k2 ?k3 ?_ ?z; (case k1 => k_asm); (case k2 => k_asm); (case k3 => k_upd); (case z => (rw [List.size_toArray, sizeLine_eq]; omega)); k_whole); intro h' F' N'; (try simp only [List.push_toArray] at N'); (try k_sweep))
  k_with "k_enter" => (refine' code_def ?k1 ?k2 ?k3 ?k4 ?k5 ?kA ?kF ?kK ?k6 ?k7 ?k8 ?k9 ?kB ?_ ?c2 ?c3 ?c4 ?c5; (case kA => exact rfl); (case kF => first | exact rfl | assumption); (case kK => first | exact rfl | assumption); (case k1 => k_asm); (case k2 => k_asm); (case k3 => k_asm); (case k4 => k_asm); (case k5 => k_asm); (case k6 => k_is); (case k7 => k_is); (case k8 => k_room); (case k9 => exact BindsTo.of_eq rfl); (case c5 => decide); (case kB => exact locs rfl); (case c2 => exact rfl); (case c3 => exact rfl); (case c4 => exact rfl); k_whole; intro g' L' h' FG' F' N' B' X' T'; (try dsimp only); (try k_lift B'); (try k_fold); (refine opaqueQ ?_); intro QI EI hQI)
  k_with "call ref" => (k_extra "my call")
  k_with "call ref cons" => (k_extra "my call")
  k_with "call ref cons nil" => (k_extra "my call")
  w_on
  k_with_none
  k_with "k_room" => ((try simp only [depth_under_make, depth_under_kw, depth_in1, depth_deeper, depth_caller]); (try dsimp only [top]); omega)
  k_with "k_upd" => ((with_reducible rename NDA _ => nD); refine' Repl.upd ?ua9 ?ub9; (case ub9 => exact NDA.to nD rfl); (case ua9 => repeat (first | exact Repl.head | apply Repl.tail)))
  k_with "k_updF" => ((with_reducible rename NDA _ => nD); refine' ReplF.upd ?ua9 ?ub9; (case ub9 => exact NDA.to nD rfl); (case ua9 => repeat (first | exact ReplF.head | apply ReplF.tail)))
  k_with "call builtin:list.append" => (k_here; (try dsimp only [List.cons_append, List.nil_append]); k_dflt (refine' append_K ?k1 ?k2 ?k3 ?_ ?z; (case k1 => k_asm); (case k2 => k_asm); (case k3 => k_upd); (case z => (rw [List.size_toArray, sizeLine_eq]; omega)); k_whole); intro h' F' N'; (try simp only [List.push_toArray] at N'); (try k_sweep))
  k_with "k_enter" => (refine' code_def ?k1 ?k2 ?k3 ?k4 ?k5 ?kA ?kF ?kK ?k6 ?k7 ?k8 ?k9 ?kB ?_ ?c2 ?c3 ?c4 ?c5; (case kA => exact rfl); (case kF => first | exact rfl | assumption); (case kK => first | exact rfl | assumption); (case k1 => k_asm); (case k2 => k_asm); (case k3 => k_asm); (case k4 => k_asm); (case k5 => k_asm); (case k6 => k_is); (case k7 => k_is); (case k8 => k_room); (case k9 => exact BindsTo.of_eq rfl); (case c5 => decide); (case kB => exact locs rfl); (case c2 => exact rfl); (case c3 => exact rfl); (case c4 => exact rfl); k_whole; intro g' L' h' FG' F' N' B' X' T'; (try dsimp only); (try k_lift B'); (try k_fold); (refine opaqueQ ?_); intro QI EI hQI)
  k_with "call ref" => (k_extra "my call")
  k_with "call ref cons" => (k_extra "my call")
  k_with "call ref cons nil" => (k_extra "my call")
  k_with "my call" => (try dsimp only); k_dflt (show wpAny _ _ (call (Value.ref 616) _) _ _ _); (with_reducible rename Fr _ _ _ _ => lF'); (with_reducible rename News _ _ _ _ => lN'); (with_reducible rename NDA _ => nD); (replace nD := nda_to lN' nD rfl); k_dflt (refine' makeD (hs := nthJ [_, _, _, _, _, _, _, _, _, _, _]) (ts := nthU [_, _, _, _, _, _, _, _, _, _, _]) ?zA lF' lN' nD ?zD ?zM ?zK ?zU ?zH ?z1 ?z2 ?z3 ?z4 ?zX ?z5 ?z6 ?_; (case zD => (repeat (first | exact DelAll.nil | apply DelAll.cons (by repeat (first | exact Del.head | apply Del.tail))))); (case zM => first | assumption | exact isMk_new (by assumption)); (case zK => first | exact fun _ h => absurd h List.not_mem_nil | (intro x hx; rw [List.mem_singleton.mp hx]; exact ⟨_, _, _, _, _, _, by k_mem, by k_mem⟩)); (case zU => k_mem); (case zH => exact rfl); (case zX => exact Nat.le_of_ble_eq_true rfl); (case z1 => exact Nat.le_of_ble_eq_true rfl); (case z2 => exact Nat.le_of_ble_eq_true rfl); (case z3 => exact Nat.le_of_ble_eq_true rfl); (case z4 => exact Nat.le_of_ble_eq_true rfl); (case z5 => exact Nat.le_of_ble_eq_true rfl); (case z6 => k_asm); (case zA => exact At.mk rfl rfl (by k_asm) (by k_asm) (by k_asm) rfl rfl (by first | (show dp + 1 + 1 + 2 < recursionLimit; omega) | (show dp + 2 + 1 + 2 < recursionLimit; omega)) (by first | (show un + 1 + 3 + 60 < cLine; omega) | (show un + 2 + 3 + 60 < cLine; omega) | (show un + 3 + 3 + 60 < cLine; omega)))); (intro t9 a9 t91 t92 t93 n9 oD9 n91 n92 n93 n94 h9 tk9 F9 N9 D9 M9)
  k_steps
  refine hQI _ _ ?_
  k_steps
  refine hQ1 _ _ ?_
  (with_reducible rename Fr _ _ _ _ => lF'); (with_reducible rename News _ _ _ _ => lN'); (with_reducible rename NDA _ => nD); (replace nD := nda_to lN' nD rfl)
  refine' ret _ _ _ _ _ _ _ _ _ _ _ _ _ _ _ _ _ _ _ (nthJ [_, _, _, _, _, _, _, _, _, _, _, _, _]) (nthU [_, _, _, _, _, _, _, _, _, _, _, _, _]) _ _ _ _ _ _ _ _ _ _ _ _ _ _ _ _ _ _ lF' (delT lN' nD ?zD).1 (delT lN' nD ?zD).2 (BkOk.start (by assumption)) ?zL
  case zD => repeat (first | apply DelT.cons (by repeat (first | exact Del.head | apply Del.tail)) | exact DelT.nil (by repeat (first | exact Suf.refl | apply Suf.tail)))
  case zL => k_asm
end
end Mine
end
section
open PySem PySem.W PySem.Calls PyProof.Rows PyProof.V
set_option Elab.async false
set_option maxRecDepth 100000
set_option maxHeartbeats 8000000
namespace Mine
/-- the law's own statements and names, out of the given program -/
noncomputable def lawParts : List Stmt × Scope := match PySem.Challenge.pw_rg0215_01.main.body.getLast? with
  | some (.FunctionDef _ _ body _ _ _ scope _ _ _) => (body, scope)
  | _ => ([], { kind := .function, names := [], isGenerator := false, isCoroutine := false })
noncomputable def lapBody : List Stmt := match lawParts.1.drop 5 with
  | .For _ _ b _ _ :: _ => b
  | _ => []
noncomputable def lawEnd : List Stmt := lawParts.1.drop 6
end Mine
end
section
open PySem PySem.W PySem.Calls PyProof.Rows PyProof.V
set_option Elab.async false
set_option maxRecDepth 100000
set_option maxHeartbeats 8000000
namespace Mine
local macro_rules | `(tactic| k_lt $h) => `(tactic| (k_extra "my lt"; clear $h))
local macro_rules | `(tactic| k_lt $h) => `(tactic| ((with_reducible rename UA _ _ => nU); replace nU := UA.ltB $h nU rfl))
local macro_rules | `(tactic| k_lt $h) => `(tactic| ((with_reducible rename NDA _ => nD); replace nD := NDA.ltB $h nD rfl))
local macro_rules | `(tactic| k_lt2 $h) => `(tactic| ((with_reducible rename NDA _ => nD); replace nD := NDA.twoA nD (by assumption) $h))
theorem ne_w : Nonempty World := ⟨⟨fun _ _ => 0, { strHash := fun _ => 0, shareClass := fun _ => 0, mergeTok := id, idOf := fun _ => 0, idOfShared := fun _ _ => 0, followText := fun _ => false, idOfImm := fun _ => 0 }⟩⟩
theorem ne_a : Nonempty AD := ⟨⟨0, 0, 0, 0, 0, 0, 0, 0, 0, 0, 0, 0, 0, 0, 0, 0, 0, 0, 0, 0, 0, 0, 0, 0, 0, 0, 0, [], 0, fun _ => 0, fun _ => 0, fun _ => 0, fun _ => 0, fun _ => 0, fun _ => 0, fun _ => 0, fun _ => 0, fun _ => 0, fun _ => 0, fun _ => 0, fun _ => 0, fun _ => 0, .none, .none, .none, .none, .none, .none, .none, .none, .none, .none, 0, 0, 0, 0, 0, 0, 0, 0, 0, 0, 0, listOf #[] 0, listOf #[] 0⟩⟩
noncomputable def take6 : List Stmt → List Stmt
  | a :: b :: c :: d :: e :: f :: _ => [a, b, c, d, e, f]
  | _ => []
theorem hilb {α : Type} {P : α → Prop} (x : α) (n : Nonempty α) (h : P (@Classical.epsilon α n fun x => ¬ P x)) : P x := Classical.byContradiction fun k => Classical.epsilon_spec (p := fun x => ¬ P x) ⟨x, k⟩ h
set_option genInjectivity false in
set_option genSizeOf false in
structure TS.C where
  w : World
  p : Program
  loose : List Str
  mean : ExcName → Option Value
  mg : Str → Option Value
  mb : Str → Option Value
  h₀ : Heap
  base : Heap
  L : Addr
  fa : Addr
  cd : Value
  s : Shared
  a : AD
  m₀ : Str → Option Value
  i : Nat
  own : List (Addr × Obj)
  Q1 : Flow → Shared → Prop
  E1 : Value → Shared → Prop
  h : Heap
  tk : Nat
  u : Str → Option Value
  c : LS
  tl : List (Addr × Obj)
  ll : Addr
  lg : Addr
  ys : List Value
  zs : List Value
  ls : List Int
  k1 : Nat
  k2 : Nat
noncomputable def TS.G (x : TS.C) : Prop := ∀ (sc : Scope) (B : List Stmt),
    (sc = lawParts.2) →
    (B = lapBody.drop 6) →
    ((top0.heap_1 x.w.params).In x.h₀) →
    (Top x.p x.loose x.mean x.mg x.mb x.h₀) →
    (Below callerA x.base [] x.h₀) →
    (LapEnv (envOfC (Str.ofString "law") sc x.L x.fa x.cd) x.a x.m₀) →
    (Fr x.h₀ ((envOfC (Str.ofString "law") sc x.L x.fa x.cd)).locals x.h (mT x.a x.ll x.lg x.u x.m₀)) →
    (News x.h₀ ((envOfC (Str.ofString "law") sc x.L x.fa x.cd)).locals x.h ((x.ll, listOf (List.toArray x.ys) x.k1) :: (x.lg, listOf (List.toArray x.zs) x.k2) :: (x.a.H x.c ++ (x.tl ++ x.own)))) →
    (x.i < 9) →
    (IntsAre x.ys x.ls) →
    (IntsAre x.zs x.ls) →
    (x.ls.length ≤ 5) →
    (LOk PySem.Challenge.rw_rg0215_01.row.prog x.w x.a (x.i + 1) x.c x.tl) →
    (OwnOff x.tl x.a.A) →
    (OwnOff x.own x.a.A) →
    (OwnOff x.own (x.tl.map (·.1))) →
    (∀ s', InvEndG x.h₀ ((envOfC (Str.ofString "law") sc x.L x.fa x.cd)).locals (LapJ PySem.Challenge.rw_rg0215_01.row.prog x.w x.a x.m₀ (x.i + 1)) x.own { x.s with heap := x.h, toks := x.tk } s' → x.Q1 Flow.next s') →
    wpAny (model PySem.Challenge.rw_rg0215_01.row.prog x.w) (Around.deeper callerA (envOfC (Str.ofString "law") sc x.L x.fa x.cd)) (execs B (envOfC (Str.ofString "law") sc x.L x.fa x.cd)) x.Q1 x.E1 { x.s with heap := x.h, toks := x.tk }
theorem TS.ne : Nonempty TS.C := ⟨⟨Classical.choice ne_w, PySem.Challenge.pw_rg0215_01, [], fun _ => .none, fun _ => .none, fun _ => .none, {}, {}, 0, 0, .none, {}, Classical.choice ne_a, fun _ => .none, 0, [], fun _ _ => True, fun _ _ => True, {}, 0, fun _ => .none, ⟨listOf #[] 0, 0, [], [], 0, [], 0, [], 0, [], 0, [], 0, [], 0, 0, 0, fun _ => 0⟩, [], 0, 0, [], [], [], 0, 0⟩⟩
noncomputable def TS.x : TS.C := @Classical.epsilon _ TS.ne fun x => ¬ TS.G x
namespace TS
noncomputable def w : World := x.w
noncomputable def p : Program := x.p
noncomputable def loose : List Str := x.loose
noncomputable def mean : ExcName → Option Value := x.mean
noncomputable def mg : Str → Option Value := x.mg
noncomputable def mb : Str → Option Value := x.mb
noncomputable def h₀ : Heap := x.h₀
noncomputable def base : Heap := x.base
noncomputable def L : Addr := x.L
noncomputable def fa : Addr := x.fa
noncomputable def cd : Value := x.cd
noncomputable def s : Shared := x.s
noncomputable def a : AD := x.a
noncomputable def m₀ : Str → Option Value := x.m₀
noncomputable def i : Nat := x.i
noncomputable def own : List (Addr × Obj) := x.own
noncomputable def Q1 : Flow → Shared → Prop := x.Q1
noncomputable def E1 : Value → Shared → Prop := x.E1
noncomputable def h : Heap := x.h
noncomputable def tk : Nat := x.tk
noncomputable def u : Str → Option Value := x.u
noncomputable def c : LS := x.c
noncomputable def tl : List (Addr × Obj) := x.tl
noncomputable def ll : Addr := x.ll
noncomputable def lg : Addr := x.lg
noncomputable def ys : List Value := x.ys
noncomputable def zs : List Value := x.zs
noncomputable def ls : List Int := x.ls
noncomputable def k1 : Nat := x.k1
noncomputable def k2 : Nat := x.k2
set_option maxHeartbeats 40000000 in
theorem ok1 : ∀ (sc : Scope) (B : List Stmt),
    (sc = lawParts.2) →
    (B = lapBody.drop 6) →
    ((top0.heap_1 w.params).In h₀) →
    (Top p loose mean mg mb h₀) →
    (Below callerA base [] h₀) →
    (LapEnv (envOfC (Str.ofString "law") sc L fa cd) a m₀) →
    (Fr h₀ ((envOfC (Str.ofString "law") sc L fa cd)).locals h (mT a ll lg u m₀)) →
    (News h₀ ((envOfC (Str.ofString "law") sc L fa cd)).locals h ((ll, listOf (List.toArray ys) k1) :: (lg, listOf (List.toArray zs) k2) :: (a.H c ++ (tl ++ own)))) →
    (i < 9) →
    (IntsAre ys ls) →
    (IntsAre zs ls) →
    (ls.length ≤ 5) →
    (LOk PySem.Challenge.rw_rg0215_01.row.prog w a (i + 1) c tl) →
    (OwnOff tl a.A) →
    (OwnOff own a.A) →
    (OwnOff own (tl.map (·.1))) →
    (∀ s', InvEndG h₀ ((envOfC (Str.ofString "law") sc L fa cd)).locals (LapJ PySem.Challenge.rw_rg0215_01.row.prog w a m₀ (i + 1)) own { s with heap := h, toks := tk } s' → Q1 Flow.next s') →
    wpAny (model PySem.Challenge.rw_rg0215_01.row.prog w) (Around.deeper callerA (envOfC (Str.ofString "law") sc L fa cd)) (execs B (envOfC (Str.ofString "law") sc L fa cd)) Q1 E1 { s with heap := h, toks := tk } := by
  intro sc B hs hb X0 T0 K0 e F1 N1 hi i1 i2 hls ok hta ho ho2 hQ1
  conv at hs => rhs; whnf
  conv at hb => rhs; whnf
  subst hs hb
  revert X0
  k_fill
  intro X0
  k_with_none
  k_with "call ref nil" => (k_extra "my call")
  k_with "LeaveK" => ((with_reducible show LeaveK _ _ _ _ _ (Value.int _ _) _); k_dflt (refine' leaveK_ ?k1 ?k2 ?_; (case k1 => k_asm); (case k2 => k_asm); k_whole); intro kF kN; ground_anew kF; (have kX := kFor kF (by k_asm)); (try dsimp only [InitBack, CmpBack, LenBack, StrBack, BoolBack]); (try refine ⟨rfl, ?_⟩); (try (refine handed_on rfl ?_; try dsimp only)))
  k_with "exec For Name Call cons nil" => (k_here; (rename Fr _ _ _ _ => lF'); (with_unfolding_all refine' For_invVF lF' ?k1 ?k2 ?_; (case k1 => exact rfl); (case k2 => exact rfl); k_whole))
  k_with "pyIter ref" => (k_extra "my iter")
  k_with "k_upd" => ((with_reducible rename UA _ _ => nU); refine' Repl.updU ?uhh9 ?ua9 ?ub9; (case ub9 => exact UA.to nU rfl); (case ua9 => repeat (first | exact Repl.head | apply Repl.tail)); (case uhh9 => k_mem))
  k_with "call ref" => (k_extra "my spoon")
  k_with "call ref" => (k_extra "my call")
  k_with "call ref cons nil" => (k_extra "my spoon")
  k_with "call ref cons nil" => (k_extra "my call")
  k_with "call ref cons" => (k_extra "my spoon")
  k_with "call ref cons" => (k_extra "my call")
  k_with "call type:range" => (k_here; (with_reducible rename Fr _ _ _ _ => lF'); (with_reducible rename News _ _ _ _ => lN'); (with_unfolding_all refine range1_rows lF' lN' ?_); intro _ _ _ _ _ _ _ _ _)
  k_with "exec Assign cons ListComp" => (k_extra "my assign")
  k_with "CompSrc" => (k_extra "my src")
  k_with "CompSrc BinOp" => (k_extra "my src")
  k_with "CompSrc BinOp cons" => (k_extra "my src")
  k_with "CompSrc BinOp cons ref" => (k_extra "my src")
  k_with "CompEnd int" => (k_extra "my cend")
  k_with "CompEnd" => (k_extra "my cend")
  k_with "FinA" => (k_extra "my fina")
  k_with "FinE" => (k_extra "my fine")
  k_with "subscriptTail" => (k_extra "my item")
  k_with "binaryOp Mult int int" => (k_dflt (refine PyProof.Rows.mul_int ?_ (IntMulOk.of_left (intBits_le_64 (by omega) (by omega)))))
  k_with "subscriptTail Name Call ref int" => (k_extra "my item")
  k_with "subscriptTail Tuple cons Call ref int" => (k_extra "my item2")
  k_with "subscriptTail Tuple Call ref int" => (k_extra "my item2")
  k_with "subscriptTail Tuple" => (k_extra "my item2")
  k_with "call type:tuple" => (k_extra "my tuple")
  k_with "call type:tuple cons nil" => (k_extra "my tuple")
  k_with "call builtin:list.append" => (k_here; (try dsimp only [List.cons_append, List.nil_append]); (with_reducible show wpAny _ _ (call (Value.builtin _) [Value.ref _, _]) _ _ _); k_dflt (refine' append_K ?k1 ?k2 ?k3 ?_ ?z; (case k1 => k_asm); (case k2 => k_asm); (case k3 => k_upd); (case z => (simp only [List.size_toArray, sizeLine_eq]; omega)); k_whole); intro h' F' N'; (try simp only [List.push_toArray] at N'); (try k_sweep))
  k_with "CompSrc Subscript" => (k_extra "my src")
  k_with "CompSrc Subscript cons" => (k_extra "my src")
  k_with "CompSrc Subscript nil ref" => (k_extra "my src")
  k_with "CompSrc Subscript nil" => (k_extra "my src")
  k_with "CompEnd ref" => (k_extra "my cend")
  k_with "compareOp NotEq ref ref" => (k_extra "my ne")
  k_with "binaryOp Mult ref int" => (k_extra "my mul")
  k_with "call builtin:len" => (k_extra "my len")
  k_with "call builtin:len cons nil" => (k_extra "my len")
  k_with "call type:list" => (k_extra "my list")
  k_with "call type:list cons nil" => (k_extra "my list")
  k_with "call type:enumerate" => (k_extra "my enum")
  k_with "call type:enumerate cons nil" => (k_extra "my enum")
  k_with "compareOp Eq ref ref" => (k_extra "my eq")
  k_with "subscriptTail BinOp Constant ref int" => (k_extra "my item0")
  k_with "subscriptTail BinOp Name Add List Constant ref int" => (k_extra "my item0")
  k_with "binaryOp Add ref ref" => (k_extra "my add")
  k_with "compareOp NotEq int int" => (k_extra "my nei")
  k_with "subscriptTail Name Constant ref int" => (k_extra "my item1")
  k_with "k_upd" => ((with_reducible rename NDA _ => nD); refine' Repl.upd ?ua9 ?ub9; (case ub9 => exact NDA.to nD rfl); (case ua9 => repeat (first | exact Repl.head | apply Repl.tail)))
  k_with "k_updF" => ((with_reducible rename NDA _ => nD); refine' ReplF.upd ?ua9 ?ub9; (case ub9 => exact NDA.to nD rfl); (case ua9 => repeat (first | exact ReplF.head | apply ReplF.tail)))
  k_with "CompRest" => (with_unfolding_all first
      | ((with_reducible rename NDA _ => nD); refine LCg.CompRest.succ ?_; intro v' I' oI' C' oC' D' m' h' tk' E' hv' hC' hx' F' N' off' ne'; (first | lcg_open hv' | (obtain ⟨t9', hv9'⟩ := hv'; subst hv9')); replace nD := NDA.threeB off' ne' nD rfl; clear off' ne')
      | refine LCg.CompRest.zero ?_)
  k_with "CompEnd" => ((with_reducible rename NDA _ => nD); (with_reducible rename News _ _ _ _ => lN'); (refine endND (by k_asm) lN' (NDA.to nD rfl) (by repeat (first | exact Del.head | apply Del.tail)) (by repeat (first | exact Del.head | apply Del.tail)) (by repeat (first | exact Del.head | apply Del.tail)) (by lcg_src) ?_); clear nD; intro nD)
  k_with "FinE" => ((with_reducible rename NDA _ => nD); (unfold LCg.FinE); intro D' h' tk' F' N' o1'; replace nD := NDA.oneB o1' nD rfl; clear o1'; (try simp only [List.nil_append, List.cons_append] at N'); (try dsimp only))
  k_with "SrcTup" => (k_extra "my srct")
  k_with "SrcUX" => (k_extra "my srcu")
  k_with "CompRestX" => (k_extra "my restx")
  k_with "CompEndX" => (k_extra "my endx")
  k_with "call builtin:list.append" => (k_here; (try dsimp only [List.cons_append, List.nil_append]); (with_reducible show wpAny _ _ (call (Value.builtin _) [Value.ref _, _]) _ _ _); k_dflt (refine' append_K ?k1 ?k2 ?k3 ?_ ?z; (case k1 => k_asm); (case k2 => k_asm); (case k3 => k_upd); (case z => exact Nat.le_of_ble_eq_true rfl); k_whole); intro h' F' N'; (try k_sweep))
  k_with "k_in" => (first | with_reducible assumption | exact Frag.In.keeps (by with_reducible assumption) (Fr.keep (by with_reducible assumption)))
  k_with "LeaveK" => ((with_reducible show LeaveK _ _ _ _ _ (Value.ref _) _); k_dflt (refine' leaveK_ ?k1 ?k2 ?_; (case k1 => k_asm); (case k2 => k_asm); k_whole); intro kF kN; ground_anew kF; (have kX := kFor kF (by k_asm)); (try dsimp only [InitBack, CmpBack, LenBack, StrBack, BoolBack]); (try refine ⟨rfl, ?_⟩); (try (refine handed_on rfl ?_; try dsimp only)))
  k_with "LeaveK ref" => ((with_reducible show LeaveK _ _ _ _ _ (Value.ref _) _); k_dflt (refine' leaveK_ ?k1 ?k2 ?_; (case k1 => k_asm); (case k2 => k_asm); k_whole); intro kF kN; ground_anew kF; (have kX := kFor kF (by k_asm)); (try dsimp only [InitBack, CmpBack, LenBack, StrBack, BoolBack]); (try refine ⟨rfl, ?_⟩); (try (refine handed_on rfl ?_; try dsimp only)))
  k_with "eval ListComp" => (k_extra "my comp")
  k_with "CompSrc" => (k_extra "my src2")
  w_on
  have hfix : ∀ z, mFix a m₀ z = m₀ z := fun z => (congrFun e.fix z).symm
  obtain ⟨_, _, _, _, _, ecb, _, ecbO, _, _⟩ := e
  injection ecb with ecb
  have hdue := ok.due
  have hpc := ok.pc
  have hfc := ok.fc
  have hst := ok.st
  have hps := ok.ps
  have hfs := ok.fs
  have hem := ok.em
  have hrows := ok.rows
  have hlen := ok.len
  have hl1 := hpc.length
  rw [List.length_map] at hl1
  have hl2 := congrArg List.length hps
  rw [List.length_map] at hl2
  have hl3 := hfc.length
  rw [List.length_map] at hl3
  have hl4 := hfs.length
  rw [rangeKs_length] at hl4
  have hl5 := hst.length
  rw [List.length_map] at hl5
  have hl6 := hdue.length
  rw [List.length_map] at hl6
  dsimp only [AD.H, List.cons_append, List.nil_append] at N1
  rw [← ecb] at N1
  (with_reducible rename News _ _ _ _ => lN')
  obtain ⟨R9, hR9, N9, hM9⟩ := foldN (M := tl ++ _) (S := [(ll, _), (lg, _), (AD.co1 _, _), (AD.dc1 _, _), (AD.pc _, _), (AD.due _, _), (AD.co2 _, _), (AD.dc2 _, _), (AD.fc _, _)]) lN' (by repeat (first | exact DelAll.nil | apply DelAll.cons (by repeat (first | exact Del.head | apply Del.tail)))) (by intro p9 hp9; (repeat (first | exact hp9 | apply List.Mem.tail)))
  clear lN'
  dsimp only [List.cons_append, List.nil_append] at N9
  have hsub9 : ∀ p ∈ tl, p ∈ R9 := fun p hp => hM9 p (List.mem_append_left _ hp)
  k_with_none
  k_with "call ref nil" => (k_extra "my call")
  k_with "LeaveK" => ((with_reducible show LeaveK _ _ _ _ _ (Value.int _ _) _); k_dflt (refine' leaveK_ ?k1 ?k2 ?_; (case k1 => k_asm); (case k2 => k_asm); k_whole); intro kF kN; ground_anew kF; (have kX := kFor kF (by k_asm)); (try dsimp only [InitBack, CmpBack, LenBack, StrBack, BoolBack]); (try refine ⟨rfl, ?_⟩); (try (refine handed_on rfl ?_; try dsimp only)))
  k_with "exec For Name Call cons nil" => (k_here; (rename Fr _ _ _ _ => lF'); (with_unfolding_all refine' For_invVF lF' ?k1 ?k2 ?_; (case k1 => exact rfl); (case k2 => exact rfl); k_whole))
  k_with "pyIter ref" => (k_extra "my iter")
  k_with "k_upd" => ((with_reducible rename UA _ _ => nU); refine' Repl.updU ?uhh9 ?ua9 ?ub9; (case ub9 => exact UA.to nU rfl); (case ua9 => repeat (first | exact Repl.head | apply Repl.tail)); (case uhh9 => k_mem))
  k_with "call ref" => (k_extra "my spoon")
  k_with "call ref" => (k_extra "my call")
  k_with "call ref cons nil" => (k_extra "my spoon")
  k_with "call ref cons nil" => (k_extra "my call")
  k_with "call ref cons" => (k_extra "my spoon")
  k_with "call ref cons" => (k_extra "my call")
  k_with "call type:range" => (k_here; (with_reducible rename Fr _ _ _ _ => lF'); (with_reducible rename News _ _ _ _ => lN'); (with_unfolding_all refine range1_rows lF' lN' ?_); intro _ _ _ _ _ _ _ _ _)
  k_with "exec Assign cons ListComp" => (k_extra "my assign")
  k_with "CompSrc" => (k_extra "my src")
  k_with "CompSrc BinOp" => (k_extra "my src")
  k_with "CompSrc BinOp cons" => (k_extra "my src")
  k_with "CompSrc BinOp cons ref" => (k_extra "my src")
  k_with "CompEnd int" => (k_extra "my cend")
  k_with "CompEnd" => (k_extra "my cend")
  k_with "FinA" => (k_extra "my fina")
  k_with "FinE" => (k_extra "my fine")
  k_with "subscriptTail" => (k_extra "my item")
  k_with "binaryOp Mult int int" => (k_dflt (refine PyProof.Rows.mul_int ?_ (IntMulOk.of_left (intBits_le_64 (by omega) (by omega)))))
  k_with "subscriptTail Name Call ref int" => (k_extra "my item")
  k_with "subscriptTail Tuple cons Call ref int" => (k_extra "my item2")
  k_with "subscriptTail Tuple Call ref int" => (k_extra "my item2")
  k_with "subscriptTail Tuple" => (k_extra "my item2")
  k_with "call type:tuple" => (k_extra "my tuple")
  k_with "call type:tuple cons nil" => (k_extra "my tuple")
  k_with "call builtin:list.append" => (k_here; (try dsimp only [List.cons_append, List.nil_append]); (with_reducible show wpAny _ _ (call (Value.builtin _) [Value.ref _, _]) _ _ _); k_dflt (refine' append_K ?k1 ?k2 ?k3 ?_ ?z; (case k1 => k_asm); (case k2 => k_asm); (case k3 => k_upd); (case z => (simp only [List.size_toArray, sizeLine_eq]; omega)); k_whole); intro h' F' N'; (try simp only [List.push_toArray] at N'); (try k_sweep))
  k_with "CompSrc Subscript" => (k_extra "my src")
  k_with "CompSrc Subscript cons" => (k_extra "my src")
  k_with "CompSrc Subscript nil ref" => (k_extra "my src")
  k_with "CompSrc Subscript nil" => (k_extra "my src")
  k_with "CompEnd ref" => (k_extra "my cend")
  k_with "compareOp NotEq ref ref" => (k_extra "my ne")
  k_with "binaryOp Mult ref int" => (k_extra "my mul")
  k_with "call builtin:len" => (k_extra "my len")
  k_with "call builtin:len cons nil" => (k_extra "my len")
  k_with "call type:list" => (k_extra "my list")
  k_with "call type:list cons nil" => (k_extra "my list")
  k_with "call type:enumerate" => (k_extra "my enum")
  k_with "call type:enumerate cons nil" => (k_extra "my enum")
  k_with "compareOp Eq ref ref" => (k_extra "my eq")
  k_with "subscriptTail BinOp Constant ref int" => (k_extra "my item0")
  k_with "subscriptTail BinOp Name Add List Constant ref int" => (k_extra "my item0")
  k_with "binaryOp Add ref ref" => (k_extra "my add")
  k_with "compareOp NotEq int int" => (k_extra "my nei")
  k_with "subscriptTail Name Constant ref int" => (k_extra "my item1")
  k_with "k_upd" => ((with_reducible rename NDA _ => nD); refine' Repl.upd ?ua9 ?ub9; (case ub9 => exact NDA.to nD rfl); (case ua9 => repeat (first | exact Repl.head | apply Repl.tail)))
  k_with "k_updF" => ((with_reducible rename NDA _ => nD); refine' ReplF.upd ?ua9 ?ub9; (case ub9 => exact NDA.to nD rfl); (case ua9 => repeat (first | exact ReplF.head | apply ReplF.tail)))
  k_with "CompRest" => (with_unfolding_all first
      | ((with_reducible rename NDA _ => nD); refine LCg.CompRest.succ ?_; intro v' I' oI' C' oC' D' m' h' tk' E' hv' hC' hx' F' N' off' ne'; (first | lcg_open hv' | (obtain ⟨t9', hv9'⟩ := hv'; subst hv9')); replace nD := NDA.threeB off' ne' nD rfl; clear off' ne')
      | refine LCg.CompRest.zero ?_)
  k_with "CompEnd" => ((with_reducible rename NDA _ => nD); (with_reducible rename News _ _ _ _ => lN'); (refine endND (by k_asm) lN' (NDA.to nD rfl) (by repeat (first | exact Del.head | apply Del.tail)) (by repeat (first | exact Del.head | apply Del.tail)) (by repeat (first | exact Del.head | apply Del.tail)) (by lcg_src) ?_); clear nD; intro nD)
  k_with "FinE" => ((with_reducible rename NDA _ => nD); (unfold LCg.FinE); intro D' h' tk' F' N' o1'; replace nD := NDA.oneB o1' nD rfl; clear o1'; (try simp only [List.nil_append, List.cons_append] at N'); (try dsimp only))
  k_with "SrcTup" => (k_extra "my srct")
  k_with "SrcUX" => (k_extra "my srcu")
  k_with "CompRestX" => (k_extra "my restx")
  k_with "CompEndX" => (k_extra "my endx")
  k_with "call builtin:list.append" => (k_here; (try dsimp only [List.cons_append, List.nil_append]); (with_reducible show wpAny _ _ (call (Value.builtin _) [Value.ref _, _]) _ _ _); k_dflt (refine' append_K ?k1 ?k2 ?k3 ?_ ?z; (case k1 => k_asm); (case k2 => k_asm); (case k3 => k_upd); (case z => exact Nat.le_of_ble_eq_true rfl); k_whole); intro h' F' N'; (try k_sweep))
  k_with "k_in" => (first | with_reducible assumption | exact Frag.In.keeps (by with_reducible assumption) (Fr.keep (by with_reducible assumption)))
  k_with "LeaveK" => ((with_reducible show LeaveK _ _ _ _ _ (Value.ref _) _); k_dflt (refine' leaveK_ ?k1 ?k2 ?_; (case k1 => k_asm); (case k2 => k_asm); k_whole); intro kF kN; ground_anew kF; (have kX := kFor kF (by k_asm)); (try dsimp only [InitBack, CmpBack, LenBack, StrBack, BoolBack]); (try refine ⟨rfl, ?_⟩); (try (refine handed_on rfl ?_; try dsimp only)))
  k_with "LeaveK ref" => ((with_reducible show LeaveK _ _ _ _ _ (Value.ref _) _); k_dflt (refine' leaveK_ ?k1 ?k2 ?_; (case k1 => k_asm); (case k2 => k_asm); k_whole); intro kF kN; ground_anew kF; (have kX := kFor kF (by k_asm)); (try dsimp only [InitBack, CmpBack, LenBack, StrBack, BoolBack]); (try refine ⟨rfl, ?_⟩); (try (refine handed_on rfl ?_; try dsimp only)))
  k_with "eval ListComp" => (k_extra "my comp")
  k_with "CompSrc" => (k_extra "my src2")
  k_with "my tuple" => (with_reducible show wpAny _ _ (call (Value.type _) [Value.ref _]) _ _ _); (rename IntsAre _ (List.reverse _ ++ _) => hrv); (have hrl := hrv.length); (rw [List.length_append, List.length_reverse] at hrl); k_dflt (refine' kde_tupleOf ?k1 ?k2 ?k3 ?k4 List.toList_toArray ?_; (case k1 => k_asm); (case k2 => k_asm); (case k3 => exact News.isList (by k_asm) (by k_mem)); (case k4 => (rw [List.size_toArray]; omega)); k_whole); intro D' h' F' N' l1; k_lt l1
  k_with "my comp" => (with_reducible show wpAny _ _ (eval (Expr.ListComp (Expr.Subscript _ _ _) _ _ _) _) _ _ _); k_dflt (refine LCg.ListComp_U (F₀ := by k_asm) (by with_unfolding_all rfl) (by decide) (by rfl) (by decide) (by rfl) ?_)
  k_with "my src" => ((with_reducible rename Fr _ _ _ _ => lF'); (with_reducible rename News _ _ _ _ => lN'); k_dflt (refine LCg.CompSrc.ledger rfl lF' lN' (by k_mem) (by rw [List.size_toArray, sizeLine_eq]; omega) ?_); intro g9; (refine' rest_ind (ClInvD hdue _) ?_ ?_ _ 0 [] _ (Nat.zero_add _) ⟨rfl, .nil⟩); (intro i9 ys9 news9 v9 I9 oI9 C9 oC9 D9 m9 h9 tk9 E9 hi9 hv9 hP9 hC9 hx9 F9 N9 o39 ne9); (obtain ⟨rfl, hd9⟩ := hv9); (obtain ⟨r8, hr8, hd8⟩ := rows_at hdue (by simpa using hP9)); (obtain ⟨q8, c8, w1, w3, w4, n8, nc8, cs8, hra⟩ := rowAt hd8); (have e8 := hra.ref); subst e8; (have N99 := news_ext3 N9 hra.mem (by intro p9 hp9; (repeat (first | exact hsub9 p9 hp9 | apply List.Mem.tail)))); clear N9; rotate_left; (intro ys9 news9 hv9); (obtain ⟨rfl, hd9⟩ := hv9); (unfold LCg.FinE); (intro D9 h9 tk9 F9 N9 o19); clear o19; (rw [List.take_of_length_le (by rw [List.size_toArray]; omega)] at hd9); (try dsimp only); rotate_left)
  k_with "my item1" => ((with_reducible rename News _ _ _ _ => lN'); k_dflt (first | refine list_item lN' (by k_mem) (by decide) (by decide) (by exact rfl) ?_ | refine tup_item lN' (by k_mem) (by decide) (by decide) (by decide) (by exact rfl) ?_))
  k_with "my cend" => ((with_reducible rename News _ _ _ _ => lN'); (refine LCg.CompEnd.intro (by k_asm) lN' _ (by intro p9 hp9; (repeat (first | exact hp9 | apply List.Mem.tail))) (by exact Off3.same o39 rfl) (.inr ⟨_, by k_mem, rfl, _, rfl⟩) ⟨rfl, by rw [take_snoc hr8]; exact hd9.append (DatAll.one (row_cl hra))⟩))
  k_with "my ne" => k_dflt (refine ne_rows0 (by k_asm) hst hdue (by intro p9 hp9; (repeat (first | exact hsub9 p9 hp9 | apply List.Mem.tail))) (by k_mem) (by k_mem) hrows (by show _ + 64 < cLine; units_room) ?_)
  k_with "my ne" => k_dflt (refine ne_nums0 (by k_asm) hfs hl6 (by k_mem) hrg9 (by k_mem) (by show _ + 64 < cLine; units_room) ?_)
  k_with "my ne" => k_dflt (refine ne_nones0 (by k_asm) hps (by k_mem) (by k_mem) (by simp only [Int.toNat_natCast]; omega) (by show _ + 64 < cLine; units_room) ?_)
  k_with "my ne" => k_dflt (refine ne_same (by k_asm) (by k_mem) hfc (by intro p9 hp9; (repeat (first | exact hsub9 p9 hp9 | apply List.Mem.tail))) (by k_mem) hpc (by intro p9 hp9; (repeat (first | exact hsub9 p9 hp9 | apply List.Mem.tail))) (cls_ok _) (by show _ + 64 < cLine; units_room) ?_)
  k_with "my ne" => k_dflt (refine ne_same (by k_asm) (by k_mem) hpc (by intro p9 hp9; (repeat (first | exact hsub9 p9 hp9 | apply List.Mem.tail))) (by k_mem) hd9 (by intro p9 hp9; (repeat (first | exact hsub9 p9 hp9 | apply List.Mem.tail))) (cls_ok _) (by show _ + 64 < cLine; units_room) ?_)
  k_with "my len" => (try dsimp only [List.cons_append, List.nil_append]); (with_reducible show wpAny _ _ (call (Value.builtin "len") [Value.ref _]) _ _ _); k_dflt (refine PyProof.Rows.len_list (News.isList (by k_asm) (by k_mem)) (by simp only [List.size_toArray]; omega) ?_); (try simp only [List.size_toArray])
  k_with "my mul" => k_dflt (refine mul_one (by k_asm) (by k_asm) (by k_mem) (by omega) (by omega) ?_); (intro D' h' F' N' l1); clear l1
  k_with "my list" => (try dsimp only [List.cons_append, List.nil_append]); (with_reducible show wpAny _ _ (call (Value.type "list") [Value.ref _]) _ _ _); (rename IsRange _ _ _ _ _ _ _ _ => lR'); k_dflt (refine list_rangeN (by exact rfl) (by k_asm) (by k_asm) lR' (by first | exact rfl | assumption) (by omega) ?_); (intro D' h' tk' ys' k' F' N' l1 hrg9); clear l1
  k_with "my assign" => k_dflt (refine Assign_enum (by k_asm) (by rfl) (by with_unfolding_all rfl) (by with_unfolding_all rfl) (by decide) (by rfl) (by decide) (by rfl) (by rfl) (by decide) (by decide) (by rfl) (by rfl) ?_)
  k_with "my enum" => (try dsimp only [List.cons_append, List.nil_append]); (with_reducible show wpAny _ _ (call (Value.type "enumerate") [Value.ref _]) _ _ _); ((with_reducible rename Fr _ _ _ _ => lF'); (with_reducible rename News _ _ _ _ => lN')); k_dflt (refine enumSrcC (emptyP hdue) (by exact rfl) lF' lN' (by k_mem) (by rw [sizeLine_eq]; omega) ?_ ?_); (intro g9 i9 v9 hP9); (obtain ⟨r8, hr8, hd8⟩ := rows_at hdue hP9); (obtain ⟨q8, c8, w1, w3, w4, n8, nc8, cs8, hra⟩ := rowAt hd8); (have e8 := hra.ref); subst e8; (have hp9 := emptyP_at hdue hr8); (intro t9 e9 oe9 I9 oI9 C9 oC9 D9 ys9 m9 h9 tk9 E9 R9 hC9 ha9 hb9 F9 N9 hR9); (rw [hp9] at hR9); (have N99 := news_ext4b N9 hra.mem hra.cl (by intro p9 hp9; (repeat (first | exact hsub9 p9 hp9 | apply List.Mem.tail)))); clear N9; (try dsimp only); rotate_left; (intro D9 h9 tk9 ys9 F9 N9 o19 hi9); (rw [places_ends hdue] at hi9); clear o19; (try dsimp only); rotate_left
  k_with "my eq" => k_dflt (refine eq_tup_nil (by k_asm) (by k_mem) hra.il (by k_mem) (by show _ + 64 < cLine; units_room) ?_)
  k_with "my item0" => ((with_reducible rename News _ _ _ _ => lN'); (rename IntsAre _ (endsOf _ 0 ++ _) => hE9); (obtain ⟨tE9, hE8⟩ := ends_item hE9); k_dflt (refine list_item lN' (by k_mem) (by decide) (by decide) hE8 ?_))
  k_with "my add" => ((rename IntsAre _ (endsOf _ 0) => hi9); (have hel9 := ends_len hdue); k_dflt (refine add_one (by k_asm) (by k_asm) (by k_mem) (by k_mem) hi9 (by omega) ?_); (intro D' h' ws' F' N' l1 hE9); clear l1)
  k_with "my nei" => k_dflt (refine ne_int_same hem ?_)
  k_with "my lt" => skip
  k_with "my ne" => k_dflt (refine ne_same (by k_asm) (by k_mem) (dat_ints (news := []) i1) (noMem) (by k_mem) (dat_ints (news := []) i2) (noMem) (kqd_ints 8 _) (by show _ + 64 < cLine; units_room) ?_)
  iterate 40 (focus (first | (k_unfold; (try dsimp only)) | (k_end; kc_close) | walk1 | (dsimp only; walk1) | (leave1; (try dsimp only))))
  (with_reducible rename News _ _ _ _ => lN')
  subst hR9
  clear hM9 hsub9
  obtain ⟨R9, hR9, N9, hM9⟩ := foldN (M := tl ++ _) (S := [(AD.due _, _), (AD.co1 _, _), (AD.dc1 _, _), (AD.ps _, _), (AD.co2 _, _), (AD.dc2 _, _), (AD.fs _, _), (AD.pf _, _), (AD.pd _, _), (AD.st _, _)]) lN' (by repeat (first | exact DelAll.nil | apply DelAll.cons (by repeat (first | exact Del.head | apply Del.tail)))) (by intro p9 hp9; (repeat (first | exact hp9 | apply List.Mem.tail)))
  clear lN'
  dsimp only [List.cons_append, List.nil_append] at N9
  have hsub9 : ∀ p ∈ tl, p ∈ R9 := fun p hp => hM9 p (List.mem_append_left _ hp)
  iterate 64 (focus (first | (k_unfold; (try dsimp only)) | (k_end; kc_close) | walk1 | (dsimp only; walk1) | (leave1; (try dsimp only))))
  (with_reducible rename News _ _ _ _ => lN')
  subst hR9
  clear hM9 hsub9
  obtain ⟨R9, hR9, N9, hM9⟩ := foldN (M := tl ++ _) (S := [(AD.due _, _), (AD.pf _, _), (AD.pd _, _)]) lN' (by repeat (first | exact DelAll.nil | apply DelAll.cons (by repeat (first | exact Del.head | apply Del.tail)))) (by intro p9 hp9; (repeat (first | exact hp9 | apply List.Mem.tail)))
  clear lN'
  dsimp only [List.cons_append, List.nil_append] at N9
  have hsub9 : ∀ p ∈ tl, p ∈ R9 := fun p hp => hM9 p (List.mem_append_left _ hp)
  iterate 19 (focus (first | (k_unfold; (try dsimp only)) | (k_end; kc_close) | walk1 | (dsimp only; walk1) | (leave1; (try dsimp only))))
  ((with_reducible rename News _ _ _ _ => lN'); exact hR9 _ _ (by k_asm) (fun p hp => lN' p (List.Mem.tail _ (List.Mem.tail _ (List.Mem.tail _ hp)))))
  iterate 25 (focus (first | (k_unfold; (try dsimp only)) | (k_end; kc_close) | walk1 | (dsimp only; walk1) | (leave1; (try dsimp only))))
  (with_reducible rename Fr _ _ _ _ => lF'); (with_reducible rename News _ _ _ _ => lN')
  subst hR9
  refine' hQ1 _ (lapEnd c [] tl lF' lN' ?eH (noMem) ?etl ?eown ho ho2 hta (noMem) ok ?em)
  case eH => dsimp only [AD.H]; rw [← ecb]; repeat (first | exact List.forall_mem_nil _ | refine List.forall_mem_cons.mpr ⟨by k_mem, ?_⟩)
  case etl => intro p9 hp9; (repeat apply List.Mem.tail); exact List.mem_append_left _ hp9
  case eown => intro p9 hp9; (repeat apply List.Mem.tail); exact List.mem_append_right _ hp9
  case em =>
    intro z hz
    have nn0 : ¬ z = Str.ofString "lap" := by rintro rfl; revert hz; decide
    have nn1 : ¬ z = Str.ofString "lits" := by rintro rfl; revert hz; decide
    have nn2 : ¬ z = Str.ofString "rule" := by rintro rfl; revert hz; decide
    have nn3 : ¬ z = Str.ofString "note" := by rintro rfl; revert hz; decide
    have nn4 : ¬ z = Str.ofString "given" := by rintro rfl; revert hz; decide
    have nn5 : ¬ z = Str.ofString "clause" := by rintro rfl; revert hz; decide
    have nn6 : ¬ z = Str.ofString "ends" := by rintro rfl; revert hz; decide
    (try dsimp only)
    repeat (first | rw [if_neg nn6])
    exact (mT_off hz).trans (hfix z)

theorem all (x : C) : G x := hilb x ne ok1
end TS
set_option genInjectivity false in
set_option genSizeOf false in
structure MD.C where
  w : World
  p : Program
  loose : List Str
  mean : ExcName → Option Value
  mg : Str → Option Value
  mb : Str → Option Value
  h₀ : Heap
  base : Heap
  L : Addr
  fa : Addr
  cd : Value
  s : Shared
  a : AD
  m₀ : Str → Option Value
  i : Nat
  ob : Obj
  at_ : Int
  rows : List Row
  due : List Value
  dn : Nat
  pc : List Value
  pcn : Nat
  ps : List Value
  psn : Nat
  fc : List Value
  fcn : Nat
  fs : List Value
  fsn : Nat
  st : List Value
  stn : Nat
  em : Int
  te : Tok
  tp : Nat → Tok
  tl : List (Addr × Obj)
  t : Tok
  u : Str → Option Value
  h : Heap
  tk : Nat
  own : List (Addr × Obj)
  Q1 : Flow → Shared → Prop
  E1 : Value → Shared → Prop
noncomputable def MD.G (x : MD.C) : Prop := ∀ (sc : Scope) (B : List Stmt),
    (sc = lawParts.2) →
    (B = take6 lapBody) →
    ((top0.heap_1 x.w.params).In x.h₀) →
    (Top x.p x.loose x.mean x.mg x.mb x.h₀) →
    (Below callerA x.base [] x.h₀) →
    (LapEnv (envOfC (Str.ofString "law") sc x.L x.fa x.cd) x.a x.m₀) →
    (x.i < 9) →
    (LOk PySem.Challenge.rw_rg0215_01.row.prog x.w x.a x.i ⟨x.ob, x.at_, x.rows, x.due, x.dn, x.pc, x.pcn, x.ps, x.psn, x.fc, x.fcn, x.fs, x.fsn, x.st, x.stn, x.em, x.te, x.tp⟩ x.tl) →
    (NDA (x.a.H ⟨x.ob, x.at_, x.rows, x.due, x.dn, x.pc, x.pcn, x.ps, x.psn, x.fc, x.fcn, x.fs, x.fsn, x.st, x.stn, x.em, x.te, x.tp⟩)) →
    (OwnOff x.tl x.a.A) →
    (OwnOff x.own x.a.A) →
    (OwnOff x.own (x.tl.map (·.1))) →
    (Fr x.h₀ ((envOfC (Str.ofString "law") sc x.L x.fa x.cd)).locals x.h (mLap x.a (.int (x.i : Int) x.t) x.u x.m₀)) →
    (News x.h₀ ((envOfC (Str.ofString "law") sc x.L x.fa x.cd)).locals x.h (x.a.H ⟨x.ob, x.at_, x.rows, x.due, x.dn, x.pc, x.pcn, x.ps, x.psn, x.fc, x.fcn, x.fs, x.fsn, x.st, x.stn, x.em, x.te, x.tp⟩ ++ (x.tl ++ x.own))) →
    (∀ s', MidT x.w x.h₀ ((envOfC (Str.ofString "law") sc x.L x.fa x.cd)).locals x.a x.i x.own x.m₀ { x.s with heap := x.h, toks := x.tk } s' → x.Q1 Flow.next s') →
    wpAny (model PySem.Challenge.rw_rg0215_01.row.prog x.w) (Around.deeper callerA (envOfC (Str.ofString "law") sc x.L x.fa x.cd)) (execs B (envOfC (Str.ofString "law") sc x.L x.fa x.cd)) x.Q1 x.E1 { x.s with heap := x.h, toks := x.tk }
theorem MD.ne : Nonempty MD.C := ⟨⟨Classical.choice ne_w, PySem.Challenge.pw_rg0215_01, [], fun _ => .none, fun _ => .none, fun _ => .none, {}, {}, 0, 0, .none, {}, Classical.choice ne_a, fun _ => .none, 0, listOf #[] 0, 0, [], [], 0, [], 0, [], 0, [], 0, [], 0, [], 0, 0, 0, fun _ => 0, [], 0, fun _ => .none, {}, 0, [], fun _ _ => True, fun _ _ => True⟩⟩
noncomputable def MD.x : MD.C := @Classical.epsilon _ MD.ne fun x => ¬ MD.G x
namespace MD
noncomputable def w : World := x.w
noncomputable def p : Program := x.p
noncomputable def loose : List Str := x.loose
noncomputable def mean : ExcName → Option Value := x.mean
noncomputable def mg : Str → Option Value := x.mg
noncomputable def mb : Str → Option Value := x.mb
noncomputable def h₀ : Heap := x.h₀
noncomputable def base : Heap := x.base
noncomputable def L : Addr := x.L
noncomputable def fa : Addr := x.fa
noncomputable def cd : Value := x.cd
noncomputable def s : Shared := x.s
noncomputable def a : AD := x.a
noncomputable def m₀ : Str → Option Value := x.m₀
noncomputable def i : Nat := x.i
noncomputable def ob : Obj := x.ob
noncomputable def at_ : Int := x.at_
noncomputable def rows : List Row := x.rows
noncomputable def due : List Value := x.due
noncomputable def dn : Nat := x.dn
noncomputable def pc : List Value := x.pc
noncomputable def pcn : Nat := x.pcn
noncomputable def ps : List Value := x.ps
noncomputable def psn : Nat := x.psn
noncomputable def fc : List Value := x.fc
noncomputable def fcn : Nat := x.fcn
noncomputable def fs : List Value := x.fs
noncomputable def fsn : Nat := x.fsn
noncomputable def st : List Value := x.st
noncomputable def stn : Nat := x.stn
noncomputable def em : Int := x.em
noncomputable def te : Tok := x.te
noncomputable def tp : Nat → Tok := x.tp
noncomputable def tl : List (Addr × Obj) := x.tl
noncomputable def t : Tok := x.t
noncomputable def u : Str → Option Value := x.u
noncomputable def h : Heap := x.h
noncomputable def tk : Nat := x.tk
noncomputable def own : List (Addr × Obj) := x.own
noncomputable def Q1 : Flow → Shared → Prop := x.Q1
noncomputable def E1 : Value → Shared → Prop := x.E1
set_option maxHeartbeats 40000000 in
theorem ok1 : ∀ (sc : Scope) (B : List Stmt),
    (sc = lawParts.2) →
    (B = take6 lapBody) →
    ((top0.heap_1 w.params).In h₀) →
    (Top p loose mean mg mb h₀) →
    (Below callerA base [] h₀) →
    (LapEnv (envOfC (Str.ofString "law") sc L fa cd) a m₀) →
    (i < 9) →
    (LOk PySem.Challenge.rw_rg0215_01.row.prog w a i ⟨ob, at_, rows, due, dn, pc, pcn, ps, psn, fc, fcn, fs, fsn, st, stn, em, te, tp⟩ tl) →
    (NDA (a.H ⟨ob, at_, rows, due, dn, pc, pcn, ps, psn, fc, fcn, fs, fsn, st, stn, em, te, tp⟩)) →
    (OwnOff tl a.A) →
    (OwnOff own a.A) →
    (OwnOff own (tl.map (·.1))) →
    (Fr h₀ ((envOfC (Str.ofString "law") sc L fa cd)).locals h (mLap a (.int (i : Int) t) u m₀)) →
    (News h₀ ((envOfC (Str.ofString "law") sc L fa cd)).locals h (a.H ⟨ob, at_, rows, due, dn, pc, pcn, ps, psn, fc, fcn, fs, fsn, st, stn, em, te, tp⟩ ++ (tl ++ own))) →
    (∀ s', MidT w h₀ ((envOfC (Str.ofString "law") sc L fa cd)).locals a i own m₀ { s with heap := h, toks := tk } s' → Q1 Flow.next s') →
    wpAny (model PySem.Challenge.rw_rg0215_01.row.prog w) (Around.deeper callerA (envOfC (Str.ofString "law") sc L fa cd)) (execs B (envOfC (Str.ofString "law") sc L fa cd)) Q1 E1 { s with heap := h, toks := tk } := by
  intro sc B hs hb X0 T0 K0 e hi ok nH ht ho ho2 F1 N1 hQ2
  conv at hs => rhs; whnf
  conv at hb => rhs; whnf
  subst hs hb
  revert X0
  k_fill
  intro X0
  k_with_none
  k_with "call ref nil" => (k_extra "my call")
  k_with "LeaveK" => ((with_reducible show LeaveK _ _ _ _ _ (Value.int _ _) _); k_dflt (refine' leaveK_ ?k1 ?k2 ?_; (case k1 => k_asm); (case k2 => k_asm); k_whole); intro kF kN; ground_anew kF; (have kX := kFor kF (by k_asm)); (try dsimp only [InitBack, CmpBack, LenBack, StrBack, BoolBack]); (try refine ⟨rfl, ?_⟩); (try (refine handed_on rfl ?_; try dsimp only)))
  k_with "exec For Name Call cons nil" => (k_here; (rename Fr _ _ _ _ => lF'); (with_unfolding_all refine' For_invVF lF' ?k1 ?k2 ?_; (case k1 => exact rfl); (case k2 => exact rfl); k_whole))
  k_with "pyIter ref" => (k_extra "my iter")
  k_with "k_upd" => ((with_reducible rename UA _ _ => nU); refine' Repl.updU ?uhh9 ?ua9 ?ub9; (case ub9 => exact UA.to nU rfl); (case ua9 => repeat (first | exact Repl.head | apply Repl.tail)); (case uhh9 => k_mem))
  k_with "call ref" => (k_extra "my spoon")
  k_with "call ref" => (k_extra "my call")
  k_with "call ref cons nil" => (k_extra "my spoon")
  k_with "call ref cons nil" => (k_extra "my call")
  k_with "call ref cons" => (k_extra "my spoon")
  k_with "call ref cons" => (k_extra "my call")
  k_with "call type:range" => (k_here; (with_reducible rename Fr _ _ _ _ => lF'); (with_reducible rename News _ _ _ _ => lN'); (with_unfolding_all refine range1_rows lF' lN' ?_); intro _ _ _ _ _ _ _ _ _)
  k_with "exec Assign cons ListComp" => (k_extra "my assign")
  k_with "CompSrc" => (k_extra "my src")
  k_with "CompSrc BinOp" => (k_extra "my src")
  k_with "CompSrc BinOp cons" => (k_extra "my src")
  k_with "CompSrc BinOp cons ref" => (k_extra "my src")
  k_with "CompEnd int" => (k_extra "my cend")
  k_with "CompEnd" => (k_extra "my cend")
  k_with "FinA" => (k_extra "my fina")
  k_with "FinE" => (k_extra "my fine")
  k_with "subscriptTail" => (k_extra "my item")
  k_with "binaryOp Mult int int" => (k_dflt (refine PyProof.Rows.mul_int ?_ (IntMulOk.of_left (intBits_le_64 (by omega) (by omega)))))
  k_with "subscriptTail Name Call ref int" => (k_extra "my item")
  k_with "subscriptTail Tuple cons Call ref int" => (k_extra "my item2")
  k_with "subscriptTail Tuple Call ref int" => (k_extra "my item2")
  k_with "subscriptTail Tuple" => (k_extra "my item2")
  k_with "call type:tuple" => (k_extra "my tuple")
  k_with "call type:tuple cons nil" => (k_extra "my tuple")
  k_with "call builtin:list.append" => (k_here; (try dsimp only [List.cons_append, List.nil_append]); (with_reducible show wpAny _ _ (call (Value.builtin _) [Value.ref _, _]) _ _ _); k_dflt (refine' append_K ?k1 ?k2 ?k3 ?_ ?z; (case k1 => k_asm); (case k2 => k_asm); (case k3 => k_upd); (case z => (simp only [List.size_toArray, sizeLine_eq]; omega)); k_whole); intro h' F' N'; (try simp only [List.push_toArray] at N'); (try k_sweep))
  k_with "CompSrc Subscript" => (k_extra "my src")
  k_with "CompSrc Subscript cons" => (k_extra "my src")
  k_with "CompSrc Subscript nil ref" => (k_extra "my src")
  k_with "CompSrc Subscript nil" => (k_extra "my src")
  k_with "CompEnd ref" => (k_extra "my cend")
  k_with "compareOp NotEq ref ref" => (k_extra "my ne")
  k_with "binaryOp Mult ref int" => (k_extra "my mul")
  k_with "call builtin:len" => (k_extra "my len")
  k_with "call builtin:len cons nil" => (k_extra "my len")
  k_with "call type:list" => (k_extra "my list")
  k_with "call type:list cons nil" => (k_extra "my list")
  k_with "call type:enumerate" => (k_extra "my enum")
  k_with "call type:enumerate cons nil" => (k_extra "my enum")
  k_with "compareOp Eq ref ref" => (k_extra "my eq")
  k_with "subscriptTail BinOp Constant ref int" => (k_extra "my item0")
  k_with "subscriptTail BinOp Name Add List Constant ref int" => (k_extra "my item0")
  k_with "binaryOp Add ref ref" => (k_extra "my add")
  k_with "compareOp NotEq int int" => (k_extra "my nei")
  k_with "subscriptTail Name Constant ref int" => (k_extra "my item1")
  k_with "k_upd" => ((with_reducible rename NDA _ => nD); refine' Repl.upd ?ua9 ?ub9; (case ub9 => exact NDA.to nD rfl); (case ua9 => repeat (first | exact Repl.head | apply Repl.tail)))
  k_with "k_updF" => ((with_reducible rename NDA _ => nD); refine' ReplF.upd ?ua9 ?ub9; (case ub9 => exact NDA.to nD rfl); (case ua9 => repeat (first | exact ReplF.head | apply ReplF.tail)))
  k_with "CompRest" => (with_unfolding_all first
      | ((with_reducible rename NDA _ => nD); refine LCg.CompRest.succ ?_; intro v' I' oI' C' oC' D' m' h' tk' E' hv' hC' hx' F' N' off' ne'; (first | lcg_open hv' | (obtain ⟨t9', hv9'⟩ := hv'; subst hv9')); replace nD := NDA.threeB off' ne' nD rfl; clear off' ne')
      | refine LCg.CompRest.zero ?_)
  k_with "CompEnd" => ((with_reducible rename NDA _ => nD); (with_reducible rename News _ _ _ _ => lN'); (refine endND (by k_asm) lN' (NDA.to nD rfl) (by repeat (first | exact Del.head | apply Del.tail)) (by repeat (first | exact Del.head | apply Del.tail)) (by repeat (first | exact Del.head | apply Del.tail)) (by lcg_src) ?_); clear nD; intro nD)
  k_with "FinE" => ((with_reducible rename NDA _ => nD); (unfold LCg.FinE); intro D' h' tk' F' N' o1'; replace nD := NDA.oneB o1' nD rfl; clear o1'; (try simp only [List.nil_append, List.cons_append] at N'); (try dsimp only))
  k_with "SrcTup" => (k_extra "my srct")
  k_with "SrcUX" => (k_extra "my srcu")
  k_with "CompRestX" => (k_extra "my restx")
  k_with "CompEndX" => (k_extra "my endx")
  k_with "call builtin:list.append" => (k_here; (try dsimp only [List.cons_append, List.nil_append]); (with_reducible show wpAny _ _ (call (Value.builtin _) [Value.ref _, _]) _ _ _); k_dflt (refine' append_K ?k1 ?k2 ?k3 ?_ ?z; (case k1 => k_asm); (case k2 => k_asm); (case k3 => k_upd); (case z => exact Nat.le_of_ble_eq_true rfl); k_whole); intro h' F' N'; (try k_sweep))
  k_with "k_in" => (first | with_reducible assumption | exact Frag.In.keeps (by with_reducible assumption) (Fr.keep (by with_reducible assumption)))
  k_with "LeaveK" => ((with_reducible show LeaveK _ _ _ _ _ (Value.ref _) _); k_dflt (refine' leaveK_ ?k1 ?k2 ?_; (case k1 => k_asm); (case k2 => k_asm); k_whole); intro kF kN; ground_anew kF; (have kX := kFor kF (by k_asm)); (try dsimp only [InitBack, CmpBack, LenBack, StrBack, BoolBack]); (try refine ⟨rfl, ?_⟩); (try (refine handed_on rfl ?_; try dsimp only)))
  k_with "LeaveK ref" => ((with_reducible show LeaveK _ _ _ _ _ (Value.ref _) _); k_dflt (refine' leaveK_ ?k1 ?k2 ?_; (case k1 => k_asm); (case k2 => k_asm); k_whole); intro kF kN; ground_anew kF; (have kX := kFor kF (by k_asm)); (try dsimp only [InitBack, CmpBack, LenBack, StrBack, BoolBack]); (try refine ⟨rfl, ?_⟩); (try (refine handed_on rfl ?_; try dsimp only)))
  k_with "eval ListComp" => (k_extra "my comp")
  k_with "CompSrc" => (k_extra "my src2")
  w_on
  have nU := UA.of_sep (A := AD.A _) (T := tl ++ own) nH (fun q hq hm => by
    rcases List.mem_append.mp hq with hq | hq
    · exact ht q hq _ hm rfl
    · exact ho q hq _ hm rfl)
  clear nH
  have hc0 := AD.cov a ⟨ob, at_, rows, due, dn, pc, pcn, ps, psn, fc, fcn, fs, fsn, st, stn, em, te, tp⟩ (tl ++ own)
  obtain ⟨⟨tb, hb1⟩, hat0, hat1, hrows, hlen, hdue, hpc, hfc, hst, hps, hfs, hem⟩ := ok
  have hfix : ∀ z, mFix a m₀ z = m₀ z := fun z => (congrFun e.fix z).symm
  obtain ⟨_, _, _, _, _, ecb, _, ecbO, _, ns60, hi60, hl60⟩ := e
  dsimp only at hb1 hat0 hat1 hrows hlen hdue hpc hfc hst hps hfs hem ecb ecbO hi60
  dsimp only [AD.H, List.cons_append, List.nil_append] at N1 nU hc0
  injection ecb with ecb
  rw [← ecb] at N1 nU hc0
  revert hb1 ecbO hi60 hfs
  revert nU F1 N1
  intro F1 N1 nU hb1 hfs ecbO hi60
  rename Obj.IsDictOf _ _ _ => hb1
  rename (List.length _ ≤ 60) => hl60
  rename IntsAre _ (rangeKs 0 _) => hfs
  revert hfs
  rename IntsAre _ _ => hi60
  intro hfs
  rename (∀ s', MidT _ _ _ _ _ _ _ _ s' → _) => hQ2
  (with_reducible rename News _ _ _ _ => lN'); (with_reducible rename UA _ _ => nU); (replace nU := ua_to lN' nU rfl)
  have hbc : @Ne Nat _ _ := fun e => nU.1 _ (List.Mem.head _) e.symm (List.Mem.head _)
  rename (∀ b ∈ AD.A _, ∃ o, _) => hc0
  obtain ⟨R9, hR9, N9, U9, cR9, hM9⟩ := foldU (M := _ ++ own) (S := [(AD.bowl _, _), (AD.cells _, _), (_, AD.cbO _)]) lN' nU hc0 (by repeat (first | exact DelAll.nil | apply DelAll.cons (by repeat (first | exact Del.head | apply Del.tail)))) (by intro p9 hp9; (repeat (first | exact hp9 | apply List.Mem.tail)))
  clear hc0
  clear lN' nU
  dsimp only [List.cons_append, List.nil_append] at N9 U9
  simp only [List.map_cons, List.map_nil] at cR9
  k_with_none
  k_with "call ref nil" => (k_extra "my call")
  k_with "LeaveK" => ((with_reducible show LeaveK _ _ _ _ _ (Value.int _ _) _); k_dflt (refine' leaveK_ ?k1 ?k2 ?_; (case k1 => k_asm); (case k2 => k_asm); k_whole); intro kF kN; ground_anew kF; (have kX := kFor kF (by k_asm)); (try dsimp only [InitBack, CmpBack, LenBack, StrBack, BoolBack]); (try refine ⟨rfl, ?_⟩); (try (refine handed_on rfl ?_; try dsimp only)))
  k_with "exec For Name Call cons nil" => (k_here; (rename Fr _ _ _ _ => lF'); (with_unfolding_all refine' For_invVF lF' ?k1 ?k2 ?_; (case k1 => exact rfl); (case k2 => exact rfl); k_whole))
  k_with "pyIter ref" => (k_extra "my iter")
  k_with "k_upd" => ((with_reducible rename UA _ _ => nU); refine' Repl.updU ?uhh9 ?ua9 ?ub9; (case ub9 => exact UA.to nU rfl); (case ua9 => repeat (first | exact Repl.head | apply Repl.tail)); (case uhh9 => k_mem))
  k_with "call ref" => (k_extra "my spoon")
  k_with "call ref" => (k_extra "my call")
  k_with "call ref cons nil" => (k_extra "my spoon")
  k_with "call ref cons nil" => (k_extra "my call")
  k_with "call ref cons" => (k_extra "my spoon")
  k_with "call ref cons" => (k_extra "my call")
  k_with "call type:range" => (k_here; (with_reducible rename Fr _ _ _ _ => lF'); (with_reducible rename News _ _ _ _ => lN'); (with_unfolding_all refine range1_rows lF' lN' ?_); intro _ _ _ _ _ _ _ _ _)
  k_with "exec Assign cons ListComp" => (k_extra "my assign")
  k_with "CompSrc" => (k_extra "my src")
  k_with "CompSrc BinOp" => (k_extra "my src")
  k_with "CompSrc BinOp cons" => (k_extra "my src")
  k_with "CompSrc BinOp cons ref" => (k_extra "my src")
  k_with "CompEnd int" => (k_extra "my cend")
  k_with "CompEnd" => (k_extra "my cend")
  k_with "FinA" => (k_extra "my fina")
  k_with "FinE" => (k_extra "my fine")
  k_with "subscriptTail" => (k_extra "my item")
  k_with "binaryOp Mult int int" => (k_dflt (refine PyProof.Rows.mul_int ?_ (IntMulOk.of_left (intBits_le_64 (by omega) (by omega)))))
  k_with "subscriptTail Name Call ref int" => (k_extra "my item")
  k_with "subscriptTail Tuple cons Call ref int" => (k_extra "my item2")
  k_with "subscriptTail Tuple Call ref int" => (k_extra "my item2")
  k_with "subscriptTail Tuple" => (k_extra "my item2")
  k_with "call type:tuple" => (k_extra "my tuple")
  k_with "call type:tuple cons nil" => (k_extra "my tuple")
  k_with "call builtin:list.append" => (k_here; (try dsimp only [List.cons_append, List.nil_append]); (with_reducible show wpAny _ _ (call (Value.builtin _) [Value.ref _, _]) _ _ _); k_dflt (refine' append_K ?k1 ?k2 ?k3 ?_ ?z; (case k1 => k_asm); (case k2 => k_asm); (case k3 => k_upd); (case z => (simp only [List.size_toArray, sizeLine_eq]; omega)); k_whole); intro h' F' N'; (try simp only [List.push_toArray] at N'); (try k_sweep))
  k_with "CompSrc Subscript" => (k_extra "my src")
  k_with "CompSrc Subscript cons" => (k_extra "my src")
  k_with "CompSrc Subscript nil ref" => (k_extra "my src")
  k_with "CompSrc Subscript nil" => (k_extra "my src")
  k_with "CompEnd ref" => (k_extra "my cend")
  k_with "compareOp NotEq ref ref" => (k_extra "my ne")
  k_with "binaryOp Mult ref int" => (k_extra "my mul")
  k_with "call builtin:len" => (k_extra "my len")
  k_with "call builtin:len cons nil" => (k_extra "my len")
  k_with "call type:list" => (k_extra "my list")
  k_with "call type:list cons nil" => (k_extra "my list")
  k_with "call type:enumerate" => (k_extra "my enum")
  k_with "call type:enumerate cons nil" => (k_extra "my enum")
  k_with "compareOp Eq ref ref" => (k_extra "my eq")
  k_with "subscriptTail BinOp Constant ref int" => (k_extra "my item0")
  k_with "subscriptTail BinOp Name Add List Constant ref int" => (k_extra "my item0")
  k_with "binaryOp Add ref ref" => (k_extra "my add")
  k_with "compareOp NotEq int int" => (k_extra "my nei")
  k_with "subscriptTail Name Constant ref int" => (k_extra "my item1")
  k_with "k_upd" => ((with_reducible rename NDA _ => nD); refine' Repl.upd ?ua9 ?ub9; (case ub9 => exact NDA.to nD rfl); (case ua9 => repeat (first | exact Repl.head | apply Repl.tail)))
  k_with "k_updF" => ((with_reducible rename NDA _ => nD); refine' ReplF.upd ?ua9 ?ub9; (case ub9 => exact NDA.to nD rfl); (case ua9 => repeat (first | exact ReplF.head | apply ReplF.tail)))
  k_with "CompRest" => (with_unfolding_all first
      | ((with_reducible rename NDA _ => nD); refine LCg.CompRest.succ ?_; intro v' I' oI' C' oC' D' m' h' tk' E' hv' hC' hx' F' N' off' ne'; (first | lcg_open hv' | (obtain ⟨t9', hv9'⟩ := hv'; subst hv9')); replace nD := NDA.threeB off' ne' nD rfl; clear off' ne')
      | refine LCg.CompRest.zero ?_)
  k_with "CompEnd" => ((with_reducible rename NDA _ => nD); (with_reducible rename News _ _ _ _ => lN'); (refine endND (by k_asm) lN' (NDA.to nD rfl) (by repeat (first | exact Del.head | apply Del.tail)) (by repeat (first | exact Del.head | apply Del.tail)) (by repeat (first | exact Del.head | apply Del.tail)) (by lcg_src) ?_); clear nD; intro nD)
  k_with "FinE" => ((with_reducible rename NDA _ => nD); (unfold LCg.FinE); intro D' h' tk' F' N' o1'; replace nD := NDA.oneB o1' nD rfl; clear o1'; (try simp only [List.nil_append, List.cons_append] at N'); (try dsimp only))
  k_with "SrcTup" => (k_extra "my srct")
  k_with "SrcUX" => (k_extra "my srcu")
  k_with "CompRestX" => (k_extra "my restx")
  k_with "CompEndX" => (k_extra "my endx")
  k_with "call builtin:list.append" => (k_here; (try dsimp only [List.cons_append, List.nil_append]); (with_reducible show wpAny _ _ (call (Value.builtin _) [Value.ref _, _]) _ _ _); k_dflt (refine' append_K ?k1 ?k2 ?k3 ?_ ?z; (case k1 => k_asm); (case k2 => k_asm); (case k3 => k_upd); (case z => exact Nat.le_of_ble_eq_true rfl); k_whole); intro h' F' N'; (try k_sweep))
  k_with "k_in" => (first | with_reducible assumption | exact Frag.In.keeps (by with_reducible assumption) (Fr.keep (by with_reducible assumption)))
  k_with "LeaveK" => ((with_reducible show LeaveK _ _ _ _ _ (Value.ref _) _); k_dflt (refine' leaveK_ ?k1 ?k2 ?_; (case k1 => k_asm); (case k2 => k_asm); k_whole); intro kF kN; ground_anew kF; (have kX := kFor kF (by k_asm)); (try dsimp only [InitBack, CmpBack, LenBack, StrBack, BoolBack]); (try refine ⟨rfl, ?_⟩); (try (refine handed_on rfl ?_; try dsimp only)))
  k_with "LeaveK ref" => ((with_reducible show LeaveK _ _ _ _ _ (Value.ref _) _); k_dflt (refine' leaveK_ ?k1 ?k2 ?_; (case k1 => k_asm); (case k2 => k_asm); k_whole); intro kF kN; ground_anew kF; (have kX := kFor kF (by k_asm)); (try dsimp only [InitBack, CmpBack, LenBack, StrBack, BoolBack]); (try refine ⟨rfl, ?_⟩); (try (refine handed_on rfl ?_; try dsimp only)))
  k_with "eval ListComp" => (k_extra "my comp")
  k_with "CompSrc" => (k_extra "my src2")
  k_with "my spoon" => (try dsimp only [List.cons_append, List.nil_append]); k_dflt (show wpAny _ _ (call (Value.ref _) [Value.ref _, Value.int _ _] _) _ _ _); ((with_reducible rename Fr _ _ _ _ => lF'); (with_reducible rename News _ _ _ _ => lN'); (with_reducible rename UA _ _ => nU); (replace nU := ua_to lN' nU rfl); (have dS := spoonDel lN' hb1 (by apply DelAll.cons (by repeat (first | exact Del.head | apply Del.tail)); apply DelAll.cons (by repeat (first | exact Del.head | apply Del.tail)); exact DelAll.nil)); k_dflt (refine At.use (dk := 2) (uk := 20) (At.mk rfl rfl (by k_asm) (by k_asm) (by k_asm) rfl rfl (by (try simp only [depth_under_make, depth_under_kw, depth_in1, depth_deeper, depth_caller]); decide) (by show _ + 20 < cLine; units_room)) (spoon hb1 hi60 hl60 (by omega) (by omega) (by decide) (by decide) hbc) lF' (News.ofAll lN' dS) ?_); (intro v6 nw6 h6 tk6 F6 N6 hp6 O6); (obtain ⟨x6, t6, ob6, t66, rfl, x60, x61, rfl, hb6⟩ := hp6); (obtain ⟨N66, nU6⟩ := reassU0 lN' nU dS (two_mem (by k_mem) (by k_mem)) O6 N6 rfl); clear N6 O6 nU dS hb1; (dsimp only [List.cons_append, List.nil_append] at N66 nU6); (rename Obj.IsDictOf _ _ _ => hb1))
  k_with "my assign" => k_dflt (refine LCg.Assign_ListComp_U (F₀ := by k_asm) (by rfl) (by with_unfolding_all rfl) (by with_unfolding_all rfl) (by decide) (by rfl) (by decide) (by rfl) (by rfl) (by rfl) ?_)
  k_with "my src" => ((with_reducible rename Fr _ _ _ _ => lF'); (with_reducible rename News _ _ _ _ => lN'); (with_reducible rename UA _ _ => nU); (replace nU := ua_to lN' nU rfl); (rename IsRange _ _ _ _ _ _ _ _ => lR'); k_dflt (refine LCg.CompSrc.range rfl lF' lN' lR' (small_one (by decide) (by decide) (by omega) (by omega)) (rs_one _ (by omega)) (by rw [sizeLine_eq]; omega) ?_); intro g9; (refine' rest_ind (LitInv _ _ _ _ _ _ _) ?_ ?_ _ 0 [] _ (Nat.zero_add _) ⟨_, _, _, [], rfl, hb1, Int.le_refl _, by omega, .nil, rfl, noMem⟩); clear hb1; (intro i9 ys9 news9 v9 I9 oI9 C9 oC9 D9 m9 h9 tk9 E9 hi9 hv9 hP9 hC9 hx9 F9 N9 o39 ne9); (obtain ⟨ob9, at9, t9, ls9, rfl, hb1, ha90, ha91, hys9, hls9, hu9⟩ := hv9); (obtain ⟨t99, rfl⟩ := hP9); (replace nU := UA.threeB o39 ne9 nU rfl); clear lN' lF' lR'; rotate_left; (intro ys9 news9 hv9); (obtain ⟨ob9, at9, t9, ls9, rfl, hb1, ha90, ha91, hys9, hls9, hu9⟩ := hv9); clear lN' lF' lR'; (unfold LCg.FinA); (intro D9 h9 tk9 F9 N9 o19); (replace nU := UA.oneB o19 nU rfl); clear o19; (try dsimp only); rotate_left)
  k_with "my cend" => ((with_reducible rename News _ _ _ _ => lN'); (refine LCg.CompEnd.intro (by k_asm) lN' _ (by repeat (first | exact List.forall_mem_nil _ | refine List.forall_mem_cons.mpr ⟨by k_mem, ?_⟩ | (intro p9 hp9; (repeat (first | exact hp9 | apply List.mem_cons_of_mem))))) (by exact Off3.same o39 rfl) trivial ⟨_, _, _, ls9 ++ [_], rfl, hb1, by omega, by omega, IntsAre.append hys9 (.cons _ _ .nil), by rw [List.length_append, hls9]; rfl, ?_⟩); (intro z9 hz9); (rcases List.mem_append.mp hz9 with hz9 | hz9); (first | exact hu9 z9 hz9 | skip); (rw [List.mem_singleton.mp hz9]; exact lit_uni (by omega) (by omega) (by omega) (by omega)))
  k_with "my item" => k_dflt (refine' rules_item ?t9 ?i9 (by omega) (by omega) ?_; (case t9 => exact kun_topT (by k_asm) (by k_asm) (by k_is)); (case i9 => kde_strs)); intro r9 tr9 hr9
  k_with "my item2" => k_dflt (refine' menu_item ?t9 (by omega) ?i9 ?j9 ?_; (case t9 => exact News.isTup (by k_asm) (by k_mem)); (case i9 => (show _ < ((3 : Nat) : Int); omega)); (case j9 => (show 3 ≤ 100; omega))); intro nv9 hnv9
  k_with "my call" => k_dflt (show wpAny _ _ (call (Value.ref 808) [Value.ref _] _) _ _ _); ((with_reducible rename Fr _ _ _ _ => lF'); (with_reducible rename News _ _ _ _ => lN'); (with_reducible rename UA _ _ => nU); (replace nU := ua_to lN' nU rfl); k_dflt (refine At.useN (dk := 6) (uk := 120) (At.mk rfl rfl (by k_asm) (by k_asm) (by k_asm) rfl rfl (by (try simp only [depth_under_make, depth_under_kw, depth_in1, depth_deeper, depth_caller]); decide) (by show _ + 120 < cLine; units_room)) (lawClauseC hys9 hu9 (by omega)) lF' News.nil (News.isList lN' (by k_mem)) ?_); (intro v6 nw6 h6 tk6 F6 N6 hp6 O6 fr6); (obtain ⟨hp6, _⟩ := hp6); (rcases hp6 with ⟨e6, hv6⟩ | ⟨ts6, a6, vs6, n6, e6, hv6, m6, i6⟩); (all_goals subst hv6); (have N66 := O6.news0 lN'); clear N6 O6 fr6 lN'; rotate_left; (obtain ⟨N66, nU6, ne6⟩ := reassT lN' nU O6 N6 fr6 m6); clear N6 O6 fr6 lN' nU; rotate_left)
  iterate 137 (focus (first | (k_unfold; (try dsimp only)) | (k_end; kc_close) | walk1 | (dsimp only; walk1) | (leave1; (try dsimp only))))
  iterate 11 (focus (first | (k_unfold; (try dsimp only)) | (k_end; kc_close) | walk1 | (dsimp only; walk1) | (leave1; (try dsimp only))))
  rotate_left
  iterate 11 (focus (first | (k_unfold; (try dsimp only)) | (k_end; kc_close) | walk1 | (dsimp only; walk1) | (leave1; (try dsimp only))))

  · have nwc := Cov.ne ne6 ⟨cR9.all (by repeat (first | exact List.forall_mem_nil _ | refine List.forall_mem_cons.mpr ⟨⟨_, by k_mem⟩, ?_⟩)) (by intro p9 hp9; (repeat (first | exact hp9 | apply List.Mem.tail))), by intro p9 hp9; replace hp9 := hM9 p9 (List.mem_append_right _ hp9); (repeat (first | exact hp9 | apply List.Mem.tail))⟩
    clear ne6
    have nwd := noteNw hnv9 (by assumption) ⟨cR9.all (by repeat (first | exact List.forall_mem_nil _ | refine List.forall_mem_cons.mpr ⟨⟨_, by k_mem⟩, ?_⟩)) (by intro p9 hp9; (repeat (first | exact hp9 | apply List.Mem.tail))), by intro p9 hp9; replace hp9 := hM9 p9 (List.mem_append_right _ hp9); (repeat (first | exact hp9 | apply List.Mem.tail))⟩
    ((with_reducible rename Fr _ _ _ _ => lF'); (with_reducible rename News _ _ _ _ => lN'); (with_reducible rename UA _ _ => nU); (replace nU := ua_to lN' nU rfl))
    revert nU lN' lF'
    repeat (with_reducible rename News _ _ _ _ => z; clear z)
    repeat (with_reducible rename Fr _ _ _ _ => z; clear z)
    repeat (with_reducible rename IsRange _ _ _ _ _ _ _ _ => z; clear z)
    repeat (with_reducible rename LCg.Off3 _ _ _ _ => z; clear z)
    intro lF' lN' nU
    rename (∀ p ∈ _ ++ _, p ∈ _) => hM9
    rename CovR _ _ _ => cR9
    rename (_ = (_ : Addr × Obj) :: _) => hR9
    rename Obj.IsDictOf _ _ _ => hb1
    rename (∀ r ∈ _, RowOk r) => hrows
    rename (∀ x ∈ _, x ∈ uni) => hu9
    rename (List.length _ = Int.toNat _) => hls9
    rename IntsAre _ (rangeKs 0 _) => hfs
    rename (clauseL _ = some _) => e6
    rename IntsAre _ _ => i6
    revert i6
    rename IntsAre _ _ => hys9
    intro i6
    rename DatAll _ _ (List.map rowD _) => hst
    rename DatAll _ _ (List.map clD _) => hfc
    revert hst hfc
    rename DatAll _ _ (List.map clD _) => hpc
    rename DatAll _ _ (List.map rowD _) => hdue
    intro hfc hst
    rename (_ = List.map (fun _ => Value.none) _) => hps
    rename (List.length _ ≤ _) => hlen
    rename (_ ∈ [_, _, _]) => hnv9
    rename (_ ∈ rulesL) => hr9
    rename (∀ s', MidT _ _ _ _ _ _ _ _ s' → _) => hQ2
    rename Nw _ _ _ => nwd
    revert nwd
    rename Nw _ _ _ => nwc
    intro nwd
    have hl1 := hpc.length
    rw [List.length_map] at hl1
    have hl2 := congrArg List.length hps
    rw [List.length_map] at hl2
    have hl3 := hfc.length
    rw [List.length_map] at hl3
    have hl4 := hfs.length
    rw [rangeKs_length] at hl4
    have hl5 := hst.length
    rw [List.length_map] at hl5
    have hl6 := hdue.length
    rw [List.length_map] at hl6
    (with_reducible rename Fr _ _ _ _ => lF'); (with_reducible rename News _ _ _ _ => lN'); (with_reducible rename UA _ _ => nU); (replace nU := ua_to lN' nU rfl)
    have hc9 := covNews lN' cR9 (by repeat (first | exact List.forall_mem_nil _ | refine List.forall_mem_cons.mpr ⟨⟨_, by k_mem⟩, ?_⟩)) (by intro p9 hp9; (repeat (first | exact hp9 | apply List.Mem.tail)))
    subst hR9
    clear cR9 hM9
    obtain ⟨R9, hR9, N9, U9, cR9, hM9⟩ := foldU (M := _ ++ _) (S := [(AD.mkl _, _), (AD.m1 _, _), (AD.d1 _, _), (AD.co1 _, _), (AD.dc1 _, _), (AD.pc _, _), (AD.ps _, _), (_, LCg.lst _)]) lN' nU hc9 (by repeat (first | exact DelAll.nil | apply DelAll.cons (by repeat (first | exact Del.head | apply Del.tail)))) (by intro p9 hp9; (repeat (first | exact hp9 | apply List.Mem.tail)))
    clear hc9 lN' nU
    dsimp only [List.cons_append, List.nil_append] at N9 U9
    simp only [List.map_cons, List.map_nil] at cR9
    k_with_none
    k_with "call ref nil" => (k_extra "my call")
    k_with "LeaveK" => ((with_reducible show LeaveK _ _ _ _ _ (Value.int _ _) _); k_dflt (refine' leaveK_ ?k1 ?k2 ?_; (case k1 => k_asm); (case k2 => k_asm); k_whole); intro kF kN; ground_anew kF; (have kX := kFor kF (by k_asm)); (try dsimp only [InitBack, CmpBack, LenBack, StrBack, BoolBack]); (try refine ⟨rfl, ?_⟩); (try (refine handed_on rfl ?_; try dsimp only)))
    k_with "exec For Name Call cons nil" => (k_here; (rename Fr _ _ _ _ => lF'); (with_unfolding_all refine' For_invVF lF' ?k1 ?k2 ?_; (case k1 => exact rfl); (case k2 => exact rfl); k_whole))
    k_with "pyIter ref" => (k_extra "my iter")
    k_with "k_upd" => ((with_reducible rename UA _ _ => nU); refine' Repl.updU ?uhh9 ?ua9 ?ub9; (case ub9 => exact UA.to nU rfl); (case ua9 => repeat (first | exact Repl.head | apply Repl.tail)); (case uhh9 => k_mem))
    k_with "call ref" => (k_extra "my spoon")
    k_with "call ref" => (k_extra "my call")
    k_with "call ref cons nil" => (k_extra "my spoon")
    k_with "call ref cons nil" => (k_extra "my call")
    k_with "call ref cons" => (k_extra "my spoon")
    k_with "call ref cons" => (k_extra "my call")
    k_with "call type:range" => (k_here; (with_reducible rename Fr _ _ _ _ => lF'); (with_reducible rename News _ _ _ _ => lN'); (with_unfolding_all refine range1_rows lF' lN' ?_); intro _ _ _ _ _ _ _ _ _)
    k_with "exec Assign cons ListComp" => (k_extra "my assign")
    k_with "CompSrc" => (k_extra "my src")
    k_with "CompSrc BinOp" => (k_extra "my src")
    k_with "CompSrc BinOp cons" => (k_extra "my src")
    k_with "CompSrc BinOp cons ref" => (k_extra "my src")
    k_with "CompEnd int" => (k_extra "my cend")
    k_with "CompEnd" => (k_extra "my cend")
    k_with "FinA" => (k_extra "my fina")
    k_with "FinE" => (k_extra "my fine")
    k_with "subscriptTail" => (k_extra "my item")
    k_with "binaryOp Mult int int" => (k_dflt (refine PyProof.Rows.mul_int ?_ (IntMulOk.of_left (intBits_le_64 (by omega) (by omega)))))
    k_with "subscriptTail Name Call ref int" => (k_extra "my item")
    k_with "subscriptTail Tuple cons Call ref int" => (k_extra "my item2")
    k_with "subscriptTail Tuple Call ref int" => (k_extra "my item2")
    k_with "subscriptTail Tuple" => (k_extra "my item2")
    k_with "call type:tuple" => (k_extra "my tuple")
    k_with "call type:tuple cons nil" => (k_extra "my tuple")
    k_with "call builtin:list.append" => (k_here; (try dsimp only [List.cons_append, List.nil_append]); (with_reducible show wpAny _ _ (call (Value.builtin _) [Value.ref _, _]) _ _ _); k_dflt (refine' append_K ?k1 ?k2 ?k3 ?_ ?z; (case k1 => k_asm); (case k2 => k_asm); (case k3 => k_upd); (case z => (simp only [List.size_toArray, sizeLine_eq]; omega)); k_whole); intro h' F' N'; (try simp only [List.push_toArray] at N'); (try k_sweep))
    k_with "CompSrc Subscript" => (k_extra "my src")
    k_with "CompSrc Subscript cons" => (k_extra "my src")
    k_with "CompSrc Subscript nil ref" => (k_extra "my src")
    k_with "CompSrc Subscript nil" => (k_extra "my src")
    k_with "CompEnd ref" => (k_extra "my cend")
    k_with "compareOp NotEq ref ref" => (k_extra "my ne")
    k_with "binaryOp Mult ref int" => (k_extra "my mul")
    k_with "call builtin:len" => (k_extra "my len")
    k_with "call builtin:len cons nil" => (k_extra "my len")
    k_with "call type:list" => (k_extra "my list")
    k_with "call type:list cons nil" => (k_extra "my list")
    k_with "call type:enumerate" => (k_extra "my enum")
    k_with "call type:enumerate cons nil" => (k_extra "my enum")
    k_with "compareOp Eq ref ref" => (k_extra "my eq")
    k_with "subscriptTail BinOp Constant ref int" => (k_extra "my item0")
    k_with "subscriptTail BinOp Name Add List Constant ref int" => (k_extra "my item0")
    k_with "binaryOp Add ref ref" => (k_extra "my add")
    k_with "compareOp NotEq int int" => (k_extra "my nei")
    k_with "subscriptTail Name Constant ref int" => (k_extra "my item1")
    k_with "k_upd" => ((with_reducible rename NDA _ => nD); refine' Repl.upd ?ua9 ?ub9; (case ub9 => exact NDA.to nD rfl); (case ua9 => repeat (first | exact Repl.head | apply Repl.tail)))
    k_with "k_updF" => ((with_reducible rename NDA _ => nD); refine' ReplF.upd ?ua9 ?ub9; (case ub9 => exact NDA.to nD rfl); (case ua9 => repeat (first | exact ReplF.head | apply ReplF.tail)))
    k_with "CompRest" => (with_unfolding_all first
        | ((with_reducible rename NDA _ => nD); refine LCg.CompRest.succ ?_; intro v' I' oI' C' oC' D' m' h' tk' E' hv' hC' hx' F' N' off' ne'; (first | lcg_open hv' | (obtain ⟨t9', hv9'⟩ := hv'; subst hv9')); replace nD := NDA.threeB off' ne' nD rfl; clear off' ne')
        | refine LCg.CompRest.zero ?_)
    k_with "CompEnd" => ((with_reducible rename NDA _ => nD); (with_reducible rename News _ _ _ _ => lN'); (refine endND (by k_asm) lN' (NDA.to nD rfl) (by repeat (first | exact Del.head | apply Del.tail)) (by repeat (first | exact Del.head | apply Del.tail)) (by repeat (first | exact Del.head | apply Del.tail)) (by lcg_src) ?_); clear nD; intro nD)
    k_with "FinE" => ((with_reducible rename NDA _ => nD); (unfold LCg.FinE); intro D' h' tk' F' N' o1'; replace nD := NDA.oneB o1' nD rfl; clear o1'; (try simp only [List.nil_append, List.cons_append] at N'); (try dsimp only))
    k_with "SrcTup" => (k_extra "my srct")
    k_with "SrcUX" => (k_extra "my srcu")
    k_with "CompRestX" => (k_extra "my restx")
    k_with "CompEndX" => (k_extra "my endx")
    k_with "call builtin:list.append" => (k_here; (try dsimp only [List.cons_append, List.nil_append]); (with_reducible show wpAny _ _ (call (Value.builtin _) [Value.ref _, _]) _ _ _); k_dflt (refine' append_K ?k1 ?k2 ?k3 ?_ ?z; (case k1 => k_asm); (case k2 => k_asm); (case k3 => k_upd); (case z => exact Nat.le_of_ble_eq_true rfl); k_whole); intro h' F' N'; (try k_sweep))
    k_with "k_in" => (first | with_reducible assumption | exact Frag.In.keeps (by with_reducible assumption) (Fr.keep (by with_reducible assumption)))
    k_with "LeaveK" => ((with_reducible show LeaveK _ _ _ _ _ (Value.ref _) _); k_dflt (refine' leaveK_ ?k1 ?k2 ?_; (case k1 => k_asm); (case k2 => k_asm); k_whole); intro kF kN; ground_anew kF; (have kX := kFor kF (by k_asm)); (try dsimp only [InitBack, CmpBack, LenBack, StrBack, BoolBack]); (try refine ⟨rfl, ?_⟩); (try (refine handed_on rfl ?_; try dsimp only)))
    k_with "LeaveK ref" => ((with_reducible show LeaveK _ _ _ _ _ (Value.ref _) _); k_dflt (refine' leaveK_ ?k1 ?k2 ?_; (case k1 => k_asm); (case k2 => k_asm); k_whole); intro kF kN; ground_anew kF; (have kX := kFor kF (by k_asm)); (try dsimp only [InitBack, CmpBack, LenBack, StrBack, BoolBack]); (try refine ⟨rfl, ?_⟩); (try (refine handed_on rfl ?_; try dsimp only)))
    k_with "eval ListComp" => (k_extra "my comp")
    k_with "CompSrc" => (k_extra "my src2")
    k_with "my call" => k_dflt (show wpAny _ _ (call (Value.ref 406) [Value.ref _, _, Value.ref _, _] _) _ _ _); (with_reducible rename Fr _ _ _ _ => lF'); (with_reducible rename News _ _ _ _ => lN'); (with_reducible rename UA _ _ => nU); (replace nU := ua_to lN' nU rfl); k_dflt (refine' emitP_some ?zA e6 hys9 hu9 lF' lN' nU ?zD ?zM ?zL ?zQ ?z1 ?z2 ?zC ?_; (case zD => (repeat (first | exact DelAll.nil | apply DelAll.cons (by repeat (first | exact Del.head | apply Del.tail))))); (case zA => exact At.mk rfl rfl (by k_asm) (by k_asm) (by k_asm) rfl rfl (by (try simp only [depth_under_make, depth_under_kw, depth_in1, depth_deeper, depth_caller]); decide) (by show _ + 120 < cLine; units_room)); (case zM => (repeat (first | exact List.forall_mem_nil _ | refine List.forall_mem_cons.mpr ⟨by k_mem, ?_⟩))); (case zL => k_mem); (case zQ => exact .inl (News.isList lN' (by k_mem))); (case z1 => omega); (case z2 => omega); (case zC => exact cR9.all (by repeat (first | exact List.forall_mem_nil _ | refine List.forall_mem_cons.mpr ⟨⟨_, by k_mem⟩, ?_⟩)) (by intro p9 hp9; (repeat (first | exact hp9 | apply List.Mem.tail))))); intro a7 vs7 n7 n71 n72 h7 tk7 i7 F7 N7 U7 ne7; clear nU lN' lF'; dsimp only [SP, List.cons_append, List.nil_append] at N7 U7; (try dsimp only)
    k_with "my call" => k_dflt (show wpAny _ _ (call (Value.ref 406) [Value.ref _, _, Value.ref _, _] _) _ _ _); (with_reducible rename Fr _ _ _ _ => lF'); (with_reducible rename News _ _ _ _ => lN'); (with_reducible rename UA _ _ => nU); (replace nU := ua_to lN' nU rfl); k_dflt (refine' emitF_some ?zA ((tidyL_rev _ hu9).trans e6) hrv (fun x hx => hu9 x (by simpa using hx)) hr9 lF' lN' nU ?zD ?zM ?zL ?zQ ?z1 ?z2 ?z3 ?zC ?_; (case zD => (repeat (first | exact DelAll.nil | apply DelAll.cons (by repeat (first | exact Del.head | apply Del.tail))))); (case zA => exact At.mk rfl rfl (by k_asm) (by k_asm) (by k_asm) rfl rfl (by (try simp only [depth_under_make, depth_under_kw, depth_in1, depth_deeper, depth_caller]); decide) (by show _ + 120 < cLine; units_room)); (case zM => (repeat (first | exact List.forall_mem_nil _ | refine List.forall_mem_cons.mpr ⟨by k_mem, ?_⟩))); (case zL => k_mem); (case zQ => exact .inr (News.isTup lN' (by k_mem))); (case z1 => omega); (case z2 => omega); (case z3 => omega); (case zC => exact cR9.all (by repeat (first | exact List.forall_mem_nil _ | refine List.forall_mem_cons.mpr ⟨⟨_, by k_mem⟩, ?_⟩)) (by intro p9 hp9; (repeat (first | exact hp9 | apply List.Mem.tail))))); intro a8 vs8 n8 n81 n82 n83 n84 n85 u8 q8 te8 tp8 tn8 h8 tk8 i8 F8 N8 U8 na8 nu8 nq8; clear nU lN' lF'; dsimp only [SF, List.cons_append, List.nil_append] at N8 U8; (try dsimp only)
    k_with "my tuple" => (with_reducible show wpAny _ _ (call (Value.type _) [Value.ref _]) _ _ _); (rename IntsAre _ (List.reverse _ ++ _) => hrv); (have hrl := hrv.length); (rw [List.length_append, List.length_reverse] at hrl); k_dflt (refine' kde_tupleOf ?k1 ?k2 ?k3 ?k4 List.toList_toArray ?_; (case k1 => k_asm); (case k2 => k_asm); (case k3 => exact News.isList (by k_asm) (by k_mem)); (case k4 => (rw [List.size_toArray]; omega)); k_whole); intro D' h' F' N' l1; k_lt l1
    iterate 18 (focus (first | (k_unfold; (try dsimp only)) | (k_end; kc_close) | walk1 | (dsimp only; walk1) | (leave1; (try dsimp only))))
    have nw7 := Cov.ne ne7 ⟨cR9.all (by repeat (first | exact List.forall_mem_nil _ | refine List.forall_mem_cons.mpr ⟨⟨_, by k_mem⟩, ?_⟩)) (by intro p9 hp9; (repeat (first | exact hp9 | apply List.Mem.tail))), by intro p9 hp9; replace hp9 := hM9 p9 (List.mem_append_right _ hp9); (repeat (first | exact hp9 | apply List.Mem.tail))⟩
    clear ne7
    (with_reducible rename Fr _ _ _ _ => lF'); (with_reducible rename News _ _ _ _ => lN'); (with_reducible rename UA _ _ => nU); (replace nU := ua_to lN' nU rfl)
    have hc9 := covNews lN' cR9 (by repeat (first | exact List.forall_mem_nil _ | refine List.forall_mem_cons.mpr ⟨⟨_, by k_mem⟩, ?_⟩)) (by intro p9 hp9; (repeat (first | exact hp9 | apply List.Mem.tail)))
    subst hR9
    clear cR9 hM9
    obtain ⟨R9, hR9, N9, U9, cR9, hM9⟩ := foldU (M := _ ++ _) (S := [(AD.mkl _, _), (AD.m2 _, _), (AD.d2 _, _), (AD.co2 _, _), (AD.dc2 _, _), (AD.fc _, _), (AD.fs _, _), (AD.pf _, _), (AD.pd _, _), (AD.st _, _), (_, LCg.lst _)]) lN' nU hc9 (by repeat (first | exact DelAll.nil | apply DelAll.cons (by repeat (first | exact Del.head | apply Del.tail)))) (by intro p9 hp9; (repeat (first | exact hp9 | apply List.Mem.tail)))
    clear hc9 lN' nU
    dsimp only [List.cons_append, List.nil_append] at N9 U9
    simp only [List.map_cons, List.map_nil] at cR9
    iterate 36 (focus (first | (k_unfold; (try dsimp only)) | (k_end; kc_close) | walk1 | (dsimp only; walk1) | (leave1; (try dsimp only))))
    have nwa := Cov.ne na8 ⟨cR9.all (by repeat (first | exact List.forall_mem_nil _ | refine List.forall_mem_cons.mpr ⟨⟨_, by k_mem⟩, ?_⟩)) (by intro p9 hp9; (repeat (first | exact hp9 | apply List.Mem.tail))), by intro p9 hp9; replace hp9 := hM9 p9 (List.mem_append_right _ hp9); (repeat (first | exact hp9 | apply List.Mem.tail))⟩
    have nwu := Cov.ne nu8 ⟨cR9.all (by repeat (first | exact List.forall_mem_nil _ | refine List.forall_mem_cons.mpr ⟨⟨_, by k_mem⟩, ?_⟩)) (by intro p9 hp9; (repeat (first | exact hp9 | apply List.Mem.tail))), by intro p9 hp9; replace hp9 := hM9 p9 (List.mem_append_right _ hp9); (repeat (first | exact hp9 | apply List.Mem.tail))⟩
    have nwq := Cov.ne nq8 ⟨cR9.all (by repeat (first | exact List.forall_mem_nil _ | refine List.forall_mem_cons.mpr ⟨⟨_, by k_mem⟩, ?_⟩)) (by intro p9 hp9; (repeat (first | exact hp9 | apply List.Mem.tail))), by intro p9 hp9; replace hp9 := hM9 p9 (List.mem_append_right _ hp9); (repeat (first | exact hp9 | apply List.Mem.tail))⟩
    clear na8 nu8 nq8
    (with_reducible rename Fr _ _ _ _ => lF'); (with_reducible rename News _ _ _ _ => lN'); (with_reducible rename UA _ _ => nU); (replace nU := ua_to lN' nU rfl)
    have hc9 := covNews lN' cR9 (by repeat (first | exact List.forall_mem_nil _ | refine List.forall_mem_cons.mpr ⟨⟨_, by k_mem⟩, ?_⟩)) (by intro p9 hp9; (repeat (first | exact hp9 | apply List.Mem.tail)))
    subst hR9
    clear cR9 hM9
    obtain ⟨R9, hR9, N9, U9, cR9, hM9⟩ := foldU (M := _ ++ _) (S := [(AD.due _, _)]) lN' nU hc9 (by repeat (first | exact DelAll.nil | apply DelAll.cons (by repeat (first | exact Del.head | apply Del.tail)))) (by intro p9 hp9; (repeat (first | exact hp9 | apply List.Mem.tail)))
    clear hc9 lN' nU
    dsimp only [List.cons_append, List.nil_append] at N9 U9
    simp only [List.map_cons, List.map_nil] at cR9
    iterate 33 (focus (first | (k_unfold; (try dsimp only)) | (k_end; kc_close) | walk1 | (dsimp only; walk1) | (leave1; (try dsimp only))))
    rename (∀ p : Addr × Obj, p ∈ _ → p.1 < _) => lq9
    have nwr := Cov.lt lq9 ⟨cR9.all (by repeat (first | exact List.forall_mem_nil _ | refine List.forall_mem_cons.mpr ⟨⟨_, by k_mem⟩, ?_⟩)) (by intro p9 hp9; (repeat (first | exact hp9 | apply List.Mem.tail))), by intro p9 hp9; replace hp9 := hM9 p9 (List.mem_append_right _ hp9); (repeat (first | exact hp9 | apply List.Mem.tail))⟩
    clear lq9
    rename (∀ p : Addr × Obj, p ∈ _ → p.1 < _) => lq9
    have nwe := Cov.lt lq9 ⟨cR9.all (by repeat (first | exact List.forall_mem_nil _ | refine List.forall_mem_cons.mpr ⟨⟨_, by k_mem⟩, ?_⟩)) (by intro p9 hp9; (repeat (first | exact hp9 | apply List.Mem.tail))), by intro p9 hp9; replace hp9 := hM9 p9 (List.mem_append_right _ hp9); (repeat (first | exact hp9 | apply List.Mem.tail))⟩
    clear lq9 cR9
    rename (_ = emptyAt _ 0) => hem
    rename OwnOff _ (List.map _ _) => ho2
    revert ho2
    rename OwnOff _ _ => ho
    revert ho
    rename OwnOff _ _ => ht
    intro ho ho2
    subst hR9
    (with_reducible rename Fr _ _ _ _ => lF'); (with_reducible rename News _ _ _ _ => lN'); (with_reducible rename UA _ _ => nU); (replace nU := ua_to lN' nU rfl)
    obtain ⟨add9, row9, hrow9, hadd9, hrok9, D1, D2, D3, D4, hnw9⟩ := addOf2 lN' nU ho2 hdue hpc hfc hst (by repeat (first | exact List.Mem.head _ | apply List.Mem.tail)) (by repeat (first | exact List.Mem.head _ | apply List.Mem.tail)) (by repeat (first | exact List.Mem.head _ | apply List.Mem.tail)) (by repeat (first | exact List.Mem.head _ | apply List.Mem.tail)) hr9 (by repeat (first | exact List.Mem.head _ | apply List.Mem.tail)) (by repeat (first | exact List.Mem.head _ | apply List.Mem.tail)) (by repeat (first | exact List.Mem.head _ | apply List.Mem.tail)) i6 (by repeat (first | exact List.Mem.head _ | apply List.Mem.tail)) i7 (by repeat (first | exact List.Mem.head _ | apply List.Mem.tail)) i8 (by repeat (first | exact List.Mem.head _ | apply List.Mem.tail)) (by repeat (first | exact List.Mem.head _ | apply List.Mem.tail)) hnv9 (by repeat (first | exact List.Mem.head _ | apply List.Mem.tail)) (by decide +kernel) nwr nwe nwc nw7 nwa nwu nwq nwd
    have hrows9 : ∀ r ∈ _ ++ [row9], RowOk r := fun r hr => (List.mem_append.mp hr).elim (hrows r) fun h => by rw [List.mem_singleton.mp h]; exact hrok9
    refine' hQ2 _ (midT _ lF' lN' rfl rfl ?m1 ?m2 ?eH hadd9 ?etl ?eown hys9 hys9 (by omega) (lapOk hb1 ?eb0 ?eb1 hrows9 (by omega) D1 D2 D3 D4 hps hfs hl5 hrow9 hem) ho ho2 ht (fun q hq => hnw9 q hq) ?em)
    case m1 => k_mem
    case m2 => k_mem
    rename (_ = AD.cb _) => ecb
    case eH => dsimp only [AD.H]; rw [← ecb]; repeat (first | exact List.forall_mem_nil _ | refine List.forall_mem_cons.mpr ⟨by k_mem, ?_⟩)
    case etl => intro p9 hp9; (repeat apply List.Mem.tail); exact List.mem_append_left _ hp9
    case eown => intro p9 hp9; (repeat apply List.Mem.tail); exact List.mem_append_right _ hp9
    case eb0 => omega
    case eb1 => omega
    case em =>
      intro z hz
      have nn0 : ¬ z = Str.ofString "lap" := by rintro rfl; revert hz; decide
      have nn1 : ¬ z = Str.ofString "lits" := by rintro rfl; revert hz; decide
      have nn2 : ¬ z = Str.ofString "rule" := by rintro rfl; revert hz; decide
      have nn3 : ¬ z = Str.ofString "note" := by rintro rfl; revert hz; decide
      have nn4 : ¬ z = Str.ofString "given" := by rintro rfl; revert hz; decide
      have nn5 : ¬ z = Str.ofString "clause" := by rintro rfl; revert hz; decide
      have nn6 : ¬ z = Str.ofString "ends" := by rintro rfl; revert hz; decide
      (try dsimp only)
      repeat (first | rw [if_neg nn1] | rw [if_neg nn2] | rw [if_neg nn3] | rw [if_neg nn4] | rw [if_neg nn5])
      exact mLap_off hz
  · have nwd := noteNw hnv9 (by assumption) ⟨cR9.all (by repeat (first | exact List.forall_mem_nil _ | refine List.forall_mem_cons.mpr ⟨⟨_, by k_mem⟩, ?_⟩)) (by intro p9 hp9; (repeat (first | exact hp9 | apply List.Mem.tail))), by intro p9 hp9; replace hp9 := hM9 p9 (List.mem_append_right _ hp9); (repeat (first | exact hp9 | apply List.Mem.tail))⟩
    ((with_reducible rename Fr _ _ _ _ => lF'); (with_reducible rename News _ _ _ _ => lN'); (with_reducible rename UA _ _ => nU); (replace nU := ua_to lN' nU rfl))
    revert nU lN' lF'
    repeat (with_reducible rename News _ _ _ _ => z; clear z)
    repeat (with_reducible rename Fr _ _ _ _ => z; clear z)
    repeat (with_reducible rename IsRange _ _ _ _ _ _ _ _ => z; clear z)
    repeat (with_reducible rename LCg.Off3 _ _ _ _ => z; clear z)
    intro lF' lN' nU
    rename (∀ p ∈ _ ++ _, p ∈ _) => hM9
    rename CovR _ _ _ => cR9
    rename (_ = (_ : Addr × Obj) :: _) => hR9
    rename Obj.IsDictOf _ _ _ => hb1
    rename (∀ r ∈ _, RowOk r) => hrows
    rename (∀ x ∈ _, x ∈ uni) => hu9
    rename (List.length _ = Int.toNat _) => hls9
    rename IntsAre _ (rangeKs 0 _) => hfs
    rename (clauseL _ = none) => e6
    rename IntsAre _ _ => hys9
    rename DatAll _ _ (List.map rowD _) => hst
    rename DatAll _ _ (List.map clD _) => hfc
    revert hst hfc
    rename DatAll _ _ (List.map clD _) => hpc
    rename DatAll _ _ (List.map rowD _) => hdue
    intro hfc hst
    rename (_ = List.map (fun _ => Value.none) _) => hps
    rename (List.length _ ≤ _) => hlen
    rename (_ ∈ [_, _, _]) => hnv9
    rename (_ ∈ rulesL) => hr9
    rename (∀ s', MidT _ _ _ _ _ _ _ _ s' → _) => hQ2
    rename Nw _ _ _ => nwd
    have hl1 := hpc.length
    rw [List.length_map] at hl1
    have hl2 := congrArg List.length hps
    rw [List.length_map] at hl2
    have hl3 := hfc.length
    rw [List.length_map] at hl3
    have hl4 := hfs.length
    rw [rangeKs_length] at hl4
    have hl5 := hst.length
    rw [List.length_map] at hl5
    have hl6 := hdue.length
    rw [List.length_map] at hl6
    (with_reducible rename Fr _ _ _ _ => lF'); (with_reducible rename News _ _ _ _ => lN'); (with_reducible rename UA _ _ => nU); (replace nU := ua_to lN' nU rfl)
    have hc9 := covNews lN' cR9 (by repeat (first | exact List.forall_mem_nil _ | refine List.forall_mem_cons.mpr ⟨⟨_, by k_mem⟩, ?_⟩)) (by intro p9 hp9; (repeat (first | exact hp9 | apply List.Mem.tail)))
    subst hR9
    clear cR9 hM9
    obtain ⟨R9, hR9, N9, U9, cR9, hM9⟩ := foldU (M := _ ++ _) (S := [(AD.mkl _, _), (AD.m1 _, _), (AD.d1 _, _), (AD.co1 _, _), (AD.dc1 _, _), (AD.pc _, _), (AD.ps _, _), (_, LCg.lst _)]) lN' nU hc9 (by repeat (first | exact DelAll.nil | apply DelAll.cons (by repeat (first | exact Del.head | apply Del.tail)))) (by intro p9 hp9; (repeat (first | exact hp9 | apply List.Mem.tail)))
    clear hc9 lN' nU
    dsimp only [List.cons_append, List.nil_append] at N9 U9
    simp only [List.map_cons, List.map_nil] at cR9
    k_with_none
    k_with "call ref nil" => (k_extra "my call")
    k_with "LeaveK" => ((with_reducible show LeaveK _ _ _ _ _ (Value.int _ _) _); k_dflt (refine' leaveK_ ?k1 ?k2 ?_; (case k1 => k_asm); (case k2 => k_asm); k_whole); intro kF kN; ground_anew kF; (have kX := kFor kF (by k_asm)); (try dsimp only [InitBack, CmpBack, LenBack, StrBack, BoolBack]); (try refine ⟨rfl, ?_⟩); (try (refine handed_on rfl ?_; try dsimp only)))
    k_with "exec For Name Call cons nil" => (k_here; (rename Fr _ _ _ _ => lF'); (with_unfolding_all refine' For_invVF lF' ?k1 ?k2 ?_; (case k1 => exact rfl); (case k2 => exact rfl); k_whole))
    k_with "pyIter ref" => (k_extra "my iter")
    k_with "k_upd" => ((with_reducible rename UA _ _ => nU); refine' Repl.updU ?uhh9 ?ua9 ?ub9; (case ub9 => exact UA.to nU rfl); (case ua9 => repeat (first | exact Repl.head | apply Repl.tail)); (case uhh9 => k_mem))
    k_with "call ref" => (k_extra "my spoon")
    k_with "call ref" => (k_extra "my call")
    k_with "call ref cons nil" => (k_extra "my spoon")
    k_with "call ref cons nil" => (k_extra "my call")
    k_with "call ref cons" => (k_extra "my spoon")
    k_with "call ref cons" => (k_extra "my call")
    k_with "call type:range" => (k_here; (with_reducible rename Fr _ _ _ _ => lF'); (with_reducible rename News _ _ _ _ => lN'); (with_unfolding_all refine range1_rows lF' lN' ?_); intro _ _ _ _ _ _ _ _ _)
    k_with "exec Assign cons ListComp" => (k_extra "my assign")
    k_with "CompSrc" => (k_extra "my src")
    k_with "CompSrc BinOp" => (k_extra "my src")
    k_with "CompSrc BinOp cons" => (k_extra "my src")
    k_with "CompSrc BinOp cons ref" => (k_extra "my src")
    k_with "CompEnd int" => (k_extra "my cend")
    k_with "CompEnd" => (k_extra "my cend")
    k_with "FinA" => (k_extra "my fina")
    k_with "FinE" => (k_extra "my fine")
    k_with "subscriptTail" => (k_extra "my item")
    k_with "binaryOp Mult int int" => (k_dflt (refine PyProof.Rows.mul_int ?_ (IntMulOk.of_left (intBits_le_64 (by omega) (by omega)))))
    k_with "subscriptTail Name Call ref int" => (k_extra "my item")
    k_with "subscriptTail Tuple cons Call ref int" => (k_extra "my item2")
    k_with "subscriptTail Tuple Call ref int" => (k_extra "my item2")
    k_with "subscriptTail Tuple" => (k_extra "my item2")
    k_with "call type:tuple" => (k_extra "my tuple")
    k_with "call type:tuple cons nil" => (k_extra "my tuple")
    k_with "call builtin:list.append" => (k_here; (try dsimp only [List.cons_append, List.nil_append]); (with_reducible show wpAny _ _ (call (Value.builtin _) [Value.ref _, _]) _ _ _); k_dflt (refine' append_K ?k1 ?k2 ?k3 ?_ ?z; (case k1 => k_asm); (case k2 => k_asm); (case k3 => k_upd); (case z => (simp only [List.size_toArray, sizeLine_eq]; omega)); k_whole); intro h' F' N'; (try simp only [List.push_toArray] at N'); (try k_sweep))
    k_with "CompSrc Subscript" => (k_extra "my src")
    k_with "CompSrc Subscript cons" => (k_extra "my src")
    k_with "CompSrc Subscript nil ref" => (k_extra "my src")
    k_with "CompSrc Subscript nil" => (k_extra "my src")
    k_with "CompEnd ref" => (k_extra "my cend")
    k_with "compareOp NotEq ref ref" => (k_extra "my ne")
    k_with "binaryOp Mult ref int" => (k_extra "my mul")
    k_with "call builtin:len" => (k_extra "my len")
    k_with "call builtin:len cons nil" => (k_extra "my len")
    k_with "call type:list" => (k_extra "my list")
    k_with "call type:list cons nil" => (k_extra "my list")
    k_with "call type:enumerate" => (k_extra "my enum")
    k_with "call type:enumerate cons nil" => (k_extra "my enum")
    k_with "compareOp Eq ref ref" => (k_extra "my eq")
    k_with "subscriptTail BinOp Constant ref int" => (k_extra "my item0")
    k_with "subscriptTail BinOp Name Add List Constant ref int" => (k_extra "my item0")
    k_with "binaryOp Add ref ref" => (k_extra "my add")
    k_with "compareOp NotEq int int" => (k_extra "my nei")
    k_with "subscriptTail Name Constant ref int" => (k_extra "my item1")
    k_with "k_upd" => ((with_reducible rename NDA _ => nD); refine' Repl.upd ?ua9 ?ub9; (case ub9 => exact NDA.to nD rfl); (case ua9 => repeat (first | exact Repl.head | apply Repl.tail)))
    k_with "k_updF" => ((with_reducible rename NDA _ => nD); refine' ReplF.upd ?ua9 ?ub9; (case ub9 => exact NDA.to nD rfl); (case ua9 => repeat (first | exact ReplF.head | apply ReplF.tail)))
    k_with "CompRest" => (with_unfolding_all first
        | ((with_reducible rename NDA _ => nD); refine LCg.CompRest.succ ?_; intro v' I' oI' C' oC' D' m' h' tk' E' hv' hC' hx' F' N' off' ne'; (first | lcg_open hv' | (obtain ⟨t9', hv9'⟩ := hv'; subst hv9')); replace nD := NDA.threeB off' ne' nD rfl; clear off' ne')
        | refine LCg.CompRest.zero ?_)
    k_with "CompEnd" => ((with_reducible rename NDA _ => nD); (with_reducible rename News _ _ _ _ => lN'); (refine endND (by k_asm) lN' (NDA.to nD rfl) (by repeat (first | exact Del.head | apply Del.tail)) (by repeat (first | exact Del.head | apply Del.tail)) (by repeat (first | exact Del.head | apply Del.tail)) (by lcg_src) ?_); clear nD; intro nD)
    k_with "FinE" => ((with_reducible rename NDA _ => nD); (unfold LCg.FinE); intro D' h' tk' F' N' o1'; replace nD := NDA.oneB o1' nD rfl; clear o1'; (try simp only [List.nil_append, List.cons_append] at N'); (try dsimp only))
    k_with "SrcTup" => (k_extra "my srct")
    k_with "SrcUX" => (k_extra "my srcu")
    k_with "CompRestX" => (k_extra "my restx")
    k_with "CompEndX" => (k_extra "my endx")
    k_with "call builtin:list.append" => (k_here; (try dsimp only [List.cons_append, List.nil_append]); (with_reducible show wpAny _ _ (call (Value.builtin _) [Value.ref _, _]) _ _ _); k_dflt (refine' append_K ?k1 ?k2 ?k3 ?_ ?z; (case k1 => k_asm); (case k2 => k_asm); (case k3 => k_upd); (case z => exact Nat.le_of_ble_eq_true rfl); k_whole); intro h' F' N'; (try k_sweep))
    k_with "k_in" => (first | with_reducible assumption | exact Frag.In.keeps (by with_reducible assumption) (Fr.keep (by with_reducible assumption)))
    k_with "LeaveK" => ((with_reducible show LeaveK _ _ _ _ _ (Value.ref _) _); k_dflt (refine' leaveK_ ?k1 ?k2 ?_; (case k1 => k_asm); (case k2 => k_asm); k_whole); intro kF kN; ground_anew kF; (have kX := kFor kF (by k_asm)); (try dsimp only [InitBack, CmpBack, LenBack, StrBack, BoolBack]); (try refine ⟨rfl, ?_⟩); (try (refine handed_on rfl ?_; try dsimp only)))
    k_with "LeaveK ref" => ((with_reducible show LeaveK _ _ _ _ _ (Value.ref _) _); k_dflt (refine' leaveK_ ?k1 ?k2 ?_; (case k1 => k_asm); (case k2 => k_asm); k_whole); intro kF kN; ground_anew kF; (have kX := kFor kF (by k_asm)); (try dsimp only [InitBack, CmpBack, LenBack, StrBack, BoolBack]); (try refine ⟨rfl, ?_⟩); (try (refine handed_on rfl ?_; try dsimp only)))
    k_with "eval ListComp" => (k_extra "my comp")
    k_with "CompSrc" => (k_extra "my src2")
    k_with "my call" => k_dflt (show wpAny _ _ (call (Value.ref 406) [Value.ref _, _, Value.ref _, _] _) _ _ _); (with_reducible rename Fr _ _ _ _ => lF'); (with_reducible rename News _ _ _ _ => lN'); (with_reducible rename UA _ _ => nU); (replace nU := ua_to lN' nU rfl); k_dflt (refine' emitP_none ?zA e6 hys9 hu9 lF' lN' nU ?zD ?zM ?zL ?zQ ?z1 ?z2 ?_; (case zD => (repeat (first | exact DelAll.nil | apply DelAll.cons (by repeat (first | exact Del.head | apply Del.tail))))); (case zA => exact At.mk rfl rfl (by k_asm) (by k_asm) (by k_asm) rfl rfl (by (try simp only [depth_under_make, depth_under_kw, depth_in1, depth_deeper, depth_caller]); decide) (by show _ + 120 < cLine; units_room)); (case zM => (repeat (first | exact List.forall_mem_nil _ | refine List.forall_mem_cons.mpr ⟨by k_mem, ?_⟩))); (case zL => k_mem); (case zQ => exact .inl (News.isList lN' (by k_mem))); (case z1 => omega); (case z2 => omega)); intro h7 tk7 F7 N7 U7; clear nU lN' lF'; dsimp only [SP, List.cons_append, List.nil_append] at N7 U7; (try dsimp only)
    k_with "my call" => k_dflt (show wpAny _ _ (call (Value.ref 406) [Value.ref _, _, Value.ref _, _] _) _ _ _); (with_reducible rename Fr _ _ _ _ => lF'); (with_reducible rename News _ _ _ _ => lN'); (with_reducible rename UA _ _ => nU); (replace nU := ua_to lN' nU rfl); k_dflt (refine' emitF_none ?zA ((tidyL_rev _ hu9).trans e6) hrv (fun x hx => hu9 x (by simpa using hx)) hr9 lF' lN' nU ?zD ?zM ?zL ?zQ ?z1 ?z2 ?z3 ?_; (case zD => (repeat (first | exact DelAll.nil | apply DelAll.cons (by repeat (first | exact Del.head | apply Del.tail))))); (case zA => exact At.mk rfl rfl (by k_asm) (by k_asm) (by k_asm) rfl rfl (by (try simp only [depth_under_make, depth_under_kw, depth_in1, depth_deeper, depth_caller]); decide) (by show _ + 120 < cLine; units_room)); (case zM => (repeat (first | exact List.forall_mem_nil _ | refine List.forall_mem_cons.mpr ⟨by k_mem, ?_⟩))); (case zL => k_mem); (case zQ => exact .inr (News.isTup lN' (by k_mem))); (case z1 => omega); (case z2 => omega); (case z3 => omega)); intro h8 tk8 F8 N8 U8; clear nU lN' lF'; dsimp only [SF, List.cons_append, List.nil_append] at N8 U8; (try dsimp only)
    k_with "my tuple" => (with_reducible show wpAny _ _ (call (Value.type _) [Value.ref _]) _ _ _); (rename IntsAre _ (List.reverse _ ++ _) => hrv); (have hrl := hrv.length); (rw [List.length_append, List.length_reverse] at hrl); k_dflt (refine' kde_tupleOf ?k1 ?k2 ?k3 ?k4 List.toList_toArray ?_; (case k1 => k_asm); (case k2 => k_asm); (case k3 => exact News.isList (by k_asm) (by k_mem)); (case k4 => (rw [List.size_toArray]; omega)); k_whole); intro D' h' F' N' l1; k_lt l1
    iterate 18 (focus (first | (k_unfold; (try dsimp only)) | (k_end; kc_close) | walk1 | (dsimp only; walk1) | (leave1; (try dsimp only))))
    (with_reducible rename Fr _ _ _ _ => lF'); (with_reducible rename News _ _ _ _ => lN'); (with_reducible rename UA _ _ => nU); (replace nU := ua_to lN' nU rfl)
    have hc9 := covNews lN' cR9 (by repeat (first | exact List.forall_mem_nil _ | refine List.forall_mem_cons.mpr ⟨⟨_, by k_mem⟩, ?_⟩)) (by intro p9 hp9; (repeat (first | exact hp9 | apply List.Mem.tail)))
    subst hR9
    clear cR9 hM9
    obtain ⟨R9, hR9, N9, U9, cR9, hM9⟩ := foldU (M := _ ++ _) (S := [(AD.mkl _, _), (AD.m2 _, _), (AD.d2 _, _), (AD.co2 _, _), (AD.dc2 _, _), (AD.fc _, _), (AD.fs _, _), (AD.pf _, _), (AD.pd _, _), (AD.st _, _), (_, LCg.lst _)]) lN' nU hc9 (by repeat (first | exact DelAll.nil | apply DelAll.cons (by repeat (first | exact Del.head | apply Del.tail)))) (by intro p9 hp9; (repeat (first | exact hp9 | apply List.Mem.tail)))
    clear hc9 lN' nU
    dsimp only [List.cons_append, List.nil_append] at N9 U9
    simp only [List.map_cons, List.map_nil] at cR9
    iterate 46 (focus (first | (k_unfold; (try dsimp only)) | (k_end; kc_close) | walk1 | (dsimp only; walk1) | (leave1; (try dsimp only))))
    clear cR9
    rename (_ = emptyAt _ 0) => hem
    rename OwnOff _ (List.map _ _) => ho2
    revert ho2
    rename OwnOff _ _ => ho
    revert ho
    rename OwnOff _ _ => ht
    intro ho ho2
    rename (_ = AD.cb _) => ecb
    subst hR9
    (with_reducible rename Fr _ _ _ _ => lF'); (with_reducible rename News _ _ _ _ => lN'); (with_reducible rename UA _ _ => nU); (replace nU := ua_to lN' nU rfl)
    refine' hQ2 _ (midT (add := []) _ lF' lN' rfl rfl ?m1 ?m2 ?eH (noMem) ?etl ?eown hys9 hys9 (by omega) (lapOk0 hb1 ?eb0 ?eb1 hrows (by omega) hdue hpc hfc hst hps hfs hem) ho ho2 ht (noMem) ?em)
    case m1 => k_mem
    case m2 => k_mem
    case eH => dsimp only [AD.H]; rw [← ecb]; repeat (first | exact List.forall_mem_nil _ | refine List.forall_mem_cons.mpr ⟨by k_mem, ?_⟩)
    case etl => intro p9 hp9; (repeat apply List.Mem.tail); exact List.mem_append_left _ hp9
    case eown => intro p9 hp9; (repeat apply List.Mem.tail); exact List.mem_append_right _ hp9
    case eb0 => omega
    case eb1 => omega
    case em =>
      intro z hz
      have nn0 : ¬ z = Str.ofString "lap" := by rintro rfl; revert hz; decide
      have nn1 : ¬ z = Str.ofString "lits" := by rintro rfl; revert hz; decide
      have nn2 : ¬ z = Str.ofString "rule" := by rintro rfl; revert hz; decide
      have nn3 : ¬ z = Str.ofString "note" := by rintro rfl; revert hz; decide
      have nn4 : ¬ z = Str.ofString "given" := by rintro rfl; revert hz; decide
      have nn5 : ¬ z = Str.ofString "clause" := by rintro rfl; revert hz; decide
      have nn6 : ¬ z = Str.ofString "ends" := by rintro rfl; revert hz; decide
      (try dsimp only)
      repeat (first | rw [if_neg nn1] | rw [if_neg nn2] | rw [if_neg nn3] | rw [if_neg nn4] | rw [if_neg nn5])
      exact mLap_off hz

theorem all (x : C) : G x := hilb x ne ok1
end MD
set_option maxHeartbeats 40000000 in
theorem turnT {w : World} {p : Program} {loose : List Str} {mean : ExcName → Option Value} {mg mb : Str → Option Value} {h₀ base : Heap} {A₀ : Around} {L fa : Addr} {cd : Value} {sc : Scope} {B : List Stmt} {s : Shared} (hs : sc = lawParts.2) (hb : B = lapBody)
    (X0 : (top0.heap_1 w.params).In h₀) (T0 : Top p loose mean mg mb h₀) (K0 : Below A₀ base [] h₀) (hA0 : A₀ = callerA)
    (a : AD) (m₀ : Str → Option Value) (e : LapEnv (envOfC (Str.ofString "law") sc L fa cd) a m₀) (i : Nat) (c : LS) (tl : List (Addr × Obj)) (t : Tok) (u : Str → Option Value) (h : Heap) (tk : Nat) (own : List (Addr × Obj)) (hi : i < 9) (ok : LOk PySem.Challenge.rw_rg0215_01.row.prog w a i c tl) (nH : NDA (a.H c)) (ht : OwnOff tl a.A) (ho : OwnOff own a.A) (ho2 : OwnOff own (tl.map (·.1)))
    (F1 : Fr h₀ ((envOfC (Str.ofString "law") sc L fa cd)).locals h (mLap a (.int (i : Int) t) u m₀)) (N1 : News h₀ ((envOfC (Str.ofString "law") sc L fa cd)).locals h (a.H c ++ (tl ++ own))) (Q1 : Flow → Shared → Prop) (E1 : Value → Shared → Prop)
    (hQ1 : ∀ s', InvEndG h₀ ((envOfC (Str.ofString "law") sc L fa cd)).locals (LapJ PySem.Challenge.rw_rg0215_01.row.prog w a m₀ (i + 1)) own { s with heap := h, toks := tk } s' → Q1 Flow.next s') :
    wpAny (model PySem.Challenge.rw_rg0215_01.row.prog w) (Around.deeper callerA (envOfC (Str.ofString "law") sc L fa cd)) (execs B (envOfC (Str.ofString "law") sc L fa cd)) Q1 E1 { s with heap := h, toks := tk } := by
  conv at hs => rhs; whnf
  conv at hb => rhs; whnf
  subst hs hb hA0
  refine lapMid hQ1 (fun Q2 E2 hQ2 => ?mid) (fun s' hm => ?tests)
  case tests =>
    obtain ⟨h', tk', u', c', tl', ll, lg, ys, zs, ls, k1, k2, rfl, F2, N2, i1, i2, hls, ok2, hta, ho', ho2'⟩ := hm
    exact TS.all ⟨w, p, loose, mean, mg, mb, h₀, base, L, fa, cd, s, a, m₀, i, own, Q1, E1, h', tk', u', c', tl', ll, lg, ys, zs, ls, k1, k2⟩ _ _ rfl rfl X0 T0 K0 e F2 N2 hi i1 i2 hls ok2 hta ho' ho2' hQ1
  case mid =>
    obtain ⟨ob, at_, rows, due, dn, pc, pcn, ps, psn, fc, fcn, fs, fsn, st, stn, em, te, tp⟩ := c
    exact MD.all ⟨w, p, loose, mean, mg, mb, h₀, base, L, fa, cd, s, a, m₀, i, ob, at_, rows, due, dn, pc, pcn, ps, psn, fc, fcn, fs, fsn, st, stn, em, te, tp, tl, t, u, h, tk, own, Q2, E2⟩ _ _ rfl rfl X0 T0 K0 e hi ok nH ht ho ho2 F1 N1 hQ2
set_option genInjectivity false in
set_option genSizeOf false in
structure DN.C where
  w : World
  p : Program
  loose : List Str
  mean : ExcName → Option Value
  mg : Str → Option Value
  mb : Str → Option Value
  h₀ : Heap
  base : Heap
  L : Addr
  fa : Addr
  cd : Value
  s : Shared
  a : AD
  m₀ : Str → Option Value
  c : LS
  tl : List (Addr × Obj)
  u : Str → Option Value
  h : Heap
  tk : Nat
  Q1 : Flow → Shared → Prop
  E1 : Value → Shared → Prop
noncomputable def DN.G (x : DN.C) : Prop := ∀ (sc : Scope) (B : List Stmt),
    (sc = lawParts.2) →
    (B = lawEnd) →
    ((top0.heap_1 x.w.params).In x.h₀) →
    (Top x.p x.loose x.mean x.mg x.mb x.h₀) →
    (Below callerA x.base [] x.h₀) →
    (LapEnv (envOfC (Str.ofString "law") sc x.L x.fa x.cd) x.a x.m₀) →
    (NDA (x.a.H x.c)) →
    (Fr x.h₀ ((envOfC (Str.ofString "law") sc x.L x.fa x.cd)).locals x.h (mDone x.a x.u x.m₀)) →
    (News x.h₀ ((envOfC (Str.ofString "law") sc x.L x.fa x.cd)).locals x.h (x.a.H x.c ++ x.tl)) →
    (∀ h' tk' m', Fr x.h₀ ((envOfC (Str.ofString "law") sc x.L x.fa x.cd)).locals h' m' → x.Q1 (Flow.ret (Value.bool true)) { x.s with heap := h', toks := tk' }) →
    wpAny (model PySem.Challenge.rw_rg0215_01.row.prog x.w) (Around.deeper callerA (envOfC (Str.ofString "law") sc x.L x.fa x.cd)) (execs B (envOfC (Str.ofString "law") sc x.L x.fa x.cd)) x.Q1 x.E1 { x.s with heap := x.h, toks := x.tk }
theorem DN.ne : Nonempty DN.C := ⟨⟨Classical.choice ne_w, PySem.Challenge.pw_rg0215_01, [], fun _ => .none, fun _ => .none, fun _ => .none, {}, {}, 0, 0, .none, {}, Classical.choice ne_a, fun _ => .none, ⟨listOf #[] 0, 0, [], [], 0, [], 0, [], 0, [], 0, [], 0, [], 0, 0, 0, fun _ => 0⟩, [], fun _ => .none, {}, 0, fun _ _ => True, fun _ _ => True⟩⟩
noncomputable def DN.x : DN.C := @Classical.epsilon _ DN.ne fun x => ¬ DN.G x
namespace DN
noncomputable def w : World := x.w
noncomputable def p : Program := x.p
noncomputable def loose : List Str := x.loose
noncomputable def mean : ExcName → Option Value := x.mean
noncomputable def mg : Str → Option Value := x.mg
noncomputable def mb : Str → Option Value := x.mb
noncomputable def h₀ : Heap := x.h₀
noncomputable def base : Heap := x.base
noncomputable def L : Addr := x.L
noncomputable def fa : Addr := x.fa
noncomputable def cd : Value := x.cd
noncomputable def s : Shared := x.s
noncomputable def a : AD := x.a
noncomputable def m₀ : Str → Option Value := x.m₀
noncomputable def c : LS := x.c
noncomputable def tl : List (Addr × Obj) := x.tl
noncomputable def u : Str → Option Value := x.u
noncomputable def h : Heap := x.h
noncomputable def tk : Nat := x.tk
noncomputable def Q1 : Flow → Shared → Prop := x.Q1
noncomputable def E1 : Value → Shared → Prop := x.E1
set_option maxHeartbeats 40000000 in
theorem ok1 : ∀ (sc : Scope) (B : List Stmt),
    (sc = lawParts.2) →
    (B = lawEnd) →
    ((top0.heap_1 w.params).In h₀) →
    (Top p loose mean mg mb h₀) →
    (Below callerA base [] h₀) →
    (LapEnv (envOfC (Str.ofString "law") sc L fa cd) a m₀) →
    (NDA (a.H c)) →
    (Fr h₀ ((envOfC (Str.ofString "law") sc L fa cd)).locals h (mDone a u m₀)) →
    (News h₀ ((envOfC (Str.ofString "law") sc L fa cd)).locals h (a.H c ++ tl)) →
    (∀ h' tk' m', Fr h₀ ((envOfC (Str.ofString "law") sc L fa cd)).locals h' m' → Q1 (Flow.ret (Value.bool true)) { s with heap := h', toks := tk' }) →
    wpAny (model PySem.Challenge.rw_rg0215_01.row.prog w) (Around.deeper callerA (envOfC (Str.ofString "law") sc L fa cd)) (execs B (envOfC (Str.ofString "law") sc L fa cd)) Q1 E1 { s with heap := h, toks := tk } := by
  intro sc B hs hb X0 T0 K0 e nH F1 N1 hQ3
  conv at hs => rhs; whnf
  conv at hb => rhs; whnf
  subst hs hb
  revert X0
  k_fill
  intro X0
  k_with_none
  k_with "call ref nil" => (k_extra "my call")
  k_with "LeaveK" => ((with_reducible show LeaveK _ _ _ _ _ (Value.int _ _) _); k_dflt (refine' leaveK_ ?k1 ?k2 ?_; (case k1 => k_asm); (case k2 => k_asm); k_whole); intro kF kN; ground_anew kF; (have kX := kFor kF (by k_asm)); (try dsimp only [InitBack, CmpBack, LenBack, StrBack, BoolBack]); (try refine ⟨rfl, ?_⟩); (try (refine handed_on rfl ?_; try dsimp only)))
  k_with "exec For Name Call cons nil" => (k_here; (rename Fr _ _ _ _ => lF'); (with_unfolding_all refine' For_invVF lF' ?k1 ?k2 ?_; (case k1 => exact rfl); (case k2 => exact rfl); k_whole))
  k_with "pyIter ref" => (k_extra "my iter")
  k_with "k_upd" => ((with_reducible rename UA _ _ => nU); refine' Repl.updU ?uhh9 ?ua9 ?ub9; (case ub9 => exact UA.to nU rfl); (case ua9 => repeat (first | exact Repl.head | apply Repl.tail)); (case uhh9 => k_mem))
  k_with "call ref" => (k_extra "my spoon")
  k_with "call ref" => (k_extra "my call")
  k_with "call ref cons nil" => (k_extra "my spoon")
  k_with "call ref cons nil" => (k_extra "my call")
  k_with "call ref cons" => (k_extra "my spoon")
  k_with "call ref cons" => (k_extra "my call")
  k_with "call type:range" => (k_here; (with_reducible rename Fr _ _ _ _ => lF'); (with_reducible rename News _ _ _ _ => lN'); (with_unfolding_all refine range1_rows lF' lN' ?_); intro _ _ _ _ _ _ _ _ _)
  k_with "exec Assign cons ListComp" => (k_extra "my assign")
  k_with "CompSrc" => (k_extra "my src")
  k_with "CompSrc BinOp" => (k_extra "my src")
  k_with "CompSrc BinOp cons" => (k_extra "my src")
  k_with "CompSrc BinOp cons ref" => (k_extra "my src")
  k_with "CompEnd int" => (k_extra "my cend")
  k_with "CompEnd" => (k_extra "my cend")
  k_with "FinA" => (k_extra "my fina")
  k_with "FinE" => (k_extra "my fine")
  k_with "subscriptTail" => (k_extra "my item")
  k_with "binaryOp Mult int int" => (k_dflt (refine PyProof.Rows.mul_int ?_ (IntMulOk.of_left (intBits_le_64 (by omega) (by omega)))))
  k_with "subscriptTail Name Call ref int" => (k_extra "my item")
  k_with "subscriptTail Tuple cons Call ref int" => (k_extra "my item2")
  k_with "subscriptTail Tuple Call ref int" => (k_extra "my item2")
  k_with "subscriptTail Tuple" => (k_extra "my item2")
  k_with "call type:tuple" => (k_extra "my tuple")
  k_with "call type:tuple cons nil" => (k_extra "my tuple")
  k_with "call builtin:list.append" => (k_here; (try dsimp only [List.cons_append, List.nil_append]); (with_reducible show wpAny _ _ (call (Value.builtin _) [Value.ref _, _]) _ _ _); k_dflt (refine' append_K ?k1 ?k2 ?k3 ?_ ?z; (case k1 => k_asm); (case k2 => k_asm); (case k3 => k_upd); (case z => (simp only [List.size_toArray, sizeLine_eq]; omega)); k_whole); intro h' F' N'; (try simp only [List.push_toArray] at N'); (try k_sweep))
  k_with "CompSrc Subscript" => (k_extra "my src")
  k_with "CompSrc Subscript cons" => (k_extra "my src")
  k_with "CompSrc Subscript nil ref" => (k_extra "my src")
  k_with "CompSrc Subscript nil" => (k_extra "my src")
  k_with "CompEnd ref" => (k_extra "my cend")
  k_with "compareOp NotEq ref ref" => (k_extra "my ne")
  k_with "binaryOp Mult ref int" => (k_extra "my mul")
  k_with "call builtin:len" => (k_extra "my len")
  k_with "call builtin:len cons nil" => (k_extra "my len")
  k_with "call type:list" => (k_extra "my list")
  k_with "call type:list cons nil" => (k_extra "my list")
  k_with "call type:enumerate" => (k_extra "my enum")
  k_with "call type:enumerate cons nil" => (k_extra "my enum")
  k_with "compareOp Eq ref ref" => (k_extra "my eq")
  k_with "subscriptTail BinOp Constant ref int" => (k_extra "my item0")
  k_with "subscriptTail BinOp Name Add List Constant ref int" => (k_extra "my item0")
  k_with "binaryOp Add ref ref" => (k_extra "my add")
  k_with "compareOp NotEq int int" => (k_extra "my nei")
  k_with "subscriptTail Name Constant ref int" => (k_extra "my item1")
  k_with "k_upd" => ((with_reducible rename NDA _ => nD); refine' Repl.upd ?ua9 ?ub9; (case ub9 => exact NDA.to nD rfl); (case ua9 => repeat (first | exact Repl.head | apply Repl.tail)))
  k_with "k_updF" => ((with_reducible rename NDA _ => nD); refine' ReplF.upd ?ua9 ?ub9; (case ub9 => exact NDA.to nD rfl); (case ua9 => repeat (first | exact ReplF.head | apply ReplF.tail)))
  k_with "CompRest" => (with_unfolding_all first
      | ((with_reducible rename NDA _ => nD); refine LCg.CompRest.succ ?_; intro v' I' oI' C' oC' D' m' h' tk' E' hv' hC' hx' F' N' off' ne'; (first | lcg_open hv' | (obtain ⟨t9', hv9'⟩ := hv'; subst hv9')); replace nD := NDA.threeB off' ne' nD rfl; clear off' ne')
      | refine LCg.CompRest.zero ?_)
  k_with "CompEnd" => ((with_reducible rename NDA _ => nD); (with_reducible rename News _ _ _ _ => lN'); (refine endND (by k_asm) lN' (NDA.to nD rfl) (by repeat (first | exact Del.head | apply Del.tail)) (by repeat (first | exact Del.head | apply Del.tail)) (by repeat (first | exact Del.head | apply Del.tail)) (by lcg_src) ?_); clear nD; intro nD)
  k_with "FinE" => ((with_reducible rename NDA _ => nD); (unfold LCg.FinE); intro D' h' tk' F' N' o1'; replace nD := NDA.oneB o1' nD rfl; clear o1'; (try simp only [List.nil_append, List.cons_append] at N'); (try dsimp only))
  k_with "SrcTup" => (k_extra "my srct")
  k_with "SrcUX" => (k_extra "my srcu")
  k_with "CompRestX" => (k_extra "my restx")
  k_with "CompEndX" => (k_extra "my endx")
  k_with "call builtin:list.append" => (k_here; (try dsimp only [List.cons_append, List.nil_append]); (with_reducible show wpAny _ _ (call (Value.builtin _) [Value.ref _, _]) _ _ _); k_dflt (refine' append_K ?k1 ?k2 ?k3 ?_ ?z; (case k1 => k_asm); (case k2 => k_asm); (case k3 => k_upd); (case z => exact Nat.le_of_ble_eq_true rfl); k_whole); intro h' F' N'; (try k_sweep))
  k_with "k_in" => (first | with_reducible assumption | exact Frag.In.keeps (by with_reducible assumption) (Fr.keep (by with_reducible assumption)))
  k_with "LeaveK" => ((with_reducible show LeaveK _ _ _ _ _ (Value.ref _) _); k_dflt (refine' leaveK_ ?k1 ?k2 ?_; (case k1 => k_asm); (case k2 => k_asm); k_whole); intro kF kN; ground_anew kF; (have kX := kFor kF (by k_asm)); (try dsimp only [InitBack, CmpBack, LenBack, StrBack, BoolBack]); (try refine ⟨rfl, ?_⟩); (try (refine handed_on rfl ?_; try dsimp only)))
  k_with "LeaveK ref" => ((with_reducible show LeaveK _ _ _ _ _ (Value.ref _) _); k_dflt (refine' leaveK_ ?k1 ?k2 ?_; (case k1 => k_asm); (case k2 => k_asm); k_whole); intro kF kN; ground_anew kF; (have kX := kFor kF (by k_asm)); (try dsimp only [InitBack, CmpBack, LenBack, StrBack, BoolBack]); (try refine ⟨rfl, ?_⟩); (try (refine handed_on rfl ?_; try dsimp only)))
  k_with "eval ListComp" => (k_extra "my comp")
  k_with "CompSrc" => (k_extra "my src2")
  w_on
  have N2 : News _ _ _ (a.H c) := fun q hq => N1 q (List.mem_append_left _ hq)
  clear N1
  obtain ⟨_, _, _, _, _, _, ecth, _, ecthO, _⟩ := e
  dsimp only [AD.H] at nH N2
  injection ecth with ecth
  rw [← ecth] at nH N2
  obtain ⟨N3, nD3⟩ := delT (T := [(AD.mkl _, _), (AD.m1 _, _), (AD.d1 _, _), (AD.te1 _, _), (AD.wa1 _, _), (AD.m2 _, _), (AD.d2 _, _), (AD.te2 _, _), (AD.wa2 _, _), (AD.th _, _), (_, AD.cthO _), (AD.pf _, _), (AD.pd _, _), (AD.nm _, _), (AD.co1 _, _), (AD.dc1 _, _), (AD.co2 _, _), (AD.dc2 _, _)]) N2 nH (by repeat (first | apply DelT.cons (by repeat (first | exact Del.head | apply Del.tail)) | exact DelT.nil (by repeat (first | exact Suf.refl | apply Suf.tail))))
  clear N2 nH
  k_with_none
  k_with "call ref nil" => (k_extra "my call")
  k_with "LeaveK" => ((with_reducible show LeaveK _ _ _ _ _ (Value.int _ _) _); k_dflt (refine' leaveK_ ?k1 ?k2 ?_; (case k1 => k_asm); (case k2 => k_asm); k_whole); intro kF kN; ground_anew kF; (have kX := kFor kF (by k_asm)); (try dsimp only [InitBack, CmpBack, LenBack, StrBack, BoolBack]); (try refine ⟨rfl, ?_⟩); (try (refine handed_on rfl ?_; try dsimp only)))
  k_with "exec For Name Call cons nil" => (k_here; (rename Fr _ _ _ _ => lF'); (with_unfolding_all refine' For_invVF lF' ?k1 ?k2 ?_; (case k1 => exact rfl); (case k2 => exact rfl); k_whole))
  k_with "pyIter ref" => (k_extra "my iter")
  k_with "k_upd" => ((with_reducible rename UA _ _ => nU); refine' Repl.updU ?uhh9 ?ua9 ?ub9; (case ub9 => exact UA.to nU rfl); (case ua9 => repeat (first | exact Repl.head | apply Repl.tail)); (case uhh9 => k_mem))
  k_with "call ref" => (k_extra "my spoon")
  k_with "call ref" => (k_extra "my call")
  k_with "call ref cons nil" => (k_extra "my spoon")
  k_with "call ref cons nil" => (k_extra "my call")
  k_with "call ref cons" => (k_extra "my spoon")
  k_with "call ref cons" => (k_extra "my call")
  k_with "call type:range" => (k_here; (with_reducible rename Fr _ _ _ _ => lF'); (with_reducible rename News _ _ _ _ => lN'); (with_unfolding_all refine range1_rows lF' lN' ?_); intro _ _ _ _ _ _ _ _ _)
  k_with "exec Assign cons ListComp" => (k_extra "my assign")
  k_with "CompSrc" => (k_extra "my src")
  k_with "CompSrc BinOp" => (k_extra "my src")
  k_with "CompSrc BinOp cons" => (k_extra "my src")
  k_with "CompSrc BinOp cons ref" => (k_extra "my src")
  k_with "CompEnd int" => (k_extra "my cend")
  k_with "CompEnd" => (k_extra "my cend")
  k_with "FinA" => (k_extra "my fina")
  k_with "FinE" => (k_extra "my fine")
  k_with "subscriptTail" => (k_extra "my item")
  k_with "binaryOp Mult int int" => (k_dflt (refine PyProof.Rows.mul_int ?_ (IntMulOk.of_left (intBits_le_64 (by omega) (by omega)))))
  k_with "subscriptTail Name Call ref int" => (k_extra "my item")
  k_with "subscriptTail Tuple cons Call ref int" => (k_extra "my item2")
  k_with "subscriptTail Tuple Call ref int" => (k_extra "my item2")
  k_with "subscriptTail Tuple" => (k_extra "my item2")
  k_with "call type:tuple" => (k_extra "my tuple")
  k_with "call type:tuple cons nil" => (k_extra "my tuple")
  k_with "call builtin:list.append" => (k_here; (try dsimp only [List.cons_append, List.nil_append]); (with_reducible show wpAny _ _ (call (Value.builtin _) [Value.ref _, _]) _ _ _); k_dflt (refine' append_K ?k1 ?k2 ?k3 ?_ ?z; (case k1 => k_asm); (case k2 => k_asm); (case k3 => k_upd); (case z => (simp only [List.size_toArray, sizeLine_eq]; omega)); k_whole); intro h' F' N'; (try simp only [List.push_toArray] at N'); (try k_sweep))
  k_with "CompSrc Subscript" => (k_extra "my src")
  k_with "CompSrc Subscript cons" => (k_extra "my src")
  k_with "CompSrc Subscript nil ref" => (k_extra "my src")
  k_with "CompSrc Subscript nil" => (k_extra "my src")
  k_with "CompEnd ref" => (k_extra "my cend")
  k_with "compareOp NotEq ref ref" => (k_extra "my ne")
  k_with "binaryOp Mult ref int" => (k_extra "my mul")
  k_with "call builtin:len" => (k_extra "my len")
  k_with "call builtin:len cons nil" => (k_extra "my len")
  k_with "call type:list" => (k_extra "my list")
  k_with "call type:list cons nil" => (k_extra "my list")
  k_with "call type:enumerate" => (k_extra "my enum")
  k_with "call type:enumerate cons nil" => (k_extra "my enum")
  k_with "compareOp Eq ref ref" => (k_extra "my eq")
  k_with "subscriptTail BinOp Constant ref int" => (k_extra "my item0")
  k_with "subscriptTail BinOp Name Add List Constant ref int" => (k_extra "my item0")
  k_with "binaryOp Add ref ref" => (k_extra "my add")
  k_with "compareOp NotEq int int" => (k_extra "my nei")
  k_with "subscriptTail Name Constant ref int" => (k_extra "my item1")
  k_with "k_upd" => ((with_reducible rename NDA _ => nD); refine' Repl.upd ?ua9 ?ub9; (case ub9 => exact NDA.to nD rfl); (case ua9 => repeat (first | exact Repl.head | apply Repl.tail)))
  k_with "k_updF" => ((with_reducible rename NDA _ => nD); refine' ReplF.upd ?ua9 ?ub9; (case ub9 => exact NDA.to nD rfl); (case ua9 => repeat (first | exact ReplF.head | apply ReplF.tail)))
  k_with "CompRest" => (with_unfolding_all first
      | ((with_reducible rename NDA _ => nD); refine LCg.CompRest.succ ?_; intro v' I' oI' C' oC' D' m' h' tk' E' hv' hC' hx' F' N' off' ne'; (first | lcg_open hv' | (obtain ⟨t9', hv9'⟩ := hv'; subst hv9')); replace nD := NDA.threeB off' ne' nD rfl; clear off' ne')
      | refine LCg.CompRest.zero ?_)
  k_with "CompEnd" => ((with_reducible rename NDA _ => nD); (with_reducible rename News _ _ _ _ => lN'); (refine endND (by k_asm) lN' (NDA.to nD rfl) (by repeat (first | exact Del.head | apply Del.tail)) (by repeat (first | exact Del.head | apply Del.tail)) (by repeat (first | exact Del.head | apply Del.tail)) (by lcg_src) ?_); clear nD; intro nD)
  k_with "FinE" => ((with_reducible rename NDA _ => nD); (unfold LCg.FinE); intro D' h' tk' F' N' o1'; replace nD := NDA.oneB o1' nD rfl; clear o1'; (try simp only [List.nil_append, List.cons_append] at N'); (try dsimp only))
  k_with "SrcTup" => (k_extra "my srct")
  k_with "SrcUX" => (k_extra "my srcu")
  k_with "CompRestX" => (k_extra "my restx")
  k_with "CompEndX" => (k_extra "my endx")
  k_with "call builtin:list.append" => (k_here; (try dsimp only [List.cons_append, List.nil_append]); (with_reducible show wpAny _ _ (call (Value.builtin _) [Value.ref _, _]) _ _ _); k_dflt (refine' append_K ?k1 ?k2 ?k3 ?_ ?z; (case k1 => k_asm); (case k2 => k_asm); (case k3 => k_upd); (case z => exact Nat.le_of_ble_eq_true rfl); k_whole); intro h' F' N'; (try k_sweep))
  k_with "k_in" => (first | with_reducible assumption | exact Frag.In.keeps (by with_reducible assumption) (Fr.keep (by with_reducible assumption)))
  k_with "LeaveK" => ((with_reducible show LeaveK _ _ _ _ _ (Value.ref _) _); k_dflt (refine' leaveK_ ?k1 ?k2 ?_; (case k1 => k_asm); (case k2 => k_asm); k_whole); intro kF kN; ground_anew kF; (have kX := kFor kF (by k_asm)); (try dsimp only [InitBack, CmpBack, LenBack, StrBack, BoolBack]); (try refine ⟨rfl, ?_⟩); (try (refine handed_on rfl ?_; try dsimp only)))
  k_with "LeaveK ref" => ((with_reducible show LeaveK _ _ _ _ _ (Value.ref _) _); k_dflt (refine' leaveK_ ?k1 ?k2 ?_; (case k1 => k_asm); (case k2 => k_asm); k_whole); intro kF kN; ground_anew kF; (have kX := kFor kF (by k_asm)); (try dsimp only [InitBack, CmpBack, LenBack, StrBack, BoolBack]); (try refine ⟨rfl, ?_⟩); (try (refine handed_on rfl ?_; try dsimp only)))
  k_with "eval ListComp" => (k_extra "my comp")
  k_with "CompSrc" => (k_extra "my src2")
  k_with "my comp" => (with_reducible show wpAny _ _ (eval (Expr.ListComp (Expr.Tuple _ _ _) _ _ _) _) _ _ _); k_dflt (refine LCg.ListComp_U (F₀ := by k_asm) (by with_unfolding_all rfl) (by decide) (by rfl) (by decide) (by rfl) ?_)
  k_with "my src2" => k_dflt (refine LCg.CompSrc.ledger (by rfl) (by k_asm) (by k_asm) (by k_mem) (by exact Nat.le_of_ble_eq_true rfl) ?_; intro g'; lcg_lit)
  iterate 142 (focus (first | (k_unfold; (try dsimp only)) | (k_end; kc_close) | walk1 | (dsimp only; walk1) | (leave1; (try dsimp only))))
  exact hQ3 _ _ _ (by k_asm)

theorem all (x : C) : G x := hilb x ne ok1
end DN
set_option maxHeartbeats 40000000 in
theorem doneT {w : World} {p : Program} {loose : List Str} {mean : ExcName → Option Value} {mg mb : Str → Option Value} {h₀ base : Heap} {A₀ : Around} {L fa : Addr} {cd : Value} {sc : Scope} {B : List Stmt} {s : Shared} (hs : sc = lawParts.2) (hb : B = lawEnd)
    (X0 : (top0.heap_1 w.params).In h₀) (T0 : Top p loose mean mg mb h₀) (K0 : Below A₀ base [] h₀) (hA0 : A₀ = callerA)
    (a : AD) (m₀ : Str → Option Value) (e : LapEnv (envOfC (Str.ofString "law") sc L fa cd) a m₀) (c : LS) (tl : List (Addr × Obj)) (u : Str → Option Value) (h : Heap) (tk : Nat) (nH : NDA (a.H c))
    (F1 : Fr h₀ ((envOfC (Str.ofString "law") sc L fa cd)).locals h (mDone a u m₀)) (N1 : News h₀ ((envOfC (Str.ofString "law") sc L fa cd)).locals h (a.H c ++ tl)) (Q3 : Flow → Shared → Prop) (E3 : Value → Shared → Prop)
    (hQ3 : ∀ h' tk' m', Fr h₀ ((envOfC (Str.ofString "law") sc L fa cd)).locals h' m' → Q3 (Flow.ret (Value.bool true)) { s with heap := h', toks := tk' }) :
    wpAny (model PySem.Challenge.rw_rg0215_01.row.prog w) (Around.deeper callerA (envOfC (Str.ofString "law") sc L fa cd)) (execs B (envOfC (Str.ofString "law") sc L fa cd)) Q3 E3 { s with heap := h, toks := tk } := by
  subst hA0
  exact DN.all ⟨w, p, loose, mean, mg, mb, h₀, base, L, fa, cd, s, a, m₀, c, tl, u, h, tk, Q3, E3⟩ _ _ hs hb X0 T0 K0 e nH F1 N1 hQ3

local macro_rules | `(tactic| k_qdec) => `(tactic| decide +kernel)
set_option maxHeartbeats 40000000 in
theorem main : PySem.Challenge.rw_rg0215_01.Holds := Mine.top0 (by
  k_with_none
  k_with "k_upd" => ((with_reducible rename NDA _ => nD); refine' Repl.upd ?ua9 ?ub9; (case ub9 => exact NDA.to nD rfl); (case ua9 => repeat (first | exact Repl.head | apply Repl.tail)))
  k_with "k_updF" => ((with_reducible rename NDA _ => nD); refine' ReplF.upd ?ua9 ?ub9; (case ub9 => exact NDA.to nD rfl); (case ua9 => repeat (first | exact ReplF.head | apply ReplF.tail)))
  k_with "CompRest" => (with_unfolding_all first
      | ((with_reducible rename NDA _ => nD); refine LCg.CompRest.succ ?_; intro v' I' oI' C' oC' D' m' h' tk' E' hv' hC' hx' F' N' off' ne'; (first | lcg_open hv' | (obtain ⟨t9', hv9'⟩ := hv'; subst hv9')); replace nD := NDA.threeB off' ne' nD rfl; clear off' ne')
      | refine LCg.CompRest.zero ?_)
  k_with "CompEnd" => ((with_reducible rename NDA _ => nD); (with_reducible rename News _ _ _ _ => lN'); (refine endND (by k_asm) lN' (NDA.to nD rfl) (by repeat (first | exact Del.head | apply Del.tail)) (by repeat (first | exact Del.head | apply Del.tail)) (by repeat (first | exact Del.head | apply Del.tail)) (by lcg_src) ?_); clear nD; intro nD)
  k_with "FinE" => ((with_reducible rename NDA _ => nD); (unfold LCg.FinE); intro D' h' tk' F' N' o1'; replace nD := NDA.oneB o1' nD rfl; clear o1'; (try simp only [List.nil_append, List.cons_append] at N'); (try dsimp only))
  k_with "call ref" => (k_extra "my call")
  k_with "call ref nil" => (k_extra "my call")
  k_with "eval ListComp" => (k_extra "my comp")
  k_with "SrcTup" => (k_extra "my srct")
  k_with "SrcUX" => (k_extra "my srcu")
  k_with "CompRestX" => (k_extra "my restx")
  k_with "CompEndX" => (k_extra "my endx")
  k_with "call builtin:list.append" => (k_here; (try dsimp only [List.cons_append, List.nil_append]); (with_reducible show wpAny _ _ (call (Value.builtin _) [Value.ref _, _]) _ _ _); k_dflt (refine' append_K ?k1 ?k2 ?k3 ?_ ?z; (case k1 => k_asm); (case k2 => k_asm); (case k3 => k_upd); (case z => exact Nat.le_of_ble_eq_true rfl); k_whole); intro h' F' N'; (try k_sweep))
  k_with "LeaveK" => ((with_reducible show LeaveK _ _ _ _ _ (Value.int _ _) _); k_dflt (refine' leaveK_ ?k1 ?k2 ?_; (case k1 => k_asm); (case k2 => k_asm); k_whole); intro kF kN; ground_anew kF; (have kX := kFor kF (by k_asm)); (try dsimp only [InitBack, CmpBack, LenBack, StrBack, BoolBack]); (try refine ⟨rfl, ?_⟩); (try (refine handed_on rfl ?_; try dsimp only)))
  k_with "call ref cons" => (k_extra "my call")
  k_with "call ref cons nil" => (k_extra "my call")
  k_with "k_in" => (first | with_reducible assumption | exact Frag.In.keeps (by with_reducible assumption) (Fr.keep (by with_reducible assumption)))
  k_with "CompSrc" => (k_extra "my src2")
  k_with "exec For Name Call cons nil" => (k_here; (rename Fr _ _ _ _ => lF'); (with_unfolding_all refine' For_invVF lF' ?k1 ?k2 ?_; (case k1 => exact rfl); (case k2 => exact rfl); k_whole))
  k_with "call type:range" => (k_here; (with_reducible rename Fr _ _ _ _ => lF'); (with_reducible rename News _ _ _ _ => lN'); (with_unfolding_all refine range1_rows lF' lN' ?_); intro _ _ _ _ _ _ _ _ _)
  k_with "pyIter ref" => (k_extra "my iter")
  w_on
  k_go0
  all_goals try k_fold
  k_with_none
  k_with "k_upd" => ((with_reducible rename NDA _ => nD); refine' Repl.upd ?ua9 ?ub9; (case ub9 => exact NDA.to nD rfl); (case ua9 => repeat (first | exact Repl.head | apply Repl.tail)))
  k_with "k_updF" => ((with_reducible rename NDA _ => nD); refine' ReplF.upd ?ua9 ?ub9; (case ub9 => exact NDA.to nD rfl); (case ua9 => repeat (first | exact ReplF.head | apply ReplF.tail)))
  k_with "CompRest" => (with_unfolding_all first
      | ((with_reducible rename NDA _ => nD); refine LCg.CompRest.succ ?_; intro v' I' oI' C' oC' D' m' h' tk' E' hv' hC' hx' F' N' off' ne'; (first | lcg_open hv' | (obtain ⟨t9', hv9'⟩ := hv'; subst hv9')); replace nD := NDA.threeB off' ne' nD rfl; clear off' ne')
      | refine LCg.CompRest.zero ?_)
  k_with "CompEnd" => ((with_reducible rename NDA _ => nD); (with_reducible rename News _ _ _ _ => lN'); (refine endND (by k_asm) lN' (NDA.to nD rfl) (by repeat (first | exact Del.head | apply Del.tail)) (by repeat (first | exact Del.head | apply Del.tail)) (by repeat (first | exact Del.head | apply Del.tail)) (by lcg_src) ?_); clear nD; intro nD)
  k_with "FinE" => ((with_reducible rename NDA _ => nD); (unfold LCg.FinE); intro D' h' tk' F' N' o1'; replace nD := NDA.oneB o1' nD rfl; clear o1'; (try simp only [List.nil_append, List.cons_append] at N'); (try dsimp only))
  k_with "call ref" => (k_extra "my call")
  k_with "call ref nil" => (k_extra "my call")
  k_with "eval ListComp" => (k_extra "my comp")
  k_with "SrcTup" => (k_extra "my srct")
  k_with "SrcUX" => (k_extra "my srcu")
  k_with "CompRestX" => (k_extra "my restx")
  k_with "CompEndX" => (k_extra "my endx")
  k_with "call builtin:list.append" => (k_here; (try dsimp only [List.cons_append, List.nil_append]); (with_reducible show wpAny _ _ (call (Value.builtin _) [Value.ref _, _]) _ _ _); k_dflt (refine' append_K ?k1 ?k2 ?k3 ?_ ?z; (case k1 => k_asm); (case k2 => k_asm); (case k3 => k_upd); (case z => exact Nat.le_of_ble_eq_true rfl); k_whole); intro h' F' N'; (try k_sweep))
  k_with "LeaveK" => ((with_reducible show LeaveK _ _ _ _ _ (Value.int _ _) _); k_dflt (refine' leaveK_ ?k1 ?k2 ?_; (case k1 => k_asm); (case k2 => k_asm); k_whole); intro kF kN; ground_anew kF; (have kX := kFor kF (by k_asm)); (try dsimp only [InitBack, CmpBack, LenBack, StrBack, BoolBack]); (try refine ⟨rfl, ?_⟩); (try (refine handed_on rfl ?_; try dsimp only)))
  k_with "call ref cons" => (k_extra "my call")
  k_with "call ref cons nil" => (k_extra "my call")
  k_with "k_in" => (first | with_reducible assumption | exact Frag.In.keeps (by with_reducible assumption) (Fr.keep (by with_reducible assumption)))
  k_with "CompSrc" => (k_extra "my src2")
  k_with "exec For Name Call cons nil" => (k_here; (rename Fr _ _ _ _ => lF'); (with_unfolding_all refine' For_invVF lF' ?k1 ?k2 ?_; (case k1 => exact rfl); (case k2 => exact rfl); k_whole))
  k_with "call type:range" => (k_here; (with_reducible rename Fr _ _ _ _ => lF'); (with_reducible rename News _ _ _ _ => lN'); (with_unfolding_all refine range1_rows lF' lN' ?_); intro _ _ _ _ _ _ _ _ _)
  k_with "pyIter ref" => (k_extra "my iter")
  k_with "my comp" => (with_reducible show wpAny _ _ (eval (Expr.ListComp (Expr.Call (Expr.Attribute (Expr.Name (Str.ofString "bank") _) _ _) _ _ _) _ _ _) _) _ _ _); (refine opaqueQ ?_); (intro Q7 E7 hQ7); k_dflt (refine ListComp_UT (by k_asm) (by with_unfolding_all rfl) (by decide) (by rfl) (by decide) (by rfl) ?_)
  k_with "my srct" => ((with_reducible rename Fr _ _ _ _ => lF'); (with_reducible rename News _ _ _ _ => lN'); k_dflt (refine ⟨_, _, _, _, rfl, rfl, lF', lN', by k_mem, Nat.le_of_ble_eq_true rfl, ?_⟩; intro g'; lcg_lit))
  k_with "my comp" => (with_reducible show wpAny _ _ (eval (Expr.ListComp (Expr.ListComp _ _ _ _) _ _ _) _) _ _ _); (refine opaqueQ ?_); (intro Q7 E7 hQ7); k_dflt (refine ListComp_UX (by k_asm) (by with_unfolding_all rfl) (by rfl) (by decide) (by rfl) ?_)
  k_with "my comp" => (with_reducible show wpAny _ _ (eval (Expr.ListComp (Expr.Call (Expr.Attribute (Expr.Name (Str.ofString "maker") _) _ _) _ _ _) _ _ _) _) _ _ _); (refine opaqueQ ?_); (intro Q7 E7 hQ7); k_dflt (refine LCg.ListComp_U (F₀ := by k_asm) (by with_unfolding_all rfl) (by decide) (by rfl) (by decide) (by rfl) ?_)
  k_with "my srcu" => ((with_reducible rename Fr _ _ _ _ => lF'); (with_reducible rename News _ _ _ _ => lN'); k_dflt (refine ⟨_, _, _, _, rfl, rfl, lF', lN', by k_mem, Nat.le_of_ble_eq_true rfl, ?_⟩; intro g'))
  k_with "my restx" => (with_unfolding_all first | ((with_reducible rename NDA _ => nD); refine CompRestX.succ ?_; intro v' I' oI' C' oC' D' c' oc' h' tk' E' hv' hc' F' N' off' off1' ne'; lcg_open hv'; replace nD := NDA.fourB off' off1' ne' nD rfl; clear off' off1' ne') | refine CompRestX.zero ?_)
  k_with "my endx" => ((with_reducible rename NDA _ => nD); (with_reducible rename News _ _ _ _ => lN'); (refine endNDX (by k_asm) lN' (NDA.to nD rfl) (by repeat (first | exact Del.head | apply Del.tail)) (by repeat (first | exact Del.head | apply Del.tail)) (by repeat (first | exact Del.head | apply Del.tail)) (by repeat (first | exact Del.head | apply Del.tail)) (by lcg_src) ?_); clear nD; intro nD)
  k_with "my call" => (try dsimp only [List.cons_append, List.nil_append]); k_dflt (show wpAny _ _ (call (Value.ref 787) _) _ _ _); (with_reducible rename Fr _ _ _ _ => lF'); (with_reducible rename News _ _ _ _ => lN'); (have nD := nda_of lN' (by repeat (first | exact True.intro | refine And.intro (by k_all) ?_))); (repeat (with_reducible rename _ ∧ _ => hz; clear hz)); k_dflt (refine' bankT ?zA lF' lN' nD ?_; (case zA => exact At.mk rfl rfl (by k_asm) (by k_asm) (by k_asm) rfl rfl (by (try simp only [depth_under_make, depth_under_kw, depth_in1, depth_deeper, depth_caller]); decide) (by show _ + 140 < cLine; units_room))); intro b9 db9 nd9 l91 l92 l93 l94 f91 f92 f93 oD9 xs9 ops9 args9 sorts9 datas9 fn9 fa9 fr9 hs9 ts9 v90 v91 v95 v911 v912 n91 n92 n93 n94 m91 m92 m93 x91 x92 x93 x94 h9 tk9 F9 N9 D9 ok9 lo9; clear lF' lN' nD
  k_with "my call" => (try dsimp only [List.cons_append, List.nil_append]); k_dflt (show wpAny _ _ (call (Value.ref 539) _) _ _ _); (with_reducible rename Fr _ _ _ _ => lF'); (with_reducible rename News _ _ _ _ => lN'); (with_reducible rename NDA _ => nD); (replace nD := nda_to lN' nD rfl); k_dflt (refine' freshT ?zA lF' lN' nD ?zL ?zD ?zB ?zS ?zK ?_; (case zD => (repeat (first | exact DelAll.nil | apply DelAll.cons (by repeat (first | exact Del.head | apply Del.tail))))); (case zL => assumption); (case zB => assumption); (case zS => repeat (first | exact List.forall_mem_nil _ | refine List.forall_mem_cons.mpr ⟨by k_mem, ?_⟩)); (case zK => decide); (case zA => exact At.mk rfl rfl (by k_asm) (by k_asm) (by k_asm) rfl rfl (by (try simp only [depth_under_make, depth_under_kw, depth_in1, depth_deeper, depth_caller]); decide) (by show _ + 120 < cLine; units_room))); intro t9 x9 y9 ox9 oy9 oD9 xs9 ops9 args9 sorts9 datas9 fn9 fa9 fr9 n91 n92 n93 n94 m91 m92 m93 h9 tk9 F9 N9 D9 ok9; clear lF' lN' nD
  k_with "my call" => (try dsimp only [List.cons_append, List.nil_append]); k_dflt (show wpAny _ _ (call (Value.ref 246) _) _ _ _); (with_reducible rename Fr _ _ _ _ => lF'); (with_reducible rename News _ _ _ _ => lN'); (with_reducible rename NDA _ => nD); (replace nD := nda_to lN' nD rfl); k_dflt (refine' proofT ?zA lF' lN' nD ?_; (case zA => exact At.mk rfl rfl (by k_asm) (by k_asm) (by k_asm) rfl rfl (by (try simp only [depth_under_make, depth_under_kw, depth_in1, depth_deeper, depth_caller]); decide) (by show _ + 100 < cLine; units_room))); intro x9 dx9 st9 nm9 hp9 tp9 te9 tz9 n91 n92 h9 tk9 F9 N9 D9; clear lF' lN' nD
  k_with "my call" => (try dsimp only [List.cons_append, List.nil_append]); k_dflt (show wpAny _ _ (call (Value.ref 325) _) _ _ _); (with_reducible rename Fr _ _ _ _ => lF'); (with_reducible rename News _ _ _ _ => lN'); (with_reducible rename NDA _ => nD); (replace nD := nda_to lN' nD rfl); k_dflt (refine' storeT ?zA lF' lN' nD ?_; (case zA => exact At.mk rfl rfl (by k_asm) (by k_asm) (by k_asm) rfl rfl (by (try simp only [depth_under_make, depth_under_kw, depth_in1, depth_deeper, depth_caller]); decide) (by show _ + 100 < cLine; units_room))); intro x9 dx9 cl9 st9 hc9 tc9 tm9 n91 n92 h9 tk9 F9 N9 D9; clear lF' lN' nD
  k_with "my call" => (try dsimp only [List.cons_append, List.nil_append]); k_dflt (show wpAny _ _ (call (Value.ref 465) _) _ _ _); (with_reducible rename Fr _ _ _ _ => lF'); (with_reducible rename News _ _ _ _ => lN'); (with_reducible rename NDA _ => nD); (replace nD := nda_to lN' nD rfl); k_dflt (refine' boolT ?zA lF' lN' nD ?_; (case zA => exact At.mk rfl rfl (by k_asm) (by k_asm) (by k_asm) rfl rfl (by (try simp only [depth_under_make, depth_under_kw, depth_in1, depth_deeper, depth_caller]); decide) (by show _ + 100 < cLine; units_room))); intro x9 dx9 vd9 te9 wa9 oV9 v95 v96 ha9 ta9 tt9 tz9 n91 n92 h9 tk9 F9 N9 D9 hV9 lo9; clear lF' lN' nD
  k_with "my call" => (try dsimp only [List.cons_append, List.nil_append]); k_dflt (show wpAny _ _ (call (Value.ref 357) _) _ _ _); (with_reducible rename Fr _ _ _ _ => lF'); (with_reducible rename News _ _ _ _ => lN'); (with_reducible rename NDA _ => nD); (replace nD := nda_to lN' nD rfl); k_dflt (refine' varP ?zA lF' lN' nD ?zD ?zV ?zH ?z1 ?z2 ?z3 ?z4 ?_; (case zD => (repeat (first | exact DelAll.nil | apply DelAll.cons (by repeat (first | exact Del.head | apply Del.tail))))); (case zV => assumption); (case zH => exact rfl); (case z1 => exact Nat.le_of_ble_eq_true rfl); (case z2 => exact Nat.le_of_ble_eq_true rfl); (case z3 => exact rfl); (case z4 => assumption); (case zA => exact At.mk rfl rfl (by k_asm) (by k_asm) (by k_asm) rfl rfl (by (try simp only [depth_under_make, depth_under_kw, depth_in1, depth_deeper, depth_caller]); decide) (by show _ + 60 < cLine; units_room))); intro oV9 tv9 tv9' tm9 tt9 nt9 h9 tk9 F9 N9 D9 hV9; clear lF' lN' nD
  k_with "my call" => (try dsimp only [List.cons_append, List.nil_append]); k_dflt (show wpAny _ _ (call (Value.ref 357) _) _ _ _); (with_reducible rename Fr _ _ _ _ => lF'); (with_reducible rename News _ _ _ _ => lN'); (with_reducible rename NDA _ => nD); (replace nD := nda_to lN' nD rfl); k_dflt (refine' varF ?zA lF' lN' nD ?zD ?zV ?zH ?z1 ?z2 ?z5 ?z3 ?z4 ?_; (case zD => (repeat (first | exact DelAll.nil | apply DelAll.cons (by repeat (first | exact Del.head | apply Del.tail))))); (case zV => assumption); (case zH => exact rfl); (case z1 => exact Nat.le_of_ble_eq_true rfl); (case z2 => exact Nat.le_of_ble_eq_true rfl); (case z3 => exact rfl); (case z5 => exact rfl); (case z4 => assumption); (case zA => exact At.mk rfl rfl (by k_asm) (by k_asm) (by k_asm) rfl rfl (by (try simp only [depth_under_make, depth_under_kw, depth_in1, depth_deeper, depth_caller]); decide) (by show _ + 60 < cLine; units_room))); intro oV9 tv9 tv9' tm9 tt9 tt9' nt9 nn9 h9 tk9 F9 N9 D9 hV9; clear lF' lN' nD
  k_with "my call" => (with_reducible show wpAny _ _ (call (Value.ref _) [Value.ref _, Value.int _ _]) _ _ _); ((with_reducible rename Fr _ _ _ _ => lF'); (with_reducible rename News _ _ _ _ => lN'); (with_reducible rename NDA _ => nD); (replace nD := nda_to lN' nD rfl); (have dS := spoonDel lN' hb1 (by apply DelAll.cons (by repeat (first | exact Del.head | apply Del.tail)); apply DelAll.cons (by repeat (first | exact Del.head | apply Del.tail)); exact DelAll.nil)); k_dflt (refine At.use (dk := 2) (uk := 20) (At.mk rfl rfl (by k_asm) (by k_asm) (by k_asm) rfl rfl (by (try simp only [depth_under_make, depth_under_kw, depth_in1, depth_deeper, depth_caller]); decide) (by show _ + 20 < cLine; units_room)) (spoon hb1 hi60 hl60 (by omega) (by omega) (by decide) (by decide) (spoonNe nD dS)) lF' (News.ofAll lN' dS) ?_); (intro v6 nw6 h6 tk6 F6 N6 hp6 O6); (obtain ⟨x6, t6, ob6, t66, rfl, x60, x61, rfl, hb6⟩ := hp6); (obtain ⟨N66, nD6⟩ := reassSame lN' nD dS O6 N6 rfl); clear N6 O6 nD dS; (dsimp only [List.cons_append, List.nil_append] at N66 nD6))
  k_with "my src2" => k_dflt (refine LCg.CompSrc.ledger (by rfl) (by k_asm) (by k_asm) (by k_mem) (by exact Nat.le_of_ble_eq_true rfl) ?_; intro g'; lcg_lit)
  iterate 136 (focus (first | (k_unfold; (try dsimp only)) | (k_end; kc_close) | walk1 | (dsimp only; walk1) | (leave1; (try dsimp only)) | (refine hQ7 _ _ ?_; clear hQ7; (try dsimp only))))
  (with_reducible rename Fr _ _ _ _ => lF'); (with_reducible rename News _ _ _ _ => lN'); (with_reducible rename NDA _ => nD); (replace nD := nda_to lN' nD rfl)
  have N2 := News.td lN' 6 30
  have n2 := NDA.td nD 6 30 (by decide)
  simp only [List.take_succ_cons, List.take_zero, List.drop_succ_cons, List.drop_zero, List.cons_append, List.nil_append] at N2 n2
  revert N2 n2 lF'
  repeat (with_reducible rename News _ _ _ _ => z; clear z)
  repeat (with_reducible rename NDA _ => z; clear z)
  repeat (with_reducible rename Fr _ _ _ _ => z; clear z)
  repeat (with_reducible rename BkOk _ _ _ _ _ _ _ _ _ _ _ _ => z; clear z)
  intro lF' n2 N2
  iterate 248 (focus (first | (k_unfold; (try dsimp only)) | (k_end; kc_close) | walk1 | (dsimp only; walk1) | (leave1; (try dsimp only)) | (refine hQ7 _ _ ?_; clear hQ7; (try dsimp only))))
  k_with_none
  k_with "k_upd" => ((with_reducible rename NDA _ => nD); refine' Repl.upd ?ua9 ?ub9; (case ub9 => exact NDA.to nD rfl); (case ua9 => repeat (first | exact Repl.head | apply Repl.tail)))
  k_with "k_updF" => ((with_reducible rename NDA _ => nD); refine' ReplF.upd ?ua9 ?ub9; (case ub9 => exact NDA.to nD rfl); (case ua9 => repeat (first | exact ReplF.head | apply ReplF.tail)))
  k_with "CompRest" => (with_unfolding_all first
      | ((with_reducible rename NDA _ => nD); refine LCg.CompRest.succ ?_; intro v' I' oI' C' oC' D' m' h' tk' E' hv' hC' hx' F' N' off' ne'; (first | lcg_open hv' | (obtain ⟨t9', hv9'⟩ := hv'; subst hv9')); replace nD := NDA.threeB off' ne' nD rfl; clear off' ne')
      | refine LCg.CompRest.zero ?_)
  k_with "CompEnd" => ((with_reducible rename NDA _ => nD); (with_reducible rename News _ _ _ _ => lN'); (refine endND (by k_asm) lN' (NDA.to nD rfl) (by repeat (first | exact Del.head | apply Del.tail)) (by repeat (first | exact Del.head | apply Del.tail)) (by repeat (first | exact Del.head | apply Del.tail)) (by lcg_src) ?_); clear nD; intro nD)
  k_with "FinE" => ((with_reducible rename NDA _ => nD); (unfold LCg.FinE); intro D' h' tk' F' N' o1'; replace nD := NDA.oneB o1' nD rfl; clear o1'; (try simp only [List.nil_append, List.cons_append] at N'); (try dsimp only))
  k_with "call ref" => (k_extra "my call")
  k_with "call ref nil" => (k_extra "my call")
  k_with "eval ListComp" => (k_extra "my comp")
  k_with "SrcTup" => (k_extra "my srct")
  k_with "SrcUX" => (k_extra "my srcu")
  k_with "CompRestX" => (k_extra "my restx")
  k_with "CompEndX" => (k_extra "my endx")
  k_with "call builtin:list.append" => (k_here; (try dsimp only [List.cons_append, List.nil_append]); (with_reducible show wpAny _ _ (call (Value.builtin _) [Value.ref _, _]) _ _ _); k_dflt (refine' append_K ?k1 ?k2 ?k3 ?_ ?z; (case k1 => k_asm); (case k2 => k_asm); (case k3 => k_upd); (case z => exact Nat.le_of_ble_eq_true rfl); k_whole); intro h' F' N'; (try k_sweep))
  k_with "LeaveK" => ((with_reducible show LeaveK _ _ _ _ _ (Value.int _ _) _); k_dflt (refine' leaveK_ ?k1 ?k2 ?_; (case k1 => k_asm); (case k2 => k_asm); k_whole); intro kF kN; ground_anew kF; (have kX := kFor kF (by k_asm)); (try dsimp only [InitBack, CmpBack, LenBack, StrBack, BoolBack]); (try refine ⟨rfl, ?_⟩); (try (refine handed_on rfl ?_; try dsimp only)))
  k_with "call ref cons" => (k_extra "my call")
  k_with "call ref cons nil" => (k_extra "my call")
  k_with "k_in" => (first | with_reducible assumption | exact Frag.In.keeps (by with_reducible assumption) (Fr.keep (by with_reducible assumption)))
  k_with "CompSrc" => (k_extra "my src2")
  k_with "exec For Name Call cons nil" => (k_here; (rename Fr _ _ _ _ => lF'); (with_unfolding_all refine' For_invVF lF' ?k1 ?k2 ?_; (case k1 => exact rfl); (case k2 => exact rfl); k_whole))
  k_with "call type:range" => (k_here; (with_reducible rename Fr _ _ _ _ => lF'); (with_reducible rename News _ _ _ _ => lN'); (with_unfolding_all refine range1_rows lF' lN' ?_); intro _ _ _ _ _ _ _ _ _)
  k_with "pyIter ref" => (k_extra "my iter")
  k_with "my call" => (with_reducible show wpAny _ _ (call (Value.ref _) [Value.ref _, Value.int _ _]) _ _ _); ((with_reducible rename Fr _ _ _ _ => lF'); (with_reducible rename News _ _ _ _ => lN'); (with_reducible rename NDA _ => nD); (replace nD := nda_to lN' nD rfl); (have dS := spoonDel lN' hb1 (by apply DelAll.cons (by repeat (first | exact Del.head | apply Del.tail)); apply DelAll.cons (by repeat (first | exact Del.head | apply Del.tail)); exact DelAll.nil)); k_dflt (refine At.use (dk := 2) (uk := 20) (At.mk rfl rfl (by k_asm) (by k_asm) (by k_asm) rfl rfl (by (try simp only [depth_under_make, depth_under_kw, depth_in1, depth_deeper, depth_caller]); decide) (by show _ + 20 < cLine; units_room)) (spoon hb1 hi60 hl60 (by omega) (by omega) (by decide) (by decide) (spoonNe nD dS)) lF' (News.ofAll lN' dS) ?_); (intro v6 nw6 h6 tk6 F6 N6 hp6 O6); (obtain ⟨x6, t6, ob6, t66, rfl, x60, x61, rfl, hb6⟩ := hp6); (obtain ⟨N66, nD6⟩ := reassSame lN' nD dS O6 N6 rfl); clear N6 O6 nD dS; (dsimp only [List.cons_append, List.nil_append] at N66 nD6))
  (with_reducible rename Fr _ _ _ _ => lF'); (with_reducible rename News _ _ _ _ => lN')
  (with_reducible rename NDA _ => nD)
  replace nD := NDA.td nD 0 4 (by decide)
  replace lN' := News.td lN' 0 4
  simp only [List.take_succ_cons, List.take_zero, List.drop_succ_cons, List.drop_zero, List.cons_append, List.nil_append] at lN' nD
  rename Obj.IsDictOf _ _ (strPairs [(Value.str (Str.ofString "cells") _, _), (Value.str (Str.ofString "at") _, _)]) => hb0
  have hb1 := hb0
  simp only [strPairs] at hb1
  rename IntsAre _ (List.map _ (List.take 60 _)) => hys
  obtain ⟨ns60, hi60, hl60⟩ := len60 hys

  iterate 6 (focus (first | (k_unfold; (try dsimp only)) | (k_end; kc_close) | walk1 | (dsimp only; walk1) | (leave1; (try dsimp only)) | (refine hQ7 _ _ ?_; clear hQ7; (try dsimp only))))
  (with_reducible rename Fr _ _ _ _ => lF'); (with_reducible rename News _ _ _ _ => lN'); (with_reducible rename NDA _ => nD); (replace nD := nda_to lN' nD rfl); (rename IsRange _ _ _ _ _ _ _ _ => lR')
  (refine' lapLoopQ (a := { ha1 := _, ha2 := _, hc1 := _, hc2 := _, hp := _, ta1 := _, ta2 := _, tc1 := _, tc2 := _, tA := nthU [_, _, _, _, _], tC := nthU [_, _, _, _, _], tD := nthU [_, _, _, _, _], tE := nthU [_, _, _, _], .. }) (c₀ := ⟨ob6, 0 + 1, [], [], _, [], _, [], _, [], _, [], _, [], _, -1, _, _⟩) rfl lR' (by omega) (by omega) ?zS lF' lN' nD rfl rfl rfl rfl rfl rfl rfl ?y1 ?y2 ?y3 ?y4 ?y5 ?zO ?y6 ⟨ns60, hi60, hl60⟩ ?y7 ?y8 ?zD ?turn ?done)
  case y1 => k_mem
  case y2 => k_mem
  case y3 => k_asm
  case y4 => k_asm
  case y5 => k_mem
  case zO => exact { dict := ⟨t66, by first | exact hb6 | (dsimp only; exact hb6)⟩, at0 := (by show (0 : Int) ≤ 0 + 1; decide), at1 := (by show (0 + 1 : Int) ≤ 1 + 13 * ((0 : Nat) : Int); decide), rows := noMem, len := Nat.le_refl _, due := .nil, pc := .nil, fc := .nil, st := .nil, ps := rfl, fs := .nil, em := rfl }
  case y6 => k_mem
  case y7 => k_mem
  case y8 => k_mem
  case zS => exact small_one (by decide) (by decide) (by omega) (by omega)
  case zD => repeat (first | exact DelAll.nil | apply DelAll.cons (by repeat (first | exact Del.head | apply Del.tail)))
  case turn =>
    intro a m₀ e i c tl t u h tk own hi ok nH ht ho ho2 F1 N1 Q1 E1 hQ1
    exact turnT rfl rfl (by k_asm) (by k_asm) (by k_asm) rfl a m₀ e i c tl t u h tk own hi ok nH ht ho ho2 F1 N1 Q1 E1 hQ1
  case done =>
    intro a m₀ e n c tl u h tk ok nH hta F1 N1
    dsimp only
    refine doneT rfl rfl (by k_asm) (by k_asm) (by k_asm) rfl a m₀ e c tl u h tk nH F1 N1 _ _ (fun h' tk' m' F' => ?_)
    (try dsimp only)
    iterate 2 (focus (first | (k_unfold; (try dsimp only)) | (k_end; kc_close) | walk1 | (dsimp only; walk1) | (leave1; (try dsimp only)) | (refine hQ7 _ _ ?_; clear hQ7; (try dsimp only))))
  all_goals (try k_data))

end Mine
end
theorem PySem.Challenge.cw_rg0215_01_holds : PySem.Challenge.rw_rg0215_01.Holds :=
  Mine.main
